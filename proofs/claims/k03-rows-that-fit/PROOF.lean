import PyProof.Rows.All
import Wide.All
import OpenK.AllK
import Wide.FinOn
import HandS.ForMost
import HandS.IsInst
import HandS.Deep
import HandS.LawCells
import HandS.ForExc
import HandS.ExcIs
import HandS.HotCalls
import HandS.SetFor
import HandS.More
import HandS.Replace
import PySem.Challenge.RW_nearlines_k03_rows_that_fit
set_option Elab.async false
set_option linter.all false
set_option maxRecDepth 100000
set_option maxHeartbeats 4000000
namespace L2
open PySem PySem.Spec PyProof.Rows
/-! ## common to all laws: a def of the text with its place, its promise, its call -/
/-- the def at f is the one that stands in the text at st, its parameters are ps -/
structure FnAt (K : PySem.W.Frag) (x qual : Str) (st : Stmt) (f : Addr) (fd : FuncData) (ps : List Str) : Prop where
  fn : Fun K x qual st f fd
  bd : Binds K fd ps []
/-- the def at f keeps the promise sp -/
structure Ok (P : Program) (w : World) (K : PySem.W.Frag) (mg : Str → Option Value) (base : Heap) (cx : CXT) (k : Nat) (f : Addr) (fd : FuncData) (ps : List Str) (sp : Sp) : Prop where
  ok : FnOk P w K mg base cx k f fd ps sp
  bd : Binds K fd ps []
  kp : PySem.W.keepIn K (.ref f) = true
theorem Ok.imp {P : Program} {w : World} {K : PySem.W.Frag} {mg : Str → Option Value} {base : Heap} {cx : CXT} {k : Nat} {f : Addr} {fd : FuncData} {ps : List Str} {sp sp' : Sp} (o : Ok P w K mg base cx k f fd ps sp)
    (h : ∀ vs H Q E, sp' vs H Q E → sp vs H Q E) : Ok P w K mg base cx k f fd ps sp' := ⟨o.ok.imp h, o.bd, o.kp⟩
section
variable {P : Program} {w : World} {K : PySem.W.Frag} {mg : Str → Option Value} {base : Heap} {x qual : Str} {st : Stmt} {f : Addr} {fd : FuncData} {ps N : List Str} {k : Nat} {sp : Sp}
theorem FnAt.ok (F : FnAt K x qual st f fd ps) (S : FnScope N ps (defScope st)) (len : ∀ vs H Q E, sp vs H Q E → vs.length = ps.length)
    (body : ∀ (cdv : Value) (A : Around) (outer : List Env) (s : Shared) (H : Hp) (vs : List V) (Q : VK) (E : XK), Room k (A.deeper (envOfC qual (defScope st) s.heap.objs.size f cdv)) → sp vs H Q E →
      ∃ t, PSs (cxOf CX0 P w K mg base N qual (defScope st) f cdv A outer s H E).nox (defBody st) t ∧ t { nx := fun _ H' => Q .non H', rt := Q } (start N vs) H) : Ok P w K mg base CX0 (k + 1) f fd ps sp := ⟨F.fn.ok S len body, F.bd, F.fn.kp⟩
theorem FnAt.okX (F : FnAt K x qual st f fd ps) (S : FnScope N ps (defScope st)) (len : ∀ vs H Q E, sp vs H Q E → vs.length = ps.length)
    (body : ∀ (cdv : Value) (A : Around) (outer : List Env) (s : Shared) (H : Hp) (vs : List V) (Q : VK) (E : XK), Room k (A.deeper (envOfC qual (defScope st) s.heap.objs.size f cdv)) → sp vs H Q E →
      ∃ t, PSs (cxOf (L2.CX P w) P w K mg base N qual (defScope st) f cdv A outer s H E) (defBody st) t ∧ t { nx := fun _ H' => Q .non H', rt := Q } (start N vs) H) : Ok P w K mg base (L2.CX P w) (k + 1) f fd ps sp := ⟨F.fn.okX S len body, F.bd, F.fn.kp⟩
end
section
variable {X : Cx} {cx : CXT} {k : Nat} {f : Addr} {fd : FuncData} {ps : List Str} {sp : Sp} {E : XK} {x m : Str} {p pos apos : Pos} {e o : Expr} {es : List Expr} {ta : TE} {t : TA}
/-- f(..) -/
def tCallO (sp : Sp) (E : XK) (t : TA) : TE := fun σ H Q => t σ H fun vs H1 => sp vs H1 Q E
theorem tCallO_eq {sp : Sp} {E : XK} {t : TA} : tCall sp [] E t = tCallO sp E t := by
  funext σ H Q
  show t σ H (fun vs H1 => sp (vs ++ []) H1 Q E) = t σ H fun vs H1 => sp vs H1 Q E
  simp only [List.append_nil]
theorem pe_callO (O : Ok X.prog X.w X.K X.mg X.base cx k f fd ps sp) (hr : Room k X.A) (hg : Gl X x) (hm : X.mg x = some (.ref f)) (hx : Passes cx X E) (ha : PA X (e :: es) t)
    (hdb : (x == ("__debug__" : Str)) = false := by decide) (he : starEach (e :: es) X.env = (false, eval e X.env) :: starEach es X.env := by rfl) (hpl : (backTo pos (starEach es X.env)).any (·.1) = false := by rfl) :
    PE X (.Call (.Name x p) (e :: es) [] pos) (tCallO sp E t) := by
  obtain ⟨F, B, kp⟩ := O
  rw [← tCallO_eq]
  exact pe_call F hr hg hm kp B .nil hx ha hdb he hpl
/-- o.m(..) -/
def tMethO (C : Addr) (m : Str) (sp : Sp) (E : XK) (ta : TE) (t : TA) : TE := fun σ H Q => ta σ H fun x H1 => ∃ a dx fs, x = .ref a ∧ H1 a = some (.ins C dx fs) ∧ fs.lookup m = none ∧ t σ H1 fun vs H2 => sp (x :: vs) H2 Q E
theorem tMethO_eq {C : Addr} {m : Str} {sp : Sp} {E : XK} {ta : TE} {t : TA} : tMeth C m sp [] E ta t = tMethO C m sp E ta t := by
  funext σ H Q
  unfold tMeth tMethO
  simp only [List.append_nil]
theorem pe_methO {C : Addr} {pl : Sem Bool} (O : Ok X.prog X.w X.K X.mg X.base cx k f fd ps sp) (c : Cls X.K C) (hm : Meth X.K C m f) (hr : Room k X.A) (hx : Passes cx X E) (he : PE X o ta) (ha : PA X (e :: es) t)
    (hst : starEach (e :: es) X.env = (false, eval e X.env) :: starEach es X.env := by rfl) (hpl : (backTo pos (starEach es X.env)).any (·.1) = false := by rfl)
    (ht : eval (.Call (.Attribute o m apos) (e :: es) [] pos) X.env = (do
      let ov ← eval o X.env
      standAt apos.atName
      let (f, first) ← holding [ov] (getMethod ov m pl)
      callWith pos f first (backTo pos (starEach (e :: es) X.env)) (backToKw pos (keywordEach [] X.env))) := by rfl) :
    PE X (.Call (.Attribute o m apos) (e :: es) [] pos) (tMethO C m sp E ta t) := by
  obtain ⟨F, B, kp⟩ := O
  rw [← tMethO_eq]
  exact pe_meth he c hm F hr B .nil hx ha hst hpl ht
theorem pe_methO0 {C : Addr} {pl : Sem Bool} (O : Ok X.prog X.w X.K X.mg X.base cx k f fd ps sp) (c : Cls X.K C) (hm : Meth X.K C m f) (hr : Room k X.A) (hx : Passes cx X E) (he : PE X o ta)
    (ht : eval (.Call (.Attribute o m apos) [] [] pos) X.env = (do
      let ov ← eval o X.env
      standAt apos.atName
      let (f, first) ← holding [ov] (getMethod ov m pl)
      callWith pos f first (backTo pos (starEach [] X.env)) (backToKw pos (keywordEach [] X.env))) := by rfl) :
    PE X (.Call (.Attribute o m apos) [] [] pos) (tMethO C m sp E ta tNil) := by
  obtain ⟨F, B, kp⟩ := O
  rw [← tMethO_eq]
  exact pe_meth0 he c hm F hr B .nil hx ht
end
/-! ### tests, heaps -/
theorem iteD {c A B : Prop} [Decidable c] (h1 : c → A) (h2 : ¬ c → B) : if decide c = true then A else B := by
  by_cases h : c
  · rw [decide_eq_true h]
    exact iteT (h1 h)
  · rw [decide_eq_false h]
    exact iteF (h2 h)
theorem iteN {c A B : Prop} [Decidable c] (h1 : ¬ c → A) (h2 : c → B) : if (!decide c) = true then A else B := by
  by_cases h : c
  · rw [decide_eq_true h]
    exact iteF (h2 h)
  · rw [decide_eq_false h]
    exact iteT (h1 h)
theorem iteB {b : Bool} {A B : Prop} (h1 : b = true → A) (h2 : b = false → B) : if b = true then A else B := by
  cases b with
  | true => exact iteT (h1 rfl)
  | false => exact iteF (h2 rfl)
theorem iteBN {b : Bool} {A B : Prop} (h1 : b = false → A) (h2 : b = true → B) : if (!b) = true then A else B := by
  cases b with
  | true => exact iteF (h2 rfl)
  | false => exact iteT (h1 rfl)
theorem Same.new {H : Hp} {p : Addr} {o : HO} (h : H p = none) : Same H (upd H p o) := fun b x e => by
  rw [upd_ne (ne_of_none e h)]
  exact e
/-- what H does not know may change -/
theorem Same.mut {H H' : Hp} {p : Addr} {o : HO} (s : Same H H') (h : H p = none) : Same H (upd H' p o) := fun b x e => by
  rw [upd_ne (ne_of_none e h)]
  exact s b x e
theorem Same.seqT {K : PySem.W.Frag} {H H' : Hp} {a : Addr} {xs : List V} (e : Same H H') (h : SqT K H a xs) : SqT K H' a xs := by
  rcases h with (h | ⟨o, h⟩) | h
  · exact .inl (.inl (e _ _ h))
  · exact .inl (.inr ⟨o, e _ _ h⟩)
  · exact .inr h
/-- the list at l is not the tuple at a -/
theorem SqT.but {K : PySem.W.Frag} {H : Hp} {a l : Addr} {xs ys : List V} {o : HO} (h : SqT K H a xs) (hl : H l = some (.lst ys)) : SqT K (upd H l o) a xs := by
  rcases h with (h | ⟨u, h⟩) | h
  · exact .inl (.inl (by rw [upd_ne (ne_of h hl (by intro z; cases z))]; exact h))
  · exact .inl (.inr ⟨u, by rw [upd_ne (ne_of h hl (by intro z; cases z))]; exact h⟩)
  · exact .inr h
/-! ### ways joined: a word between a part and what follows -/
section
variable {X : Cx}
def tJoinE (t : TE) : TE := fun σ H Q => ∃ R : VK, t σ H R ∧ ∀ v H1, R v H1 → Q v H1
theorem pe_jn {e : Expr} {t : TE} (h : PE X e t) : PE X e (tJoinE t) := by
  refine ⟨fun pins s σ H Q I hq => ?_⟩
  obtain ⟨R, h1, h2⟩ := hq
  refine thn (h.run pins s σ H R I h1) fun u s1 hh => ?_
  obtain ⟨v, H1, I1, r, q⟩ := hh
  exact ⟨v, H1, I1, r, h2 v H1 q⟩
def tJoinT (t : TT) : TT := fun σ H Q => ∃ R : Bool → Hp → Prop, t σ H R ∧ ∀ b H1, R b H1 → Q b H1
theorem pt_jn {e : Expr} {t : TT} (h : PT X e t) : PT X e (tJoinT t) := by
  refine ⟨fun pins s σ H Q I hq => ?_⟩
  obtain ⟨R, h1, h2⟩ := hq
  refine thn (h.run pins s σ H R I h1) fun b s1 hh => ?_
  obtain ⟨H1, I1, q⟩ := hh
  exact ⟨H1, I1, h2 b H1 q⟩
def tCutS (t u : TS) : TS := fun D σ H => ∃ Mid : St → Hp → Prop, t { D with nx := Mid } σ H ∧ ∀ σ' H', Mid σ' H' → u D σ' H'
theorem pss_cutS {st : Stmt} {rest : List Stmt} {t u : TS} (h1 : PS X st t) (h2 : PSs X rest u) : PSs X (st :: rest) (tCutS t u) := by
  refine ⟨fun pins s σ H D I h => ?_⟩
  obtain ⟨Mid, hm, hu⟩ := h
  refine wpAny_execs_cons (thn (h1.run pins s σ H { D with nx := Mid } I hm) fun f s1 q => ?_)
  cases f with
  | next =>
    obtain ⟨σ1, H1, I1, q1⟩ := q
    exact h2.run pins s1 σ1 H1 D I1 (hu σ1 H1 q1)
  | ret v => exact q
  | brk => exact q
  | cont => exact q
end
/-! ### rules within a comprehension: the written part named -/
section
variable {X : Cx} {K : PySem.W.Frag}
theorem ix_tupK (h : X.K = K) : IxR X (rIxT K) := by subst h; exact ix_tup
theorem ix_listK (h : X.K = K) : IxR X (rIxL K) := by subst h; exact ix_list
theorem ix_seqK (h : X.K = K) : IxR X (rIx K) := by subst h; exact ix_seq
theorem op_in_seqK (h : X.K = K) : OpR X (compareOp .In) (rIn K false) := by subst h; exact op_in_seq
theorem op_notIn_seqK (h : X.K = K) : OpR X (compareOp .NotIn) (rIn K true) := by subst h; exact op_notIn_seq
def rLenQ (K : PySem.W.Frag) : List V → Hp → VK → Prop := fun xs H Q => ∃ p ys, xs = [.ref p] ∧ (SqL K H p ys ∨ SqT K H p ys) ∧ Q (.int ys.length) H
theorem call_len_seqK (h : X.K = K) : CallR X (.builtin "len") (rLenQ K) := by subst h; exact call_len_seq
theorem call_isiK' (h : X.K = K) : CallR X (.builtin "isinstance") (rIsi K) := by subst h; exact call_isi
end
theorem SqL.but {K : PySem.W.Frag} {H : Hp} {a l : Addr} {xs ys : List V} {o : HO} (h : SqL K H a xs) (hl : H l = some (.lst ys)) (n : a ≠ l) : SqL K (upd H l o) a xs := by
  rcases h with (h | ⟨u, h⟩) | h
  · exact .inl (.inl (by rw [upd_ne n]; exact h))
  · exact .inl (.inr ⟨u, by rw [upd_ne n]; exact h⟩)
  · exact .inr h
end L2
namespace L2
open PySem PySem.Spec PyProof.Rows
/-! ### lists of ints, of ints and None, by values -/
def optV : Option Int → V
  | none => .non
  | some i => .int i
theorem optV_flat (o : Option Int) : flatV (optV o) = true := by cases o <;> rfl
theorem flat_ints (xs : List Int) : (xs.map V.int).all flatV = true := by
  induction xs with
  | nil => rfl
  | cons x r ih => exact ih
theorem flat_opts (xs : List (Option Int)) : (xs.map optV).all flatV = true := by
  induction xs with
  | nil => rfl
  | cons x r ih =>
    show (flatV (optV x) && (r.map optV).all flatV) = true
    rw [ih, optV_flat]
    rfl
theorem inV_ints (x : Int) (xs : List Int) : inV (.int x) (xs.map V.int) = decide (x ∈ xs) := by
  induction xs with
  | nil => rfl
  | cons y r ih =>
    show (y == x || inV (.int x) (r.map V.int)) = decide (x ∈ y :: r)
    rw [ih]
    by_cases h : y = x
    · subst h
      simp
    · have h' : ¬ x = y := fun z => h z.symm
      simp [h, h']
theorem inV_non_ints (xs : List Int) : inV .non (xs.map V.int) = false := by
  induction xs with
  | nil => rfl
  | cons y r ih =>
    show (false || inV .non (r.map V.int)) = false
    rw [ih]
    rfl
theorem nl_get_map {α : Type} {f : α → V} {xs : List α} {i : Nat} {x : α} (h : xs[i]? = some x) : (xs.map f)[i]? = some (f x) := by
  rw [List.getElem?_map, h]
  rfl
theorem of_get_map {α : Type} {f : α → V} {xs : List α} {i : Nat} {v : V} (h : (xs.map f)[i]? = some v) : ∃ x, xs[i]? = some x ∧ v = f x := by
  rw [List.getElem?_map] at h
  cases e : xs[i]? with
  | none =>
    rw [e] at h
    cases h
  | some x =>
    rw [e] at h
    exact ⟨x, rfl, (Option.some.inj h).symm⟩
theorem idx_get {x : Int} {xs : List Int} (h : x ∈ xs) : xs[xs.idxOf x]? = some x := by
  have hl : xs.idxOf x < xs.length := List.idxOf_lt_length_of_mem h
  rw [List.getElem?_eq_getElem hl, List.getElem_idxOf hl]
theorem idx_first {x y : Int} : ∀ {xs : List Int} {m : Nat}, m < xs.idxOf x → xs[m]? = some y → (y == x) = false
  | [], m, h, _ => by simp at h
  | z :: r, m, h, hm => by
    rw [List.idxOf_cons] at h
    by_cases e : z = x
    · subst e
      simp at h
    · have e' : (z == x) = false := by simpa using e
      rw [e'] at h
      cases m with
      | zero =>
        have q : z = y := Option.some.inj hm
        rw [← q]
        exact e'
      | succ m => exact idx_first (xs := r) (m := m) (by simp only [cond_false] at h; omega) hm
theorem eqV_int (x : Int) : eqV (.int x) (.int x) = true := by
  show (x == x) = true
  simp
theorem idx_none {x : Int} {xs : List Int} (m : Nat) (z : V) (hm : m < xs.idxOf x) (hz : (xs.map V.int)[m]? = some z) : eqV z (.int x) = false := by
  obtain ⟨y, hy, rfl⟩ := of_get_map hz
  exact idx_first hm hy
theorem ix_nat {n j : Nat} (hj : j < n) : ixN n (j : Int) = some j := by
  unfold ixN
  rw [if_pos (by omega), if_pos (by omega)]
  simp
theorem pop_seq {j n : Nat} (h : j < n) : seqIndex? (j : Int) n = some j := (ixN_seq (ix_nat h)).1
theorem erase_map {α : Type} {f : α → V} : ∀ (xs : List α) (j : Nat), (xs.map f).eraseIdx j = (xs.eraseIdx j).map f
  | [], j => by cases j <;> rfl
  | x :: r, 0 => rfl
  | x :: r, j + 1 => congrArg (f x :: ·) (erase_map r j)
theorem snoc_map {α : Type} (f : α → V) (xs : List α) (x : α) : xs.map f ++ [f x] = (xs ++ [x]).map f := by
  rw [List.map_append]
  rfl
theorem fold_take {α β : Type} (f : β → α → β) (s : β) {xs : List α} {i : Nat} {x : α} (h : xs[i]? = some x) : (xs.take (i + 1)).foldl f s = f ((xs.take i).foldl f s) x := by
  rw [List.take_add_one, h, List.foldl_append]
  rfl
theorem fold_all {α β : Type} (f : β → α → β) (s : β) {xs : List α} : (xs.take xs.length).foldl f s = xs.foldl f s := by rw [List.take_length]
theorem sizeL {n : Nat} (h : n < 1000000) : n < sizeLine := Nat.lt_of_lt_of_le h (by decide)
/-! ### touches -/
def kindS (b : Bool) : Str := if b then "write" else "read"
/-- a touch: whether it writes, its box -/
abbrev Tch := Bool × Int
def TouchAt (K : PySem.W.Frag) (H : Hp) (v : V) (t : Tch) : Prop := ∃ a, v = .ref a ∧ SqT K H a [.str (kindS t.1), .int t.2]
/-- at a a list of the touches ts -/
structure TL (K : PySem.W.Frag) (H : Hp) (xs : List V) (ts : List Tch) : Prop where
  len : xs.length = ts.length
  at_ : ∀ (i : Nat) (t : Tch), ts[i]? = some t → ∃ v, xs[i]? = some v ∧ TouchAt K H v t
theorem TouchAt.same {K : PySem.W.Frag} {H H' : Hp} {v : V} {t : Tch} (h : TouchAt K H v t) (s : Same H H') : TouchAt K H' v t := by
  obtain ⟨a, e, q⟩ := h
  exact ⟨a, e, s.seqT q⟩
theorem TL.same {K : PySem.W.Frag} {H H' : Hp} {xs : List V} {ts : List Tch} (h : TL K H xs ts) (s : Same H H') : TL K H' xs ts :=
  ⟨h.len, fun i t e => let ⟨v, e1, q⟩ := h.at_ i t e; ⟨v, e1, q.same s⟩⟩
theorem TouchAt.but {K : PySem.W.Frag} {H : Hp} {v : V} {t : Tch} {l : Addr} {ys : List V} {o : HO} (h : TouchAt K H v t) (hl : H l = some (.lst ys)) : TouchAt K (upd H l o) v t := by
  obtain ⟨a, e, q⟩ := h
  exact ⟨a, e, q.but hl⟩
theorem TL.but {K : PySem.W.Frag} {H : Hp} {xs : List V} {ts : List Tch} {l : Addr} {ys : List V} {o : HO} (h : TL K H xs ts) (hl : H l = some (.lst ys)) : TL K (upd H l o) xs ts :=
  ⟨h.len, fun i t e => let ⟨v, e1, q⟩ := h.at_ i t e; ⟨v, e1, q.but hl⟩⟩
theorem TL.nil {K : PySem.W.Frag} {H : Hp} : TL K H [] [] := ⟨rfl, fun i t e => by simp at e⟩
theorem TL.snoc {K : PySem.W.Frag} {H : Hp} {xs : List V} {ts : List Tch} {v : V} {t : Tch} (h : TL K H xs ts) (q : TouchAt K H v t) : TL K H (xs ++ [v]) (ts ++ [t]) := by
  refine ⟨by rw [List.length_append, List.length_append, h.len]; rfl, fun i u e => ?_⟩
  by_cases hi : i < ts.length
  · rw [List.getElem?_append_left hi] at e
    obtain ⟨x, e1, q1⟩ := h.at_ i u e
    exact ⟨x, by rw [List.getElem?_append_left (by rw [h.len]; exact hi)]; exact e1, q1⟩
  · have hlt := (List.getElem?_eq_some_iff.mp e).1
    rw [List.length_append] at hlt
    have hi2 : i = ts.length := by
      simp only [List.length_cons, List.length_nil] at hlt
      omega
    subst hi2
    rw [List.getElem?_append_right (Nat.le_refl _), Nat.sub_self] at e
    have et : t = u := Option.some.inj e
    subst et
    refine ⟨v, ?_, q⟩
    rw [← h.len, List.getElem?_append_right (Nat.le_refl _), Nat.sub_self]
    rfl
theorem TL.of {K : PySem.W.Frag} {H : Hp} {xs : List V} {ts : List Tch} (h : TL K H xs ts) {i : Nat} {v : V} (hv : xs[i]? = some v) : ∃ t, ts[i]? = some t ∧ TouchAt K H v t := by
  have hlt := (List.getElem?_eq_some_iff.mp hv).1
  rw [h.len] at hlt
  obtain ⟨v', e1, q⟩ := h.at_ i ts[i] (List.getElem?_eq_getElem hlt)
  rw [hv] at e1
  have ev : v = v' := Option.some.inj e1
  exact ⟨ts[i], List.getElem?_eq_getElem hlt, by rw [ev]; exact q⟩
theorem at_getD {xs : List Int} {i : Int} (h0 : 0 ≤ i) (h1 : i < xs.length) : atI (xs.map V.int) i = some (.int (xs.getD i.toNat 0)) := by
  obtain ⟨j, rfl⟩ : ∃ j : Nat, i = (j : Int) := ⟨i.toNat, by omega⟩
  have hj : j < xs.length := by omega
  refine atI_nat ?_
  rw [List.getElem?_map, Int.toNat_natCast, List.getD_eq_getElem?_getD, List.getElem?_eq_getElem hj]
  rfl
theorem mod_at {xs : List Int} (c : Int) (n : Nat) (hn : n = xs.length) (h0 : 0 < n) : atI (xs.map V.int) (c % (n : Int)) = some (.int (xs.getD (c % (n : Int)).toNat 0)) :=
  at_getD (Int.emod_nonneg _ (by omega)) (by have := Int.emod_lt_of_pos c (show 0 < (n : Int) by omega); omega)
theorem kind_at (c : Int) : atI [V.str "read", V.str "write"] (c % 2) = some (V.str (kindS (c % 2 == 1))) := by
  have h : c % 2 = 0 ∨ c % 2 = 1 := by omega
  rcases h with h | h <;> rw [h] <;> rfl
theorem int_getD {lines : List Int} {k : Nat} (h : k < lines.length) : (lines.map V.int)[k]? = some (.int (lines.getD k 0)) := by
  rw [List.getElem?_map, List.getD_eq_getElem?_getD, List.getElem?_eq_getElem h]
  rfl
theorem mod2 (c : Int) : c % 2 = 0 ∨ c % 2 = 1 := by omega
theorem mod4 (c : Int) : c % 4 = 0 ∨ c % 4 = 1 ∨ c % 4 = 2 ∨ c % 4 = 3 := by omega
theorem filter_erase {x : Int} : ∀ {l : List Int}, l.Nodup → x ∈ l → l.filter (fun z => !decide (z = x)) = l.eraseIdx (l.idxOf x)
  | [], _, h => by simp at h
  | y :: r, nd, h => by
    obtain ⟨h1, h2⟩ := List.nodup_cons.mp nd
    by_cases e : y = x
    · subst e
      have e2 : (y :: r).idxOf y = 0 := by simp
      rw [e2, List.filter_cons, if_neg (by simp)]
      show _ = r
      rw [List.filter_eq_self]
      intro z hz
      have : ¬ z = y := fun q => h1 (by rw [← q]; exact hz)
      simp [this]
    · have h3 : x ∈ r := by
        rcases List.mem_cons.mp h with q | q
        · exact absurd q.symm e
        · exact q
      have e2 : (y :: r).idxOf x = r.idxOf x + 1 := by
        rw [List.idxOf_cons]
        have e' : (y == x) = false := by simpa using e
        rw [e']
        rfl
      rw [e2, List.filter_cons, if_pos (by simp [e]), filter_erase h2 h3]
      rfl
theorem at_ofG {α : Type} {xs : List α} {z : Int} {j : Nat} {v : α} (e : z = (j : Int)) (h : xs[j]? = some v) : atI xs z = some v := by
  rw [e]
  exact atI_nat h
end L2
namespace L2
open PySem PySem.Spec PyProof.Rows
/-! ### data at any depth, for == -/
def Sh (n : Nat) (d : PyData) : Prop := PyData.canLay0 d = true ∧ PyData.depth d ≤ n
theorem Sh.shaped {n : Nat} {d : PyData} (h : Sh n d) (hn : n ≤ 64) : SeqAt.shaped d = true := by
  unfold SeqAt.shaped
  rw [h.1, decide_eq_true (Nat.le_trans h.2 hn)]
  rfl
theorem sh_all {n : Nat} : ∀ {ds : List PyData}, (∀ d ∈ ds, Sh n d) → PyData.canLayAll0 ds = true ∧ PyData.depthAll ds ≤ n
  | [], _ => ⟨rfl, Nat.zero_le _⟩
  | d :: r, h => by
    obtain ⟨h1, h2⟩ := h d List.mem_cons_self
    obtain ⟨h3, h4⟩ := sh_all (ds := r) fun e he => h e (List.mem_cons_of_mem _ he)
    refine ⟨?_, ?_⟩
    · show (PyData.canLay0 d && PyData.canLayAll0 r) = true
      rw [h1, h3]
      rfl
    · show max (PyData.depth d) (PyData.depthAll r) ≤ n
      omega
theorem sh_list {n : Nat} {ds : List PyData} (h : ∀ d ∈ ds, Sh n d) : Sh (n + 1) (.list ds) := ⟨(sh_all h).1, Nat.succ_le_succ (sh_all h).2⟩
theorem sh_tup {n : Nat} {ds : List PyData} (h : ∀ d ∈ ds, Sh n d) : Sh (n + 1) (.tuple ds) := ⟨(sh_all h).1, Nat.succ_le_succ (sh_all h).2⟩
theorem sh_int {n : Nat} (i : Int) : Sh n (.int i) := ⟨rfl, Nat.zero_le _⟩
theorem sh_non {n : Nat} : Sh n .none := ⟨rfl, Nat.zero_le _⟩
theorem sh_bool {n : Nat} (b : Bool) : Sh n (.bool b) := ⟨rfl, Nat.zero_le _⟩
theorem sh_str {n : Nat} {x : Str} (h : PyData.strOk x = true) : Sh n (.str x) := ⟨h, Nat.zero_le _⟩
theorem dpAll_of {K : PySem.W.Frag} {H : Hp} : ∀ {xs : List V} {ds : List PyData}, xs.length = ds.length → (∀ (i : Nat) v d, xs[i]? = some v → ds[i]? = some d → Dp K H v d) → DpAll K H xs ds
  | [], [], _, _ => .nil
  | [], _ :: _, h, _ => by simp at h
  | _ :: _, [], h, _ => by simp at h
  | x :: r, d :: s, h, q => .cons (q 0 x d rfl rfl) (dpAll_of (by simpa using h) fun i v e h1 h2 => q (i + 1) v e h1 h2)
theorem eqv_self {n : Nat} {d : PyData} (h : Sh n d) : PyData.eqv d d = true := SeqAt.eqv_refl d h.1
/-! ### touches as data -/
def touchD (t : Tch) : PyData := .tuple [.str (kindS t.1), .int t.2]
theorem touch_sh (t : Tch) : Sh 1 (touchD t) := sh_tup fun d hd => by
  simp only [List.mem_cons, List.not_mem_nil, or_false] at hd
  rcases hd with rfl | rfl
  · have q : ∀ b, PyData.strOk (kindS b) = true := by
      intro b
      cases b <;> decide +kernel
    exact sh_str (q _)
  · exact sh_int _
theorem touches_sh (ts : List Tch) : Sh 2 (.list (ts.map touchD)) := sh_list fun d hd => by
  obtain ⟨t, _, rfl⟩ := List.mem_map.mp hd
  exact touch_sh t
theorem TouchAt.dp {K : PySem.W.Frag} {H : Hp} {v : V} {t : Tch} (h : TouchAt K H v t) : Dp K H v (touchD t) := by
  obtain ⟨a, rfl, q⟩ := h
  exact .tup q (.cons (.str _) (.cons (.int _) .nil))
theorem TL.dp {K : PySem.W.Frag} {H : Hp} {a : Addr} {xs : List V} {ts : List Tch} (h : TL K H xs ts) (q : SqL K H a xs) : Dp K H (.ref a) (.list (ts.map touchD)) := by
  refine .lst q (dpAll_of (by rw [h.len, List.length_map]) fun i v d hv hd => ?_)
  obtain ⟨t, ht, qt⟩ := h.of hv
  rw [List.getElem?_map, ht] at hd
  have e : touchD t = d := Option.some.inj hd
  rw [← e]
  exact qt.dp
theorem cut_one (xs : List V) : cutV xs (some 1) none = xs.drop 1 := by
  unfold cutV
  rw [show HT.sIx xs.length 0 (some 1) = min 1 xs.length from HT.sIx_nat xs.length 0 1, HT.sIx_none]
  cases xs with
  | nil => rfl
  | cons x r =>
    rw [show min 1 (x :: r).length = 1 by
      rw [List.length_cons]
      omega]
    show (List.take ((x :: r).length - 1) r) = r
    rw [List.length_cons, Nat.add_sub_cancel]
    exact List.take_length
theorem cut_from (xs : List V) (k : Nat) : cutV xs (some (k : Int)) none = xs.drop k := by
  unfold cutV
  rw [show HT.sIx xs.length 0 (some (k : Int)) = min k xs.length from HT.sIx_nat xs.length 0 k, HT.sIx_none]
  by_cases h : k ≤ xs.length
  · rw [Nat.min_eq_left h]
    exact List.take_of_length_le (by rw [List.length_drop]; exact Nat.le_refl _)
  · rw [Nat.min_eq_right (by omega), Nat.sub_self, List.drop_eq_nil_of_le (Nat.le_refl _), List.drop_eq_nil_of_le (show xs.length ≤ k by omega)]
    rfl
end L2
namespace L2
open PySem PySem.Spec PyProof.Rows
mutual
theorem dp_same {K : PySem.W.Frag} {H H' : Hp} (s : Same H H') : ∀ (d : PyData) (v : V), Dp K H v d → Dp K H' v d
  | .none, _, h => by cases h; exact .non
  | .bool b, _, h => by cases h; exact .bl b
  | .int i, _, h => by cases h; exact .int i
  | .str x, _, h => by cases h; exact .str x
  | .list ds, _, h => by
    cases h with
    | lst q a => exact .lst (s.seq q) (dpAll_same s ds _ a)
  | .tuple ds, _, h => by
    cases h with
    | tup q a => exact .tup (s.seqT q) (dpAll_same s ds _ a)
  | .dict _, _, h => by cases h
theorem dpAll_same {K : PySem.W.Frag} {H H' : Hp} (s : Same H H') : ∀ (ds : List PyData) (vs : List V), DpAll K H vs ds → DpAll K H' vs ds
  | [], _, h => by cases h; exact .nil
  | d :: ds, _, h => by
    cases h with
    | cons a b => exact .cons (dp_same s d _ a) (dpAll_same s ds _ b)
end
end L2
namespace L2
open PySem PySem.Spec PyProof.Rows
/-! ### own classes of errors -/
/-- the class x of errors stands at C -/
structure ExcAt (K : PySem.W.Frag) (mg : Str → Option Value) (x : Str) (C : Addr) : Prop where
  g : mg x = some (.ref C)
  x : PySem.W.excIn K C [.type "ValueError", .type "Exception", .type "BaseException", .type "object"] "ValueError.__new__" = true
  k : PySem.W.keepIn K (.ref C) = true
  b : PySem.W.subIn K (.ref C) (.type "BaseException") = some true
  t : PySem.W.typeIn K (.ref C) = some (.type "type")
  i : PySem.W.isClsIn K C = true
  s : PySem.W.subIn K (.ref C) (.ref C) = some true
/-- what one class is to another: an instance of D asked for C -/
theorem kit_own {K : PySem.W.Frag} {D C : Addr} {v : Bool} (hi : PySem.W.isClsIn K C = true) (ht : PySem.W.typeIn K (.ref C) = some (.type "type")) (hs : PySem.W.subIn K (.ref C) (.ref C) = some true) (h : PySem.W.subIn K (.ref D) (.ref C) = some v) :
    PySem.W.kitOne K (.ref D) (.ref C) = some v := by
  by_cases e : D = C
  · subst e
    have ev : v = true := Option.some.inj (h.symm.trans hs)
    subst ev
    show (if (Value.ref D == Value.ref D) = true then some true else _) = _
    rw [if_pos (beq_self_eq_true _)]
  · have n : ¬ (Value.ref D == Value.ref C) = true := fun z => e (Value.ref.inj (beq_iff_eq.mp z))
    show (if (Value.ref D == Value.ref C) = true then some true else PySem.W.kitCls K (.ref D) (.ref C)) = _
    rw [if_neg n]
    show (if ((PySem.W.clsIn K C).isSome && PySem.W.typeIn K (.ref C) == some (.type "type")) = true then PySem.W.subIn K (.ref D) (.ref C) else none) = _
    have hi' : (PySem.W.clsIn K C).isSome = true := hi
    rw [hi', ht, if_pos (by simp)]
    exact h
theorem kit_val {K : PySem.W.Frag} {D : Addr} {v : Bool} (h : PySem.W.subIn K (.ref D) (.type "ValueError") = some v) : PySem.W.kitOne K (.ref D) (.type "ValueError") = some v := by
  have n : ¬ (Value.ref D == Value.type "ValueError") = true := fun z => nomatch (beq_iff_eq.mp z)
  show (if (Value.ref D == Value.type "ValueError") = true then some true else PySem.W.kitCls K (.ref D) (.type "ValueError")) = _
  rw [if_neg n]
  show (if PySem.W.kitMeta "ValueError" = true then PySem.W.subIn K (.ref D) (.type "ValueError") else none) = _
  rw [if_pos (by decide +kernel)]
  exact h
/-- an except clause of the own class C -/
theorem exm_own {K : PySem.W.Frag} {C : Addr} {cls : Value} {v : Bool} (hb : PySem.W.subIn K (.ref C) (.type "BaseException") = some true) (hi : PySem.W.isClsIn K C = true) (ht : PySem.W.typeIn K (.ref C) = some (.type "type")) (h : PySem.W.subIn K cls (.ref C) = some v) :
    PySem.W.exmOne K cls (.ref C) = some v := by
  have e1 : (PySem.W.subIn K (.ref C) (.type "BaseException") == some true) = true := by rw [hb] <;> rfl
  have e2 : ((PySem.W.clsIn K C).isSome && PySem.W.typeIn K (.ref C) == some (.type "type")) = true := by
    have hi' : (PySem.W.clsIn K C).isSome = true := hi
    rw [hi', ht] <;> rfl
  show (if (PySem.W.subIn K (.ref C) (.type "BaseException") == some true) = true then (if ((PySem.W.clsIn K C).isSome && PySem.W.typeIn K (.ref C) == some (.type "type")) = true then PySem.W.subIn K cls (.ref C) else none) else none) = some v
  rw [if_pos e1, if_pos e2]
  exact h
theorem ExcAt.te {K : PySem.W.Frag} {mg : Str → Option Value} {x : Str} {C : Addr} (e : ExcAt K mg x C) : PySem.W.exmOne K (.ref C) (.ref C) = some true := exm_own e.b e.i e.t e.s
theorem ExcAt.self {K : PySem.W.Frag} {mg : Str → Option Value} {x : Str} {C : Addr} (e : ExcAt K mg x C) {D : Addr} {v : Bool} (h : PySem.W.subIn K (.ref D) (.ref C) = some v) : PySem.W.kitOne K (.ref D) (.ref C) = some v := kit_own e.i e.t e.s h

/-! ### a def that is handed the error that is being handled: p, its place and what stands there -/
/-- what such a def promises -/
structure OkP (P : Program) (w : World) (K : PySem.W.Frag) (mg : Str → Option Value) (base : Heap) (k : Nat) (f : Addr) (fd : FuncData) (ps : List Str) (sp : Addr → Addr → Sp) : Prop where
  len : ∀ a D vs H Q E, sp a D vs H Q E → vs.length = ps.length
  kp : PySem.W.keepIn K (.ref f) = true
  bd : Binds K fd ps []
  run : ∀ (A : Around) (outer : List Env) (s : Shared) (H : Hp) (args : Args) (us : List Value) (vs : List V) (Q : VK) (E : XK) (p : Addr × Obj) (D : Addr), L2H.RoomH k A → L2H.PinOk outer H s p → Zc (.ref D) none p.2 → (∃ vs, p.2.data = .fields vs) → Env0 P w K mg base A outer s H → BindsTo s fd args (ps.zip us) → Vals vs us →
    sp p.1 D vs H Q E → codeAny (model P w) A (.call (.ref f) args) (CR CX0 outer P w H s Q E) s
section
variable {P : Program} {w : World} {K : PySem.W.Frag} {mg : Str → Option Value} {base : Heap} {x qual : Str} {st : Stmt} {f : Addr} {fd : FuncData} {ps N : List Str} {k : Nat} {sp : Addr → Addr → Sp}
theorem FnAt.okP (F : FnAt K x qual st f fd ps) (S : FnScope N ps (defScope st)) (len : ∀ a D vs H Q E, sp a D vs H Q E → vs.length = ps.length)
    (body : ∀ (cdv : Value) (A : Around) (outer : List Env) (s : Shared) (H : Hp) (vs : List V) (Q : VK) (E : XK) (p : Addr × Obj) (D : Addr), L2H.RoomH k (A.deeper (envOfC qual (defScope st) s.heap.objs.size f cdv)) → Zc (.ref D) none p.2 → (∃ vs, p.2.data = .fields vs) → sp p.1 D vs H Q E →
      ∃ t, PSs (L2H.cxH CX0 P w K mg base N qual (defScope st) f cdv A outer s H E p) (defBody st) t ∧ t { nx := fun _ H' => Q .non H', rt := Q } (start N vs) H) : OkP P w K mg base (k + 1) f fd ps sp := by
  obtain ⟨G, B⟩ := F
  refine ⟨len, G.kp, B, fun A outer s H args us vs Q E p D room pin hz hf e0 bt rv hsp => ?_⟩
  obtain ⟨oc, od, kV, doc, pm, an, cdv, ct, osl, rfl, found, code⟩ := G.ex
  have inK : K.In s.heap := e0.mod.kin.keeps fun b o e => (e0.bs b o e).1
  have lim : s.heap.NoLimit := e0.mod.nolimit.keeps fun b o e => (e0.bs b o e).1
  have kinds : ∀ y ∈ ps.zip us, (defScope st).names.lookup y.1 = some .local ∨ ((defScope st).names.lookup y.1 = some .cell ∧ ((cellsFrom (s.heap.objs.size + 1) (defScope st).names []).lookup y.1).isSome = true) := by
    rintro ⟨n, v⟩ hy
    rcases S.par n (List.of_mem_zip hy).1 with z | z
    · exact Or.inl z
    · exact Or.inr ⟨z, PySem.W.cellsFrom_some _ _ _ (Or.inl z)⟩
  refine codeAny_call_function room.depth (inK _ _ found) rfl S.co S.gen rfl (PySem.W.codeRec_of inK code) (bt _ _ _ _ ?_)
  refine wpAny_newFunctionEnv_cells S.kind kinds fun env henv s1 made => ?_
  subst henv
  refine ⟨lim.keeps made.toInCall.keep, codeAny_func ?_⟩
  obtain ⟨t, derived, reading⟩ := body cdv A outer s H vs Q E p D (room.deeper _) hz hf hsp
  have I : Inv (L2H.cxH CX0 P w K mg base N qual (defScope st) f cdv A outer s H E p) [] (start N vs) H s1 := L2H.inv_startH S pin e0 (len _ _ _ _ _ _ hsp) rv made
  refine wpAny_mono (derived.run [] s1 (start N vs) H _ I reading) (fun fl s2 hs => ?_) fun e s2 hs => hs
  cases fl with
  | ret u =>
    obtain ⟨v, σ2, H2, J, r2, q2⟩ := hs
    exact ⟨v, H2, J.os, J.bare, J.base, J.hok, r2, q2⟩
  | next =>
    obtain ⟨σ2, H2, J, q2⟩ := hs
    exact ⟨V.non, H2, J.os, J.bare, J.base, J.hok, rfl, q2⟩
  | brk =>
    obtain ⟨_, _, _, q2⟩ := hs
    exact q2.elim
  | cont =>
    obtain ⟨_, _, _, q2⟩ := hs
    exact q2.elim
end
section
variable {X : Cx} {k : Nat} {f : Addr} {fd : FuncData} {ps : List Str} {sp : Addr → Addr → Sp} {x : Str} {q pos : Pos} {e : Expr} {es : List Expr} {t : TA}
/-- f(e, ..) where the error at a, of the class cls, is being handled -/
def tCallP (a : Addr) (cls : Value) (d : Option Addr) (sp : Addr → Addr → Sp) (t : TA) : TE := fun σ H Q => t σ H fun vs H1 => ∃ D, cls = .ref D ∧ d = none ∧ sp a D vs H1 Q E0
theorem pe_callP {a : Addr} {oe : Obj} {cls : Value} {d : Option Addr} (O : OkP X.prog X.w X.K X.mg X.base k f fd ps sp) (hr : L2H.RoomH k X.A) (hp : (a, oe) ∈ X.pn) (hz : Zc cls d oe) (hf : ∃ vs, oe.data = .fields vs) (hg : Gl X x) (hm : X.mg x = some (.ref f)) (ha : PA X (e :: es) t)
    (hdb : (x == ("__debug__" : Str)) = false := by decide) (he : starEach (e :: es) X.env = (false, eval e X.env) :: starEach es X.env := by rfl) (hpl : (backTo pos (starEach es X.env)).any (·.1) = false := by rfl) :
    PE X (.Call (.Name x q) (e :: es) [] pos) (tCallP a cls d sp t) := by
  refine ⟨fun pins s σ H Q I h => ?_⟩
  refine wpAny_Call_Name_kw (ld_glob I hg hm ?_ hdb)
  refine PySem.W.callWith_K (h₀ := X.base) I.ok.mod.kin O.kp (thn (ha.run pos pins s σ H _ I h) fun us s1 ⟨vs, H1, I1, rv, D, ec, ed, hsp⟩ => ⟨I1.kIn, ?_⟩) he hpl
  subst ec ed
  have hl : us.length = ps.length := rv.length.symm.trans (O.len _ _ _ _ _ _ hsp)
  have bt := O.bd s1 us I1.kIn (by rw [List.append_nil]; exact hl)
  rw [List.append_nil] at bt
  have at_ := I1.pin (a, oe) (List.mem_append_left _ hp)
  have pin : L2H.PinOk X.stack H1 s1 (a, oe) := ⟨at_.1, at_.2.1, fun hm => (List.mem_cons.mp (I1.stkSub a hm)).elim at_.2.2.1 at_.2.2.2.1, at_.2.2.2.2⟩
  refine wpAny_call (codeAny_mono (O.run X.A X.stack s1 H1 ⟨us, []⟩ us vs Q E0 (a, oe) D hr pin hz hf I1.env0 bt rv hsp) fun r s2 hq => ?_)
  cases r with
  | error e => exact hq.elim
  | ok fl =>
    cases fl with
    | ret u => exact I1.after hq
    | next => exact hq.elim
    | brk => exact hq.elim
    | cont => exact hq.elim
/-- isinstance(e, c), e the error at a that is pinned -/
theorem call_isP {X : Cx} {a D : Addr} {oe : Obj} (C : ExcC X.K D) (hp : (a, oe) ∈ X.pn) (hz : Zc (.ref D) none oe) (hf : ∃ vs, oe.data = .fields vs) : CallR X (.builtin "isinstance") (rIsE X.K D a) := by
  intro pins s σ H xs us Q I r h
  obtain ⟨c, cv, b, rfl, hcv, hk, q⟩ := h
  obtain ⟨u1, u2, rfl, r1, r2⟩ := vals2 r
  cases (show u1 = Value.ref a from r1)
  have ec := hcv _ r2
  subst ec
  obtain ⟨found, _⟩ := I.pin (a, oe) (List.mem_append_left _ hp)
  obtain ⟨vs, hv⟩ := hf
  have J : PySem.W.InstAt s.heap a oe D none := by
    obtain ⟨oc, od, oda, osl⟩ := oe
    obtain ⟨h1, h2⟩ := hz
    simp only at h1 h2 hv
    subst h1 h2 hv
    exact ⟨found, rfl, rfl, trivial⟩
  exact PySem.W.kia_one (PySem.W.handS_kitx_exc C.hg C.hk C.hs C.hd C.ha C.hn C.ht C.hm) I.kIn J hk (fun z => nomatch z) fun tk => ⟨.bl b, H, I.kept (t' := tk) fun _ _ z => z, rfl, q⟩
/-! ### xs.count(True), xs a list of truth values -/
def eqTrue (v : Value) : Bool := match v with
  | .bool b => b
  | _ => false
def rCntT (K : PySem.W.Frag) : V → List V → Hp → VK → Prop := fun x xs H Q => ∃ (p : Addr) (bs : List Bool), x = .ref p ∧ xs = [.bl true] ∧ SqL K H p (bs.map V.bl) ∧ Q (.int (bs.count true : Nat)) H
theorem eqTrue_count : ∀ {bs : List Bool} {us : List Value}, Vals (bs.map V.bl) us → us.countP eqTrue = bs.count true
  | [], [], _ => rfl
  | b :: r, u :: us, .cons h t => by
    cases (show u = Value.bool b from h)
    rw [List.countP_cons, List.count_cons, eqTrue_count t]
    cases b <;> rfl
theorem mt_countT : MtR X "list.count" (rCntT X.K) := by
  intro pins s σ H x xs v us Q I rx rxs h
  obtain ⟨p, bs, rfl, rfl, hs, q⟩ := h
  cases rx
  obtain ⟨u, rfl, ru⟩ := rxs.one
  cases (show u = Value.bool true from ru)
  obtain ⟨its, rv, ⟨⟨cls, dd, data, sl⟩, n, found, hc, hdn, hd⟩, hlen⟩ := I.list hs
  simp only at hc hd
  subst hc hd
  have each : ∀ (bs : List Bool) (us : List Value), Vals (bs.map V.bl) us → ∀ y ∈ us, SeqAt.EqAt X.A.in1.in1 s y (.bool true) (eqTrue y) ∧ ∃ b, y = .bool b := by
    intro bs
    induction bs with
    | nil =>
      intro us h y hy
      cases h
      cases hy
    | cons b r ih =>
      intro us h y hy
      cases h with
      | cons h1 h2 =>
        rcases List.mem_cons.mp hy with e | e
        · cases (show _ = Value.bool b from h1)
          subst e
          have z := eqAt_V (A := X.A.in1.in1) (s := s) (y := .bl b) (x := .bl true) (u := .bool b) (v := .bool true) rfl rfl rfl rfl
          refine ⟨?_, b, rfl⟩
          have e2 : eqV (.bl b) (.bl true) = eqTrue (.bool b) := by cases b <;> rfl
          rw [← e2]
          exact z
        · exact ih _ h2 y e
  have each' : ∀ (A : Around), ∀ y ∈ its, SeqAt.EqAt A s y (.bool true) (eqTrue y) := by
    intro A y hy
    obtain ⟨_, b, rfl⟩ := each bs its rv y hy
    have e2 : eqV (.bl b) (.bl true) = eqTrue (.bool b) := by cases b <;> rfl
    rw [← e2]
    exact eqAt_V (A := A) (s := s) (y := .bl b) (x := .bl true) (u := .bool b) (v := .bool true) rfl rfl rfl rfl
  refine call_meets PySem.F.slot_list_count ⟨_, found, rfl⟩ PySem.F.entry_list_count (PySem.F.args_list_count_2 _ _)
    (SeqAt.list_countAt p its.toArray n dd sl (.bool true) eqTrue) ⟨found, fun y hy => each' _ y (by simpa using hy), ?_⟩
  have ec : its.toArray.toList.countP eqTrue = bs.count true := eqTrue_count rv
  refine ⟨.int (bs.count true : Nat), H, I.tok _, ⟨s.toks, ?_⟩, q⟩
  show Value.int ((its.toArray.toList.countP eqTrue : Nat) : Int) s.toks = Value.int ((bs.count true : Nat) : Int) s.toks
  rw [ec]
end
theorem roomP {j k : Nat} {A : Around} {a : Option Value} (hr : Room k A) (h : j ≤ k) : L2H.RoomH j (A.mark a) := ⟨(hr.mono h).dp, (hr.mono h).un⟩
/-! ### calls in the body of a try -/
section
variable {X : Cx} {cx : CXT} {k : Nat} {f : Addr} {fd : FuncData} {ps : List Str} {sp : Sp} {E : St → XK} {x m : Str} {p pos apos : Pos} {e o : Expr} {es : List Expr} {ta : TE} {t : TA}
theorem pe_callSO (O : Ok X.prog X.w X.K X.mg X.base cx k f fd ps sp) (hr : Room k X.A) (hg : Gl X x) (hm : X.mg x = some (.ref f)) (hx : ∀ σ, PassesAt cx X σ (E σ)) (ha : PA X (e :: es) t)
    (hdb : (x == ("__debug__" : Str)) = false := by decide) (he : starEach (e :: es) X.env = (false, eval e X.env) :: starEach es X.env := by rfl) (hpl : (backTo pos (starEach es X.env)).any (·.1) = false := by rfl) :
    PE X (.Call (.Name x p) (e :: es) [] pos) (tCallS sp E t) := pe_callS O.ok hr hg hm O.kp O.bd hx ha hdb he hpl
def tMethSO (C : Addr) (m : Str) (sp : Sp) (E : St → XK) (ta : TE) (t : TA) : TE := fun σ H Q => ta σ H fun x H1 => ∃ a dx fs, x = .ref a ∧ H1 a = some (.ins C dx fs) ∧ fs.lookup m = none ∧ t σ H1 fun vs H2 => sp (x :: vs) H2 Q (E σ)
theorem pe_methSO {C : Addr} {pl : Sem Bool} (O : Ok X.prog X.w X.K X.mg X.base cx k f fd ps sp) (c : Cls X.K C) (hm : Meth X.K C m f) (hr : Room k X.A) (hx : ∀ σ, PassesAt cx X σ (E σ)) (he : PE X o ta) (ha : PA X (e :: es) t)
    (hst : starEach (e :: es) X.env = (false, eval e X.env) :: starEach es X.env := by rfl) (hpl : (backTo pos (starEach es X.env)).any (·.1) = false := by rfl)
    (ht : eval (.Call (.Attribute o m apos) (e :: es) [] pos) X.env = (do
      let ov ← eval o X.env
      standAt apos.atName
      let (f, first) ← holding [ov] (getMethod ov m pl)
      callWith pos f first (backTo pos (starEach (e :: es) X.env)) (backToKw pos (keywordEach [] X.env))) := by rfl) :
    PE X (.Call (.Attribute o m apos) (e :: es) [] pos) (tMethSO C m sp E ta t) := by
  refine ⟨fun pins s σ H Q I h => ?_⟩
  refine PySem.W.methodCall_KW (pl := pl) (thn (he.run pins s σ H _ I h) fun u s1 ⟨y, H1, I1, ry, a, dx, fs, ey, ea, l, q⟩ => ?_) ht
  subst ey
  obtain rfl : u = Value.ref a := ry
  refine getmeth_ok I1 ea c hm l ?_
  refine PySem.W.callWith_K (first := [.ref a]) (h₀ := X.base) I.ok.mod.kin hm.kp (thn (ha.run pos pins s1 σ H1 _ I1 q) fun us s2 ⟨vs, H2, I2, rv, q2⟩ => ⟨I2.kIn, ?_⟩) hst hpl
  exact run_fnS (us := .ref a :: us) (vs := .ref a :: vs) O.ok hr O.bd (hx σ) I2 (.cons rfl rv) q2
end
end L2
namespace L2
open PySem PySem.Spec PyProof.Rows
/-! ### things of any kind: their built-in type -/
def tyNames : List String := ["int", "bool", "NoneType", "str", "list", "tuple", "dict"]
theorem ty_cases {t : String} (h : t ∈ tyNames) : t = "int" ∨ t = "bool" ∨ t = "NoneType" ∨ t = "str" ∨ t = "list" ∨ t = "tuple" ∨ t = "dict" := by
  simpa [tyNames] using h
theorem kit_int {K : PySem.W.Frag} {t : String} (h : t ∈ tyNames) : PySem.W.kitOne K (.type t) (.type "int") = some (t == "int" || t == "bool") := by
  rcases ty_cases h with rfl | rfl | rfl | rfl | rfl | rfl | rfl <;> exact kit_ty (by decide +kernel)
theorem kit_bool {K : PySem.W.Frag} {t : String} (h : t ∈ tyNames) : PySem.W.kitOne K (.type t) (.type "bool") = some (t == "bool") := by
  rcases ty_cases h with rfl | rfl | rfl | rfl | rfl | rfl | rfl <;> exact kit_ty (by decide +kernel)
theorem kit_str {K : PySem.W.Frag} {t : String} (h : t ∈ tyNames) : PySem.W.kitOne K (.type t) (.type "str") = some (t == "str") := by
  rcases ty_cases h with rfl | rfl | rfl | rfl | rfl | rfl | rfl <;> exact kit_ty (by decide +kernel)
theorem kit_tup {K : PySem.W.Frag} {t : String} (h : t ∈ tyNames) : PySem.W.kitOne K (.type t) (.type "tuple") = some (t == "tuple") := by
  rcases ty_cases h with rfl | rfl | rfl | rfl | rfl | rfl | rfl <;> exact kit_ty (by decide +kernel)
/-- x is a thing of one of these types -/
def Typ (K : PySem.W.Frag) (H : Hp) (x : V) : Prop := ∃ t, TyX K H x (.type t) ∧ t ∈ tyNames
theorem typ_int {K : PySem.W.Frag} {H : Hp} {x : V} (h : TyX K H x (.type "int")) : ∃ i, x = .int i := by
  generalize e : Value.type "int" = t at h
  cases h with
  | base b => cases b <;> first | exact ⟨_, rfl⟩ | (exfalso; revert e; decide) | (cases e)
  | byt _ => exfalso; revert e; decide
  | set _ => exfalso; revert e; decide
  | kList _ _ => exfalso; revert e; decide
  | kTuple _ _ => exfalso; revert e; decide
  | kDict _ _ => exfalso; revert e; decide
  | fTuple _ => exfalso; revert e; decide
  | fDict _ => exfalso; revert e; decide
theorem typ_str {K : PySem.W.Frag} {H : Hp} {x : V} (h : TyX K H x (.type "str")) : ∃ i, x = .str i := by
  generalize e : Value.type "str" = t at h
  cases h with
  | base b => cases b <;> first | exact ⟨_, rfl⟩ | (exfalso; revert e; decide) | (cases e)
  | byt _ => exfalso; revert e; decide
  | set _ => exfalso; revert e; decide
  | kList _ _ => exfalso; revert e; decide
  | kTuple _ _ => exfalso; revert e; decide
  | kDict _ _ => exfalso; revert e; decide
  | fTuple _ => exfalso; revert e; decide
  | fDict _ => exfalso; revert e; decide
theorem ty_of_int {K : PySem.W.Frag} {H : Hp} {i : Int} {t : Value} (h : TyX K H (.int i) t) : t = .type "int" := by
  cases h with
  | base b => cases b; rfl
theorem ty_of_str {K : PySem.W.Frag} {H : Hp} {z : Str} {t : Value} (h : TyX K H (.str z) t) : t = .type "str" := by
  cases h with
  | base b => cases b; rfl
/-- the types of what is tracked stay -/
theorem TyX.same {K : PySem.W.Frag} {H H' : Hp} {x : V} {t : String} (h : TyX K H x (.type t)) (s : Same H H') : TyX K H' x (.type t) := by
  generalize e : Value.type t = u at h
  cases h with
  | base b =>
    cases b with
    | non => exact .base .non
    | bl b => exact .base (.bl b)
    | int i => exact .base (.int i)
    | str z => exact .base (.str z)
    | flt z => exact .base (.flt z)
    | lst h => exact .base (.lst (s _ _ h))
    | frz h => exact .base (.frz (s _ _ h))
    | tup h => exact .base (.tup (s _ _ h))
    | dK h => exact .base (.dK (s _ _ h))
    | dT h => exact .base (.dT (s _ _ h))
    | ins _ _ _ _ _ _ => cases e
  | byt b => exact .byt b
  | set h => exact .set (s _ _ h)
  | kList h c => exact .kList h c
  | kTuple h c => exact .kTuple h c
  | kDict h c => exact .kDict h c
  | fTuple h => exact .fTuple (s _ _ h)
  | fDict h => exact .fDict (s _ _ h)
theorem Typ.same {K : PySem.W.Frag} {H H' : Hp} {x : V} (h : Typ K H x) (s : Same H H') : Typ K H' x := by
  obtain ⟨t, h1, h2⟩ := h
  exact ⟨t, h1.same s, h2⟩
theorem typ_i {K : PySem.W.Frag} {H : Hp} (i : Int) : Typ K H (.int i) := ⟨"int", .base (.int i), by decide⟩
theorem typ_b {K : PySem.W.Frag} {H : Hp} (b : Bool) : Typ K H (.bl b) := ⟨"bool", .base (.bl b), by decide⟩
theorem typ_n {K : PySem.W.Frag} {H : Hp} : Typ K H .non := ⟨"NoneType", .base .non, by decide⟩
theorem typ_s {K : PySem.W.Frag} {H : Hp} (z : Str) : Typ K H (.str z) := ⟨"str", .base (.str z), by decide⟩
theorem typ_l {K : PySem.W.Frag} {H : Hp} {a : Addr} {xs : List V} (h : H a = some (.lst xs)) : Typ K H (.ref a) := ⟨"list", .base (.lst h), by decide⟩
theorem typ_t {K : PySem.W.Frag} {H : Hp} {a : Addr} {xs : List V} (h : H a = some (.tup xs)) : Typ K H (.ref a) := ⟨"tuple", .base (.tup h), by decide⟩
theorem typ_d {K : PySem.W.Frag} {H : Hp} {a : Addr} {xs : List (Key × V)} (h : H a = some (.dK xs)) : Typ K H (.ref a) := ⟨"dict", .base (.dK h), by decide⟩
/-- a whole number within bounds -/
def wIn (x : V) (lo hi : Int) : Bool := match x with
  | .int i => decide (lo ≤ i) && decide (i ≤ hi)
  | _ => false
theorem wIn_int {x : V} {lo hi : Int} (h : wIn x lo hi = true) : ∃ i, x = .int i ∧ lo ≤ i ∧ i ≤ hi := by
  cases x with
  | int i =>
    have h : (decide (lo ≤ i) && decide (i ≤ hi)) = true := h
    rw [Bool.and_eq_true, decide_eq_true_eq, decide_eq_true_eq] at h
    exact ⟨i, rfl, h.1, h.2⟩
  | _ => cases h
/-! ### d.get(k), d a dict of the written part with keys that are texts -/
/-- what the written dict at a gives for each text -/
def KMap (K : PySem.W.Frag) (w : World) (a : Addr) (f : Str → Option Str) : Prop :=
  ∃ es n, K.lookup a = some ⟨.type "dict", none, .dict es n, #[]⟩ ∧ PySem.W.KeysLit w.params es.toList ∧ (a == sysModules) = false ∧ ∀ z, ∃ o, findBy Value.isStrOf es z = o ∧ RelO ((f z).map V.str) o
def tKGet (K : PySem.W.Frag) (w : World) (td ty : TE) : TE := fun σ H Q => td σ H fun x H1 => ∃ a f, x = .ref a ∧ KMap K w a f ∧ ty σ H1 fun y H2 => ∃ z, y = .str z ∧ Q (((f z).map V.str).getD .non) H2
theorem relO_getD {o : Option V} {u : Option Value} (h : RelO o u) : RelV (o.getD .non) (u.getD .none) := by
  cases o with
  | none =>
    cases u with
    | none => rfl
    | some _ => exact h.elim
  | some v =>
    cases u with
    | none => exact h.elim
    | some _ => exact h
theorem pe_kget {X : Cx} {o e : Expr} {apos cpos : Pos} {td ty : TE} (ho : PE X o td) (he : PE X e ty) (m : M1 X o "get" apos e cpos) : PE X (.Call (.Attribute o "get" apos) [e] [] cpos) (tKGet X.K X.w td ty) := by
  refine ⟨fun pins s σ H Q I h => ?_⟩
  refine wpAny_Call_method m.base m.few m.line PySem.F.plainAttrs_dict PySem.F.slot_dict_get PySem.F.type_dict_get (thn (ho.run pins s σ H _ I h) fun u s1 ⟨x, H1, I1, rx, a, f, ex, ⟨es, n, hl, hk, hsys, hf⟩, q1⟩ => ?_)
  subst ex
  obtain rfl : u = Value.ref a := rx
  have found : ∀ {s' : Shared} {H' : Hp}, Inv X pins σ H' s' → s'.heap.get? a = some ⟨.type "dict", none, .dict es n, #[]⟩ := fun I' => I'.kIn a _ hl
  refine ⟨⟨_, found I1, rfl⟩, fun b hb => ?_, ?_⟩
  · cases hb
    exact ⟨_, found I1, rfl⟩
  rw [m.trees]
  refine Calls.callWith_builtin rfl (Calls.evalArgs_plain (Calls.spliced_cons (thn (he.run pins s1 σ H1 _ I1 q1) fun iv s2 ⟨y, H2, I2, ry, z, ey, q2⟩ => Calls.spliced_nil ?_)))
  subst ey
  obtain ⟨t, rfl⟩ := (show ∃ t, iv = Value.str z t from ry)
  obtain ⟨ov, e1, r1⟩ := hf z
  have hm := PySem.W.mapOf_K (prog := X.prog) (w := X.w) I2.kIn hl hk
  refine call_meetsIn PySem.F.slot_dict_get ⟨_, found I2, rfl⟩ PySem.F.entry_dict_get (PySem.F.args_dict_get_2 _ _) (meets_dict_get (strKind X.prog X.w) a (strKind_is X.prog X.w z t) hsys) ⟨_, hm, ?_⟩
  refine ⟨((f z).map V.str).getD .non, H2, I2.tok _, ?_, q2⟩
  show RelV _ ((findBy Value.isStrOf es z).getD .none)
  rw [e1]
  exact relO_getD r1
end L2
namespace NL
open PySem PySem.Spec PyProof.Rows L2
/-- the marks of a word -/
def partsM (z : Str) : Option Str :=
  if z = "set" then some "bn" else if z = "copy" then some "bb" else if z = "add" then some "bbb" else if z = "sub" then some "bbb" else if z = "fetch" then some "bb"
  else if z = "store" then some "bb" else if z = "less" then some "bbp" else if z = "jump" then some "p" else if z = "tell" then some "b" else none
theorem partsM_small {z m : Str} (h : partsM z = some m) : m.length ≤ sizeLine ∧ m.length ≤ 3 := by
  unfold partsM at h
  repeat' split at h
  all_goals (first | (cases h; decide +kernel) | cases h)

theorem parts_find {h0 h1 h2 h3 h4 h5 h6 h7 h8 : Int} {t0 u0 t1 u1 t2 u2 t3 u3 t4 u4 t5 u5 t6 u6 t7 u7 t8 u8 : Nat} (z : Str) : ∃ o, findBy Value.isStrOf (#[⟨h0, .str "set" t0, .str "bn" u0⟩, ⟨h1, .str "copy" t1, .str "bb" u1⟩, ⟨h2, .str "add" t2, .str "bbb" u2⟩, ⟨h3, .str "sub" t3, .str "bbb" u3⟩, ⟨h4, .str "fetch" t4, .str "bb" u4⟩, ⟨h5, .str "store" t5, .str "bb" u5⟩, ⟨h6, .str "less" t6, .str "bbp" u6⟩, ⟨h7, .str "jump" t7, .str "p" u7⟩, ⟨h8, .str "tell" t8, .str "b" u8⟩] : Array DictEntry) z = o ∧ RelO ((partsM z).map V.str) o := by
  refine ⟨_, rfl, ?_⟩
  have e : ∀ (a : Str) (t : Nat), Value.isStrOf z (.str a t) = decide (z = a) := fun a t => by
    show (a == z) = _
    by_cases h : z = a
    · subst h
      simp
    · have : ¬ a = z := fun q => h q.symm
      simp [h, this]
  unfold findBy partsM
  simp only [List.find?_toArray, List.find?_cons, List.find?_nil, e]
  repeat' split
  all_goals (first | exact trivial | (simp_all; done) | (exact ⟨_, rfl⟩) | skip)
def top (i : Nat) : Stmt := PySem.Challenge.pw_nearlines_k03_rows_that_fit.main.body.getD i (.Pass ⟨0, 0, 0, 0⟩)
abbrev s_within : Stmt := top 11
abbrev s_part_fits : Stmt := top 12
abbrev s_fits : Stmt := top 13
abbrev s_checked : Stmt := top 14
abbrev s__law_cell_at : Stmt := top 16
abbrev s__law_whole : Stmt := top 17
abbrev s__law_mixed : Stmt := top 18
abbrev s__law_size_by : Stmt := top 19
abbrev s__law_edge : Stmt := top 20
abbrev s__law_marks : Stmt := top 21
abbrev s__law_thing_by : Stmt := top 22
abbrev s__law_fits : Stmt := top 23
abbrev s__law_alone : Stmt := top 24
abbrev s_law : Stmt := top 25
theorem sc_within : FnScope ["number", "low", "high"] ["number", "low", "high"] (defScope s_within) := ⟨rfl, rfl, rfl, by decide +kernel, rfl, by decide +kernel, by decide +kernel⟩
theorem sc_part_fits : FnScope ["mark", "number", "size", "count"] ["mark", "number", "size", "count"] (defScope s_part_fits) := ⟨rfl, rfl, rfl, by decide +kernel, rfl, by decide +kernel, by decide +kernel⟩
theorem sc_fits : FnScope ["row", "size", "count", "marks", "at"] ["row", "size", "count"] (defScope s_fits) := ⟨rfl, rfl, rfl, by decide +kernel, rfl, by decide +kernel, by decide +kernel⟩
theorem sc_checked : FnScope ["rows", "size", "row"] ["rows", "size"] (defScope s_checked) := ⟨rfl, rfl, rfl, by decide +kernel, rfl, by decide +kernel, by decide +kernel⟩
theorem sc__law_cell_at : FnScope ["_law_script", "_law_k"] ["_law_script", "_law_k"] (defScope s__law_cell_at) := ⟨rfl, rfl, rfl, by decide +kernel, rfl, by decide +kernel, by decide +kernel⟩
theorem sc__law_whole : FnScope ["_law_found"] ["_law_found"] (defScope s__law_whole) := ⟨rfl, rfl, rfl, by decide +kernel, rfl, by decide +kernel, by decide +kernel⟩
theorem sc__law_mixed : FnScope ["_law_cell"] ["_law_cell"] (defScope s__law_mixed) := ⟨rfl, rfl, rfl, by decide +kernel, rfl, by decide +kernel, by decide +kernel⟩
theorem sc__law_size_by : FnScope ["_law_cell"] ["_law_cell"] (defScope s__law_size_by) := ⟨rfl, rfl, rfl, by decide +kernel, rfl, by decide +kernel, by decide +kernel⟩
theorem sc__law_edge : FnScope ["_law_cell", "_law_last"] ["_law_cell", "_law_last"] (defScope s__law_edge) := ⟨rfl, rfl, rfl, by decide +kernel, rfl, by decide +kernel, by decide +kernel⟩
theorem sc__law_marks : FnScope ["_law_word", "_law_names"] ["_law_word"] (defScope s__law_marks) := ⟨rfl, rfl, rfl, by decide +kernel, rfl, by decide +kernel, by decide +kernel⟩
theorem sc__law_thing_by : FnScope ["_law_script", "_law_size", "_law_count", "_law_first", "_law_word", "_law_marks_here", "_law_parts", "_law_k", "_law_last", "_law_odd"] ["_law_script", "_law_size", "_law_count"] (defScope s__law_thing_by) := ⟨rfl, rfl, rfl, by decide +kernel, rfl, by decide +kernel, by decide +kernel⟩
theorem sc__law_fits : FnScope ["_law_row", "_law_size", "_law_count", "_law_marks_here", "_law_k", "_law_last"] ["_law_row", "_law_size", "_law_count"] (defScope s__law_fits) := ⟨rfl, rfl, rfl, by decide +kernel, rfl, by decide +kernel, by decide +kernel⟩
theorem sc__law_alone : FnScope ["_law_e", "_law_own", "_law_some"] ["_law_e", "_law_own"] (defScope s__law_alone) := ⟨rfl, rfl, rfl, by decide +kernel, rfl, by decide +kernel, by decide +kernel⟩
theorem sc_law : FnScope ["_law_script", "_law_size", "_law_count", "_law_row", "_law_due", "_law_found", "_law_rows", "_law_good", "_law_given", "_law_e", "_law_k"] ["_law_script"] (defScope s_law) := ⟨rfl, rfl, rfl, by decide +kernel, rfl, by decide +kernel, by decide +kernel⟩
/-- where defs and classes stand -/
structure Cs where
  f_within : Addr
  d_within : FuncData
  f_part_fits : Addr
  d_part_fits : FuncData
  f_fits : Addr
  d_fits : FuncData
  f_checked : Addr
  d_checked : FuncData
  f__law_cell_at : Addr
  d__law_cell_at : FuncData
  f__law_whole : Addr
  d__law_whole : FuncData
  f__law_mixed : Addr
  d__law_mixed : FuncData
  f__law_size_by : Addr
  d__law_size_by : FuncData
  f__law_edge : Addr
  d__law_edge : FuncData
  f__law_marks : Addr
  d__law_marks : FuncData
  f__law_thing_by : Addr
  d__law_thing_by : FuncData
  f__law_fits : Addr
  d__law_fits : FuncData
  f__law_alone : Addr
  d__law_alone : FuncData
  f_law : Addr
  d_law : FuncData
  C_LineError : Addr
  C_BadRow : Addr
  C_BadBoxes : Addr
  C_BadShape : Addr
  C_NoBox : Addr
  C_BadPlan : Addr
  a_PARTS : Addr
/-- what the top has left -/
structure Txt (w : World) (K : PySem.W.Frag) (mg : Str → Option Value) (cs : Cs) : Prop where
  fn_within : FnAt K "within" "within" s_within cs.f_within cs.d_within ["number", "low", "high"]
  gl_within : mg "within" = some (.ref cs.f_within)
  fn_part_fits : FnAt K "part_fits" "part_fits" s_part_fits cs.f_part_fits cs.d_part_fits ["mark", "number", "size", "count"]
  gl_part_fits : mg "part_fits" = some (.ref cs.f_part_fits)
  fn_fits : FnAt K "fits" "fits" s_fits cs.f_fits cs.d_fits ["row", "size", "count"]
  gl_fits : mg "fits" = some (.ref cs.f_fits)
  fn_checked : FnAt K "checked" "checked" s_checked cs.f_checked cs.d_checked ["rows", "size"]
  gl_checked : mg "checked" = some (.ref cs.f_checked)
  fn__law_cell_at : FnAt K "_law_cell_at" "_law_cell_at" s__law_cell_at cs.f__law_cell_at cs.d__law_cell_at ["_law_script", "_law_k"]
  gl__law_cell_at : mg "_law_cell_at" = some (.ref cs.f__law_cell_at)
  fn__law_whole : FnAt K "_law_whole" "_law_whole" s__law_whole cs.f__law_whole cs.d__law_whole ["_law_found"]
  gl__law_whole : mg "_law_whole" = some (.ref cs.f__law_whole)
  fn__law_mixed : FnAt K "_law_mixed" "_law_mixed" s__law_mixed cs.f__law_mixed cs.d__law_mixed ["_law_cell"]
  gl__law_mixed : mg "_law_mixed" = some (.ref cs.f__law_mixed)
  fn__law_size_by : FnAt K "_law_size_by" "_law_size_by" s__law_size_by cs.f__law_size_by cs.d__law_size_by ["_law_cell"]
  gl__law_size_by : mg "_law_size_by" = some (.ref cs.f__law_size_by)
  fn__law_edge : FnAt K "_law_edge" "_law_edge" s__law_edge cs.f__law_edge cs.d__law_edge ["_law_cell", "_law_last"]
  gl__law_edge : mg "_law_edge" = some (.ref cs.f__law_edge)
  fn__law_marks : FnAt K "_law_marks" "_law_marks" s__law_marks cs.f__law_marks cs.d__law_marks ["_law_word"]
  gl__law_marks : mg "_law_marks" = some (.ref cs.f__law_marks)
  fn__law_thing_by : FnAt K "_law_thing_by" "_law_thing_by" s__law_thing_by cs.f__law_thing_by cs.d__law_thing_by ["_law_script", "_law_size", "_law_count"]
  gl__law_thing_by : mg "_law_thing_by" = some (.ref cs.f__law_thing_by)
  fn__law_fits : FnAt K "_law_fits" "_law_fits" s__law_fits cs.f__law_fits cs.d__law_fits ["_law_row", "_law_size", "_law_count"]
  gl__law_fits : mg "_law_fits" = some (.ref cs.f__law_fits)
  fn__law_alone : FnAt K "_law_alone" "_law_alone" s__law_alone cs.f__law_alone cs.d__law_alone ["_law_e", "_law_own"]
  gl__law_alone : mg "_law_alone" = some (.ref cs.f__law_alone)
  fn_law : FnAt K "law" "law" s_law cs.f_law cs.d_law ["_law_script"]
  gl_law : mg "law" = some (.ref cs.f_law)
  no_isinstance : mg "isinstance" = none
  no_int : mg "int" = none
  no_bool : mg "bool" = none
  no_tuple : mg "tuple" = none
  no_len : mg "len" = none
  no_str : mg "str" = none
  no_range : mg "range" = none
  no_list : mg "list" = none
  no_ValueError : mg "ValueError" = none
  gl_GREATEST : ∃ t, mg "GREATEST" = some (.int 999999 t)
  gl_MOST : ∃ t, mg "MOST" = some (.int 200 t)
  gl_PARTS : mg "PARTS" = some (.ref cs.a_PARTS)
  km_PARTS : KMap K w cs.a_PARTS partsM
  ex_LineError : ExcAt K mg "LineError" cs.C_LineError
  ex_BadRow : ExcAt K mg "BadRow" cs.C_BadRow
  ex_BadBoxes : ExcAt K mg "BadBoxes" cs.C_BadBoxes
  ex_BadShape : ExcAt K mg "BadShape" cs.C_BadShape
  ex_NoBox : ExcAt K mg "NoBox" cs.C_NoBox
  ex_BadPlan : ExcAt K mg "BadPlan" cs.C_BadPlan
  ec_BadRow : ExcC K cs.C_BadRow
  is_BadRow_LineError : PySem.W.kitOne K (.ref cs.C_BadRow) (.ref cs.C_LineError) = some true
  is_BadRow_BadRow : PySem.W.kitOne K (.ref cs.C_BadRow) (.ref cs.C_BadRow) = some true
  is_BadRow_BadBoxes : PySem.W.kitOne K (.ref cs.C_BadRow) (.ref cs.C_BadBoxes) = some false
  is_BadRow_BadShape : PySem.W.kitOne K (.ref cs.C_BadRow) (.ref cs.C_BadShape) = some false
  is_BadRow_NoBox : PySem.W.kitOne K (.ref cs.C_BadRow) (.ref cs.C_NoBox) = some false
  is_BadRow_BadPlan : PySem.W.kitOne K (.ref cs.C_BadRow) (.ref cs.C_BadPlan) = some false
  iv_BadRow : PySem.W.kitOne K (.ref cs.C_BadRow) (.type "ValueError") = some true
section
variable {P : Program} {w : World} {K : PySem.W.Frag} {mg : Str → Option Value} {base : Heap} {cs : Cs}
/-! ### within, part_fits, fits, checked, checked_boxes -/
def sp_within (K : PySem.W.Frag) (cs : Cs) : Sp := fun vs H Q _ => ∃ (x : V) (lo hi : Int), vs = [x, .int lo, .int hi] ∧ Typ K H x ∧ Q (.bl (wIn x lo hi)) H
theorem wIn_not {K : PySem.W.Frag} {H : Hp} {x : V} {t : String} (h : TyX K H x (.type t)) (ht : t ≠ "int") (lo hi : Int) : wIn x lo hi = false := by
  cases x with
  | int i => exact absurd (Value.type.inj (ty_of_int h)) ht
  | _ => rfl
theorem ok_within (T : Txt w K mg cs)  : Ok P w K mg base CX0 1 cs.f_within cs.d_within ["number", "low", "high"] (sp_within K cs) := by
  refine T.fn_within.ok sc_within (fun vs H Q E h => ?_) (fun cdv A outer s H vs Q E hr h => ?_)
  · obtain ⟨x, lo, hi, rfl, _⟩ := h
    rfl
  · obtain ⟨x, lo, hi, rfl, ⟨t, ty, ht⟩, q⟩ := h
    refine ⟨_, (pss_one (ps_ret (pe_and (pe_callB call_isi (by rfl) T.no_isinstance boot_isinstance (pa_cons (pv 0) (pa_cons (pe_bltn (v := .ty "int") (by rfl) T.no_int boot_int rfl) pa_nil))) (pe_and (pe_not (pe_callB call_isi (by rfl) T.no_isinstance boot_isinstance (pa_cons (pv 0) (pa_cons (pe_bltn (v := .ty "bool") (by rfl) T.no_bool boot_bool rfl) pa_nil)))) (pe_one (pe_chain op_le op_le (pv 1) (pv 0) (pv 2))))))), ?_⟩
    refine ⟨_, rfl, _, _, _, _, _, rfl, .ty "int", ty, kit_int ht, _, rfl, iteB (fun c => ?_) (fun c => ?_)⟩
    · refine ⟨_, rfl, _, _, _, _, _, rfl, .ty "bool", ty, kit_bool ht, _, rfl, _, rfl, iteBN (fun c2 => ?_) (fun c2 => ?_)⟩
      · have e : t = "int" := by
          rcases ty_cases ht with rfl | rfl | rfl | rfl | rfl | rfl | rfl <;> first | rfl | (exfalso; revert c; decide) | (exfalso; revert c2; decide)
        subst e
        obtain ⟨i, rfl⟩ := typ_int ty
        refine ⟨_, rfl, _, rfl, _, _, rfl, rfl, _, rfl, iteD (fun c3 => ?_) (fun c3 => ?_)⟩
        · refine ⟨_, rfl, _, _, rfl, rfl, ?_⟩
          have e : wIn (.int i) lo hi = decide (i ≤ hi) := by
            show (decide (lo ≤ i) && decide (i ≤ hi)) = _
            rw [decide_eq_true c3, Bool.true_and]
          rw [e] at q
          exact q
        · have e : wIn (.int i) lo hi = false := by
            show (decide (lo ≤ i) && decide (i ≤ hi)) = _
            rw [decide_eq_false c3, Bool.false_and]
          rw [e] at q
          exact q
      · have e : t ≠ "int" := fun e => by
          subst e
          revert c2
          decide
        rw [wIn_not ty e] at q
        exact q
    · have e : t ≠ "int" := fun e => by
        subst e
        revert c
        decide
      rw [wIn_not ty e] at q
      exact q
/-- one part of a row: its mark, as a sign -/
def partB (c : Nat) (x : V) (size count : Int) : Bool := if c = 98 then wIn x 0 (size - 1) else if c = 110 then wIn x 0 999999 else wIn x 0 count
def sp_part_fits (K : PySem.W.Frag) (cs : Cs) : Sp := fun vs H Q _ => ∃ (c : Nat) (x : V) (size count : Int), vs = [.str ⟨#[c]⟩, x, .int size, .int count] ∧ Typ K H x ∧ Q (.bl (partB c x size count)) H
theorem sign_eq (c d : Nat) : ((V.str ⟨#[c]⟩ : V) = V.str ⟨#[d]⟩) ↔ c = d := by
  constructor
  · intro h
    have h1 : (⟨#[c]⟩ : Str) = ⟨#[d]⟩ := V.str.inj h
    have h2 : (#[c] : Array Nat) = #[d] := congrArg Str.cps h1
    simpa using h2
  · intro h
    rw [h]
theorem lit_b : ("b" : Str) = ⟨#[98]⟩ := by decide +kernel
theorem lit_n : ("n" : Str) = ⟨#[110]⟩ := by decide +kernel
theorem ok_part_fits (T : Txt w K mg cs) (o_within : Ok P w K mg base CX0 1 cs.f_within cs.d_within ["number", "low", "high"] (sp_within K cs)) : Ok P w K mg base CX0 2 cs.f_part_fits cs.d_part_fits ["mark", "number", "size", "count"] (sp_part_fits K cs) := by
  refine T.fn_part_fits.ok sc_part_fits (fun vs H Q E h => ?_) (fun cdv A outer s H vs Q E hr h => ?_)
  · obtain ⟨c, x, size, count, rfl, _⟩ := h
    rfl
  · obtain ⟨c, x, size, count, rfl, ty, q⟩ := h
    refine ⟨_, (pss_cons (ps_if (pt_cmpR op_eq (pv 0) pe_str (nomark _)) (pss_one (ps_ret (pe_callO o_within hr (by rfl) T.gl_within pass0 (pa_cons (pv 1) (pa_cons pe_int (pa_cons (pe_op op_sub (pv 2) pe_int) pa_nil)))))) pss_nil)
      (pss_cons (ps_if (pt_cmpR op_eq (pv 0) pe_str (nomark _)) (pss_one (ps_ret (pe_callO o_within hr (by rfl) T.gl_within pass0 (pa_cons (pv 1) (pa_cons pe_int (pa_cons (pe_glob (v := .int 999999) (by rfl) (T.gl_GREATEST).choose_spec ⟨_, rfl⟩) pa_nil)))))) pss_nil)
      (pss_one (ps_ret (pe_callO o_within hr (by rfl) T.gl_within pass0 (pa_cons (pv 1) (pa_cons pe_int (pa_cons (pv 3) pa_nil)))))))), ?_⟩
    have e1 : (V.str ⟨#[c]⟩ = V.str ("b" : Str)) ↔ c = 98 := by rw [lit_b]; exact sign_eq _ _
    have e2 : (V.str ⟨#[c]⟩ = V.str ("n" : Str)) ↔ c = 110 := by rw [lit_n]; exact sign_eq _ _
    refine ⟨_, rfl, rfl, _, rfl, iteD (fun c1 => ?_) (fun c1 => ?_)⟩
    · refine ⟨_, rfl, _, rfl, _, _, rfl, rfl, x, 0, size - 1, rfl, ty, ?_⟩
      unfold partB at q
      rw [if_pos (e1.mp c1)] at q
      exact q
    · refine ⟨_, rfl, rfl, _, rfl, iteD (fun c2 => ?_) (fun c2 => ?_)⟩
      · refine ⟨_, rfl, x, 0, 999999, rfl, ty, ?_⟩
        unfold partB at q
        rw [if_neg (fun z => c1 (e1.mpr z)), if_pos (e2.mp c2)] at q
        exact q
      · refine ⟨_, rfl, _, rfl, x, 0, count, rfl, ty, ?_⟩
        unfold partB at q
        rw [if_neg (fun z => c1 (e1.mpr z)), if_neg (fun z => c2 (e2.mpr z))] at q
        exact q
/-- a thing that may be a row: its items, if it is a tuple -/
def Thing (K : PySem.W.Frag) (H : Hp) (x : V) : Option (List V) → Prop
  | none => ∃ t, TyX K H x (.type t) ∧ t ∈ tyNames ∧ t ≠ "tuple"
  | some xs => ∃ a, x = .ref a ∧ H a = some (.tup xs) ∧ (∀ v ∈ xs, Typ K H v) ∧ xs.length ≤ 1000
theorem Thing.same {K : PySem.W.Frag} {H H' : Hp} {x : V} {o : Option (List V)} (h : Thing K H x o) (s : Same H H') : Thing K H' x o := by
  cases o with
  | none =>
    obtain ⟨t, h1, h2, h3⟩ := h
    exact ⟨t, h1.same s, h2, h3⟩
  | some xs =>
    obtain ⟨a, h1, h2, h3, h4⟩ := h
    exact ⟨a, h1, s _ _ h2, fun v hv => (h3 v hv).same s, h4⟩
/-- whether the items fit the marks -/
def partsFit (size count : Int) : List Nat → List V → Bool
  | [], [] => true
  | c :: cs, x :: xs => partB c x size count && partsFit size count cs xs
  | _, _ => false
def fitsV (size count : Int) : List V → Bool
  | .str z :: xs => match partsM z with
    | none => false
    | some m => partsFit size count m.cps.toList xs
  | _ => false
def fitsO (size count : Int) : Option (List V) → Bool
  | none => false
  | some xs => fitsV size count xs
theorem partsFit_len {size count : Int} : ∀ {cs : List Nat} {xs : List V}, cs.length ≠ xs.length → partsFit size count cs xs = false
  | [], [], h => absurd rfl h
  | [], _ :: _, _ => rfl
  | _ :: _, [], _ => rfl
  | c :: cs, x :: xs, h => by
    have ih := partsFit_len (size := size) (count := count) (cs := cs) (xs := xs) (fun e => h (by simp [e]))
    show (partB c x size count && partsFit size count cs xs) = false
    rw [ih, Bool.and_false]
theorem partsFit_at {size count : Int} : ∀ {cs : List Nat} {xs : List V} {i : Nat} {c : Nat} {x : V}, cs[i]? = some c → xs[i]? = some x → partB c x size count = false → partsFit size count cs xs = false
  | [], _, _, _, _, h, _, _ => by simp at h
  | _ :: _, [], _, _, _, _, h, _ => by simp at h
  | c :: cs, x :: xs, 0, c', x', h1, h2, h3 => by
    have e1 : c = c' := Option.some.inj h1
    have e2 : x = x' := Option.some.inj h2
    subst e1 e2
    show (partB c x size count && _) = false
    rw [h3, Bool.false_and]
  | c :: cs, x :: xs, i + 1, c', x', h1, h2, h3 => by
    show (_ && partsFit size count cs xs) = false
    rw [partsFit_at (i := i) h1 h2 h3, Bool.and_false]
theorem partsFit_all {size count : Int} : ∀ {cs : List Nat} {xs : List V}, cs.length = xs.length → (∀ (i : Nat) (c : Nat) (x : V), cs[i]? = some c → xs[i]? = some x → partB c x size count = true) → partsFit size count cs xs = true
  | [], [], _, _ => rfl
  | [], _ :: _, h, _ => by simp at h
  | _ :: _, [], h, _ => by simp at h
  | c :: cs, x :: xs, h, q => by
    show (partB c x size count && partsFit size count cs xs) = true
    rw [q 0 c x rfl rfl, partsFit_all (by simpa using h) fun i c' x' h1 h2 => q (i + 1) c' x' h1 h2]
    rfl
def sp_fits (K : PySem.W.Frag) (cs : Cs) : Sp := fun vs H Q _ => ∃ (x : V) (o : Option (List V)) (size count : Int), vs = [x, .int size, .int count] ∧ Thing K H x o ∧ ∀ H', Same H H' → Q (.bl (fitsO size count o)) H'
theorem ok_fits (T : Txt w K mg cs) (o_part_fits : Ok P w K mg base CX0 2 cs.f_part_fits cs.d_part_fits ["mark", "number", "size", "count"] (sp_part_fits K cs)) : Ok P w K mg base CX0 3 cs.f_fits cs.d_fits ["row", "size", "count"] (sp_fits K cs) := by
  refine T.fn_fits.ok sc_fits (fun vs H Q E h => ?_) (fun cdv A outer s H vs Q E hr h => ?_)
  · obtain ⟨x, o, size, count, rfl, _⟩ := h
    rfl
  · obtain ⟨x, o, size, count, rfl, hx, q⟩ := h
    refine ⟨_, (pss_cons (ps_if (pt_jn (PW.pt (pw_or (pt_not (pt_val (pe_callB call_isi (by rfl) T.no_isinstance boot_isinstance (pa_cons (pv 0) (pa_cons (pe_bltn (v := .ty "tuple") (by rfl) T.no_tuple boot_tuple rfl) pa_nil))))) (pw_or (pt_cmpR op_eq (pe_callB call_len_seq (by rfl) T.no_len PySem.boot_len (pa_cons (pv 0) pa_nil)) pe_int (nomark _)) (pw_or1 (pt_not (pt_val (pe_callB call_isi (by rfl) T.no_isinstance boot_isinstance (pa_cons (pe_ix ix_tup (pv 0) pe_int (fun _ _ => rfl)) (pa_cons (pe_bltn (v := .ty "str") (by rfl) T.no_str boot_str rfl) pa_nil)))))))))) (pss_one (ps_ret pe_bl)) pss_nil)
      (pss_cons (ps_set (i := 3) sc_fits.nd rfl (Or.inl rfl) (pe_kget (pe_glob (v := .ref cs.a_PARTS) (by rfl) T.gl_PARTS rfl) (pe_ix ix_tup (pv 0) pe_int (fun _ _ => rfl)) ⟨by rfl, by rfl, by rfl, by rfl⟩))
      (pss_cons (ps_if (pt_jn (PW.pt (pw_or (pt_cmpR op_isN (pv 3) pe_non (nomark _)) (pw_or1 (pt_cmpR op_ne (pe_callB call_len_seq (by rfl) T.no_len PySem.boot_len (pa_cons (pv 0) pa_nil)) (pe_op op_add (pe_callB call_len_str (by rfl) T.no_len PySem.boot_len (pa_cons (pv 3) pa_nil)) pe_int) (nomark _)))))) (pss_one (ps_ret pe_bl)) pss_nil)
      (pss_cons (ps_for PassesOwn.never rfl (pi_range1 (by rfl) T.no_range (pa_cons (pe_callB call_len_str (by rfl) T.no_len PySem.boot_len (pa_cons (pv 3) pa_nil)) pa_nil)) (pg_name (i := 4) sc_fits.nd rfl (Or.inl rfl)) (pss_one (ps_if (pt_not (pt_val (pe_callO o_part_fits hr (by rfl) T.gl_part_fits pass0 (pa_cons (pe_ix ix_str (pv 3) (pv 4) (fun _ _ => rfl)) (pa_cons (pe_ix ix_tup (pv 0) (pe_op op_add (pv 4) pe_int) (fun _ _ => rfl)) (pa_cons (pv 1) (pa_cons (pv 2) pa_nil))))))) (pss_one (ps_ret pe_bl)) pss_nil)))
      (pss_one (ps_ret pe_bl)))))), ?_⟩
    cases o with
    | none =>
      obtain ⟨t, ty, ht, hn⟩ := hx
      refine ⟨fun b H' => b = true ∧ H' = H, ?_, ?_⟩
      · refine ⟨_, rfl, _, _, _, _, _, rfl, .ty "tuple", ty, kit_tup ht, _, rfl, iteBN (fun _ => ⟨rfl, rfl⟩) (fun c => absurd (by simpa using c) hn)⟩
      · rintro b H' ⟨rfl, rfl⟩
        exact iteT (q _ (Same.refl _))
    | some xs =>
      obtain ⟨a, rfl, ha, hty, hl⟩ := hx
      have hT : SqT K H a xs := SqT.of ha
      cases xs with
      | nil =>
        refine ⟨fun b H' => b = true ∧ H' = H, ?_, ?_⟩
        · refine ⟨_, rfl, _, _, _, _, _, rfl, .ty "tuple", .base (.tup ha), kit_ty (r := true) (by decide +kernel), _, rfl, iteF ?_⟩
          exact ⟨_, rfl, a, _, rfl, .inr hT, rfl, _, rfl, iteT ⟨rfl, rfl⟩⟩
        · rintro b H' ⟨rfl, rfl⟩
          exact iteT (q _ (Same.refl _))
      | cons v r =>
        obtain ⟨t, ty, ht⟩ := hty v List.mem_cons_self
        have hne : ¬ (V.int (((v :: r).length : Nat) : Int) = V.int 0) := fun z => by
          have := V.int.inj z
          simp only [List.length_cons] at this
          omega
        refine ⟨fun b H' => b = !(t == "str") ∧ H' = H, ?_, ?_⟩
        · refine ⟨_, rfl, _, _, _, _, _, rfl, .ty "tuple", .base (.tup ha), kit_ty (r := true) (by decide +kernel), _, rfl, iteF ?_⟩
          refine ⟨_, rfl, a, _, rfl, .inr hT, rfl, _, rfl, iteD (fun c => absurd c hne) (fun _ => ?_)⟩
          exact ⟨_, rfl, a, _, _, _, rfl, rfl, hT, at_of (j := 0) rfl rfl, _, _, _, _, _, rfl, .ty "str", ty, kit_str ht, _, rfl, rfl, rfl⟩
        rintro b H' ⟨rfl, rfl⟩
        refine iteBN (fun c => ?_) (fun c => ?_)
        · have e : fitsO size count (some (v :: r)) = false := by
            cases v with
            | str z =>
              have := Value.type.inj (ty_of_str ty)
              rw [this] at c
              exact absurd c (by decide)
            | _ => rfl
          rw [e] at q
          exact q _ (Same.refl _)
        have e : t = "str" := by simpa using c
        subst e
        obtain ⟨z, rfl⟩ := typ_str ty
        -- marks = PARTS.get(row[0])
        refine ⟨_, partsM, rfl, T.km_PARTS, _, rfl, a, _, _, _, rfl, rfl, hT, at_of (j := 0) rfl rfl, z, rfl, ?_⟩
        cases hm : partsM z with
        | none =>
          have e : fitsO size count (some (V.str z :: r)) = false := by
            show (match partsM z with | none => false | some m => partsFit size count m.cps.toList r) = false
            rw [hm]
          rw [e] at q
          refine ⟨fun b H2 => b = true ∧ H2 = H', ⟨_, rfl, rfl, _, rfl, iteT ⟨rfl, rfl⟩⟩, ?_⟩
          rintro b H2 ⟨rfl, rfl⟩
          exact iteT (q _ (Same.refl _))
        | some m =>
          have em := partsM_small hm
          have e : fitsO size count (some (V.str z :: r)) = partsFit size count m.cps.toList r := by
            show (match partsM z with | none => false | some m => partsFit size count m.cps.toList r) = _
            rw [hm]
          rw [e] at q
          have eml : m.length = m.cps.toList.length := by simp [Str.length]
          refine ⟨fun b H2 => b = !decide (m.cps.toList.length = r.length) ∧ H2 = H', ⟨_, rfl, rfl, _, rfl, iteF ?_⟩, ?_⟩
          · refine ⟨_, rfl, a, _, rfl, .inr hT, _, rfl, m, rfl, by omega, _, _, rfl, rfl, rfl, _, rfl, ?_, rfl⟩
            show (!decide (V.int (((V.str z :: r).length : Nat) : Int) = V.int ((m.length : Int) + 1))) = _
            congr 1
            apply decide_eq_decide.mpr
            rw [V.int.injEq, List.length_cons, eml]
            omega
          rintro b H2 ⟨rfl, rfl⟩
          refine iteN (fun c => ?_) (fun c => ?_)
          · rw [partsFit_len c] at q
            exact q _ (Same.refl _)
          -- for at in range(len(marks))
          refine ⟨_, rfl, m, rfl, by omega, (m.length : Int), rfl, by omega, by omega, ?_⟩
          have e0 : ((m.length : Int)).toNat = m.cps.toList.length := by rw [eml]; rfl
          rw [e0]
          refine for_range (lo := 0) (n := m.cps.toList.length) (fun i σ H3 => ∃ v4, σ = [some (.ref a), some (.int size), some (.int count), some (.str m), v4] ∧ H3 = H2 ∧ ∀ (j : Nat) (c : Nat) (x : V), j < i → m.cps.toList[j]? = some c → r[j]? = some x → partB c x size count = true) ⟨none, rfl, rfl, fun j _ _ hj => absurd hj (Nat.not_lt_zero _)⟩ ?_ ?_
          · rintro i σ H3 hi ⟨v4, rfl, rfl, hall⟩
            have hzi : (0 : Int) + (i : Int) = ((i : Nat) : Int) := Int.zero_add _
            obtain ⟨c1, hc1⟩ : ∃ c1, m.cps.toList[i]? = some c1 := ⟨m.cps.toList[i], List.getElem?_eq_getElem hi⟩
            obtain ⟨x, hx⟩ : ∃ x, r[i]? = some x := ⟨r[i]'(by omega), List.getElem?_eq_getElem _⟩
            have hx1 : (V.str z :: r)[i + 1]? = some x := hx
            refine ⟨_, rfl, _, rfl, m, _, c1, rfl, rfl, by omega, at_ofG hzi hc1, _, rfl, _, rfl, _, _, rfl, rfl, a, _, _, _, rfl, rfl, hT, at_of (j := i + 1) (by rw [Int.zero_add]; rfl) hx1, _, rfl, _, rfl, c1, x, size, count, rfl, hty x (List.mem_cons_of_mem _ (List.mem_of_getElem? hx)), _, rfl, iteBN (fun c2 => ?_) (fun c2 => ?_)⟩
            · rw [partsFit_at hc1 hx c2] at q
              exact q _ (Same.refl _)
            · refine ⟨_, rfl, rfl, fun j c' x' hj h1 h2 => ?_⟩
              by_cases ej : j = i
              · subst ej
                rw [hc1] at h1
                rw [hx] at h2
                cases h1
                cases h2
                exact c2
              · exact hall j c' x' (by omega) h1 h2
          · rintro σ H3 ⟨v4, rfl, rfl, hall⟩
            rw [partsFit_all c fun i c' x' h1 h2 => hall i c' x' ((List.getElem?_eq_some_iff.mp h1).1) h1 h2] at q
            exact q _ (Same.refl _)
/-! ### checked -/
/-- the things of a program -/
structure Things (K : PySem.W.Frag) (H : Hp) (ys : List V) (os : List (Option (List V))) : Prop where
  len : ys.length = os.length
  at_ : ∀ (i : Nat) (y : V) (o : Option (List V)), ys[i]? = some y → os[i]? = some o → Thing K H y o
theorem Things.same {K : PySem.W.Frag} {H H' : Hp} {ys : List V} {os : List (Option (List V))} (h : Things K H ys os) (s : Same H H') : Things K H' ys os := ⟨h.len, fun i y o h1 h2 => (h.at_ i y o h1 h2).same s⟩
def goodRows (size : Int) (os : List (Option (List V))) : Bool := decide (os.length ≤ 200) && os.all (fitsO size (os.length : Int))
def sp_checked (K : PySem.W.Frag) (cs : Cs) : Sp := fun vs H Q E => ∃ (a : Addr) (ys : List V) (os : List (Option (List V))) (size : Int), vs = [.ref a, .int size] ∧ SqL K H a ys ∧ Things K H ys os ∧ ys.length ≤ 1000 ∧
  (∀ H' p, goodRows size os = true → Same H H' → H p = none → H' p = some (.lst ys) → Q (.ref p) H') ∧ (∀ H', goodRows size os = false → Same H H' → E (.ref cs.C_BadRow) none H')
theorem ok_checked (T : Txt w K mg cs) (o_fits : Ok P w K mg base CX0 3 cs.f_fits cs.d_fits ["row", "size", "count"] (sp_fits K cs)) : Ok P w K mg base (L2.CX P w) 4 cs.f_checked cs.d_checked ["rows", "size"] (sp_checked K cs) := by
  refine T.fn_checked.okX sc_checked (fun vs H Q E h => ?_) (fun cdv A outer s H vs Q E hr h => ?_)
  · obtain ⟨a, ys, os, size, rfl, _⟩ := h
    rfl
  · obtain ⟨a, ys, os, size, rfl, hS, hT, hl, kQ, kE⟩ := h
    refine ⟨_, (pss_cons (ps_if (pt_cmpR op_gt (pe_callB call_len_seq (by rfl) T.no_len PySem.boot_len (pa_cons (pv 0) pa_nil)) (pe_glob (v := .int 200) (by rfl) (T.gl_MOST).choose_spec ⟨_, rfl⟩) (nomark _)) (pss_one (ps_raise rfl (takes_of rfl rfl rfl rfl) (pmk_own PySem.F.excBase_ValueError T.ex_BadRow.x T.ex_BadRow.g T.ex_BadRow.k (raises_own T.ex_BadRow.b T.ex_BadRow.t) (by rfl)))) pss_nil)
      (pss_cons (ps_for (passes_of rfl) rfl (pi_list (pv 0)) (pg_name (i := 2) sc_checked.nd rfl (Or.inl rfl)) (pss_one (ps_if (pt_not (pt_val (pe_callO o_fits hr (by rfl) T.gl_fits pass0 (pa_cons (pv 2) (pa_cons (pv 1) (pa_cons (pe_callB call_len_seq (by rfl) T.no_len PySem.boot_len (pa_cons (pv 0) pa_nil)) pa_nil)))))) (pss_one (ps_raise rfl (takes_of rfl rfl rfl rfl) (pmk_own PySem.F.excBase_ValueError T.ex_BadRow.x T.ex_BadRow.g T.ex_BadRow.k (raises_own T.ex_BadRow.b T.ex_BadRow.t) (by rfl)))) pss_nil)))
      (pss_one (ps_ret (pe_callTy call_list_of (by rfl) T.no_list boot_list (pa_cons (pv 0) pa_nil)))))), ?_⟩
    have hlen := hT.len
    refine ⟨_, rfl, a, _, rfl, .inl hS, _, _, rfl, rfl, _, rfl, iteD (fun c => ?_) (fun c => ?_)⟩
    · refine kE H ?_ (Same.refl _)
      unfold goodRows
      rw [decide_eq_false (by omega), Bool.false_and]
    have hle : os.length ≤ 200 := by omega
    have bad : ∀ (i : Nat) (o : Option (List V)), os[i]? = some o → fitsO size (os.length : Int) o = false → goodRows size os = false := fun i o ho hf => by
      unfold goodRows
      have : os.all (fitsO size (os.length : Int)) = false := by
        rw [← Bool.not_eq_true, List.all_eq_true]
        intro z
        have := z o (List.mem_of_getElem? ho)
        rw [hf] at this
        cases this
      rw [this, Bool.and_false]
    refine ⟨_, rfl, a, rfl, ⟨_, hS⟩, for_list (K := K) (a := a) (xs := ys) (fun i σ H' => ∃ v2, σ = [some (.ref a), some (.int size), v2] ∧ Same H H' ∧ ∀ (j : Nat) (o : Option (List V)), j < i → os[j]? = some o → fitsO size (os.length : Int) o = true)
      ⟨none, rfl, Same.refl _, fun j _ hj => absurd hj (Nat.not_lt_zero _)⟩ (fun i σ H' _ ⟨_, _, s1, _⟩ => s1.seq hS) ?_ ?_⟩
    · rintro i y σ H' hy ⟨v2, rfl, s1, hall⟩
      obtain ⟨o, ho⟩ : ∃ o, os[i]? = some o := ⟨os[i]'(by have := (List.getElem?_eq_some_iff.mp hy).1; omega), List.getElem?_eq_getElem _⟩
      have hth := (hT.at_ i y o hy ho).same s1
      refine ⟨_, rfl, _, rfl, _, rfl, a, _, rfl, .inl (s1.seq hS), y, o, size, (os.length : Int), by rw [hlen], hth, fun H2 s2 => ⟨_, rfl, iteBN (fun c2 => ?_) (fun c2 => ?_)⟩⟩
      · exact kE H2 (bad i o ho c2) (s1.trans s2)
      · refine ⟨_, rfl, s1.trans s2, fun j o' hj ho' => ?_⟩
        by_cases ej : j = i
        · subst ej
          rw [ho] at ho'
          cases ho'
          exact c2
        · exact hall j o' (by omega) ho'
    · rintro σ H' ⟨v2, rfl, s1, hall⟩
      refine ⟨_, rfl, a, _, rfl, .inl (s1.seq hS), fun p hp => ?_⟩
      refine kQ _ p ?_ (s1.trans (Same.new hp)) (s1.free hp) upd_same
      unfold goodRows
      rw [decide_eq_true hle, Bool.true_and, List.all_eq_true]
      intro o ho
      obtain ⟨j, hj, e⟩ := List.getElem_of_mem ho
      exact hall j o (by omega) (by rw [← e]; exact List.getElem?_eq_getElem hj)
/-! ### the law's own helpers -/
def mixed (c : Int) : Int := c * 48271 % 2147483647
def sp__law_mixed (K : PySem.W.Frag) (cs : Cs) : Sp := fun vs H Q _ => ∃ c : Int, vs = [.int c] ∧ Q (.int (mixed c)) H
theorem ok__law_mixed (T : Txt w K mg cs)  : Ok P w K mg base CX0 1 cs.f__law_mixed cs.d__law_mixed ["_law_cell"] (sp__law_mixed K cs) := by
  refine T.fn__law_mixed.ok sc__law_mixed (fun vs H Q E h => ?_) (fun cdv A outer s H vs Q E hr h => ?_)
  · obtain ⟨c, rfl, _⟩ := h
    rfl
  · obtain ⟨c, rfl, k⟩ := h
    refine ⟨_, (pss_one (ps_ret (pe_op op_mod (pe_op op_mul (pv 0) pe_int) pe_int))), ?_⟩
    refine ⟨_, rfl, _, _, rfl, rfl, .inr ⟨by decide, by decide⟩, _, _, rfl, rfl, (by show (0 : Int) < _; decide), k⟩
def sp__law_cell_at (K : PySem.W.Frag) (cs : Cs) : Sp := spCell K
theorem ok__law_cell_at (T : Txt w K mg cs)  : Ok P w K mg base CX0 1 cs.f__law_cell_at cs.d__law_cell_at ["_law_script", "_law_k"] (sp__law_cell_at K cs) := by
  refine T.fn__law_cell_at.ok sc__law_cell_at (fun vs H Q E h => ?_) (fun cdv A outer s H vs Q E hr h => ?_)
  · obtain ⟨l, ns, j, rfl, _⟩ := h
    rfl
  · obtain ⟨l, ns, j, rfl, hs, q⟩ := h
    refine ⟨_, (pss_cons (ps_if (pt_cmpR op_lt (pv 1) (pe_callB call_len_seq (by rfl) T.no_len PySem.boot_len (pa_cons (pv 0) pa_nil)) (nomark _)) (pss_one (ps_ret (pe_ix ix_list (pv 0) (pv 1) (fun _ _ => rfl)))) pss_nil)
      (pss_one (ps_ret pe_int))), ?_⟩
    refine ⟨_, rfl, _, rfl, l, _, rfl, .inl hs, _, _, rfl, rfl, _, rfl, iteD (fun c => ?_) (fun c => ?_)⟩
    · have hj : j < ns.length := by
        rw [List.length_map] at c
        omega
      exact ⟨_, rfl, _, rfl, l, _, _, _, rfl, rfl, hs, atI_cell hj, q⟩
    · have hj : ¬ j < ns.length := by
        rw [List.length_map] at c
        omega
      rw [cell_out hj] at q
      exact q
def sp__law_whole (K : PySem.W.Frag) (cs : Cs) : Sp := fun vs H Q _ => ∃ (x : V) (t : String), vs = [x] ∧ TyX K H x (.type t) ∧ t ∈ tyNames ∧ Q (.bl (t == "int")) H
theorem ok__law_whole (T : Txt w K mg cs)  : Ok P w K mg base CX0 1 cs.f__law_whole cs.d__law_whole ["_law_found"] (sp__law_whole K cs) := by
  refine T.fn__law_whole.ok sc__law_whole (fun vs H Q E h => ?_) (fun cdv A outer s H vs Q E hr h => ?_)
  · obtain ⟨x, t, rfl, _⟩ := h
    rfl
  · obtain ⟨x, t, rfl, ty, ht, q⟩ := h
    refine ⟨_, (pss_one (ps_ret (pe_and (pe_callB call_isi (by rfl) T.no_isinstance boot_isinstance (pa_cons (pv 0) (pa_cons (pe_bltn (v := .ty "int") (by rfl) T.no_int boot_int rfl) pa_nil))) (pe_one (pe_not (pe_callB call_isi (by rfl) T.no_isinstance boot_isinstance (pa_cons (pv 0) (pa_cons (pe_bltn (v := .ty "bool") (by rfl) T.no_bool boot_bool rfl) pa_nil)))))))), ?_⟩
    refine ⟨_, rfl, _, _, _, _, _, rfl, .ty "int", ty, kit_int ht, _, rfl, iteB (fun c => ?_) (fun c => ?_)⟩
    · refine ⟨_, rfl, _, _, _, _, _, rfl, .ty "bool", ty, kit_bool ht, _, rfl, ?_⟩
      have e : (!(t == "bool")) = (t == "int") := by
        simp only [tyNames, List.mem_cons, List.not_mem_nil, or_false] at ht
        rcases ht with rfl | rfl | rfl | rfl | rfl | rfl | rfl <;> first | decide | (exfalso; revert c; decide)
      rw [e]
      exact q
    · have e : (t == "int") = false := by
        cases h : (t == "int") with
        | false => rfl
        | true =>
          rw [h] at c
          cases c
      rw [e] at q
      exact q
/-! ### _law_size_by -/
def sizeM (c : Int) : Int := [1 + c / 8 % 9, 1 + c / 8 % 3, 10 + c / 8 % 190, 200].getD ([0, 0, 0, 0, 1, 2, 2, 3].getD (c % 8).toNat (0 : Int)).toNat 0
theorem pick8 (c : Int) : ∃ i : Int, [0, 0, 0, 0, 1, 2, 2, 3].getD (c % 8).toNat (0 : Int) = i ∧ 0 ≤ i ∧ i < 4 := by
  have h0 := Int.emod_nonneg c (show (8 : Int) ≠ 0 by decide)
  have h1 := Int.emod_lt_of_pos c (show (0 : Int) < 8 by decide)
  generalize c % 8 = m at *
  have : m = 0 ∨ m = 1 ∨ m = 2 ∨ m = 3 ∨ m = 4 ∨ m = 5 ∨ m = 6 ∨ m = 7 := by omega
  rcases this with rfl | rfl | rfl | rfl | rfl | rfl | rfl | rfl <;> exact ⟨_, rfl, by decide, by decide⟩
theorem sizeM_ok (c : Int) : 1 ≤ sizeM c ∧ sizeM c ≤ 200 := by
  unfold sizeM
  obtain ⟨i, e, h0, h1⟩ := pick8 c
  rw [e]
  have : i = 0 ∨ i = 1 ∨ i = 2 ∨ i = 3 := by omega
  rcases this with rfl | rfl | rfl | rfl
  · show 1 ≤ 1 + c / 8 % 9 ∧ 1 + c / 8 % 9 ≤ 200
    omega
  · show 1 ≤ 1 + c / 8 % 3 ∧ 1 + c / 8 % 3 ≤ 200
    omega
  · show 1 ≤ 10 + c / 8 % 190 ∧ 10 + c / 8 % 190 ≤ 200
    omega
  · show (1 : Int) ≤ 200 ∧ (200 : Int) ≤ 200
    omega
def sp__law_size_by (K : PySem.W.Frag) (cs : Cs) : Sp := fun vs H Q _ => ∃ c : Int, vs = [.int c] ∧ ∀ H', Same H H' → Q (.int (sizeM c)) H'
theorem ok__law_size_by (T : Txt w K mg cs)  : Ok P w K mg base CX0 1 cs.f__law_size_by cs.d__law_size_by ["_law_cell"] (sp__law_size_by K cs) := by
  refine T.fn__law_size_by.ok sc__law_size_by (fun vs H Q E h => ?_) (fun cdv A outer s H vs Q E hr h => ?_)
  · obtain ⟨c, rfl, _⟩ := h
    rfl
  · obtain ⟨c, rfl, q⟩ := h
    refine ⟨_, (pss_one (ps_ret (pe_ix ix_list (pe_lst (pa_cons (pe_op op_add pe_int (pe_op op_mod (pe_op op_fdiv (pv 0) pe_int) pe_int)) (pa_cons (pe_op op_add pe_int (pe_op op_mod (pe_op op_fdiv (pv 0) pe_int) pe_int)) (pa_cons (pe_op op_add pe_int (pe_op op_mod (pe_op op_fdiv (pv 0) pe_int) pe_int)) (pa_cons pe_int pa_nil))))) (pe_ix ix_list (pe_lst (pa_cons pe_int (pa_cons pe_int (pa_cons pe_int (pa_cons pe_int (pa_cons pe_int (pa_cons pe_int (pa_cons pe_int (pa_cons pe_int pa_nil))))))))) (pe_op op_mod (pv 0) pe_int) (fun _ _ => rfl)) (fun _ _ => rfl)))), ?_⟩
    refine ⟨_, rfl, _, _, rfl, rfl, ⟨by decide, by decide⟩, _, _, rfl, rfl, (by show (0 : Int) < _; decide), _, _, rfl, rfl, _, rfl, _, _, rfl, rfl, ⟨by decide, by decide⟩, _, _, rfl, rfl, (by show (0 : Int) < _; decide), _, _, rfl, rfl, _, rfl, _, _, rfl, rfl, ⟨by decide, by decide⟩, _, _, rfl, rfl, (by show (0 : Int) < _; decide), _, _, rfl, rfl, (by show 4 ≤ sizeLine; decide), fun l1 h1 => ⟨(by show 8 ≤ sizeLine; decide), fun l2 h2 => ?_⟩⟩
    have s1 : Same H (upd H l1 (.lst (([1 + c / 8 % 9, 1 + c / 8 % 3, 10 + c / 8 % 190, 200] : List Int).map V.int))) := Same.new h1
    have s2' : Same (upd H l1 (.lst (([1 + c / 8 % 9, 1 + c / 8 % 3, 10 + c / 8 % 190, 200] : List Int).map V.int))) (upd (upd H l1 (.lst (([1 + c / 8 % 9, 1 + c / 8 % 3, 10 + c / 8 % 190, 200] : List Int).map V.int))) l2 (.lst (([0, 0, 0, 0, 1, 2, 2, 3] : List Int).map V.int))) := Same.new h2
    have hl1 := s2' _ _ (show (upd H l1 (.lst (([1 + c / 8 % 9, 1 + c / 8 % 3, 10 + c / 8 % 190, 200] : List Int).map V.int))) l1 = some (.lst (([1 + c / 8 % 9, 1 + c / 8 % 3, 10 + c / 8 % 190, 200] : List Int).map V.int)) from upd_same)
    obtain ⟨i, e, h0, h1'⟩ := pick8 c
    refine ⟨_, rfl, _, _, rfl, rfl, (by show (0 : Int) < _; decide), l2, _, _, _, rfl, rfl, SqL.of upd_same, mod_at (xs := [0, 0, 0, 0, 1, 2, 2, 3]) c 8 rfl (by decide), ?_⟩
    refine ⟨l1, _, _, _, rfl, rfl, SqL.of hl1, at_getD (xs := [1 + c / 8 % 9, 1 + c / 8 % 3, 10 + c / 8 % 190, 200]) (i := [0, 0, 0, 0, 1, 2, 2, 3].getD (c % ((8 : Nat) : Int)).toNat (0 : Int)) (by show 0 ≤ [0, 0, 0, 0, 1, 2, 2, 3].getD (c % 8).toNat (0 : Int); omega) (by show [0, 0, 0, 0, 1, 2, 2, 3].getD (c % 8).toNat (0 : Int) < 4; omega), ?_⟩
    exact q _ (s1.trans s2')
/-! ### _law_edge, _law_marks, _law_thing_by, _law_fits -/
def edgeM (c last : Int) : Int := [0 - 1, 0, last, last + 1, mixed c % (last + 1), mixed c % (last + 1)].getD (c % 6).toNat 0
def sp__law_edge (K : PySem.W.Frag) (cs : Cs) : Sp := fun vs H Q _ => ∃ c last : Int, vs = [.int c, .int last] ∧ 0 ≤ last ∧ ∀ H', Same H H' → Q (.int (edgeM c last)) H'
theorem ok__law_edge (T : Txt w K mg cs) (o__law_mixed : Ok P w K mg base CX0 1 cs.f__law_mixed cs.d__law_mixed ["_law_cell"] (sp__law_mixed K cs)) : Ok P w K mg base CX0 2 cs.f__law_edge cs.d__law_edge ["_law_cell", "_law_last"] (sp__law_edge K cs) := by
  refine T.fn__law_edge.ok sc__law_edge (fun vs H Q E h => ?_) (fun cdv A outer s H vs Q E hr h => ?_)
  · obtain ⟨c, last, rfl, _⟩ := h
    rfl
  · obtain ⟨c, last, rfl, hl, q⟩ := h
    refine ⟨_, (pss_one (ps_ret (pe_ix ix_list (pe_lst (pa_cons (pe_op op_sub pe_int pe_int) (pa_cons pe_int (pa_cons (pv 1) (pa_cons (pe_op op_add (pv 1) pe_int) (pa_cons (pe_op op_mod (pe_callO o__law_mixed hr (by rfl) T.gl__law_mixed pass0 (pa_cons (pv 0) pa_nil)) (pe_op op_add (pv 1) pe_int)) (pa_cons (pe_op op_mod (pe_callO o__law_mixed hr (by rfl) T.gl__law_mixed pass0 (pa_cons (pv 0) pa_nil)) (pe_op op_add (pv 1) pe_int)) pa_nil))))))) (pe_op op_mod (pv 0) pe_int) (fun _ _ => rfl)))), ?_⟩
    have hp : 0 < last + 1 := by omega
    refine ⟨_, _, rfl, rfl, _, rfl, _, rfl, _, _, rfl, rfl, _, rfl, c, rfl, _, rfl, _, _, rfl, rfl, _, _, rfl, rfl, hp, _, rfl, c, rfl, _, rfl, _, _, rfl, rfl, _, _, rfl, rfl, hp, (by show 6 ≤ sizeLine; decide), fun l1 h1 => ?_⟩
    refine ⟨_, rfl, _, _, rfl, rfl, (by show (0 : Int) < _; decide), l1, _, _, _, rfl, rfl, SqL.of upd_same, mod_at (xs := [0 - 1, 0, last, last + 1, mixed c % (last + 1), mixed c % (last + 1)]) c 6 rfl (by decide), ?_⟩
    exact q _ (Same.new h1)
def nineW : List Str := ["set", "copy", "add", "sub", "fetch", "store", "less", "jump", "tell"]
def nineM : List Str := ["bn", "bb", "bbb", "bbb", "bb", "bb", "bbp", "p", "b"]
def marksM (z : Str) : Str := (partsM z).getD ""
theorem nine_in {z : Str} : inV (.str z) (nineW.map V.str) = (partsM z).isSome := by
  show (([V.str "set", V.str "copy", V.str "add", V.str "sub", V.str "fetch", V.str "store", V.str "less", V.str "jump", V.str "tell"] : List V).any fun y => eqV y (.str z)) = _
  have e : ∀ a : Str, eqV (.str a) (.str z) = decide (z = a) := fun a => by
    show (a == z) = _
    by_cases h : z = a
    · subst h
      simp
    · have : ¬ a = z := fun q => h q.symm
      simp [h, this]
  simp only [List.any_cons, List.any_nil, e]
  unfold partsM
  repeat' split
  all_goals simp [*]
theorem nine_flat : (nineW.map V.str).all flatV = true := rfl
theorem nine_at {z m : Str} (h : partsM z = some m) : ∃ j : Nat, j < 9 ∧ (nineW.map V.str)[j]? = some (.str z) ∧ (∀ (i : Nat) (z' : V), i < j → (nineW.map V.str)[i]? = some z' → eqV z' (.str z) = false) ∧ (nineM.map V.str)[j]? = some (.str m) := by
  unfold partsM at h
  have chk : ∀ (j : Nat) (z : Str), (∀ i, i < j → ∀ z', (nineW.map V.str)[i]? = some z' → eqV z' (.str z) = false) → ∀ (i : Nat) (z' : V), i < j → (nineW.map V.str)[i]? = some z' → eqV z' (.str z) = false := fun j z f i z' h1 h2 => f i h1 z' h2
  split at h
  · rename_i e; cases h; subst e
    exact ⟨0, by decide, rfl, fun i _ hi => absurd hi (Nat.not_lt_zero _), rfl⟩
  split at h
  · rename_i e; cases h; subst e
    refine ⟨1, by decide, rfl, fun i z' hi hz => ?_, rfl⟩
    have hi : i = 0 := by omega
    subst hi
    cases hz
    decide +kernel
  split at h
  · rename_i e; cases h; subst e
    refine ⟨2, by decide, rfl, fun i z' hi hz => ?_, rfl⟩
    have hi : i = 0 ∨ i = 1 := by omega
    rcases hi with rfl | rfl <;> cases hz <;> decide +kernel
  split at h
  · rename_i e; cases h; subst e
    refine ⟨3, by decide, rfl, fun i z' hi hz => ?_, rfl⟩
    have hi : i = 0 ∨ i = 1 ∨ i = 2 := by omega
    rcases hi with rfl | rfl | rfl <;> cases hz <;> decide +kernel
  split at h
  · rename_i e; cases h; subst e
    refine ⟨4, by decide, rfl, fun i z' hi hz => ?_, rfl⟩
    have hi : i = 0 ∨ i = 1 ∨ i = 2 ∨ i = 3 := by omega
    rcases hi with rfl | rfl | rfl | rfl <;> cases hz <;> decide +kernel
  split at h
  · rename_i e; cases h; subst e
    refine ⟨5, by decide, rfl, fun i z' hi hz => ?_, rfl⟩
    have hi : i = 0 ∨ i = 1 ∨ i = 2 ∨ i = 3 ∨ i = 4 := by omega
    rcases hi with rfl | rfl | rfl | rfl | rfl <;> cases hz <;> decide +kernel
  split at h
  · rename_i e; cases h; subst e
    refine ⟨6, by decide, rfl, fun i z' hi hz => ?_, rfl⟩
    have hi : i = 0 ∨ i = 1 ∨ i = 2 ∨ i = 3 ∨ i = 4 ∨ i = 5 := by omega
    rcases hi with rfl | rfl | rfl | rfl | rfl | rfl <;> cases hz <;> decide +kernel
  split at h
  · rename_i e; cases h; subst e
    refine ⟨7, by decide, rfl, fun i z' hi hz => ?_, rfl⟩
    have hi : i = 0 ∨ i = 1 ∨ i = 2 ∨ i = 3 ∨ i = 4 ∨ i = 5 ∨ i = 6 := by omega
    rcases hi with rfl | rfl | rfl | rfl | rfl | rfl | rfl <;> cases hz <;> decide +kernel
  split at h
  · rename_i e; cases h; subst e
    refine ⟨8, by decide, rfl, fun i z' hi hz => ?_, rfl⟩
    have hi : i = 0 ∨ i = 1 ∨ i = 2 ∨ i = 3 ∨ i = 4 ∨ i = 5 ∨ i = 6 ∨ i = 7 := by omega
    rcases hi with rfl | rfl | rfl | rfl | rfl | rfl | rfl | rfl <;> cases hz <;> decide +kernel
  cases h
def sp__law_marks (K : PySem.W.Frag) (cs : Cs) : Sp := fun vs H Q _ => ∃ z : Str, vs = [.str z] ∧ ∀ H', Same H H' → Q (.str (marksM z)) H'
theorem ok__law_marks (T : Txt w K mg cs)  : Ok P w K mg base CX0 1 cs.f__law_marks cs.d__law_marks ["_law_word"] (sp__law_marks K cs) := by
  refine T.fn__law_marks.ok sc__law_marks (fun vs H Q E h => ?_) (fun cdv A outer s H vs Q E hr h => ?_)
  · obtain ⟨z, rfl, _⟩ := h
    rfl
  · obtain ⟨z, rfl, q⟩ := h
    refine ⟨_, (pss_cons (ps_set (i := 1) sc__law_marks.nd rfl (Or.inl rfl) (pe_lst (pa_cons pe_str (pa_cons pe_str (pa_cons pe_str (pa_cons pe_str (pa_cons pe_str (pa_cons pe_str (pa_cons pe_str (pa_cons pe_str (pa_cons pe_str pa_nil)))))))))))
      (pss_cons (ps_if (pt_cmpR op_notIn_seq (pv 0) (pv 1) (by rfl)) (pss_one (ps_ret pe_str)) pss_nil)
      (pss_one (ps_ret (pe_ix ix_list (pe_lst (pa_cons pe_str (pa_cons pe_str (pa_cons pe_str (pa_cons pe_str (pa_cons pe_str (pa_cons pe_str (pa_cons pe_str (pa_cons pe_str (pa_cons pe_str pa_nil)))))))))) (pe_bm PySem.F.plainAttrs_list PySem.F.slot_list_index PySem.F.type_list_index mt_index (pv 1) (pa_cons (pv 0) pa_nil)) (fun _ _ => rfl)))))), ?_⟩
    refine ⟨(by show 9 ≤ sizeLine; decide), fun l hl => ?_⟩
    have s1 : Same H (upd H l (.lst (nineW.map V.str))) := Same.new hl
    have hll : (upd H l (.lst (nineW.map V.str))) l = some (.lst (nineW.map V.str)) := upd_same
    refine ⟨_, rfl, _, rfl, l, _, rfl, .inl (SqL.of hll), rfl, nine_flat, _, rfl, iteB (fun c => ?_) (fun c => ?_)⟩
    · have c2 : (!inV (.str z) (nineW.map V.str)) = true := c
      rw [nine_in] at c2
      have e : marksM z = "" := by
        unfold marksM
        cases h : partsM z with
        | none => rfl
        | some m =>
          rw [h] at c2
          cases c2
      rw [e] at q
      exact q _ s1
    · have c2 : (!inV (.str z) (nineW.map V.str)) = false := c
      rw [nine_in] at c2
      cases h : partsM z with
      | none =>
        rw [h] at c2
        cases c2
      | some m =>
        have e : marksM z = m := by
          unfold marksM
          rw [h]
          rfl
        rw [e] at q
        obtain ⟨j, hj, h1, h2, h3⟩ := nine_at h
        refine ⟨(by show 9 ≤ sizeLine; decide), fun l2 hl2 => ?_⟩
        have s2 : Same (upd H l (.lst (nineW.map V.str))) (upd (upd H l (.lst (nineW.map V.str))) l2 (.lst (nineM.map V.str))) := Same.new hl2
        have ez : eqV (.str z) (.str z) = true := by
          show (z == z) = true
          simp
        refine ⟨_, rfl, .inl ⟨rfl, _, SqL.of (s2 _ _ hll)⟩, _, rfl, l, _, _, j, _, rfl, rfl, SqL.of (s2 _ _ hll), rfl, nine_flat, h1, ez, h2, ?_⟩
        exact ⟨l2, _, _, _, rfl, rfl, SqL.of upd_same, atI_nat h3, q _ (s1.trans s2)⟩
/-! ### things drawn -/
/-- an item of a thing -/
def It (K : PySem.W.Frag) (H : Hp) (v : V) : Prop := Typ K H v ∧ ∃ d, Dp K H v d ∧ Sh 1 d
theorem It.same {K : PySem.W.Frag} {H H' : Hp} {v : V} (h : It K H v) (s : Same H H') : It K H' v := by
  obtain ⟨h1, d, h2, h3⟩ := h
  exact ⟨h1.same s, d, dp_same s _ _ h2, h3⟩
theorem it_int {K : PySem.W.Frag} {H : Hp} (i : Int) : It K H (.int i) := ⟨typ_i i, _, .int i, sh_int i⟩
theorem it_non {K : PySem.W.Frag} {H : Hp} : It K H .non := ⟨typ_n, _, .non, sh_non⟩
theorem it_bl {K : PySem.W.Frag} {H : Hp} (b : Bool) : It K H (.bl b) := ⟨typ_b b, _, .bl b, sh_bool b⟩
theorem it_str {K : PySem.W.Frag} {H : Hp} {z : Str} (h : PyData.strOk z = true) : It K H (.str z) := ⟨typ_s z, _, .str z, sh_str h⟩
theorem it_lst0 {K : PySem.W.Frag} {H : Hp} {a : Addr} (h : H a = some (.lst [.int 0])) : It K H (.ref a) :=
  ⟨typ_l h, _, .lst (SqL.of h) (.cons (.int 0) .nil), sh_list fun d hd => by
    simp only [List.mem_cons, List.not_mem_nil, or_false] at hd
    subst hd
    exact sh_int 0⟩
theorem its_dp {K : PySem.W.Frag} {H : Hp} : ∀ {xs : List V}, (∀ v ∈ xs, It K H v) → ∃ ds, DpAll K H xs ds ∧ ∀ d ∈ ds, Sh 1 d
  | [], _ => ⟨[], .nil, fun d hd => by simp at hd⟩
  | x :: r, h => by
    obtain ⟨_, d, h1, h2⟩ := h x List.mem_cons_self
    obtain ⟨ds, h3, h4⟩ := its_dp (xs := r) fun v hv => h v (List.mem_cons_of_mem _ hv)
    exact ⟨d :: ds, .cons h1 h3, fun e he => (List.mem_cons.mp he).elim (fun z => by rw [z]; exact h2) (h4 e)⟩
/-- a thing, of which == can tell -/
def Drawn (K : PySem.W.Frag) (H : Hp) (x : V) (o : Option (List V)) : Prop := Thing K H x o ∧ ∃ d, Dp K H x d ∧ Sh 2 d
theorem Drawn.same {K : PySem.W.Frag} {H H' : Hp} {x : V} {o : Option (List V)} (h : Drawn K H x o) (s : Same H H') : Drawn K H' x o := by
  obtain ⟨h1, d, h2, h3⟩ := h
  exact ⟨h1.same s, d, dp_same s _ _ h2, h3⟩
theorem drawn_tup {K : PySem.W.Frag} {H : Hp} {a : Addr} {xs : List V} (h : H a = some (.tup xs)) (hi : ∀ v ∈ xs, It K H v) (hl : xs.length ≤ 1000) : Drawn K H (.ref a) (some xs) := by
  obtain ⟨ds, h1, h2⟩ := its_dp hi
  exact ⟨⟨a, rfl, h, fun v hv => (hi v hv).1, hl⟩, _, .tup (SqT.of h) h1, sh_tup h2⟩
theorem drawn_lst {K : PySem.W.Frag} {H : Hp} {a : Addr} {xs : List V} (h : H a = some (.lst xs)) (hi : ∀ v ∈ xs, It K H v) : Drawn K H (.ref a) none := by
  obtain ⟨ds, h1, h2⟩ := its_dp hi
  exact ⟨⟨"list", .base (.lst h), by decide, by decide⟩, _, .lst (SqL.of h) h1, sh_list h2⟩
theorem drawn_it {K : PySem.W.Frag} {H : Hp} {x : V} (h : It K H x) (hn : ∀ t, TyX K H x (.type t) → t ≠ "tuple") : Drawn K H x none := by
  obtain ⟨⟨t, h1, h2⟩, d, h3, h4⟩ := h
  exact ⟨⟨t, h1, h2, hn t h1⟩, d, h3, h4.1, Nat.le_succ_of_le h4.2⟩
/-- the last number that fits a mark -/
def lastM (size count : Int) (c : Nat) : Int := if c = 98 then size - 1 else if c = 110 then 999999 else count
theorem partB_last (c : Nat) (x : V) (size count : Int) : partB c x size count = wIn x 0 (lastM size count c) := by
  unfold partB lastM
  repeat' split
  all_goals rfl
def MarkOk (c : Nat) : Prop := c = 98 ∨ c = 110 ∨ c = 112
theorem occ_bnp {c : Nat} (h : MarkOk c) (size count : Int) : ∃ (i : Nat) (rest : List Nat), Builtin.Str.occurrences ("bnp" : Str) ⟨#[c]⟩ 0 ("bnp" : Str).length 1 = i :: rest ∧ atI [V.int (size - 1), .int 999999, .int count] (i : Int) = some (.int (lastM size count c)) := by
  rcases h with rfl | rfl | rfl
  · exact ⟨0, [], by decide +kernel, rfl⟩
  · exact ⟨1, [], by decide +kernel, rfl⟩
  · exact ⟨2, [], by decide +kernel, rfl⟩
def MarksOk (m : Str) : Prop := m.length ≤ 4 ∧ ∀ c ∈ m.cps.toList, MarkOk c
theorem partsM_marks {z m : Str} (h : partsM z = some m) : 1 ≤ m.length ∧ m.length ≤ 3 ∧ ∀ c ∈ m.cps.toList, MarkOk c := by
  have hb : ∀ c, (c == 98 || c == 110 || c == 112) = true → MarkOk c := by
    intro c hc
    simp only [Bool.or_eq_true, beq_iff_eq] at hc
    rcases hc with (h | h) | h
    · exact .inl h
    · exact .inr (.inl h)
    · exact .inr (.inr h)
  suffices 1 ≤ m.length ∧ m.length ≤ 3 ∧ (m.cps.toList.all fun c => c == 98 || c == 110 || c == 112) = true from
    ⟨this.1, this.2.1, fun c hc => hb c (List.all_eq_true.mp this.2.2 c hc)⟩
  unfold partsM at h
  repeat' split at h
  all_goals (first | (cases h; decide +kernel) | cases h)
theorem marksM_ok (z : Str) : (marksM z).length ≤ 3 ∧ ∀ c ∈ (marksM z).cps.toList, MarkOk c := by
  unfold marksM
  cases h : partsM z with
  | none =>
    have e : ((none : Option Str).getD "").cps.toList = [] := by decide +kernel
    refine ⟨by decide +kernel, fun c hc => ?_⟩
    rw [e] at hc
    cases hc
  | some m => exact ⟨(partsM_marks h).2.1, (partsM_marks h).2.2⟩
theorem cutS_ok {m : Str} {hi : Option Int} (h : m.length ≤ 3 ∧ ∀ c ∈ m.cps.toList, MarkOk c) : MarksOk (cutS m none hi) := by
  have e : (cutS m none hi).cps.toList = m.cps.toList.take (HT.sIx m.length m.length hi - 0) := by
    unfold cutS
    rw [HT.sIx_none]
    rfl
  have el : m.cps.toList.length = m.length := by simp [Str.length]
  have el2 : (cutS m none hi).cps.toList.length = (cutS m none hi).length := by simp [Str.length]
  refine ⟨?_, fun c hc => h.2 c ?_⟩
  · rw [← el2, e, List.length_take]
    omega
  · rw [e] at hc
    exact List.mem_of_mem_take hc
theorem catS_ok {m : Str} (h : m.length ≤ 3 ∧ ∀ c ∈ m.cps.toList, MarkOk c) : MarksOk (m ++ "b") := by
  have e : (m ++ ("b" : Str)).cps.toList = m.cps.toList ++ [98] := by
    have : ("b" : Str).cps = #[98] := by decide +kernel
    show (m.cps ++ ("b" : Str).cps).toList = _
    rw [this]
    simp
  have el : m.cps.toList.length = m.length := by simp [Str.length]
  have el2 : (m ++ ("b" : Str)).cps.toList.length = (m ++ ("b" : Str)).length := by simp [Str.length]
  refine ⟨?_, fun c hc => ?_⟩
  · rw [← el2, e, List.length_append]
    simp only [List.length_cons, List.length_nil]
    omega
  · rw [e] at hc
    rcases List.mem_append.mp hc with q | q
    · exact h.2 c q
    · simp only [List.mem_cons, List.not_mem_nil, or_false] at q
      exact .inl q
def tenW : List Str := ["set", "copy", "add", "sub", "fetch", "store", "less", "jump", "tell", "halt"]
theorem tenW_ok {z : Str} (h : z ∈ tenW) : PyData.strOk z = true := by
  have : tenW.all PyData.strOk = true := by decide +kernel
  exact List.all_eq_true.mp this z h
def sp__law_thing_by (K : PySem.W.Frag) (cs : Cs) : Sp := fun vs H Q _ => ∃ (a : Addr) (ns : List Int) (size count : Int), vs = [.ref a, .int size, .int count] ∧ SqL K H a (ns.map V.int) ∧ ns.length ≤ 63 ∧ 1 ≤ size ∧ 0 ≤ count ∧
  ∀ H' x o, Same H H' → Drawn K H' x o → Q x H'
theorem ok__law_thing_by (T : Txt w K mg cs) (o__law_cell_at : Ok P w K mg base CX0 1 cs.f__law_cell_at cs.d__law_cell_at ["_law_script", "_law_k"] (sp__law_cell_at K cs)) (o__law_marks : Ok P w K mg base CX0 1 cs.f__law_marks cs.d__law_marks ["_law_word"] (sp__law_marks K cs)) (o__law_edge : Ok P w K mg base CX0 2 cs.f__law_edge cs.d__law_edge ["_law_cell", "_law_last"] (sp__law_edge K cs)) : Ok P w K mg base CX0 3 cs.f__law_thing_by cs.d__law_thing_by ["_law_script", "_law_size", "_law_count"] (sp__law_thing_by K cs) := by
  refine T.fn__law_thing_by.ok sc__law_thing_by (fun vs H Q E h => ?_) (fun cdv A outer s H vs Q E hr h => ?_)
  · obtain ⟨a, ns, size, count, rfl, _⟩ := h
    rfl
  · obtain ⟨a, ns, size, count, rfl, hS, hl, hsz, hct, q⟩ := h
    refine ⟨_, (pss_cons (ps_set (i := 3) sc__law_thing_by.nd rfl (Or.inl rfl) (pe_callO o__law_cell_at (hr.mono (by decide)) (by rfl) T.gl__law_cell_at pass0 (pa_cons (pv 0) (pa_cons pe_int pa_nil))))
      (pss_cons (ps_set (i := 4) sc__law_thing_by.nd rfl (Or.inl rfl) (pe_ix ix_list (pe_lst (pa_cons pe_str (pa_cons pe_str (pa_cons pe_str (pa_cons pe_str (pa_cons pe_str (pa_cons pe_str (pa_cons pe_str (pa_cons pe_str (pa_cons pe_str (pa_cons pe_str pa_nil))))))))))) (pe_op op_mod (pv 3) pe_int) (fun _ _ => rfl)))
      (pss_cons (ps_set (i := 5) sc__law_thing_by.nd rfl (Or.inl rfl) (pe_callO o__law_marks (hr.mono (by decide)) (by rfl) T.gl__law_marks pass0 (pa_cons (pv 4) pa_nil)))
      (pss_cutS (ps_if (pt_cmpR op_eq (pe_op op_mod (pe_op op_fdiv (pv 3) pe_int) pe_int) pe_int (nomark _)) (pss_one (ps_set (i := 5) sc__law_thing_by.nd rfl (Or.inl rfl) (pe_slice sl_str (pv 5) po_none (po_some (pe_un un_neg pe_int))))) pss_nil)
      (pss_cutS (ps_if (pt_cmpR op_eq (pe_op op_mod (pe_op op_fdiv (pv 3) pe_int) pe_int) pe_int (nomark _)) (pss_one (ps_set (i := 5) sc__law_thing_by.nd rfl (Or.inl rfl) (pe_op op_add_str (pv 5) pe_str))) pss_nil)
      (pss_cons (ps_set (i := 6) sc__law_thing_by.nd rfl (Or.inl rfl) (pe_lst (pa_cons (pv 4) pa_nil)))
      (pss_cons (ps_for PassesOwn.never rfl (pi_range1 (by rfl) T.no_range (pa_cons (pe_callB call_len_str (by rfl) T.no_len PySem.boot_len (pa_cons (pv 5) pa_nil)) pa_nil)) (pg_name (i := 7) sc__law_thing_by.nd rfl (Or.inl rfl)) (pss_cons (ps_set (i := 8) sc__law_thing_by.nd rfl (Or.inl rfl) (pe_ix ix_list (pe_lst (pa_cons (pe_op op_sub (pv 1) pe_int) (pa_cons pe_int (pa_cons (pv 2) pa_nil)))) (pe_m1 PySem.F.slot_str_index PySem.F.type_str_index mt_sindex pe_str (pe_ix ix_str (pv 5) (pv 7) (fun _ _ => rfl))) (fun _ _ => rfl)))
      (pss_one (ps_expr (pe_bm PySem.F.plainAttrs_list PySem.F.slot_list_append PySem.F.type_list_append mt_append (pv 6) (pa_cons (pe_callO o__law_edge hr (by rfl) T.gl__law_edge pass0 (pa_cons (pe_callO o__law_cell_at (hr.mono (by decide)) (by rfl) T.gl__law_cell_at pass0 (pa_cons (pv 0) (pa_cons (pe_op op_add pe_int (pv 7)) pa_nil))) (pa_cons (pv 8) pa_nil))) pa_nil))))))
      (pss_cons (ps_set (i := 9) sc__law_thing_by.nd rfl (Or.inl rfl) (pe_op op_mod (pe_op op_fdiv (pv 3) pe_int) pe_int))
      (pss_cutS (ps_if (pt_jn (PW.pt (pw_and (pt_cmpR op_in_seq (pv 9) (pe_tup (pa_cons pe_int (pa_cons pe_int pa_nil))) (by rfl)) (pw_and1 (pt_cmpR op_gt (pe_callB call_len_seq (by rfl) T.no_len PySem.boot_len (pa_cons (pv 6) pa_nil)) pe_int (nomark _)))))) (pss_one (ps_asg (pe_ix ix_list (pe_lst (pa_cons pe_bl (pa_cons pe_str (pa_cons (pe_lst (pa_cons pe_int pa_nil)) (pa_cons pe_non pa_nil))))) (pe_op op_mod (pe_callO o__law_cell_at (hr.mono (by decide)) (by rfl) T.gl__law_cell_at pass0 (pa_cons (pv 0) (pa_cons pe_int pa_nil))) pe_int) (fun _ _ => rfl)) (pg_sub (pv 6) (pe_op op_add pe_int (pe_op op_mod (pe_op op_fdiv (pv 3) pe_int) (pe_op op_sub (pe_callB call_len_seq (by rfl) T.no_len PySem.boot_len (pa_cons (pv 6) pa_nil)) pe_int))) set_list))) pss_nil)
      (pss_cons (ps_if (pt_cmpR op_eq (pv 9) pe_int (nomark _)) (pss_one (ps_ret (pe_ix ix_list (pe_lst (pa_cons (pv 6) (pa_cons (pe_tup (pa_cons pe_int (pa_cons pe_int pa_nil))) (pa_cons (pe_tup pa_nil) (pa_cons pe_non (pa_cons (pv 4) (pa_cons (pe_tup (pa_cons pe_non (pa_cons pe_int pa_nil))) pa_nil))))))) (pe_op op_mod (pe_op op_fdiv (pv 3) pe_int) pe_int) (fun _ _ => rfl)))) pss_nil)
      (pss_one (ps_ret (pe_callTy call_tuple_of (by rfl) T.no_tuple boot_tuple (pa_cons (pv 6) pa_nil)))))))))))))), ?_⟩
    -- first, word, marks
    refine ⟨_, rfl, a, ns, 2, rfl, hS, ?_⟩
    generalize cellOf ns 2 = f
    refine ⟨(by show 10 ≤ sizeLine; decide), fun l1 h1 => ?_⟩
    have s1 : Same H (upd H l1 (.lst (tenW.map V.str))) := Same.new h1
    have h10a := Int.emod_nonneg f (show (10 : Int) ≠ 0 by decide)
    have h10b := Int.emod_lt_of_pos f (show (0 : Int) < 10 by decide)
    obtain ⟨wd, hwd⟩ : ∃ wd, tenW[(f % 10).toNat]? = some wd := ⟨tenW[(f % 10).toNat]'(by show _ < 10; omega), List.getElem?_eq_getElem _⟩
    have hok := tenW_ok (List.mem_of_getElem? hwd)
    refine ⟨_, rfl, _, _, rfl, rfl, (by show (0 : Int) < _; decide), l1, _, _, _, rfl, rfl, SqL.of upd_same, at_of (j := (f % 10).toNat) (by omega) (nl_get_map (f := V.str) hwd), ?_⟩
    refine ⟨_, rfl, wd, rfl, fun H2 s2' => ?_⟩
    have s2 := s1.trans s2'
    have hm0 := marksM_ok wd
    generalize marksM wd = m0 at hm0
    -- the marks turned
    refine ⟨fun σ' H3 => ∃ m1, σ' = [some (.ref a), some (.int size), some (.int count), some (.int f), some (.str wd), some (.str m1), none, none, none, none] ∧ H3 = H2 ∧ (m1 = m0 ∨ ∃ hi, m1 = cutS m0 none hi) ∧ (f / 10 % 6 = 1 ∨ m1 = m0), ?_, ?_⟩
    · refine ⟨_, rfl, _, _, rfl, rfl, ⟨by decide, by decide⟩, _, _, rfl, rfl, (by show (0 : Int) < _; decide), rfl, _, rfl, iteD (fun c => ?_) (fun c => ?_)⟩
      · refine ⟨_, rfl, _, rfl, _, rfl, m0, rfl, Nat.le_trans hm0.1 (by decide), ?_⟩
        exact ⟨_, rfl, rfl, .inr ⟨_, rfl⟩, .inl (V.int.inj c)⟩
      · exact ⟨m0, rfl, rfl, .inl rfl, .inr rfl⟩
    rintro σ' H3 ⟨m1, rfl, rfl, hm1, hf1⟩
    refine ⟨fun σ' H4 => ∃ m2, σ' = [some (.ref a), some (.int size), some (.int count), some (.int f), some (.str wd), some (.str m2), none, none, none, none] ∧ H4 = H3 ∧ MarksOk m2, ?_, ?_⟩
    · refine ⟨_, rfl, _, _, rfl, rfl, ⟨by decide, by decide⟩, _, _, rfl, rfl, (by show (0 : Int) < _; decide), rfl, _, rfl, iteD (fun c => ?_) (fun c => ?_)⟩
      · have c' := V.int.inj c
        have e : m1 = m0 := by
          rcases hf1 with z | z
          · omega
          · exact z
        subst e
        have hcat := catS_ok hm0
        refine ⟨_, rfl, m1, "b", rfl, rfl, ?_, ?_⟩
        · have : ("b" : Str).length = 1 := by decide +kernel
          rw [this]
          exact Nat.le_trans (Nat.succ_le_succ hm0.1) (by decide)
        · exact ⟨_, rfl, rfl, hcat⟩
      · refine ⟨m1, rfl, rfl, ?_⟩
        rcases hm1 with rfl | ⟨hi, rfl⟩
        · exact ⟨by omega, hm0.2⟩
        · exact cutS_ok hm0
    rintro σ' H4 ⟨m, rfl, rfl, hm⟩
    -- parts = [word]
    refine ⟨_, rfl, (by show 1 ≤ sizeLine; decide), fun pl npl => ?_⟩
    have npl0 : H pl = none := s2.free npl
    have s3 := s2.trans (Same.new (o := .lst [V.str wd]) npl)
    have el : m.cps.toList.length = m.length := by simp [Str.length]
    refine ⟨_, rfl, m, rfl, Nat.le_of_lt (sizeL (by have := hm.1; omega)), (m.length : Int), rfl, by omega, by have := hm.1; omega, ?_⟩
    have e0 : ((m.length : Int)).toNat = m.cps.toList.length := by rw [el]; rfl
    rw [e0]
    refine for_range (lo := 0) (n := m.cps.toList.length) (fun i σ H5 => ∃ (v7 v8 : Option V) (is : List Int), σ = [some (.ref a), some (.int size), some (.int count), some (.int f), some (.str wd), some (.str m), some (.ref pl), v7, v8, none] ∧ Same H H5 ∧ H5 pl = some (.lst (V.str wd :: is.map V.int)) ∧ is.length = i) ?_ ?_ ?_
    · exact ⟨none, none, [], rfl, s3, upd_same, rfl⟩
    · rintro i σ H5 hi ⟨v7, v8, is, rfl, s5, hp5, hxl⟩
      have hzi : (0 : Int) + (i : Int) = ((i : Nat) : Int) := Int.zero_add _
      obtain ⟨c, hc⟩ : ∃ c, m.cps.toList[i]? = some c := ⟨m.cps.toList[i], List.getElem?_eq_getElem hi⟩
      have hcm := hm.2 c (List.mem_of_getElem? hc)
      obtain ⟨j, rest, ho, hat⟩ := occ_bnp hcm size count
      have hl0 : 0 ≤ lastM size count c := by
        unfold lastM
        repeat' split
        all_goals omega
      refine ⟨_, rfl, _, _, rfl, rfl, _, rfl, (by show 3 ≤ sizeLine; decide), fun l6 h6 => ?_⟩
      have s6 : Same H5 (upd H5 l6 (.lst [.int (size - 1), .int 999999, .int count])) := Same.new h6
      refine ⟨⟨_, rfl⟩, _, rfl, _, rfl, m, _, c, rfl, rfl, Nat.le_of_lt (sizeL (by have := hm.1; omega)), at_ofG hzi hc, _, _, j, rest, rfl, rfl, ho, l6, _, _, _, rfl, rfl, SqL.of upd_same, hat, ?_⟩
      refine ⟨_, rfl, .inl ⟨rfl, _, SqL.of (s6 _ _ hp5)⟩, _, rfl, _, rfl, _, _, rfl, rfl, a, ns, 3 + i, congrArg (fun z => [V.ref a, V.int z]) (show (3 : Int) + (0 + (i : Int)) = ((3 + i : Nat) : Int) by omega), (s5.trans s6).seq hS, _, rfl, _, _, rfl, hl0, fun H7 s7' => ?_⟩
      have s7 := s6.trans s7'
      refine ⟨pl, _, _, rfl, rfl, s7 _ _ hp5, sizeL (by rw [List.length_cons, List.length_map]; have := hm.1; omega), ?_⟩
      refine ⟨_, _, is ++ [edgeM (cellOf ns (3 + i)) (lastM size count c)], rfl, (s5.trans s7).mut npl0, ?_, by rw [List.length_append, hxl]; rfl⟩
      rw [upd_same, List.map_append]
      rfl
    · rintro σ H5 ⟨v7, v8, is, rfl, s5, hp5, hxl⟩
      have hml := hm.1
      -- odd
      refine ⟨_, rfl, _, _, rfl, rfl, ⟨by decide, by decide⟩, _, _, rfl, rfl, (by show (0 : Int) < _; decide), ?_⟩
      -- an item turned
      refine ⟨fun σ' H6 => ∃ (v7 v8 : Option V) (ys : List V), σ' = [some (.ref a), some (.int size), some (.int count), some (.int f), some (.str wd), some (.str m), some (.ref pl), v7, v8, some (.int (f / 60 % 16))] ∧ Same H H6 ∧ H6 pl = some (.lst ys) ∧ (∀ v ∈ ys, It K H6 v) ∧ ys.length ≤ 5, ?_, ?_⟩
      · refine ⟨fun b H6 => Same H5 H6 ∧ (b = true → 0 < is.length), ?_, ?_⟩
        · refine ⟨_, rfl, (by show 2 ≤ sizeLine; decide), fun t6 nt6 => ?_⟩
          have st : Same H5 (upd H5 t6 (.tup [.int 1, .int 2])) := Same.new nt6
          refine ⟨_, _, rfl, .inr (SqT.of upd_same), rfl, rfl, _, rfl, iteB (fun _ => ?_) (fun _ => ?_)⟩
          · refine ⟨_, rfl, pl, _, rfl, .inl (SqL.of (st _ _ hp5)), _, _, rfl, rfl, _, rfl, st, fun hb => ?_⟩
            have := of_decide_eq_true hb
            rw [List.length_cons, List.length_map] at this
            omega
          · exact ⟨st, fun z => nomatch z⟩
        rintro b H6 ⟨s6, hb⟩
        refine iteB (fun c => ?_) (fun c => ?_)
        · have hpos := hb c
          have hp6 := s6 _ _ hp5
          have s6a := s5.trans s6
          refine ⟨(by show 1 ≤ sizeLine; decide), fun l7 h7 => ?_⟩
          have s7a : Same H6 (upd H6 l7 (.lst [.int 0])) := Same.new h7
          refine ⟨(by show 4 ≤ sizeLine; decide), fun l8 h8 => ?_⟩
          have s8a : Same (upd H6 l7 (.lst [.int 0])) (upd (upd H6 l7 (.lst [.int 0])) l8 (.lst [.bl true, .str "0", .ref l7, .non])) := Same.new h8
          have s8 := s7a.trans s8a
          have n7 : l7 ≠ pl := fun e => by
            rw [e, hp6] at h7
            cases h7
          have hl7 := s8a _ _ (show (upd H6 l7 (.lst [.int 0])) l7 = some (.lst [.int 0]) from upd_same)
          refine ⟨_, rfl, a, ns, 8, rfl, (s6a.trans s8).seq hS, _, _, rfl, rfl, (by show (0 : Int) < _; decide), ?_⟩
          obtain ⟨nv, hnv, hni⟩ : ∃ nv, atI [V.bl true, .str "0", .ref l7, .non] (cellOf ns 8 % 4) = some nv ∧ ∀ H' : Hp, H' l7 = some (.lst [.int 0]) → It K H' nv := by
            rcases mod4 (cellOf ns 8) with e | e | e | e <;> rw [e]
            · exact ⟨_, rfl, fun _ _ => it_bl true⟩
            · exact ⟨_, rfl, fun _ _ => it_str (by decide +kernel)⟩
            · exact ⟨_, rfl, fun _ z => it_lst0 z⟩
            · exact ⟨_, rfl, fun _ _ => it_non⟩
          refine ⟨l8, _, _, _, rfl, rfl, SqL.of upd_same, hnv, ?_⟩
          generalize upd (upd H6 l7 (.lst [.int 0])) l8 (.lst [.bl true, .str "0", .ref l7, .non]) = H8 at *
          have hp8 := s8 _ _ hp6
          have elen : (((V.str wd :: is.map V.int).length : Nat) : Int) - 1 = (is.length : Int) := by rw [List.length_cons, List.length_map]; omega
          refine ⟨_, rfl, _, rfl, _, _, rfl, rfl, ⟨by decide, by decide⟩, _, rfl, pl, _, rfl, .inl (SqL.of hp8), _, _, rfl, rfl, _, _, rfl, rfl, (by rw [elen]; omega), _, _, rfl, rfl, ?_⟩
          rw [elen]
          have hnn := Int.emod_nonneg (f / 960) (show (is.length : Int) ≠ 0 by omega)
          have hlt := Int.emod_lt_of_pos (f / 960) (show 0 < (is.length : Int) by omega)
          obtain ⟨j, hj⟩ : ∃ j : Nat, 1 + f / 960 % (is.length : Int) = (j : Int) := ⟨(1 + f / 960 % (is.length : Int)).toNat, by omega⟩
          have hjl : j < (V.str wd :: is.map V.int).length := by rw [List.length_cons, List.length_map]; omega
          refine ⟨pl, _, _, j, rfl, rfl, hp8, (by rw [hj]; exact ix_nat hjl), ?_⟩
          refine ⟨_, _, _, rfl, (s6a.trans s8).mut npl0, upd_same, fun v hv => ?_, by rw [List.length_set, List.length_cons, List.length_map]; omega⟩
          rcases List.mem_or_eq_of_mem_set hv with q' | rfl
          · rcases List.mem_cons.mp q' with rfl | q'
            · exact it_str hok
            · obtain ⟨i, _, rfl⟩ := List.mem_map.mp q'
              exact it_int i
          · exact hni _ (by rw [upd_ne n7]; exact hl7)
        · refine ⟨_, _, _, rfl, s5.trans s6, s6 _ _ hp5, fun v hv => ?_, by rw [List.length_cons, List.length_map]; omega⟩
          rcases List.mem_cons.mp hv with rfl | q'
          · exact it_str hok
          · obtain ⟨i, _, rfl⟩ := List.mem_map.mp q'
            exact it_int i
      rintro σ' H6 ⟨w7, w8, ys, rfl, s6, hp6, hit, hyl⟩
      refine ⟨_, rfl, rfl, _, rfl, iteD (fun _ => ?_) (fun _ => ?_)⟩
      · -- another kind of thing
        refine ⟨_, rfl, (by show 2 ≤ sizeLine; decide), fun t1 nt1 => ⟨(by show 0 ≤ sizeLine; decide), fun t2 nt2 => ⟨_, rfl, (by show 2 ≤ sizeLine; decide), fun t3 nt3 => ?_⟩⟩⟩
        have z1 : Same H6 (upd H6 t1 (.tup [.int 1, .int 0])) := Same.new nt1
        have z2 : Same (upd H6 t1 (.tup [.int 1, .int 0])) (upd (upd H6 t1 (.tup [.int 1, .int 0])) t2 (.tup [])) := Same.new nt2
        have z3 : Same (upd (upd H6 t1 (.tup [.int 1, .int 0])) t2 (.tup [])) (upd (upd (upd H6 t1 (.tup [.int 1, .int 0])) t2 (.tup [])) t3 (.tup [.non, .int 0])) := Same.new nt3
        have g1 := (z2.trans z3) _ _ (show (upd H6 t1 (.tup [.int 1, .int 0])) t1 = some (.tup [.int 1, .int 0]) from upd_same)
        have g2 := z3 _ _ (show (upd (upd H6 t1 (.tup [.int 1, .int 0])) t2 (.tup [])) t2 = some (.tup []) from upd_same)
        have g3 : (upd (upd (upd H6 t1 (.tup [.int 1, .int 0])) t2 (.tup [])) t3 (.tup [.non, .int 0])) t3 = some (.tup [.non, .int 0]) := upd_same
        have z := (z1.trans z2).trans z3
        generalize upd (upd (upd H6 t1 (.tup [.int 1, .int 0])) t2 (.tup [])) t3 (.tup [.non, .int 0]) = H9 at *
        refine ⟨(by show 6 ≤ sizeLine; decide), fun l9 h9 => ?_⟩
        have z9 : Same H9 (upd H9 l9 (.lst [.ref pl, .ref t1, .ref t2, .non, .str wd, .ref t3])) := Same.new h9
        have zz := z.trans z9
        obtain ⟨x, o, hx, hd⟩ : ∃ x o, atI [V.ref pl, .ref t1, .ref t2, .non, .str wd, .ref t3] (f / 960 % 6) = some x ∧ Drawn K (upd H9 l9 (.lst [.ref pl, .ref t1, .ref t2, .non, .str wd, .ref t3])) x o := by
          have : f / 960 % 6 = 0 ∨ f / 960 % 6 = 1 ∨ f / 960 % 6 = 2 ∨ f / 960 % 6 = 3 ∨ f / 960 % 6 = 4 ∨ f / 960 % 6 = 5 := by omega
          rcases this with e | e | e | e | e | e <;> rw [e]
          · exact ⟨_, _, rfl, drawn_lst (zz _ _ hp6) fun v hv => (hit v hv).same zz⟩
          · refine ⟨_, _, rfl, drawn_tup (z9 _ _ g1) (fun v hv => ?_) (by decide)⟩
            simp only [List.mem_cons, List.not_mem_nil, or_false] at hv
            rcases hv with rfl | rfl <;> exact it_int _
          · exact ⟨_, _, rfl, drawn_tup (z9 _ _ g2) (fun v hv => by cases hv) (by decide)⟩
          · exact ⟨_, none, rfl, drawn_it it_non fun t ht => by cases ht with | base b => cases b; decide⟩
          · exact ⟨_, none, rfl, drawn_it (it_str hok) fun t ht => by rw [Value.type.inj (ty_of_str ht)]; decide⟩
          · refine ⟨_, _, rfl, drawn_tup (z9 _ _ g3) (fun v hv => ?_) (by decide)⟩
            simp only [List.mem_cons, List.not_mem_nil, or_false] at hv
            rcases hv with rfl | rfl
            · exact it_non
            · exact it_int _
        refine ⟨_, rfl, _, _, rfl, rfl, ⟨by decide, by decide⟩, _, _, rfl, rfl, (by show (0 : Int) < _; decide), l9, _, _, _, rfl, rfl, SqL.of upd_same, hx, ?_⟩
        exact q _ _ _ (s6.trans zz) hd
      · exact ⟨_, rfl, pl, ys, rfl, .inl ⟨SqL.of hp6, fun p np => q _ _ (some ys) (s6.trans (Same.new np)) (drawn_tup upd_same (fun v hv => (hit v hv).same (Same.new np)) (by omega))⟩⟩
/-! ### _law_fits -/
theorem marksM_none {z : Str} (h : partsM z = none) : marksM z = "" := by
  unfold marksM
  rw [h]
  rfl
theorem marksM_some {z m : Str} (h : partsM z = some m) : marksM z = m := by
  unfold marksM
  rw [h]
  rfl
theorem str_len_ne {m : Str} (h : 1 ≤ m.length) : ¬ (V.str m = V.str "") := fun z => by
  have e := V.str.inj z
  rw [e] at h
  revert h
  decide +kernel
def sp__law_fits (K : PySem.W.Frag) (cs : Cs) : Sp := fun vs H Q _ => ∃ (x : V) (o : Option (List V)) (size count : Int), vs = [x, .int size, .int count] ∧ Thing K H x o ∧ ∀ H', Same H H' → Q (.bl (fitsO size count o)) H'
theorem ok__law_fits (T : Txt w K mg cs) (o__law_marks : Ok P w K mg base CX0 1 cs.f__law_marks cs.d__law_marks ["_law_word"] (sp__law_marks K cs)) (o__law_whole : Ok P w K mg base CX0 1 cs.f__law_whole cs.d__law_whole ["_law_found"] (sp__law_whole K cs)) : Ok P w K mg base CX0 2 cs.f__law_fits cs.d__law_fits ["_law_row", "_law_size", "_law_count"] (sp__law_fits K cs) := by
  refine T.fn__law_fits.ok sc__law_fits (fun vs H Q E h => ?_) (fun cdv A outer s H vs Q E hr h => ?_)
  · obtain ⟨x, o, size, count, rfl, _⟩ := h
    rfl
  · obtain ⟨x, o, size, count, rfl, hx, q⟩ := h
    refine ⟨_, (pss_cons (ps_if (pt_jn (PW.pt (pw_or (pt_not (pt_val (pe_callB call_isi (by rfl) T.no_isinstance boot_isinstance (pa_cons (pv 0) (pa_cons (pe_bltn (v := .ty "tuple") (by rfl) T.no_tuple boot_tuple rfl) pa_nil))))) (pw_or (pt_cmpR op_eq (pe_callB call_len_seq (by rfl) T.no_len PySem.boot_len (pa_cons (pv 0) pa_nil)) pe_int (nomark _)) (pw_or1 (pt_not (pt_val (pe_callB call_isi (by rfl) T.no_isinstance boot_isinstance (pa_cons (pe_ix ix_tup (pv 0) pe_int (fun _ _ => rfl)) (pa_cons (pe_bltn (v := .ty "str") (by rfl) T.no_str boot_str rfl) pa_nil)))))))))) (pss_one (ps_ret pe_bl)) pss_nil)
      (pss_cons (ps_set (i := 3) sc__law_fits.nd rfl (Or.inl rfl) (pe_callO o__law_marks hr (by rfl) T.gl__law_marks pass0 (pa_cons (pe_ix ix_tup (pv 0) pe_int (fun _ _ => rfl)) pa_nil)))
      (pss_cons (ps_if (pt_jn (PW.pt (pw_or (pt_cmpR op_eq (pv 3) pe_str (nomark _)) (pw_or1 (pt_cmpR op_ne (pe_callB call_len_seq (by rfl) T.no_len PySem.boot_len (pa_cons (pv 0) pa_nil)) (pe_op op_add pe_int (pe_callB call_len_str (by rfl) T.no_len PySem.boot_len (pa_cons (pv 3) pa_nil))) (nomark _)))))) (pss_one (ps_ret pe_bl)) pss_nil)
      (pss_cons (ps_for PassesOwn.never rfl (pi_range1 (by rfl) T.no_range (pa_cons (pe_callB call_len_str (by rfl) T.no_len PySem.boot_len (pa_cons (pv 3) pa_nil)) pa_nil)) (pg_name (i := 4) sc__law_fits.nd rfl (Or.inl rfl)) (pss_cons (ps_set (i := 5) sc__law_fits.nd rfl (Or.inl rfl) (pe_ix ix_list (pe_lst (pa_cons (pe_op op_sub (pv 1) pe_int) (pa_cons pe_int (pa_cons (pv 2) pa_nil)))) (pe_m1 PySem.F.slot_str_index PySem.F.type_str_index mt_sindex pe_str (pe_ix ix_str (pv 3) (pv 4) (fun _ _ => rfl))) (fun _ _ => rfl)))
      (pss_one (ps_if (pt_jn (PW.pt (pw_or (pt_not (pt_val (pe_callO o__law_whole hr (by rfl) T.gl__law_whole pass0 (pa_cons (pe_ix ix_tup (pv 0) (pe_op op_add pe_int (pv 4)) (fun _ _ => rfl)) pa_nil)))) (pw_or1 (pt_not (pt_chain op_le op_le pe_int (pe_ix ix_tup (pv 0) (pe_op op_add pe_int (pv 4)) (fun _ _ => rfl)) (pv 5))))))) (pss_one (ps_ret pe_bl)) pss_nil))))
      (pss_one (ps_ret pe_bl)))))), ?_⟩
    cases o with
    | none =>
      obtain ⟨t, ty, ht, hn⟩ := hx
      refine ⟨fun b H' => b = true ∧ H' = H, ?_, ?_⟩
      · refine ⟨_, rfl, _, _, _, _, _, rfl, .ty "tuple", ty, kit_tup ht, _, rfl, iteBN (fun _ => ⟨rfl, rfl⟩) (fun c => absurd (by simpa using c) hn)⟩
      · rintro b H' ⟨rfl, rfl⟩
        exact iteT (q _ (Same.refl _))
    | some xs =>
      obtain ⟨a, rfl, ha, hty, hl⟩ := hx
      have hT : SqT K H a xs := SqT.of ha
      cases xs with
      | nil =>
        refine ⟨fun b H' => b = true ∧ H' = H, ?_, ?_⟩
        · refine ⟨_, rfl, _, _, _, _, _, rfl, .ty "tuple", .base (.tup ha), kit_ty (r := true) (by decide +kernel), _, rfl, iteF ?_⟩
          exact ⟨_, rfl, a, _, rfl, .inr hT, rfl, _, rfl, iteT ⟨rfl, rfl⟩⟩
        · rintro b H' ⟨rfl, rfl⟩
          exact iteT (q _ (Same.refl _))
      | cons v r =>
        obtain ⟨t, ty, ht⟩ := hty v List.mem_cons_self
        have hne : ¬ (V.int (((v :: r).length : Nat) : Int) = V.int 0) := fun z => by
          have := V.int.inj z
          simp only [List.length_cons] at this
          omega
        refine ⟨fun b H' => b = !(t == "str") ∧ H' = H, ?_, ?_⟩
        · refine ⟨_, rfl, _, _, _, _, _, rfl, .ty "tuple", .base (.tup ha), kit_ty (r := true) (by decide +kernel), _, rfl, iteF ?_⟩
          refine ⟨_, rfl, a, _, rfl, .inr hT, rfl, _, rfl, iteD (fun c => absurd c hne) (fun _ => ?_)⟩
          exact ⟨_, rfl, a, _, _, _, rfl, rfl, hT, at_of (j := 0) rfl rfl, _, _, _, _, _, rfl, .ty "str", ty, kit_str ht, _, rfl, rfl, rfl⟩
        rintro b H' ⟨rfl, rfl⟩
        refine iteBN (fun c => ?_) (fun c => ?_)
        · have e : fitsO size count (some (v :: r)) = false := by
            cases v with
            | str z =>
              have := Value.type.inj (ty_of_str ty)
              rw [this] at c
              exact absurd c (by decide)
            | _ => rfl
          rw [e] at q
          exact q _ (Same.refl _)
        have e : t = "str" := by simpa using c
        subst e
        obtain ⟨z, rfl⟩ := typ_str ty
        refine ⟨_, rfl, a, _, _, _, rfl, rfl, hT, at_of (j := 0) rfl rfl, z, rfl, fun H2 s2 => ?_⟩
        have ha2 := s2 _ _ ha
        have hT2 : SqT K H2 a (V.str z :: r) := SqT.of ha2
        cases hm : partsM z with
        | none =>
          have e : fitsO size count (some (V.str z :: r)) = false := by
            show (match partsM z with | none => false | some m => partsFit size count m.cps.toList r) = false
            rw [hm]
          rw [e] at q
          rw [marksM_none hm]
          refine ⟨fun b H3 => b = true ∧ H3 = H2, ⟨_, rfl, rfl, _, rfl, iteD (fun _ => ⟨rfl, rfl⟩) (fun z => absurd rfl z)⟩, ?_⟩
          rintro b H3 ⟨rfl, rfl⟩
          exact iteT (q _ s2)
        | some m =>
          have em := partsM_small hm
          have emk := partsM_marks hm
          rw [marksM_some hm]
          have e : fitsO size count (some (V.str z :: r)) = partsFit size count m.cps.toList r := by
            show (match partsM z with | none => false | some m => partsFit size count m.cps.toList r) = _
            rw [hm]
          rw [e] at q
          have eml : m.length = m.cps.toList.length := by simp [Str.length]
          refine ⟨fun b H3 => b = !decide (m.cps.toList.length = r.length) ∧ H3 = H2, ⟨_, rfl, rfl, _, rfl, iteD (fun z => absurd z (str_len_ne emk.1)) (fun _ => ?_)⟩, ?_⟩
          · refine ⟨_, rfl, a, _, rfl, .inr hT2, _, rfl, m, rfl, by omega, _, _, rfl, rfl, rfl, _, rfl, ?_, rfl⟩
            show (!decide (V.int (((V.str z :: r).length : Nat) : Int) = V.int (1 + (m.length : Int)))) = _
            congr 1
            apply decide_eq_decide.mpr
            rw [V.int.injEq, List.length_cons, eml]
            omega
          rintro b H3 ⟨rfl, rfl⟩
          refine iteN (fun c => ?_) (fun c => ?_)
          · rw [partsFit_len c] at q
            exact q _ s2
          refine ⟨_, rfl, m, rfl, by omega, (m.length : Int), rfl, by omega, by omega, ?_⟩
          have e0 : ((m.length : Int)).toNat = m.cps.toList.length := by rw [eml]; rfl
          rw [e0]
          refine for_range (lo := 0) (n := m.cps.toList.length) (fun i σ H4 => ∃ v4 v5, σ = [some (.ref a), some (.int size), some (.int count), some (.str m), v4, v5] ∧ Same H3 H4 ∧ ∀ (j : Nat) (c : Nat) (x : V), j < i → m.cps.toList[j]? = some c → r[j]? = some x → partB c x size count = true) ⟨none, none, rfl, Same.refl _, fun j _ _ hj => absurd hj (Nat.not_lt_zero _)⟩ ?_ ?_
          · rintro i σ H4 hi ⟨v4, v5, rfl, s4, hall⟩
            have hzi : (0 : Int) + (i : Int) = ((i : Nat) : Int) := Int.zero_add _
            obtain ⟨c1, hc1⟩ : ∃ c1, m.cps.toList[i]? = some c1 := ⟨m.cps.toList[i], List.getElem?_eq_getElem hi⟩
            obtain ⟨x, hx⟩ : ∃ x, r[i]? = some x := ⟨r[i]'(by omega), List.getElem?_eq_getElem _⟩
            have hx1 : (V.str z :: r)[i + 1]? = some x := hx
            obtain ⟨j, rest, ho, hat⟩ := occ_bnp (emk.2.2 c1 (List.mem_of_getElem? hc1)) size count
            obtain ⟨tx, tyx, htx⟩ := hty x (List.mem_cons_of_mem _ (List.mem_of_getElem? hx))
            have hp := partB_last c1 x size count
            refine ⟨_, rfl, _, _, rfl, rfl, _, rfl, (by show 3 ≤ sizeLine; decide), fun l6 h6 => ?_⟩
            have s6 : Same H4 (upd H4 l6 (.lst [.int (size - 1), .int 999999, .int count])) := Same.new h6
            refine ⟨⟨_, rfl⟩, _, rfl, _, rfl, m, _, c1, rfl, rfl, by omega, at_ofG hzi hc1, _, _, j, rest, rfl, rfl, ho, l6, _, _, _, rfl, rfl, SqL.of upd_same, hat, ?_⟩
            have s7 := (s2.trans s4).trans s6
            have hT7 : SqT K (upd H4 l6 (.lst [.int (size - 1), .int 999999, .int count])) a (V.str z :: r) := SqT.of (s7 _ _ ha)
            have tyx7 := tyx.same s7
            have hat1 : ∀ k : Int, k = ((i + 1 : Nat) : Int) → atI (V.str z :: r) k = some x := fun k hk => at_of hk hx1
            refine ⟨fun b H5 => b = !partB c1 x size count ∧ H5 = upd H4 l6 (.lst [.int (size - 1), .int 999999, .int count]), ?_, ?_⟩
            · refine ⟨_, rfl, _, rfl, _, _, rfl, rfl, a, _, _, _, rfl, rfl, hT7, hat1 _ (by omega), _, _, rfl, tyx7, htx, _, rfl, iteBN (fun c2 => ?_) (fun c2 => ?_)⟩
              · refine ⟨?_, rfl⟩
                rw [hp, wIn_not tyx (fun e => by rw [e] at c2; revert c2; decide)]
                rfl
              · have e : tx = "int" := by simpa using c2
                subst e
                obtain ⟨n, rfl⟩ := typ_int tyx
                have ew : ∀ lo hi : Int, wIn (.int n) lo hi = (decide (lo ≤ n) && decide (n ≤ hi)) := fun _ _ => rfl
                refine ⟨_, rfl, _, rfl, _, _, rfl, rfl, a, _, _, _, rfl, rfl, hT7, hat1 _ (by omega), _, _, rfl, rfl, _, rfl, iteD (fun c3 => ?_) (fun c3 => ?_)⟩
                · refine ⟨_, rfl, _, _, rfl, rfl, _, rfl, ?_, rfl⟩
                  rw [hp, ew, decide_eq_true c3, Bool.true_and]
                · refine ⟨_, rfl, ?_, rfl⟩
                  rw [hp, ew, decide_eq_false c3, Bool.false_and]
            rintro b H5 ⟨rfl, rfl⟩
            refine iteBN (fun c2 => ?_) (fun c2 => ?_)
            · rw [partsFit_at hc1 hx c2] at q
              exact q _ s7
            · refine ⟨_, _, rfl, s4.trans s6, fun j c' x' hj h1 h2 => ?_⟩
              by_cases ej : j = i
              · subst ej
                rw [hc1] at h1
                rw [hx] at h2
                cases h1
                cases h2
                exact c2
              · exact hall j c' x' (by omega) h1 h2
          · rintro σ H4 ⟨v4, v5, rfl, s4, hall⟩
            rw [partsFit_all c fun i c' x' h1 h2 => hall i c' x' ((List.getElem?_eq_some_iff.mp h1).1) h1 h2] at q
            exact q _ (s2.trans s4)
/-! ### _law_alone: of the five refusals the error is just the one that is asked for -/
/-- which of the five a class is, by the truth values of the five questions -/
structure OneOf (K : PySem.W.Frag) (cs : Cs) (D : Addr) (b0 b1 b2 b3 b4 : Bool) : Prop where
  c : ExcC K D
  h0 : PySem.W.kitOne K (.ref D) (.ref cs.C_BadRow) = some b0
  h1 : PySem.W.kitOne K (.ref D) (.ref cs.C_BadBoxes) = some b1
  h2 : PySem.W.kitOne K (.ref D) (.ref cs.C_BadShape) = some b2
  h3 : PySem.W.kitOne K (.ref D) (.ref cs.C_NoBox) = some b3
  h4 : PySem.W.kitOne K (.ref D) (.ref cs.C_BadPlan) = some b4
  h5 : PySem.W.kitOne K (.ref D) (.ref cs.C_LineError) = some true
  h6 : PySem.W.kitOne K (.ref D) (.type "ValueError") = some true
def sp__law_alone (K : PySem.W.Frag) (cs : Cs) (a D : Addr) : Sp := fun vs H Q _ => ∃ (own : Nat) (b0 b1 b2 b3 b4 : Bool), vs = [.ref a, .int (own : Int)] ∧ OneOf K cs D b0 b1 b2 b3 b4 ∧ [b0, b1, b2, b3, b4].count true = 1 ∧ [b0, b1, b2, b3, b4][own]? = some true ∧
  ∀ H', Same H H' → Q (.bl true) H'
theorem ok__law_alone (T : Txt w K mg cs)  : OkP P w K mg base 1 cs.f__law_alone cs.d__law_alone ["_law_e", "_law_own"] (sp__law_alone K cs) := by
  refine T.fn__law_alone.okP sc__law_alone (fun a D vs H Q E h => ?_) (fun cdv A outer s H vs Q E p D hr hz hf h => ?_)
  · obtain ⟨own, b0, b1, b2, b3, b4, rfl, _⟩ := h
    rfl
  · obtain ⟨own, b0, b1, b2, b3, b4, rfl, O, hc, ho, k⟩ := h
    have hC := O.c
    refine ⟨_, (pss_cons (ps_set (i := 2) sc__law_alone.nd rfl (Or.inl rfl) (pe_lst (pa_cons (pe_callB (call_isP hC List.mem_cons_self hz hf) (by rfl) T.no_isinstance boot_isinstance (pa_cons (pv 0) (pa_cons (pe_glob (v := .ref cs.C_BadRow) (by rfl) T.ex_BadRow.g rfl) pa_nil))) (pa_cons (pe_callB (call_isP hC List.mem_cons_self hz hf) (by rfl) T.no_isinstance boot_isinstance (pa_cons (pv 0) (pa_cons (pe_glob (v := .ref cs.C_BadBoxes) (by rfl) T.ex_BadBoxes.g rfl) pa_nil))) (pa_cons (pe_callB (call_isP hC List.mem_cons_self hz hf) (by rfl) T.no_isinstance boot_isinstance (pa_cons (pv 0) (pa_cons (pe_glob (v := .ref cs.C_BadShape) (by rfl) T.ex_BadShape.g rfl) pa_nil))) (pa_cons (pe_callB (call_isP hC List.mem_cons_self hz hf) (by rfl) T.no_isinstance boot_isinstance (pa_cons (pv 0) (pa_cons (pe_glob (v := .ref cs.C_NoBox) (by rfl) T.ex_NoBox.g rfl) pa_nil))) pa_nil))))))
      (pss_cons (ps_expr (pe_bm PySem.F.plainAttrs_list PySem.F.slot_list_append PySem.F.type_list_append mt_append (pv 2) (pa_cons (pe_callB (call_isP hC List.mem_cons_self hz hf) (by rfl) T.no_isinstance boot_isinstance (pa_cons (pv 0) (pa_cons (pe_glob (v := .ref cs.C_BadPlan) (by rfl) T.ex_BadPlan.g rfl) pa_nil))) pa_nil)))
      (pss_one (ps_ret (pe_and (pe_cmpR op_eq (pe_bm PySem.F.plainAttrs_list PySem.F.slot_list_count PySem.F.type_list_count mt_countT (pv 2) (pa_cons pe_bl pa_nil)) pe_int (nomark _)) (pe_and (pe_ix ix_list (pv 2) (pv 1) (fun _ _ => rfl)) (pe_and (pe_callB (call_isP hC List.mem_cons_self hz hf) (by rfl) T.no_isinstance boot_isinstance (pa_cons (pv 0) (pa_cons (pe_glob (v := .ref cs.C_LineError) (by rfl) T.ex_LineError.g rfl) pa_nil))) (pe_one (pe_callB (call_isP hC List.mem_cons_self hz hf) (by rfl) T.no_isinstance boot_isinstance (pa_cons (pv 0) (pa_cons (pe_bltn (v := .ty "ValueError") (by rfl) T.no_ValueError (by decide +kernel) rfl) pa_nil))))))))))), ?_⟩
    refine ⟨_, rfl, _, _, _, rfl, (fun _ r => r), O.h0, _, rfl, _, _, _, rfl, (fun _ r => r), O.h1, _, rfl, _, _, _, rfl, (fun _ r => r), O.h2, _, rfl, _, _, _, rfl, (fun _ r => r), O.h3, (by show 4 ≤ sizeLine; decide), fun l hl => ?_⟩
    refine ⟨_, rfl, .inl ⟨rfl, _, SqL.of upd_same⟩, _, rfl, _, _, _, rfl, (fun _ r => r), O.h4, l, _, _, rfl, rfl, upd_same, (by show 4 < sizeLine; decide), ?_⟩
    have s1 : Same H (upd (upd H l (.lst [.bl b0, .bl b1, .bl b2, .bl b3])) l (.lst [.bl b0, .bl b1, .bl b2, .bl b3, .bl b4])) := (Same.new hl).mut hl
    refine ⟨_, rfl, .inl ⟨rfl, _, SqL.of upd_same⟩, l, [b0, b1, b2, b3, b4], rfl, rfl, SqL.of upd_same, rfl, _, rfl, ?_⟩
    rw [hc]
    refine iteT ⟨_, rfl, _, rfl, l, _, _, _, rfl, rfl, SqL.of upd_same, atI_nat (nl_get_map (f := V.bl) (xs := [b0, b1, b2, b3, b4]) ho), _, rfl, iteT ?_⟩
    exact ⟨_, rfl, _, _, _, rfl, (fun _ r => r), O.h5, _, rfl, iteT ⟨_, rfl, _, _, _, rfl, (fun _ r => r), O.h6, k _ s1⟩⟩
/-! ### the law -/
structure Rws (K : PySem.W.Frag) (H : Hp) (xs : List V) (os : List (Option (List V))) : Prop where
  len : xs.length = os.length
  at_ : ∀ (i : Nat) (x : V) (o : Option (List V)), xs[i]? = some x → os[i]? = some o → Drawn K H x o
theorem Rws.same {K : PySem.W.Frag} {H H' : Hp} {xs : List V} {os : List (Option (List V))} (h : Rws K H xs os) (s : Same H H') : Rws K H' xs os := ⟨h.len, fun i x o h1 h2 => (h.at_ i x o h1 h2).same s⟩
theorem Rws.nil {K : PySem.W.Frag} {H : Hp} : Rws K H [] [] := ⟨rfl, fun i x o h _ => by simp at h⟩
theorem Rws.snoc {K : PySem.W.Frag} {H : Hp} {xs : List V} {os : List (Option (List V))} {x : V} {o : Option (List V)} (h : Rws K H xs os) (q : Drawn K H x o) : Rws K H (xs ++ [x]) (os ++ [o]) := by
  refine ⟨by rw [List.length_append, List.length_append, h.len]; rfl, fun i y p e1 e2 => ?_⟩
  by_cases hi : i < os.length
  · rw [List.getElem?_append_left hi] at e2
    rw [List.getElem?_append_left (by rw [h.len]; exact hi)] at e1
    exact h.at_ i y p e1 e2
  · rw [List.getElem?_append_right (by omega)] at e2
    rw [List.getElem?_append_right (by have := h.len; omega), h.len] at e1
    have hz : i - os.length = 0 := by
      have := (List.getElem?_eq_some_iff.mp e2).1
      simp only [List.length_cons, List.length_nil] at this
      omega
    rw [hz] at e1 e2
    cases e1
    cases e2
    exact q
theorem Rws.set {K : PySem.W.Frag} {H : Hp} {xs : List V} {os : List (Option (List V))} {x : V} {o : Option (List V)} (h : Rws K H xs os) (j : Nat) (q : Drawn K H x o) : Rws K H (xs.set j x) (os.set j o) := by
  refine ⟨by rw [List.length_set, List.length_set, h.len], fun i y p e1 e2 => ?_⟩
  rw [List.getElem?_set] at e1 e2
  by_cases e : j = i
  · subst e
    rw [if_pos rfl] at e1 e2
    split at e1
    · split at e2
      · cases e1
        cases e2
        exact q
      · cases e2
    · cases e1
  · rw [if_neg e] at e1 e2
    exact h.at_ i y p e1 e2
theorem Rws.things {K : PySem.W.Frag} {H : Hp} {xs : List V} {os : List (Option (List V))} (h : Rws K H xs os) : Things K H xs os := ⟨h.len, fun i x o h1 h2 => (h.at_ i x o h1 h2).1⟩
theorem rws_dp {K : PySem.W.Frag} {H : Hp} : ∀ {xs : List V} {os : List (Option (List V))}, Rws K H xs os → ∃ ds, DpAll K H xs ds ∧ ∀ d ∈ ds, Sh 2 d
  | [], _, _ => ⟨[], .nil, fun d hd => by simp at hd⟩
  | x :: r, [], h => by have := h.len; simp at this
  | x :: r, o :: t, h => by
    obtain ⟨_, d, h1, h2⟩ := h.at_ 0 x o rfl rfl
    obtain ⟨ds, h3, h4⟩ := rws_dp (xs := r) (os := t) ⟨by have := h.len; simpa using this, fun i y p e1 e2 => h.at_ (i + 1) y p e1 e2⟩
    exact ⟨d :: ds, .cons h1 h3, fun e he => (List.mem_cons.mp he).elim (fun z => by rw [z]; exact h2) (h4 e)⟩
def jumpO (count : Int) (i : Nat) : Option (List V) := some [.str "jump", .int (((i : Int) + 1) % (count + 1))]
def jumps (count : Int) (n : Nat) : List (Option (List V)) := (List.range n).map (jumpO count)
theorem jumps_snoc (count : Int) (n : Nat) : jumps count (n + 1) = jumps count n ++ [jumpO count n] := by
  unfold jumps
  rw [List.range_succ, List.map_append]
  rfl
theorem jumps_len (count : Int) (n : Nat) : (jumps count n).length = n := by unfold jumps; rw [List.length_map, List.length_range]
theorem jump_fits (size count : Int) (hc : 0 ≤ count) (i : Nat) : fitsO size count (jumpO count i) = true := by
  have h0 := Int.emod_nonneg ((i : Int) + 1) (show count + 1 ≠ 0 by omega)
  have h1 := Int.emod_lt_of_pos ((i : Int) + 1) (show 0 < count + 1 by omega)
  have e : partsM "jump" = some "p" := by decide +kernel
  have e2 : ("p" : Str).cps.toList = [112] := by decide +kernel
  show (match partsM "jump" with | none => false | some m => partsFit size count m.cps.toList [.int (((i : Int) + 1) % (count + 1))]) = true
  rw [e]
  show partsFit size count ("p" : Str).cps.toList _ = true
  rw [e2]
  show ((decide (0 ≤ ((i : Int) + 1) % (count + 1)) && decide (((i : Int) + 1) % (count + 1) ≤ count)) && true) = true
  rw [decide_eq_true h0, decide_eq_true (by omega)]
  rfl
theorem jumps_fit (size count : Int) (hc : 0 ≤ count) (n : Nat) : (jumps count n).all (fitsO size count) = true := by
  rw [List.all_eq_true]
  intro o ho
  obtain ⟨i, _, rfl⟩ := List.mem_map.mp ho
  exact jump_fits size count hc i
theorem set_fit {size count : Int} {os : List (Option (List V))} {j : Nat} {o : Option (List V)} (h : os.all (fitsO size count) = true) (hj : j < os.length) : (os.set j o).all (fitsO size count) = fitsO size count o := by
  rw [Bool.eq_iff_iff, List.all_eq_true]
  constructor
  · intro z
    exact z o (List.mem_of_getElem? (by rw [List.getElem?_set, if_pos rfl, if_pos hj]))
  · intro z p hp
    rcases List.mem_or_eq_of_mem_set hp with q | rfl
    · exact List.all_eq_true.mp h p q
    · exact z
/-- the rows that jump -/
structure JR (H : Hp) (xs : List V) (count : Int) (n : Nat) : Prop where
  len : xs.length = n
  at_ : ∀ (i : Nat) (x : V), xs[i]? = some x → ∃ a, x = .ref a ∧ H a = some (.tup [.str "jump", .int (((i : Int) + 1) % (count + 1))])
theorem JR.same {H H' : Hp} {xs : List V} {count : Int} {n : Nat} (h : JR H xs count n) (s : Same H H') : JR H' xs count n := ⟨h.len, fun i x e => let ⟨a, e1, e2⟩ := h.at_ i x e; ⟨a, e1, s _ _ e2⟩⟩
theorem JR.but {H : Hp} {xs ys : List V} {count : Int} {n : Nat} {D : Addr} {o : HO} (h : JR H xs count n) (hD : H D = some (.lst ys)) : JR (upd H D o) xs count n :=
  ⟨h.len, fun i x e => let ⟨a, e1, e2⟩ := h.at_ i x e; ⟨a, e1, by rw [upd_ne (ne_of e2 hD (by intro z; cases z))]; exact e2⟩⟩
theorem JR.snoc {H : Hp} {xs : List V} {count : Int} {n : Nat} {a : Addr} (h : JR H xs count n) (q : H a = some (.tup [.str "jump", .int (((n : Int) + 1) % (count + 1))])) : JR H (xs ++ [.ref a]) count (n + 1) := by
  refine ⟨by rw [List.length_append, h.len]; rfl, fun i x e => ?_⟩
  by_cases hi : i < n
  · rw [List.getElem?_append_left (by rw [h.len]; exact hi)] at e
    exact h.at_ i x e
  · have hlt := (List.getElem?_eq_some_iff.mp e).1
    rw [List.length_append, h.len] at hlt
    simp only [List.length_cons, List.length_nil] at hlt
    have hz : i = n := by omega
    subst hz
    rw [List.getElem?_append_right (by rw [h.len]; exact Nat.le_refl _), h.len, Nat.sub_self] at e
    cases e
    exact ⟨a, rfl, q⟩
theorem JR.rws {K : PySem.W.Frag} {H : Hp} {xs : List V} {count : Int} {n : Nat} (h : JR H xs count n) : Rws K H xs (jumps count n) := by
  refine ⟨by rw [jumps_len, h.len], fun i x o e1 e2 => ?_⟩
  obtain ⟨a, rfl, ha⟩ := h.at_ i x e1
  have hi : i < n := by
    have := (List.getElem?_eq_some_iff.mp e2).1
    rwa [jumps_len] at this
  have e3 : (jumps count n)[i]? = some (jumpO count i) := by
    unfold jumps
    rw [List.getElem?_map, List.getElem?_range hi]
    rfl
  rw [e3] at e2
  cases e2
  refine drawn_tup ha (fun v hv => ?_) (by show 2 ≤ 1000; decide)
  simp only [List.mem_cons, List.not_mem_nil, or_false] at hv
  rcases hv with rfl | rfl
  · exact it_str (by decide +kernel)
  · exact it_int _
def sp_law (K : PySem.W.Frag) (cs : Cs) : Sp := fun vs H Q _ => ∃ (a : Addr) (ns : List Int), vs = [.ref a] ∧ SqL K H a (ns.map V.int) ∧ ns.length ≤ 63 ∧ ∀ H', Q (.bl true) H'
theorem ok_law (T : Txt w K mg cs) (o__law_size_by : Ok P w K mg base CX0 1 cs.f__law_size_by cs.d__law_size_by ["_law_cell"] (sp__law_size_by K cs)) (o__law_thing_by : Ok P w K mg base CX0 3 cs.f__law_thing_by cs.d__law_thing_by ["_law_script", "_law_size", "_law_count"] (sp__law_thing_by K cs)) (o__law_fits : Ok P w K mg base CX0 2 cs.f__law_fits cs.d__law_fits ["_law_row", "_law_size", "_law_count"] (sp__law_fits K cs)) (o_fits : Ok P w K mg base CX0 3 cs.f_fits cs.d_fits ["row", "size", "count"] (sp_fits K cs)) (o__law_cell_at : Ok P w K mg base CX0 1 cs.f__law_cell_at cs.d__law_cell_at ["_law_script", "_law_k"] (sp__law_cell_at K cs)) (o_checked : Ok P w K mg base (L2.CX P w) 4 cs.f_checked cs.d_checked ["rows", "size"] (sp_checked K cs)) (o__law_alone : OkP P w K mg base 1 cs.f__law_alone cs.d__law_alone ["_law_e", "_law_own"] (sp__law_alone K cs)) : Ok P w K mg base CX0 5 cs.f_law cs.d_law ["_law_script"] (sp_law K cs) := by
  refine T.fn_law.ok sc_law (fun vs H Q E h => ?_) (fun cdv A outer s H vs Q E hr h => ?_)
  · obtain ⟨a, ns, rfl, _⟩ := h
    rfl
  · obtain ⟨a, ns, rfl, hS, hl, q⟩ := h
    have hu := hu_of hr
    refine ⟨_, (pss_cons (ps_set (i := 1) sc_law.nd rfl (Or.inl rfl) (pe_callO o__law_size_by (hr.mono (by decide)) (by rfl) T.gl__law_size_by pass0 (pa_cons (pe_callO o__law_cell_at (hr.mono (by decide)) (by rfl) T.gl__law_cell_at pass0 (pa_cons (pv 0) (pa_cons pe_int pa_nil))) pa_nil)))
      (pss_cons (ps_set (i := 2) sc_law.nd rfl (Or.inr rfl) (pe_ix ix_list (pe_lst (pa_cons (pe_op op_mod (pe_op op_fdiv (pe_callO o__law_cell_at (hr.mono (by decide)) (by rfl) T.gl__law_cell_at pass0 (pa_cons (pv 0) (pa_cons pe_int pa_nil))) pe_int) pe_int) (pa_cons pe_int (pa_cons pe_int (pa_cons pe_int pa_nil))))) (pe_op op_mod (pe_callO o__law_cell_at (hr.mono (by decide)) (by rfl) T.gl__law_cell_at pass0 (pa_cons (pv 0) (pa_cons pe_int pa_nil))) pe_int) (fun _ _ => rfl)))
      (pss_cons (ps_set (i := 3) sc_law.nd rfl (Or.inl rfl) (pe_callO o__law_thing_by (hr.mono (by decide)) (by rfl) T.gl__law_thing_by pass0 (pa_cons (pv 0) (pa_cons (pv 1) (pa_cons (pv 2) pa_nil)))))
      (pss_cons (ps_set (i := 4) sc_law.nd rfl (Or.inl rfl) (pe_callO o__law_fits (hr.mono (by decide)) (by rfl) T.gl__law_fits pass0 (pa_cons (pv 3) (pa_cons (pv 1) (pa_cons (pv 2) pa_nil)))))
      (pss_cons (ps_set (i := 5) sc_law.nd rfl (Or.inl rfl) (pe_callO o_fits (hr.mono (by decide)) (by rfl) T.gl_fits pass0 (pa_cons (pv 3) (pa_cons (pv 1) (pa_cons (pv 2) pa_nil)))))
      (pss_cons (ps_if (pt_jn (PW.pt (pw_or (pt_not (pt_val (pe_callB call_isi (by rfl) T.no_isinstance boot_isinstance (pa_cons (pv 5) (pa_cons (pe_bltn (v := .ty "bool") (by rfl) T.no_bool boot_bool rfl) pa_nil))))) (pw_or1 (pt_cmpR op_ne (pv 5) (pv 4) (nomark _)))))) (pss_one (ps_ret pe_bl)) pss_nil)
      (pss_cons (ps_setLc (i := 6) (own := [("_law_k", 10)]) (g := gName 10) (tt := tYes) rfl sc_law.nd rfl rfl (sw_true rfl rfl rfl (by decide +kernel)) (pi_range1 (by rfl) T.no_range (pa_cons (pv 2) pa_nil)) (blkOk_by (N := ["_law_script", "_law_size", "_law_count", "_law_row", "_law_due", "_law_found", "_law_rows", "_law_good", "_law_given", "_law_e", "_law_k"]) (sc := defScope s_law) (by decide +kernel)) (fun _ _ _ _ _ => pg_name (i := 10) sc_law.nd rfl (Or.inl rfl)) (fun _ _ _ _ _ => pts_nil) (fun _ _ _ _ _ => (pe_tup (pa_cons pe_str (pa_cons (pe_op op_mod (pe_op op_add (pv 10) pe_int) (pe_op op_add (pv 2) pe_int)) pa_nil)))))
      (pss_cons (ps_set (i := 7) sc_law.nd rfl (Or.inl rfl) (pe_cmpR op_le (pv 2) pe_int (nomark _)))
      (pss_cutS (ps_if (pt_jn (PW.pt (pw_and (pt_cmpR op_gt (pv 2) pe_int (nomark _)) (pw_and1 (pt_cmpR op_gt (pe_op op_mod (pe_callO o__law_cell_at (hr.mono (by decide)) (by rfl) T.gl__law_cell_at pass0 (pa_cons (pv 0) (pa_cons pe_int pa_nil))) pe_int) pe_int (nomark _)))))) (pss_cons (ps_asg (pv 3) (pg_sub (pv 6) (pe_op op_mod (pe_op op_fdiv (pe_callO o__law_cell_at (hr.mono (by decide)) (by rfl) T.gl__law_cell_at pass0 (pa_cons (pv 0) (pa_cons pe_int pa_nil))) pe_int) (pv 2)) set_list))
      (pss_one (ps_set (i := 7) sc_law.nd rfl (Or.inl rfl) (pe_and (pv 7) (pe_one (pv 4)))))) pss_nil)
      (pss_cons (ps_set (i := 8) sc_law.nd rfl (Or.inl rfl) (pe_callTy call_list_of (by rfl) T.no_list boot_list (pa_cons (pv 6) pa_nil)))
      (pss_cons (ps_try_as (i := 9) rfl rfl sc_law.nd rfl rfl ⟨by rfl, by decide, Or.inl T.ex_BadRow.g⟩ takes0 (fun W pn xe tk _ => (pss_one (ps_set (i := 5) sc_law.nd rfl (Or.inl rfl) (pe_callSO o_checked hr (by rfl) T.gl_checked (fun σ => passAt tk σ) (pa_cons (pv 8) (pa_cons (pv 1) pa_nil))))))
      (fun a oe cls d pn hz hf => (pss_one (ps_ret (pe_and (pe_not (pv 7)) (pe_one (pe_callP o__law_alone (roomP hr (by decide)) List.mem_cons_self hz hf (by rfl) T.gl__law_alone (pa_cons (pv 9) (pa_cons pe_int pa_nil)))))))))
      (pss_cons (ps_if (pt_jn (PW.pt (pw_or (pt_not (pt_val (pv 7))) (pw_or (pt_not (pt_val (pe_callB call_isi (by rfl) T.no_isinstance boot_isinstance (pa_cons (pv 5) (pa_cons (pe_bltn (v := .ty "list") (by rfl) T.no_list boot_list rfl) pa_nil))))) (pw_or (pt_cmpR (op_neD hr.units) (pv 5) (pv 6) (nomark _)) (pw_or1 (pt_cmpR (op_neD hr.units) (pv 8) (pv 6) (nomark _)))))))) (pss_one (ps_ret pe_bl)) pss_nil)
      (pss_cons (ps_expr (pe_bm PySem.F.plainAttrs_list PySem.F.slot_list_append PySem.F.type_list_append mt_append (pv 5) (pa_cons pe_non pa_nil)))
      (pss_one (ps_ret (pe_cmpR (op_eqD hr.units) (pv 8) (pv 6) (nomark _))))))))))))))))), ?_⟩
    refine ⟨_, rfl, a, ns, 0, rfl, hS, _, rfl, fun H1 s1 => ?_⟩
    have hsz := sizeM_ok (cellOf ns 0)
    generalize sizeM (cellOf ns 0) = size at hsz ⊢
    refine ⟨_, rfl, a, ns, 1, rfl, s1.seq hS, _, _, rfl, rfl, ⟨by decide, by decide⟩, _, _, rfl, rfl, (by show (0 : Int) < _; decide), (by show 4 ≤ sizeLine; decide), fun l1 h1 => ?_⟩
    have s2' : Same H1 (upd H1 l1 (.lst [.int (cellOf ns 1 / 4 % 10), .int 200, .int 201, .int 1])) := Same.new h1
    have s2 := s1.trans s2'
    obtain ⟨count, hc0, hc1, hat⟩ : ∃ count : Int, 0 ≤ count ∧ count ≤ 201 ∧ atI [V.int (cellOf ns 1 / 4 % 10), .int 200, .int 201, .int 1] (cellOf ns 1 % 4) = some (.int count) := by
      rcases mod4 (cellOf ns 1) with e | e | e | e <;> rw [e]
      · exact ⟨cellOf ns 1 / 4 % 10, by omega, by omega, rfl⟩
      · exact ⟨200, by decide, by decide, rfl⟩
      · exact ⟨201, by decide, by decide, rfl⟩
      · exact ⟨1, by decide, by decide, rfl⟩
    refine ⟨_, rfl, a, ns, 1, rfl, s2.seq hS, _, _, rfl, rfl, (by show (0 : Int) < _; decide), l1, _, _, _, rfl, rfl, SqL.of upd_same, hat, ?_⟩
    generalize upd H1 l1 (.lst [.int (cellOf ns 1 / 4 % 10), .int 200, .int 201, .int 1]) = H2 at s2
    -- row, due, found
    refine ⟨_, rfl, _, rfl, _, rfl, a, ns, size, count, rfl, s2.seq hS, hl, hsz.1, hc0, fun H3 x o s3' hd3 => ?_⟩
    have s3 := s2.trans s3'
    refine ⟨_, rfl, _, rfl, _, rfl, x, o, size, count, rfl, hd3.1, fun H4 s4' => ?_⟩
    have s4 := s3.trans s4'
    have hd4 := hd3.same s4'
    refine ⟨_, rfl, _, rfl, _, rfl, x, o, size, count, rfl, hd4.1, fun H5 s5' => ?_⟩
    have s5 := s4.trans s5'
    have hd5 := hd4.same s5'
    generalize hf : fitsO size count o = due
    refine ⟨fun b H6 => b = false ∧ H6 = H5, ?_, ?_⟩
    · refine ⟨_, rfl, _, _, _, _, _, rfl, .ty "bool", .base (.bl due), kit_ty (r := true) (by decide +kernel), _, rfl, iteF ?_⟩
      exact ⟨_, rfl, _, rfl, rfl, _, rfl, by simp, rfl⟩
    rintro b H6 ⟨rfl, rfl⟩
    refine iteF ?_
    -- the rows
    refine ⟨_, rfl, _, rfl, by omega, by omega, fun D7 n7 => lc_range (lo := 0) (n := count.toNat) (fun i H' => Same H6 H' ∧ ∃ xs, H' D7 = some (.lst xs) ∧ JR H' xs count i) ⟨Same.new n7, [], upd_same, ⟨rfl, fun i x e => by simp at e⟩⟩ ?_ ?_⟩
    · rintro i H' hi ⟨s7, xs, hD, hR⟩
      refine ⟨rfl, _, rfl, _, _, rfl, rfl, _, rfl, _, _, rfl, rfl, _, _, rfl, rfl, (by omega), (by show 2 ≤ sizeLine; decide), fun t8 n8 => ?_⟩
      have s8 : Same H' (upd H' t8 (.tup [.str "jump", .int ((0 + (i : Int) + 1) % (count + 1))])) := Same.new n8
      have hlen := hR.len
      refine ⟨xs, s8 _ _ hD, sizeL (by omega), (s7.trans s8).mut n7, xs ++ [.ref t8], upd_same, ?_⟩
      refine ((hR.same s8).snoc ?_).but (s8 _ _ hD)
      have e0 : (0 : Int) + (i : Int) = (i : Int) := Int.zero_add _
      rw [e0]
      exact upd_same
    rintro H7 ⟨s7', xs, hD7, hR7⟩
    have s7 := s5.trans s7'
    have hd7 := hd5.same s7'
    -- good
    refine ⟨_, rfl, _, _, rfl, rfl, ?_⟩
    -- the thing put among them
    refine ⟨fun σ' H8 => ∃ (xs : List V) (os : List (Option (List V))) (good : Bool), σ' = [some (.ref a), some (.int size), some (.int count), some x, some (.bl due), some (.bl due), some (.ref D7), some (.bl good), none, none, none] ∧ Same H H8 ∧ H8 D7 = some (.lst xs) ∧ Rws K H8 xs os ∧ (os.length : Int) = count ∧ goodRows size os = good, ?_, ?_⟩
    · have hlen := hR7.len
      refine ⟨fun b H8 => Same H7 H8 ∧ (b = true → 0 < count), ?_, ?_⟩
      · refine ⟨_, rfl, _, _, rfl, rfl, _, rfl, iteD (fun c => ?_) (fun c => ?_)⟩
        · refine ⟨_, rfl, a, ns, 7, rfl, s7.seq hS, _, _, rfl, rfl, (by show (0 : Int) < _; decide), _, _, rfl, rfl, _, rfl, Same.refl _, fun _ => c⟩
        · exact ⟨Same.refl _, fun z => nomatch z⟩
      rintro b H8 ⟨s8', hb⟩
      have hD8 := s8' _ _ hD7
      have hR8 := hR7.same s8'
      refine iteB (fun c => ?_) (fun c => ?_)
      · have hpos := hb c
        refine ⟨_, rfl, _, rfl, _, rfl, a, ns, 7, rfl, (s7.trans s8').seq hS, _, _, rfl, rfl, ⟨by decide, by decide⟩, _, rfl, _, _, rfl, rfl, hpos, ?_⟩
        have hnn := Int.emod_nonneg (cellOf ns 7 / 3) (show count ≠ 0 by omega)
        have hlt := Int.emod_lt_of_pos (cellOf ns 7 / 3) hpos
        obtain ⟨j, hj⟩ : ∃ j : Nat, cellOf ns 7 / 3 % count = (j : Int) := ⟨(cellOf ns 7 / 3 % count).toNat, by omega⟩
        have hjl : j < xs.length := by omega
        refine ⟨D7, _, _, j, rfl, rfl, hD8, (by rw [hj]; exact ix_nat hjl), ?_⟩
        have hx8 : Drawn K (upd H8 D7 (.lst (xs.set j x))) x o := hd5.same ((s7'.trans s8').mut n7)
        have hR9 : Rws K (upd H8 D7 (.lst (xs.set j x))) (xs.set j x) ((jumps count count.toNat).set j o) := (hR8.but hD8).rws.set j hx8
        refine ⟨_, rfl, ?_⟩
        have hgd : goodRows size ((jumps count count.toNat).set j o) = (decide (count ≤ 200) && due) := by
          unfold goodRows
          have hjj : j < (jumps count count.toNat).length := by rw [jumps_len]; omega
          have e : (((jumps count count.toNat).set j o).length : Int) = count := by rw [List.length_set, jumps_len]; omega
          rw [e, set_fit (jumps_fit size count hc0 count.toNat) hjj, hf]
          congr 1
          rw [List.length_set, jumps_len]
          apply decide_eq_decide.mpr
          omega
        have key : ∀ g : Bool, g = (decide (count ≤ 200) && due) → ∃ (xs' : List V) (os : List (Option (List V))) (good : Bool), [some (V.ref a), some (V.int size), some (V.int count), some x, some (.bl due), some (.bl due), some (.ref D7), some (.bl g), none, none, none] = [some (V.ref a), some (.int size), some (.int count), some x, some (.bl due), some (.bl due), some (.ref D7), some (.bl good), none, none, none] ∧ Same H (upd H8 D7 (.lst (xs.set j x))) ∧ (upd H8 D7 (.lst (xs.set j x))) D7 = some (.lst xs') ∧ Rws K (upd H8 D7 (.lst (xs.set j x))) xs' os ∧ (os.length : Int) = count ∧ goodRows size os = good :=
          fun g hg => ⟨xs.set j x, (jumps count count.toNat).set j o, g, rfl, (s7.trans s8').mut ((s5.free (H := H) n7)), upd_same, hR9, by rw [List.length_set, jumps_len]; omega, by rw [hg, hgd]⟩
        refine ⟨_, rfl, iteB (fun c1 => ⟨_, rfl, key due ?_⟩) (fun c1 => key _ ?_)⟩
        · rw [c1, Bool.true_and]
        · rw [c1, Bool.false_and]
      · refine ⟨xs, jumps count count.toNat, decide (count ≤ 200), rfl, s7.trans s8', hD8, hR8.rws, by rw [jumps_len]; omega, ?_⟩
        unfold goodRows
        rw [jumps_len]
        have e : ((count.toNat : Nat) : Int) = count := by omega
        rw [e, jumps_fit size count hc0, Bool.and_true]
        apply decide_eq_decide.mpr
        omega
    rintro σ' H8 ⟨xs8, os, good, rfl, s8, hD8, hR8, hol, hg⟩
    -- given
    refine ⟨_, rfl, D7, xs8, rfl, .inl (SqL.of hD8), fun p9 n9 => ?_⟩
    have s9' : Same H8 (upd H8 p9 (.lst xs8)) := Same.new n9
    have s9 := s8.trans s9'
    have hR9 := hR8.same s9'
    have hD9 := s9' _ _ hD8
    have hG9 : (upd H8 p9 (.lst xs8)) p9 = some (.lst xs8) := upd_same
    generalize upd H8 p9 (.lst xs8) = H9 at *
    have hlen := hR9.len
    refine ⟨_, rfl, _, rfl, p9, xs8, os, size, rfl, SqL.of hG9, hR9.things, by omega, fun H10 p10 hgood s10 n10 hp10 => ?_, fun H10 hgood s10 => ?_⟩
    · -- it told the rows
      rw [hg] at hgood
      subst hgood
      obtain ⟨ds, hds, hsh⟩ := rws_dp (hR9.same s10)
      have hDD := sh_list hsh
      have dp1 : Dp K H10 (.ref p10) (.list ds) := .lst (SqL.of hp10) hds
      have dp2 : Dp K H10 (.ref D7) (.list ds) := .lst (SqL.of (s10 _ _ hD9)) hds
      have dp3 : Dp K H10 (.ref p9) (.list ds) := .lst (SqL.of (s10 _ _ hG9)) hds
      refine ⟨fun b H11 => b = false ∧ Same H10 H11, ?_, ?_⟩
      · refine ⟨_, rfl, _, rfl, iteF ?_⟩
        refine ⟨_, rfl, _, _, _, _, _, rfl, .ty "list", .base (.lst hp10), kit_ty (r := true) (by decide +kernel), _, rfl, iteF ?_⟩
        refine ⟨_, rfl, _, rfl, _, _, dp1, dp2, hDD.shaped (by decide), hDD.shaped (by decide), _, rfl, ?_⟩
        rw [eqv_self hDD]
        refine iteF ?_
        refine ⟨_, rfl, _, rfl, _, _, dp3, dp2, hDD.shaped (by decide), hDD.shaped (by decide), _, rfl, ?_⟩
        rw [eqv_self hDD]
        exact ⟨rfl, Same.refl _⟩
      rintro b H11 ⟨rfl, s11⟩
      refine iteF ?_
      have hp11 := s11 _ _ hp10
      refine ⟨_, rfl, .inl ⟨rfl, _, SqL.of hp11⟩, p10, _, _, rfl, rfl, hp11, sizeL (by omega), ?_⟩
      have s12 : Same H9 (upd H11 p10 (.lst (xs8 ++ [.non]))) := (s10.trans s11).mut n10
      obtain ⟨ds2, hds2, hsh2⟩ := rws_dp (hR9.same s12)
      have hDD2 := sh_list hsh2
      refine ⟨_, rfl, _, rfl, _, _, .lst (SqL.of (s12 _ _ hG9)) hds2, .lst (SqL.of (s12 _ _ hD9)) hds2, hDD2.shaped (by decide), hDD2.shaped (by decide), ?_⟩
      rw [eqv_self hDD2]
      exact q _
    · -- it refused
      rw [hg] at hgood
      subst hgood
      refine ⟨true, T.ex_BadRow.te, fun _ e he => ?_, fun z => nomatch z⟩
      refine ⟨_, rfl, _, rfl, _, rfl, iteT ?_⟩
      refine ⟨_, rfl, _, rfl, rfl, 0, true, false, false, false, false, rfl, ⟨T.ec_BadRow, T.is_BadRow_BadRow, T.is_BadRow_BadBoxes, T.is_BadRow_BadShape, T.is_BadRow_NoBox, T.is_BadRow_BadPlan, T.is_BadRow_LineError, T.iv_BadRow⟩, rfl, rfl, fun H12 _ => q H12⟩
def spEnd (K : PySem.W.Frag) : Sp := fun vs H Q _ => ∃ (a : Addr) (ns : List Int), vs = [.ref a] ∧ SqL K H a (ns.map V.int) ∧ ns.length ≤ 63 ∧ ∀ H', Q (.bl true) H'
theorem spEnd_law {K : PySem.W.Frag} (cs : Cs) {vs : List V} {H : Hp} {Q : VK} {E : XK} (h : spEnd K vs H Q E) : sp_law K cs vs H Q E := h
end
theorem all_mk {l : PySem.W.OpenLaw} {w : World} {K : PySem.W.Frag} {h : Heap} {mg : Str → Option Value} {fa : Addr} (X : K.In h) (G : h.Ns mainGlobals mg) (hfa : mg "law" = some (.ref fa))
    {f_within f_part_fits f_fits f_checked f__law_cell_at f__law_whole f__law_mixed f__law_size_by f__law_edge f__law_marks f__law_thing_by f__law_fits f__law_alone f_law a_PARTS C_LineError C_BadRow C_BadBoxes C_BadShape C_NoBox C_BadPlan : Addr}
    {od_within an_within od_part_fits an_part_fits od_fits an_fits od_checked an_checked od__law_cell_at an__law_cell_at od__law_whole an__law_whole od__law_mixed an__law_mixed od__law_size_by an__law_size_by od__law_edge an__law_edge od__law_marks an__law_marks od__law_thing_by an__law_thing_by od__law_fits an__law_fits od__law_alone an__law_alone od_law an_law : Option Addr} {sl_within sl_part_fits sl_fits sl_checked sl__law_cell_at sl__law_whole sl__law_mixed sl__law_size_by sl__law_edge sl__law_marks sl__law_thing_by sl__law_fits sl__law_alone sl_law : Array (Option Value)} {oc_within kV_within dc_within pm_within cd_within ct_within oc_part_fits kV_part_fits dc_part_fits pm_part_fits cd_part_fits ct_part_fits oc_fits kV_fits dc_fits pm_fits cd_fits ct_fits oc_checked kV_checked dc_checked pm_checked cd_checked ct_checked oc__law_cell_at kV__law_cell_at dc__law_cell_at pm__law_cell_at cd__law_cell_at ct__law_cell_at oc__law_whole kV__law_whole dc__law_whole pm__law_whole cd__law_whole ct__law_whole oc__law_mixed kV__law_mixed dc__law_mixed pm__law_mixed cd__law_mixed ct__law_mixed oc__law_size_by kV__law_size_by dc__law_size_by pm__law_size_by cd__law_size_by ct__law_size_by oc__law_edge kV__law_edge dc__law_edge pm__law_edge cd__law_edge ct__law_edge oc__law_marks kV__law_marks dc__law_marks pm__law_marks cd__law_marks ct__law_marks oc__law_thing_by kV__law_thing_by dc__law_thing_by pm__law_thing_by cd__law_thing_by ct__law_thing_by oc__law_fits kV__law_fits dc__law_fits pm__law_fits cd__law_fits ct__law_fits oc__law_alone kV__law_alone dc__law_alone pm__law_alone cd__law_alone ct__law_alone oc_law kV_law dc_law pm_law cd_law ct_law : Value}
    {es_PARTS : Array DictEntry} {en_PARTS : Nat}
    (a_within : PySem.W.nsIn K mainGlobals "within" = some (some (.ref f_within)))
    (l_within : K.lookup f_within = some ⟨oc_within, od_within, .func (PySem.W.fnOf "within" "within" (defArgs s_within) (defBody s_within) (defScope s_within) .none kV_within dc_within pm_within an_within cd_within ct_within), sl_within⟩)
    (c_within : PySem.W.codeIn K cd_within "within" = true)
    (k_within : PySem.W.keepIn K (.ref f_within) = true)
    (a_part_fits : PySem.W.nsIn K mainGlobals "part_fits" = some (some (.ref f_part_fits)))
    (l_part_fits : K.lookup f_part_fits = some ⟨oc_part_fits, od_part_fits, .func (PySem.W.fnOf "part_fits" "part_fits" (defArgs s_part_fits) (defBody s_part_fits) (defScope s_part_fits) .none kV_part_fits dc_part_fits pm_part_fits an_part_fits cd_part_fits ct_part_fits), sl_part_fits⟩)
    (c_part_fits : PySem.W.codeIn K cd_part_fits "part_fits" = true)
    (k_part_fits : PySem.W.keepIn K (.ref f_part_fits) = true)
    (a_fits : PySem.W.nsIn K mainGlobals "fits" = some (some (.ref f_fits)))
    (l_fits : K.lookup f_fits = some ⟨oc_fits, od_fits, .func (PySem.W.fnOf "fits" "fits" (defArgs s_fits) (defBody s_fits) (defScope s_fits) .none kV_fits dc_fits pm_fits an_fits cd_fits ct_fits), sl_fits⟩)
    (c_fits : PySem.W.codeIn K cd_fits "fits" = true)
    (k_fits : PySem.W.keepIn K (.ref f_fits) = true)
    (a_checked : PySem.W.nsIn K mainGlobals "checked" = some (some (.ref f_checked)))
    (l_checked : K.lookup f_checked = some ⟨oc_checked, od_checked, .func (PySem.W.fnOf "checked" "checked" (defArgs s_checked) (defBody s_checked) (defScope s_checked) .none kV_checked dc_checked pm_checked an_checked cd_checked ct_checked), sl_checked⟩)
    (c_checked : PySem.W.codeIn K cd_checked "checked" = true)
    (k_checked : PySem.W.keepIn K (.ref f_checked) = true)
    (a__law_cell_at : PySem.W.nsIn K mainGlobals "_law_cell_at" = some (some (.ref f__law_cell_at)))
    (l__law_cell_at : K.lookup f__law_cell_at = some ⟨oc__law_cell_at, od__law_cell_at, .func (PySem.W.fnOf "_law_cell_at" "_law_cell_at" (defArgs s__law_cell_at) (defBody s__law_cell_at) (defScope s__law_cell_at) .none kV__law_cell_at dc__law_cell_at pm__law_cell_at an__law_cell_at cd__law_cell_at ct__law_cell_at), sl__law_cell_at⟩)
    (c__law_cell_at : PySem.W.codeIn K cd__law_cell_at "_law_cell_at" = true)
    (k__law_cell_at : PySem.W.keepIn K (.ref f__law_cell_at) = true)
    (a__law_whole : PySem.W.nsIn K mainGlobals "_law_whole" = some (some (.ref f__law_whole)))
    (l__law_whole : K.lookup f__law_whole = some ⟨oc__law_whole, od__law_whole, .func (PySem.W.fnOf "_law_whole" "_law_whole" (defArgs s__law_whole) (defBody s__law_whole) (defScope s__law_whole) .none kV__law_whole dc__law_whole pm__law_whole an__law_whole cd__law_whole ct__law_whole), sl__law_whole⟩)
    (c__law_whole : PySem.W.codeIn K cd__law_whole "_law_whole" = true)
    (k__law_whole : PySem.W.keepIn K (.ref f__law_whole) = true)
    (a__law_mixed : PySem.W.nsIn K mainGlobals "_law_mixed" = some (some (.ref f__law_mixed)))
    (l__law_mixed : K.lookup f__law_mixed = some ⟨oc__law_mixed, od__law_mixed, .func (PySem.W.fnOf "_law_mixed" "_law_mixed" (defArgs s__law_mixed) (defBody s__law_mixed) (defScope s__law_mixed) .none kV__law_mixed dc__law_mixed pm__law_mixed an__law_mixed cd__law_mixed ct__law_mixed), sl__law_mixed⟩)
    (c__law_mixed : PySem.W.codeIn K cd__law_mixed "_law_mixed" = true)
    (k__law_mixed : PySem.W.keepIn K (.ref f__law_mixed) = true)
    (a__law_size_by : PySem.W.nsIn K mainGlobals "_law_size_by" = some (some (.ref f__law_size_by)))
    (l__law_size_by : K.lookup f__law_size_by = some ⟨oc__law_size_by, od__law_size_by, .func (PySem.W.fnOf "_law_size_by" "_law_size_by" (defArgs s__law_size_by) (defBody s__law_size_by) (defScope s__law_size_by) .none kV__law_size_by dc__law_size_by pm__law_size_by an__law_size_by cd__law_size_by ct__law_size_by), sl__law_size_by⟩)
    (c__law_size_by : PySem.W.codeIn K cd__law_size_by "_law_size_by" = true)
    (k__law_size_by : PySem.W.keepIn K (.ref f__law_size_by) = true)
    (a__law_edge : PySem.W.nsIn K mainGlobals "_law_edge" = some (some (.ref f__law_edge)))
    (l__law_edge : K.lookup f__law_edge = some ⟨oc__law_edge, od__law_edge, .func (PySem.W.fnOf "_law_edge" "_law_edge" (defArgs s__law_edge) (defBody s__law_edge) (defScope s__law_edge) .none kV__law_edge dc__law_edge pm__law_edge an__law_edge cd__law_edge ct__law_edge), sl__law_edge⟩)
    (c__law_edge : PySem.W.codeIn K cd__law_edge "_law_edge" = true)
    (k__law_edge : PySem.W.keepIn K (.ref f__law_edge) = true)
    (a__law_marks : PySem.W.nsIn K mainGlobals "_law_marks" = some (some (.ref f__law_marks)))
    (l__law_marks : K.lookup f__law_marks = some ⟨oc__law_marks, od__law_marks, .func (PySem.W.fnOf "_law_marks" "_law_marks" (defArgs s__law_marks) (defBody s__law_marks) (defScope s__law_marks) .none kV__law_marks dc__law_marks pm__law_marks an__law_marks cd__law_marks ct__law_marks), sl__law_marks⟩)
    (c__law_marks : PySem.W.codeIn K cd__law_marks "_law_marks" = true)
    (k__law_marks : PySem.W.keepIn K (.ref f__law_marks) = true)
    (a__law_thing_by : PySem.W.nsIn K mainGlobals "_law_thing_by" = some (some (.ref f__law_thing_by)))
    (l__law_thing_by : K.lookup f__law_thing_by = some ⟨oc__law_thing_by, od__law_thing_by, .func (PySem.W.fnOf "_law_thing_by" "_law_thing_by" (defArgs s__law_thing_by) (defBody s__law_thing_by) (defScope s__law_thing_by) .none kV__law_thing_by dc__law_thing_by pm__law_thing_by an__law_thing_by cd__law_thing_by ct__law_thing_by), sl__law_thing_by⟩)
    (c__law_thing_by : PySem.W.codeIn K cd__law_thing_by "_law_thing_by" = true)
    (k__law_thing_by : PySem.W.keepIn K (.ref f__law_thing_by) = true)
    (a__law_fits : PySem.W.nsIn K mainGlobals "_law_fits" = some (some (.ref f__law_fits)))
    (l__law_fits : K.lookup f__law_fits = some ⟨oc__law_fits, od__law_fits, .func (PySem.W.fnOf "_law_fits" "_law_fits" (defArgs s__law_fits) (defBody s__law_fits) (defScope s__law_fits) .none kV__law_fits dc__law_fits pm__law_fits an__law_fits cd__law_fits ct__law_fits), sl__law_fits⟩)
    (c__law_fits : PySem.W.codeIn K cd__law_fits "_law_fits" = true)
    (k__law_fits : PySem.W.keepIn K (.ref f__law_fits) = true)
    (a__law_alone : PySem.W.nsIn K mainGlobals "_law_alone" = some (some (.ref f__law_alone)))
    (l__law_alone : K.lookup f__law_alone = some ⟨oc__law_alone, od__law_alone, .func (PySem.W.fnOf "_law_alone" "_law_alone" (defArgs s__law_alone) (defBody s__law_alone) (defScope s__law_alone) .none kV__law_alone dc__law_alone pm__law_alone an__law_alone cd__law_alone ct__law_alone), sl__law_alone⟩)
    (c__law_alone : PySem.W.codeIn K cd__law_alone "_law_alone" = true)
    (k__law_alone : PySem.W.keepIn K (.ref f__law_alone) = true)
    (a_law : PySem.W.nsIn K mainGlobals "law" = some (some (.ref f_law)))
    (l_law : K.lookup f_law = some ⟨oc_law, od_law, .func (PySem.W.fnOf "law" "law" (defArgs s_law) (defBody s_law) (defScope s_law) .none kV_law dc_law pm_law an_law cd_law ct_law), sl_law⟩)
    (c_law : PySem.W.codeIn K cd_law "law" = true)
    (k_law : PySem.W.keepIn K (.ref f_law) = true)
    (z_isinstance : PySem.W.nsIn K mainGlobals "isinstance" = some none)
    (z_int : PySem.W.nsIn K mainGlobals "int" = some none)
    (z_bool : PySem.W.nsIn K mainGlobals "bool" = some none)
    (z_tuple : PySem.W.nsIn K mainGlobals "tuple" = some none)
    (z_len : PySem.W.nsIn K mainGlobals "len" = some none)
    (z_str : PySem.W.nsIn K mainGlobals "str" = some none)
    (z_range : PySem.W.nsIn K mainGlobals "range" = some none)
    (z_list : PySem.W.nsIn K mainGlobals "list" = some none)
    (z_ValueError : PySem.W.nsIn K mainGlobals "ValueError" = some none)
    (v_GREATEST : ∃ t, PySem.W.nsIn K mainGlobals "GREATEST" = some (some (.int 999999 t)))
    (v_MOST : ∃ t, PySem.W.nsIn K mainGlobals "MOST" = some (some (.int 200 t)))
    (v_PARTS : PySem.W.nsIn K mainGlobals "PARTS" = some (some (.ref a_PARTS)))
    (vl_PARTS : K.lookup a_PARTS = some ⟨.type "dict", none, .dict es_PARTS en_PARTS, #[]⟩)
    (vk_PARTS : PySem.W.KeysLit w.params es_PARTS.toList)
    (vs_PARTS : (a_PARTS == sysModules) = false)
    (vf_PARTS : ∀ z, ∃ o, findBy Value.isStrOf es_PARTS z = o ∧ RelO ((partsM z).map V.str) o)
    (g_LineError : PySem.W.nsIn K mainGlobals "LineError" = some (some (.ref C_LineError)))
    (xx_LineError : PySem.W.excIn K C_LineError [.type "ValueError", .type "Exception", .type "BaseException", .type "object"] "ValueError.__new__" = true)
    (xk_LineError : PySem.W.keepIn K (.ref C_LineError) = true)
    (xb_LineError : PySem.W.subIn K (.ref C_LineError) (.type "BaseException") = some true)
    (xt_LineError : PySem.W.typeIn K (.ref C_LineError) = some (.type "type"))
    (xi_LineError : PySem.W.isClsIn K C_LineError = true)
    (xs_LineError : PySem.W.subIn K (.ref C_LineError) (.ref C_LineError) = some true)
    (g_BadRow : PySem.W.nsIn K mainGlobals "BadRow" = some (some (.ref C_BadRow)))
    (xx_BadRow : PySem.W.excIn K C_BadRow [.type "ValueError", .type "Exception", .type "BaseException", .type "object"] "ValueError.__new__" = true)
    (xk_BadRow : PySem.W.keepIn K (.ref C_BadRow) = true)
    (xb_BadRow : PySem.W.subIn K (.ref C_BadRow) (.type "BaseException") = some true)
    (xt_BadRow : PySem.W.typeIn K (.ref C_BadRow) = some (.type "type"))
    (xi_BadRow : PySem.W.isClsIn K C_BadRow = true)
    (xs_BadRow : PySem.W.subIn K (.ref C_BadRow) (.ref C_BadRow) = some true)
    (g_BadBoxes : PySem.W.nsIn K mainGlobals "BadBoxes" = some (some (.ref C_BadBoxes)))
    (xx_BadBoxes : PySem.W.excIn K C_BadBoxes [.type "ValueError", .type "Exception", .type "BaseException", .type "object"] "ValueError.__new__" = true)
    (xk_BadBoxes : PySem.W.keepIn K (.ref C_BadBoxes) = true)
    (xb_BadBoxes : PySem.W.subIn K (.ref C_BadBoxes) (.type "BaseException") = some true)
    (xt_BadBoxes : PySem.W.typeIn K (.ref C_BadBoxes) = some (.type "type"))
    (xi_BadBoxes : PySem.W.isClsIn K C_BadBoxes = true)
    (xs_BadBoxes : PySem.W.subIn K (.ref C_BadBoxes) (.ref C_BadBoxes) = some true)
    (g_BadShape : PySem.W.nsIn K mainGlobals "BadShape" = some (some (.ref C_BadShape)))
    (xx_BadShape : PySem.W.excIn K C_BadShape [.type "ValueError", .type "Exception", .type "BaseException", .type "object"] "ValueError.__new__" = true)
    (xk_BadShape : PySem.W.keepIn K (.ref C_BadShape) = true)
    (xb_BadShape : PySem.W.subIn K (.ref C_BadShape) (.type "BaseException") = some true)
    (xt_BadShape : PySem.W.typeIn K (.ref C_BadShape) = some (.type "type"))
    (xi_BadShape : PySem.W.isClsIn K C_BadShape = true)
    (xs_BadShape : PySem.W.subIn K (.ref C_BadShape) (.ref C_BadShape) = some true)
    (g_NoBox : PySem.W.nsIn K mainGlobals "NoBox" = some (some (.ref C_NoBox)))
    (xx_NoBox : PySem.W.excIn K C_NoBox [.type "ValueError", .type "Exception", .type "BaseException", .type "object"] "ValueError.__new__" = true)
    (xk_NoBox : PySem.W.keepIn K (.ref C_NoBox) = true)
    (xb_NoBox : PySem.W.subIn K (.ref C_NoBox) (.type "BaseException") = some true)
    (xt_NoBox : PySem.W.typeIn K (.ref C_NoBox) = some (.type "type"))
    (xi_NoBox : PySem.W.isClsIn K C_NoBox = true)
    (xs_NoBox : PySem.W.subIn K (.ref C_NoBox) (.ref C_NoBox) = some true)
    (g_BadPlan : PySem.W.nsIn K mainGlobals "BadPlan" = some (some (.ref C_BadPlan)))
    (xx_BadPlan : PySem.W.excIn K C_BadPlan [.type "ValueError", .type "Exception", .type "BaseException", .type "object"] "ValueError.__new__" = true)
    (xk_BadPlan : PySem.W.keepIn K (.ref C_BadPlan) = true)
    (xb_BadPlan : PySem.W.subIn K (.ref C_BadPlan) (.type "BaseException") = some true)
    (xt_BadPlan : PySem.W.typeIn K (.ref C_BadPlan) = some (.type "type"))
    (xi_BadPlan : PySem.W.isClsIn K C_BadPlan = true)
    (xs_BadPlan : PySem.W.subIn K (.ref C_BadPlan) (.ref C_BadPlan) = some true)
    (ehg_BadRow : PySem.W.findIn K (.ref C_BadRow) "__getattribute__" = some (some (.builtin "BaseException.__getattribute__")))
    (ehk_BadRow : PySem.W.findIn K (.ref C_BadRow) "__getattr__" = some none)
    (ehd_BadRow : PySem.W.hasDictIn K C_BadRow = true)
    (eha_BadRow : PySem.W.findIn K (.ref C_BadRow) "__class__" = some (some (.builtin "object.__class__")))
    (ehm_BadRow : PySem.W.mroIn K C_BadRow (.type "object") = some true)
    (e_hn : PySem.W.specialIn K (.builtin "object.__class__") "__get__" = some (some (.builtin "getset_descriptor.__get__")))
    (e_ht : PySem.W.takesIn K (.builtin "object.__class__") = some true)
    (u_BadRow_LineError : PySem.W.subIn K (.ref C_BadRow) (.ref C_LineError) = some true)
    (u_BadRow_BadRow : PySem.W.subIn K (.ref C_BadRow) (.ref C_BadRow) = some true)
    (u_BadRow_BadBoxes : PySem.W.subIn K (.ref C_BadRow) (.ref C_BadBoxes) = some false)
    (u_BadRow_BadShape : PySem.W.subIn K (.ref C_BadRow) (.ref C_BadShape) = some false)
    (u_BadRow_NoBox : PySem.W.subIn K (.ref C_BadRow) (.ref C_NoBox) = some false)
    (u_BadRow_BadPlan : PySem.W.subIn K (.ref C_BadRow) (.ref C_BadPlan) = some false)
    (uv_BadRow : PySem.W.subIn K (.ref C_BadRow) (.type "ValueError") = some true)
    : ∃ (cs : Cs) (fd : FuncData), (∀ (s : Shared) (v : Value), BindsTo s fd ⟨[v], []⟩ [("_law_script", v)]) ∧ ∀ base : Heap, K.In base → base.Ns mainGlobals mg → FnOk l.prog w K mg base CX0 5 fa fd ["_law_script"] (sp_law K cs) := by
  have e : f_law = fa := Value.ref.inj (Option.some.inj ((PySem.W.mg_of X G a_law).symm.trans hfa))
  obtain ⟨cs, hcs⟩ : ∃ cs : Cs, cs = { f_within := f_within, d_within := (PySem.W.fnOf "within" "within" (defArgs s_within) (defBody s_within) (defScope s_within) .none kV_within dc_within pm_within an_within cd_within ct_within), f_part_fits := f_part_fits, d_part_fits := (PySem.W.fnOf "part_fits" "part_fits" (defArgs s_part_fits) (defBody s_part_fits) (defScope s_part_fits) .none kV_part_fits dc_part_fits pm_part_fits an_part_fits cd_part_fits ct_part_fits), f_fits := f_fits, d_fits := (PySem.W.fnOf "fits" "fits" (defArgs s_fits) (defBody s_fits) (defScope s_fits) .none kV_fits dc_fits pm_fits an_fits cd_fits ct_fits), f_checked := f_checked, d_checked := (PySem.W.fnOf "checked" "checked" (defArgs s_checked) (defBody s_checked) (defScope s_checked) .none kV_checked dc_checked pm_checked an_checked cd_checked ct_checked), f__law_cell_at := f__law_cell_at, d__law_cell_at := (PySem.W.fnOf "_law_cell_at" "_law_cell_at" (defArgs s__law_cell_at) (defBody s__law_cell_at) (defScope s__law_cell_at) .none kV__law_cell_at dc__law_cell_at pm__law_cell_at an__law_cell_at cd__law_cell_at ct__law_cell_at), f__law_whole := f__law_whole, d__law_whole := (PySem.W.fnOf "_law_whole" "_law_whole" (defArgs s__law_whole) (defBody s__law_whole) (defScope s__law_whole) .none kV__law_whole dc__law_whole pm__law_whole an__law_whole cd__law_whole ct__law_whole), f__law_mixed := f__law_mixed, d__law_mixed := (PySem.W.fnOf "_law_mixed" "_law_mixed" (defArgs s__law_mixed) (defBody s__law_mixed) (defScope s__law_mixed) .none kV__law_mixed dc__law_mixed pm__law_mixed an__law_mixed cd__law_mixed ct__law_mixed), f__law_size_by := f__law_size_by, d__law_size_by := (PySem.W.fnOf "_law_size_by" "_law_size_by" (defArgs s__law_size_by) (defBody s__law_size_by) (defScope s__law_size_by) .none kV__law_size_by dc__law_size_by pm__law_size_by an__law_size_by cd__law_size_by ct__law_size_by), f__law_edge := f__law_edge, d__law_edge := (PySem.W.fnOf "_law_edge" "_law_edge" (defArgs s__law_edge) (defBody s__law_edge) (defScope s__law_edge) .none kV__law_edge dc__law_edge pm__law_edge an__law_edge cd__law_edge ct__law_edge), f__law_marks := f__law_marks, d__law_marks := (PySem.W.fnOf "_law_marks" "_law_marks" (defArgs s__law_marks) (defBody s__law_marks) (defScope s__law_marks) .none kV__law_marks dc__law_marks pm__law_marks an__law_marks cd__law_marks ct__law_marks), f__law_thing_by := f__law_thing_by, d__law_thing_by := (PySem.W.fnOf "_law_thing_by" "_law_thing_by" (defArgs s__law_thing_by) (defBody s__law_thing_by) (defScope s__law_thing_by) .none kV__law_thing_by dc__law_thing_by pm__law_thing_by an__law_thing_by cd__law_thing_by ct__law_thing_by), f__law_fits := f__law_fits, d__law_fits := (PySem.W.fnOf "_law_fits" "_law_fits" (defArgs s__law_fits) (defBody s__law_fits) (defScope s__law_fits) .none kV__law_fits dc__law_fits pm__law_fits an__law_fits cd__law_fits ct__law_fits), f__law_alone := f__law_alone, d__law_alone := (PySem.W.fnOf "_law_alone" "_law_alone" (defArgs s__law_alone) (defBody s__law_alone) (defScope s__law_alone) .none kV__law_alone dc__law_alone pm__law_alone an__law_alone cd__law_alone ct__law_alone), f_law := f_law, d_law := (PySem.W.fnOf "law" "law" (defArgs s_law) (defBody s_law) (defScope s_law) .none kV_law dc_law pm_law an_law cd_law ct_law), a_PARTS := a_PARTS, C_LineError := C_LineError, C_BadRow := C_BadRow, C_BadBoxes := C_BadBoxes, C_BadShape := C_BadShape, C_NoBox := C_NoBox, C_BadPlan := C_BadPlan } := ⟨_, rfl⟩
  have T : Txt w K mg cs := by
    rw [hcs]
    exact { fn_within := ⟨fun_mk (st := s_within) l_within c_within k_within, (fun_mk (st := s_within) l_within c_within k_within).binds (ps := ["number", "low", "high"]) fun _ _ _ _ _ _ us hl => match us, hl with | [_, _, _], _ => rfl⟩, gl_within := PySem.W.mg_of X G a_within, fn_part_fits := ⟨fun_mk (st := s_part_fits) l_part_fits c_part_fits k_part_fits, (fun_mk (st := s_part_fits) l_part_fits c_part_fits k_part_fits).binds (ps := ["mark", "number", "size", "count"]) fun _ _ _ _ _ _ us hl => match us, hl with | [_, _, _, _], _ => rfl⟩, gl_part_fits := PySem.W.mg_of X G a_part_fits, fn_fits := ⟨fun_mk (st := s_fits) l_fits c_fits k_fits, (fun_mk (st := s_fits) l_fits c_fits k_fits).binds (ps := ["row", "size", "count"]) fun _ _ _ _ _ _ us hl => match us, hl with | [_, _, _], _ => rfl⟩, gl_fits := PySem.W.mg_of X G a_fits, fn_checked := ⟨fun_mk (st := s_checked) l_checked c_checked k_checked, (fun_mk (st := s_checked) l_checked c_checked k_checked).binds (ps := ["rows", "size"]) fun _ _ _ _ _ _ us hl => match us, hl with | [_, _], _ => rfl⟩, gl_checked := PySem.W.mg_of X G a_checked, fn__law_cell_at := ⟨fun_mk (st := s__law_cell_at) l__law_cell_at c__law_cell_at k__law_cell_at, (fun_mk (st := s__law_cell_at) l__law_cell_at c__law_cell_at k__law_cell_at).binds (ps := ["_law_script", "_law_k"]) fun _ _ _ _ _ _ us hl => match us, hl with | [_, _], _ => rfl⟩, gl__law_cell_at := PySem.W.mg_of X G a__law_cell_at, fn__law_whole := ⟨fun_mk (st := s__law_whole) l__law_whole c__law_whole k__law_whole, (fun_mk (st := s__law_whole) l__law_whole c__law_whole k__law_whole).binds (ps := ["_law_found"]) fun _ _ _ _ _ _ us hl => match us, hl with | [_], _ => rfl⟩, gl__law_whole := PySem.W.mg_of X G a__law_whole, fn__law_mixed := ⟨fun_mk (st := s__law_mixed) l__law_mixed c__law_mixed k__law_mixed, (fun_mk (st := s__law_mixed) l__law_mixed c__law_mixed k__law_mixed).binds (ps := ["_law_cell"]) fun _ _ _ _ _ _ us hl => match us, hl with | [_], _ => rfl⟩, gl__law_mixed := PySem.W.mg_of X G a__law_mixed, fn__law_size_by := ⟨fun_mk (st := s__law_size_by) l__law_size_by c__law_size_by k__law_size_by, (fun_mk (st := s__law_size_by) l__law_size_by c__law_size_by k__law_size_by).binds (ps := ["_law_cell"]) fun _ _ _ _ _ _ us hl => match us, hl with | [_], _ => rfl⟩, gl__law_size_by := PySem.W.mg_of X G a__law_size_by, fn__law_edge := ⟨fun_mk (st := s__law_edge) l__law_edge c__law_edge k__law_edge, (fun_mk (st := s__law_edge) l__law_edge c__law_edge k__law_edge).binds (ps := ["_law_cell", "_law_last"]) fun _ _ _ _ _ _ us hl => match us, hl with | [_, _], _ => rfl⟩, gl__law_edge := PySem.W.mg_of X G a__law_edge, fn__law_marks := ⟨fun_mk (st := s__law_marks) l__law_marks c__law_marks k__law_marks, (fun_mk (st := s__law_marks) l__law_marks c__law_marks k__law_marks).binds (ps := ["_law_word"]) fun _ _ _ _ _ _ us hl => match us, hl with | [_], _ => rfl⟩, gl__law_marks := PySem.W.mg_of X G a__law_marks, fn__law_thing_by := ⟨fun_mk (st := s__law_thing_by) l__law_thing_by c__law_thing_by k__law_thing_by, (fun_mk (st := s__law_thing_by) l__law_thing_by c__law_thing_by k__law_thing_by).binds (ps := ["_law_script", "_law_size", "_law_count"]) fun _ _ _ _ _ _ us hl => match us, hl with | [_, _, _], _ => rfl⟩, gl__law_thing_by := PySem.W.mg_of X G a__law_thing_by, fn__law_fits := ⟨fun_mk (st := s__law_fits) l__law_fits c__law_fits k__law_fits, (fun_mk (st := s__law_fits) l__law_fits c__law_fits k__law_fits).binds (ps := ["_law_row", "_law_size", "_law_count"]) fun _ _ _ _ _ _ us hl => match us, hl with | [_, _, _], _ => rfl⟩, gl__law_fits := PySem.W.mg_of X G a__law_fits, fn__law_alone := ⟨fun_mk (st := s__law_alone) l__law_alone c__law_alone k__law_alone, (fun_mk (st := s__law_alone) l__law_alone c__law_alone k__law_alone).binds (ps := ["_law_e", "_law_own"]) fun _ _ _ _ _ _ us hl => match us, hl with | [_, _], _ => rfl⟩, gl__law_alone := PySem.W.mg_of X G a__law_alone, fn_law := ⟨fun_mk (st := s_law) l_law c_law k_law, (fun_mk (st := s_law) l_law c_law k_law).binds (ps := ["_law_script"]) fun _ _ _ _ _ _ us hl => match us, hl with | [_], _ => rfl⟩, gl_law := PySem.W.mg_of X G a_law, no_isinstance := PySem.W.mg_none_of X G z_isinstance, no_int := PySem.W.mg_none_of X G z_int, no_bool := PySem.W.mg_none_of X G z_bool, no_tuple := PySem.W.mg_none_of X G z_tuple, no_len := PySem.W.mg_none_of X G z_len, no_str := PySem.W.mg_none_of X G z_str, no_range := PySem.W.mg_none_of X G z_range, no_list := PySem.W.mg_none_of X G z_list, no_ValueError := PySem.W.mg_none_of X G z_ValueError, gl_GREATEST := (by obtain ⟨t, e⟩ := v_GREATEST; exact ⟨t, PySem.W.mg_of X G e⟩), gl_MOST := (by obtain ⟨t, e⟩ := v_MOST; exact ⟨t, PySem.W.mg_of X G e⟩), gl_PARTS := PySem.W.mg_of X G v_PARTS, km_PARTS := ⟨es_PARTS, en_PARTS, vl_PARTS, vk_PARTS, vs_PARTS, vf_PARTS⟩, ex_LineError := ⟨PySem.W.mg_of X G g_LineError, xx_LineError, xk_LineError, xb_LineError, xt_LineError, xi_LineError, xs_LineError⟩, ex_BadRow := ⟨PySem.W.mg_of X G g_BadRow, xx_BadRow, xk_BadRow, xb_BadRow, xt_BadRow, xi_BadRow, xs_BadRow⟩, ex_BadBoxes := ⟨PySem.W.mg_of X G g_BadBoxes, xx_BadBoxes, xk_BadBoxes, xb_BadBoxes, xt_BadBoxes, xi_BadBoxes, xs_BadBoxes⟩, ex_BadShape := ⟨PySem.W.mg_of X G g_BadShape, xx_BadShape, xk_BadShape, xb_BadShape, xt_BadShape, xi_BadShape, xs_BadShape⟩, ex_NoBox := ⟨PySem.W.mg_of X G g_NoBox, xx_NoBox, xk_NoBox, xb_NoBox, xt_NoBox, xi_NoBox, xs_NoBox⟩, ex_BadPlan := ⟨PySem.W.mg_of X G g_BadPlan, xx_BadPlan, xk_BadPlan, xb_BadPlan, xt_BadPlan, xi_BadPlan, xs_BadPlan⟩, ec_BadRow := ⟨ehg_BadRow, ehk_BadRow, xb_BadRow, ehd_BadRow, eha_BadRow, e_hn, e_ht, ehm_BadRow⟩, is_BadRow_LineError := kit_own xi_LineError xt_LineError xs_LineError u_BadRow_LineError, is_BadRow_BadRow := kit_own xi_BadRow xt_BadRow xs_BadRow u_BadRow_BadRow, is_BadRow_BadBoxes := kit_own xi_BadBoxes xt_BadBoxes xs_BadBoxes u_BadRow_BadBoxes, is_BadRow_BadShape := kit_own xi_BadShape xt_BadShape xs_BadShape u_BadRow_BadShape, is_BadRow_NoBox := kit_own xi_NoBox xt_NoBox xs_NoBox u_BadRow_NoBox, is_BadRow_BadPlan := kit_own xi_BadPlan xt_BadPlan xs_BadPlan u_BadRow_BadPlan, iv_BadRow := kit_val uv_BadRow }
  refine ⟨cs, cs.d_law, ?_, fun base KB GB => ?_⟩
  · rw [hcs]
    exact fun s v => .of_eq rfl
  have o__law_size_by := ok__law_size_by (P := l.prog) (w := w) (base := base) T 
  have o__law_cell_at := ok__law_cell_at (P := l.prog) (w := w) (base := base) T 
  have o__law_marks := ok__law_marks (P := l.prog) (w := w) (base := base) T 
  have o__law_mixed := ok__law_mixed (P := l.prog) (w := w) (base := base) T 
  have o__law_edge := ok__law_edge (P := l.prog) (w := w) (base := base) T o__law_mixed
  have o__law_thing_by := ok__law_thing_by (P := l.prog) (w := w) (base := base) T o__law_cell_at o__law_marks o__law_edge
  have o__law_whole := ok__law_whole (P := l.prog) (w := w) (base := base) T 
  have o__law_fits := ok__law_fits (P := l.prog) (w := w) (base := base) T o__law_marks o__law_whole
  have o_within := ok_within (P := l.prog) (w := w) (base := base) T 
  have o_part_fits := ok_part_fits (P := l.prog) (w := w) (base := base) T o_within
  have o_fits := ok_fits (P := l.prog) (w := w) (base := base) T o_part_fits
  have o_checked := ok_checked (P := l.prog) (w := w) (base := base) T o_fits
  have o__law_alone := ok__law_alone (P := l.prog) (w := w) (base := base) T 
  have o_law := ok_law (P := l.prog) (w := w) (base := base) T o__law_size_by o__law_thing_by o__law_fits o_fits o__law_cell_at o_checked o__law_alone
  have ef : cs.f_law = fa := by
    rw [hcs]
    exact e
  rw [← ef]
  exact o_law.ok
theorem walk {l : PySem.W.OpenLaw} {q : Program} {loose : List Str} {XP : (Str → Option Value) → Heap → Prop} {YP : World → Heap → Prop} {d : DefRec} {K : Params → PySem.W.Frag} (hn : l.most = some 63) (hdf : d.params.defaults = [])
    (hY : ∀ (w : World) (h : Heap), YP w h → (K w.params).In h)
    (F : ∀ (w : World) (mg : Str → Option Value) (fa : Addr) (h : Heap), (K w.params).In h → h.Ns mainGlobals mg → mg d.name = some (.ref fa) →
      ∃ (cs : Cs) (fd : FuncData), (∀ (s : Shared) (u : Value), BindsTo s fd ⟨[u], []⟩ [("_law_script", u)]) ∧ ∀ base : Heap, (K w.params).In base → base.Ns mainGlobals mg → FnOk l.prog w (K w.params) mg base CX0 5 fa fd ["_law_script"] (sp_law (K w.params) cs)) :
    PySem.W.WalkO q loose XP YP l.row.toRowW d [] (fun f vs => PySem.call f vs) :=
  L2.walk_of (n := 63) (k := 5) (x := "_law_script") (CX := fun _ => CX0) (sp := fun w => spEnd (K w.params)) hn (by decide) hdf ⟨rfl, by decide, by decide⟩ hY (fun w mg fa h KX G hm => by
    obtain ⟨cs, fd, B, O⟩ := F w mg fa h KX G hm
    exact ⟨fd, B, fun base KB GB => (O base KB GB).imp fun vs H Q E z => spEnd_law cs z⟩) (fun _ _ a ns hl _ hS => ⟨a, ns, rfl, hS, hl, fun _ => rfl⟩) fun _ _ _ _ _ z => z
end NL
open PySem PySem.W PyProof.Rows
set_option maxRecDepth 100000 in
set_option maxHeartbeats 0 in
theorem PySem.Challenge.cw_nearlines_k03_rows_that_fit_holds : PySem.Challenge.rw_nearlines_k03_rows_that_fit.Holds := by
  w_on; o_law; k_head; (case hw => w_witness2)
  k_fill
  refine NL.walk (l := PySem.Challenge.rw_nearlines_k03_rows_that_fit) rfl rfl (fun w h Y => PySem.W.kIn_of Y) ?F
  case F =>
    intro w mg fa h KX G hmg
    refine' NL.all_mk KX G hmg ?a_within ?l_within ?c_within ?k_within ?a_part_fits ?l_part_fits ?c_part_fits ?k_part_fits ?a_fits ?l_fits ?c_fits ?k_fits ?a_checked ?l_checked ?c_checked ?k_checked ?a__law_cell_at ?l__law_cell_at ?c__law_cell_at ?k__law_cell_at ?a__law_whole ?l__law_whole ?c__law_whole ?k__law_whole ?a__law_mixed ?l__law_mixed ?c__law_mixed ?k__law_mixed ?a__law_size_by ?l__law_size_by ?c__law_size_by ?k__law_size_by ?a__law_edge ?l__law_edge ?c__law_edge ?k__law_edge ?a__law_marks ?l__law_marks ?c__law_marks ?k__law_marks ?a__law_thing_by ?l__law_thing_by ?c__law_thing_by ?k__law_thing_by ?a__law_fits ?l__law_fits ?c__law_fits ?k__law_fits ?a__law_alone ?l__law_alone ?c__law_alone ?k__law_alone ?a_law ?l_law ?c_law ?k_law ?z_isinstance ?z_int ?z_bool ?z_tuple ?z_len ?z_str ?z_range ?z_list ?z_ValueError ?v_GREATEST ?v_MOST ?v_PARTS ?vl_PARTS ?vk_PARTS ?vs_PARTS ?vf_PARTS ?g_LineError ?xx_LineError ?xk_LineError ?xb_LineError ?xt_LineError ?xi_LineError ?xs_LineError ?g_BadRow ?xx_BadRow ?xk_BadRow ?xb_BadRow ?xt_BadRow ?xi_BadRow ?xs_BadRow ?g_BadBoxes ?xx_BadBoxes ?xk_BadBoxes ?xb_BadBoxes ?xt_BadBoxes ?xi_BadBoxes ?xs_BadBoxes ?g_BadShape ?xx_BadShape ?xk_BadShape ?xb_BadShape ?xt_BadShape ?xi_BadShape ?xs_BadShape ?g_NoBox ?xx_NoBox ?xk_NoBox ?xb_NoBox ?xt_NoBox ?xi_NoBox ?xs_NoBox ?g_BadPlan ?xx_BadPlan ?xk_BadPlan ?xb_BadPlan ?xt_BadPlan ?xi_BadPlan ?xs_BadPlan ?ehg_BadRow ?ehk_BadRow ?ehd_BadRow ?eha_BadRow ?ehm_BadRow ?e_hn ?e_ht ?u_BadRow_LineError ?u_BadRow_BadRow ?u_BadRow_BadBoxes ?u_BadRow_BadShape ?u_BadRow_NoBox ?u_BadRow_BadPlan ?uv_BadRow
    (case a_within => k_is)
    (case l_within => k_is)
    (case c_within => k_is)
    (case k_within => k_is)
    (case a_part_fits => k_is)
    (case l_part_fits => k_is)
    (case c_part_fits => k_is)
    (case k_part_fits => k_is)
    (case a_fits => k_is)
    (case l_fits => k_is)
    (case c_fits => k_is)
    (case k_fits => k_is)
    (case a_checked => k_is)
    (case l_checked => k_is)
    (case c_checked => k_is)
    (case k_checked => k_is)
    (case a__law_cell_at => k_is)
    (case l__law_cell_at => k_is)
    (case c__law_cell_at => k_is)
    (case k__law_cell_at => k_is)
    (case a__law_whole => k_is)
    (case l__law_whole => k_is)
    (case c__law_whole => k_is)
    (case k__law_whole => k_is)
    (case a__law_mixed => k_is)
    (case l__law_mixed => k_is)
    (case c__law_mixed => k_is)
    (case k__law_mixed => k_is)
    (case a__law_size_by => k_is)
    (case l__law_size_by => k_is)
    (case c__law_size_by => k_is)
    (case k__law_size_by => k_is)
    (case a__law_edge => k_is)
    (case l__law_edge => k_is)
    (case c__law_edge => k_is)
    (case k__law_edge => k_is)
    (case a__law_marks => k_is)
    (case l__law_marks => k_is)
    (case c__law_marks => k_is)
    (case k__law_marks => k_is)
    (case a__law_thing_by => k_is)
    (case l__law_thing_by => k_is)
    (case c__law_thing_by => k_is)
    (case k__law_thing_by => k_is)
    (case a__law_fits => k_is)
    (case l__law_fits => k_is)
    (case c__law_fits => k_is)
    (case k__law_fits => k_is)
    (case a__law_alone => k_is)
    (case l__law_alone => k_is)
    (case c__law_alone => k_is)
    (case k__law_alone => k_is)
    (case a_law => k_is)
    (case l_law => k_is)
    (case c_law => k_is)
    (case k_law => k_is)
    (case z_isinstance => k_is)
    (case z_int => k_is)
    (case z_bool => k_is)
    (case z_tuple => k_is)
    (case z_len => k_is)
    (case z_str => k_is)
    (case z_range => k_is)
    (case z_list => k_is)
    (case z_ValueError => k_is)
    (case v_GREATEST => exact ⟨_, by k_is⟩)
    (case v_MOST => exact ⟨_, by k_is⟩)
    (case v_PARTS => k_is)
    (case vl_PARTS => k_is)
    (case vk_PARTS => exact ⟨⟨_, _, rfl, rfl⟩, ⟨_, _, rfl, rfl⟩, ⟨_, _, rfl, rfl⟩, ⟨_, _, rfl, rfl⟩, ⟨_, _, rfl, rfl⟩, ⟨_, _, rfl, rfl⟩, ⟨_, _, rfl, rfl⟩, ⟨_, _, rfl, rfl⟩, ⟨_, _, rfl, rfl⟩, trivial⟩)
    (case vs_PARTS => rfl)
    (case vf_PARTS => exact fun z => NL.parts_find z)
    (case g_LineError => k_is)
    (case xx_LineError => k_exc)
    (case xk_LineError => k_is)
    (case xb_LineError => k_is)
    (case xt_LineError => k_is)
    (case xi_LineError => k_is)
    (case xs_LineError => first | k_is | rfl)
    (case g_BadRow => k_is)
    (case xx_BadRow => k_exc)
    (case xk_BadRow => k_is)
    (case xb_BadRow => k_is)
    (case xt_BadRow => k_is)
    (case xi_BadRow => k_is)
    (case xs_BadRow => first | k_is | rfl)
    (case g_BadBoxes => k_is)
    (case xx_BadBoxes => k_exc)
    (case xk_BadBoxes => k_is)
    (case xb_BadBoxes => k_is)
    (case xt_BadBoxes => k_is)
    (case xi_BadBoxes => k_is)
    (case xs_BadBoxes => first | k_is | rfl)
    (case g_BadShape => k_is)
    (case xx_BadShape => k_exc)
    (case xk_BadShape => k_is)
    (case xb_BadShape => k_is)
    (case xt_BadShape => k_is)
    (case xi_BadShape => k_is)
    (case xs_BadShape => first | k_is | rfl)
    (case g_NoBox => k_is)
    (case xx_NoBox => k_exc)
    (case xk_NoBox => k_is)
    (case xb_NoBox => k_is)
    (case xt_NoBox => k_is)
    (case xi_NoBox => k_is)
    (case xs_NoBox => first | k_is | rfl)
    (case g_BadPlan => k_is)
    (case xx_BadPlan => k_exc)
    (case xk_BadPlan => k_is)
    (case xb_BadPlan => k_is)
    (case xt_BadPlan => k_is)
    (case xi_BadPlan => k_is)
    (case xs_BadPlan => first | k_is | rfl)
    (case ehg_BadRow => k_is)
    (case ehk_BadRow => k_is)
    (case ehd_BadRow => k_is)
    (case eha_BadRow => k_is)
    (case ehm_BadRow => k_is)
    (case e_hn => k_is)
    (case e_ht => k_is)
    (case u_BadRow_LineError => first | k_is | rfl)
    (case u_BadRow_BadRow => first | k_is | rfl)
    (case u_BadRow_BadBoxes => first | k_is | rfl)
    (case u_BadRow_BadShape => first | k_is | rfl)
    (case u_BadRow_NoBox => first | k_is | rfl)
    (case u_BadRow_BadPlan => first | k_is | rfl)
    (case uv_BadRow => k_is)
#print axioms PySem.Challenge.cw_nearlines_k03_rows_that_fit_holds
