import PyProof.Rows.All
import Wide.All
import OpenK.AllK
import Wide.FinOn
import HandS.ForMost
import HandS.IsInst
import HandS.Deep
import HandS.LawCells
import HandS.ForExc
import PySem.Challenge.RW_nearlines_k11_depths_told
set_option Elab.async false
set_option linter.all false
set_option maxRecDepth 100000
set_option maxHeartbeats 4000000
namespace L2
open PySem PySem.Spec PyProof.Rows
/-! ## common to all laws: a def of the text with its place, its promise, its call -/
/-- the def at f is the one that stands in the text at st, its parameters are ps -/
structure FnAt (K : PySem.W.Frag) (x qual : Str) (st : Stmt) (f : Addr) (fd : FuncData) (ps : List Str) : Prop where
  fn : Fun K x qual st f fd
  bd : Binds K fd ps []
/-- the def at f keeps the promise sp -/
structure Ok (P : Program) (w : World) (K : PySem.W.Frag) (mg : Str → Option Value) (base : Heap) (cx : CXT) (k : Nat) (f : Addr) (fd : FuncData) (ps : List Str) (sp : Sp) : Prop where
  ok : FnOk P w K mg base cx k f fd ps sp
  bd : Binds K fd ps []
  kp : PySem.W.keepIn K (.ref f) = true
theorem Ok.imp {P : Program} {w : World} {K : PySem.W.Frag} {mg : Str → Option Value} {base : Heap} {cx : CXT} {k : Nat} {f : Addr} {fd : FuncData} {ps : List Str} {sp sp' : Sp} (o : Ok P w K mg base cx k f fd ps sp)
    (h : ∀ vs H Q E, sp' vs H Q E → sp vs H Q E) : Ok P w K mg base cx k f fd ps sp' := ⟨o.ok.imp h, o.bd, o.kp⟩
section
variable {P : Program} {w : World} {K : PySem.W.Frag} {mg : Str → Option Value} {base : Heap} {x qual : Str} {st : Stmt} {f : Addr} {fd : FuncData} {ps N : List Str} {k : Nat} {sp : Sp}
theorem FnAt.ok (F : FnAt K x qual st f fd ps) (S : FnScope N ps (defScope st)) (len : ∀ vs H Q E, sp vs H Q E → vs.length = ps.length)
    (body : ∀ (cdv : Value) (A : Around) (outer : List Env) (s : Shared) (H : Hp) (vs : List V) (Q : VK) (E : XK), Room k (A.deeper (envOfC qual (defScope st) s.heap.objs.size f cdv)) → sp vs H Q E →
      ∃ t, PSs (cxOf CX0 P w K mg base N qual (defScope st) f cdv A outer s H E).nox (defBody st) t ∧ t { nx := fun _ H' => Q .non H', rt := Q } (start N vs) H) : Ok P w K mg base CX0 (k + 1) f fd ps sp := ⟨F.fn.ok S len body, F.bd, F.fn.kp⟩
theorem FnAt.okX (F : FnAt K x qual st f fd ps) (S : FnScope N ps (defScope st)) (len : ∀ vs H Q E, sp vs H Q E → vs.length = ps.length)
    (body : ∀ (cdv : Value) (A : Around) (outer : List Env) (s : Shared) (H : Hp) (vs : List V) (Q : VK) (E : XK), Room k (A.deeper (envOfC qual (defScope st) s.heap.objs.size f cdv)) → sp vs H Q E →
      ∃ t, PSs (cxOf (L2.CX P w) P w K mg base N qual (defScope st) f cdv A outer s H E) (defBody st) t ∧ t { nx := fun _ H' => Q .non H', rt := Q } (start N vs) H) : Ok P w K mg base (L2.CX P w) (k + 1) f fd ps sp := ⟨F.fn.okX S len body, F.bd, F.fn.kp⟩
end
section
variable {X : Cx} {cx : CXT} {k : Nat} {f : Addr} {fd : FuncData} {ps : List Str} {sp : Sp} {E : XK} {x m : Str} {p pos apos : Pos} {e o : Expr} {es : List Expr} {ta : TE} {t : TA}
/-- f(..) -/
def tCallO (sp : Sp) (E : XK) (t : TA) : TE := fun σ H Q => t σ H fun vs H1 => sp vs H1 Q E
theorem tCallO_eq {sp : Sp} {E : XK} {t : TA} : tCall sp [] E t = tCallO sp E t := by
  funext σ H Q
  show t σ H (fun vs H1 => sp (vs ++ []) H1 Q E) = t σ H fun vs H1 => sp vs H1 Q E
  simp only [List.append_nil]
theorem pe_callO (O : Ok X.prog X.w X.K X.mg X.base cx k f fd ps sp) (hr : Room k X.A) (hg : Gl X x) (hm : X.mg x = some (.ref f)) (hx : Passes cx X E) (ha : PA X (e :: es) t)
    (hdb : (x == ("__debug__" : Str)) = false := by decide) (he : starEach (e :: es) X.env = (false, eval e X.env) :: starEach es X.env := by rfl) (hpl : (backTo pos (starEach es X.env)).any (·.1) = false := by rfl) :
    PE X (.Call (.Name x p) (e :: es) [] pos) (tCallO sp E t) := by
  obtain ⟨F, B, kp⟩ := O
  rw [← tCallO_eq]
  exact pe_call F hr hg hm kp B .nil hx ha hdb he hpl
/-- o.m(..) -/
def tMethO (C : Addr) (m : Str) (sp : Sp) (E : XK) (ta : TE) (t : TA) : TE := fun σ H Q => ta σ H fun x H1 => ∃ a dx fs, x = .ref a ∧ H1 a = some (.ins C dx fs) ∧ fs.lookup m = none ∧ t σ H1 fun vs H2 => sp (x :: vs) H2 Q E
theorem tMethO_eq {C : Addr} {m : Str} {sp : Sp} {E : XK} {ta : TE} {t : TA} : tMeth C m sp [] E ta t = tMethO C m sp E ta t := by
  funext σ H Q
  unfold tMeth tMethO
  simp only [List.append_nil]
theorem pe_methO {C : Addr} {pl : Sem Bool} (O : Ok X.prog X.w X.K X.mg X.base cx k f fd ps sp) (c : Cls X.K C) (hm : Meth X.K C m f) (hr : Room k X.A) (hx : Passes cx X E) (he : PE X o ta) (ha : PA X (e :: es) t)
    (hst : starEach (e :: es) X.env = (false, eval e X.env) :: starEach es X.env := by rfl) (hpl : (backTo pos (starEach es X.env)).any (·.1) = false := by rfl)
    (ht : eval (.Call (.Attribute o m apos) (e :: es) [] pos) X.env = (do
      let ov ← eval o X.env
      standAt apos.atName
      let (f, first) ← holding [ov] (getMethod ov m pl)
      callWith pos f first (backTo pos (starEach (e :: es) X.env)) (backToKw pos (keywordEach [] X.env))) := by rfl) :
    PE X (.Call (.Attribute o m apos) (e :: es) [] pos) (tMethO C m sp E ta t) := by
  obtain ⟨F, B, kp⟩ := O
  rw [← tMethO_eq]
  exact pe_meth he c hm F hr B .nil hx ha hst hpl ht
theorem pe_methO0 {C : Addr} {pl : Sem Bool} (O : Ok X.prog X.w X.K X.mg X.base cx k f fd ps sp) (c : Cls X.K C) (hm : Meth X.K C m f) (hr : Room k X.A) (hx : Passes cx X E) (he : PE X o ta)
    (ht : eval (.Call (.Attribute o m apos) [] [] pos) X.env = (do
      let ov ← eval o X.env
      standAt apos.atName
      let (f, first) ← holding [ov] (getMethod ov m pl)
      callWith pos f first (backTo pos (starEach [] X.env)) (backToKw pos (keywordEach [] X.env))) := by rfl) :
    PE X (.Call (.Attribute o m apos) [] [] pos) (tMethO C m sp E ta tNil) := by
  obtain ⟨F, B, kp⟩ := O
  rw [← tMethO_eq]
  exact pe_meth0 he c hm F hr B .nil hx ht
end
/-! ### tests, heaps -/
theorem iteD {c A B : Prop} [Decidable c] (h1 : c → A) (h2 : ¬ c → B) : if decide c = true then A else B := by
  by_cases h : c
  · rw [decide_eq_true h]
    exact iteT (h1 h)
  · rw [decide_eq_false h]
    exact iteF (h2 h)
theorem iteN {c A B : Prop} [Decidable c] (h1 : ¬ c → A) (h2 : c → B) : if (!decide c) = true then A else B := by
  by_cases h : c
  · rw [decide_eq_true h]
    exact iteF (h2 h)
  · rw [decide_eq_false h]
    exact iteT (h1 h)
theorem iteB {b : Bool} {A B : Prop} (h1 : b = true → A) (h2 : b = false → B) : if b = true then A else B := by
  cases b with
  | true => exact iteT (h1 rfl)
  | false => exact iteF (h2 rfl)
theorem iteBN {b : Bool} {A B : Prop} (h1 : b = false → A) (h2 : b = true → B) : if (!b) = true then A else B := by
  cases b with
  | true => exact iteF (h2 rfl)
  | false => exact iteT (h1 rfl)
theorem Same.new {H : Hp} {p : Addr} {o : HO} (h : H p = none) : Same H (upd H p o) := fun b x e => by
  rw [upd_ne (ne_of_none e h)]
  exact e
/-- what H does not know may change -/
theorem Same.mut {H H' : Hp} {p : Addr} {o : HO} (s : Same H H') (h : H p = none) : Same H (upd H' p o) := fun b x e => by
  rw [upd_ne (ne_of_none e h)]
  exact s b x e
theorem Same.seqT {K : PySem.W.Frag} {H H' : Hp} {a : Addr} {xs : List V} (e : Same H H') (h : SqT K H a xs) : SqT K H' a xs := by
  rcases h with (h | ⟨o, h⟩) | h
  · exact .inl (.inl (e _ _ h))
  · exact .inl (.inr ⟨o, e _ _ h⟩)
  · exact .inr h
/-- the list at l is not the tuple at a -/
theorem SqT.but {K : PySem.W.Frag} {H : Hp} {a l : Addr} {xs ys : List V} {o : HO} (h : SqT K H a xs) (hl : H l = some (.lst ys)) : SqT K (upd H l o) a xs := by
  rcases h with (h | ⟨u, h⟩) | h
  · exact .inl (.inl (by rw [upd_ne (ne_of h hl (by intro z; cases z))]; exact h))
  · exact .inl (.inr ⟨u, by rw [upd_ne (ne_of h hl (by intro z; cases z))]; exact h⟩)
  · exact .inr h
/-! ### ways joined: a word between a part and what follows -/
section
variable {X : Cx}
def tJoinE (t : TE) : TE := fun σ H Q => ∃ R : VK, t σ H R ∧ ∀ v H1, R v H1 → Q v H1
theorem pe_jn {e : Expr} {t : TE} (h : PE X e t) : PE X e (tJoinE t) := by
  refine ⟨fun pins s σ H Q I hq => ?_⟩
  obtain ⟨R, h1, h2⟩ := hq
  refine thn (h.run pins s σ H R I h1) fun u s1 hh => ?_
  obtain ⟨v, H1, I1, r, q⟩ := hh
  exact ⟨v, H1, I1, r, h2 v H1 q⟩
def tJoinT (t : TT) : TT := fun σ H Q => ∃ R : Bool → Hp → Prop, t σ H R ∧ ∀ b H1, R b H1 → Q b H1
theorem pt_jn {e : Expr} {t : TT} (h : PT X e t) : PT X e (tJoinT t) := by
  refine ⟨fun pins s σ H Q I hq => ?_⟩
  obtain ⟨R, h1, h2⟩ := hq
  refine thn (h.run pins s σ H R I h1) fun b s1 hh => ?_
  obtain ⟨H1, I1, q⟩ := hh
  exact ⟨H1, I1, h2 b H1 q⟩
def tCutS (t u : TS) : TS := fun D σ H => ∃ Mid : St → Hp → Prop, t { D with nx := Mid } σ H ∧ ∀ σ' H', Mid σ' H' → u D σ' H'
theorem pss_cutS {st : Stmt} {rest : List Stmt} {t u : TS} (h1 : PS X st t) (h2 : PSs X rest u) : PSs X (st :: rest) (tCutS t u) := by
  refine ⟨fun pins s σ H D I h => ?_⟩
  obtain ⟨Mid, hm, hu⟩ := h
  refine wpAny_execs_cons (thn (h1.run pins s σ H { D with nx := Mid } I hm) fun f s1 q => ?_)
  cases f with
  | next =>
    obtain ⟨σ1, H1, I1, q1⟩ := q
    exact h2.run pins s1 σ1 H1 D I1 (hu σ1 H1 q1)
  | ret v => exact q
  | brk => exact q
  | cont => exact q
end
/-! ### rules within a comprehension: the written part named -/
section
variable {X : Cx} {K : PySem.W.Frag}
theorem ix_tupK (h : X.K = K) : IxR X (rIxT K) := by subst h; exact ix_tup
theorem ix_listK (h : X.K = K) : IxR X (rIxL K) := by subst h; exact ix_list
theorem ix_seqK (h : X.K = K) : IxR X (rIx K) := by subst h; exact ix_seq
theorem op_in_seqK (h : X.K = K) : OpR X (compareOp .In) (rIn K false) := by subst h; exact op_in_seq
theorem op_notIn_seqK (h : X.K = K) : OpR X (compareOp .NotIn) (rIn K true) := by subst h; exact op_notIn_seq
def rLenQ (K : PySem.W.Frag) : List V → Hp → VK → Prop := fun xs H Q => ∃ p ys, xs = [.ref p] ∧ (SqL K H p ys ∨ SqT K H p ys) ∧ Q (.int ys.length) H
theorem call_len_seqK (h : X.K = K) : CallR X (.builtin "len") (rLenQ K) := by subst h; exact call_len_seq
theorem call_isiK' (h : X.K = K) : CallR X (.builtin "isinstance") (rIsi K) := by subst h; exact call_isi
end
theorem SqL.but {K : PySem.W.Frag} {H : Hp} {a l : Addr} {xs ys : List V} {o : HO} (h : SqL K H a xs) (hl : H l = some (.lst ys)) (n : a ≠ l) : SqL K (upd H l o) a xs := by
  rcases h with (h | ⟨u, h⟩) | h
  · exact .inl (.inl (by rw [upd_ne n]; exact h))
  · exact .inl (.inr ⟨u, by rw [upd_ne n]; exact h⟩)
  · exact .inr h
end L2
namespace L2
open PySem PySem.Spec PyProof.Rows
/-! ### lists of ints, of ints and None, by values -/
def optV : Option Int → V
  | none => .non
  | some i => .int i
theorem optV_flat (o : Option Int) : flatV (optV o) = true := by cases o <;> rfl
theorem flat_ints (xs : List Int) : (xs.map V.int).all flatV = true := by
  induction xs with
  | nil => rfl
  | cons x r ih => exact ih
theorem flat_opts (xs : List (Option Int)) : (xs.map optV).all flatV = true := by
  induction xs with
  | nil => rfl
  | cons x r ih =>
    show (flatV (optV x) && (r.map optV).all flatV) = true
    rw [ih, optV_flat]
    rfl
theorem inV_ints (x : Int) (xs : List Int) : inV (.int x) (xs.map V.int) = decide (x ∈ xs) := by
  induction xs with
  | nil => rfl
  | cons y r ih =>
    show (y == x || inV (.int x) (r.map V.int)) = decide (x ∈ y :: r)
    rw [ih]
    by_cases h : y = x
    · subst h
      simp
    · have h' : ¬ x = y := fun z => h z.symm
      simp [h, h']
theorem inV_non_ints (xs : List Int) : inV .non (xs.map V.int) = false := by
  induction xs with
  | nil => rfl
  | cons y r ih =>
    show (false || inV .non (r.map V.int)) = false
    rw [ih]
    rfl
theorem nl_get_map {α : Type} {f : α → V} {xs : List α} {i : Nat} {x : α} (h : xs[i]? = some x) : (xs.map f)[i]? = some (f x) := by
  rw [List.getElem?_map, h]
  rfl
theorem of_get_map {α : Type} {f : α → V} {xs : List α} {i : Nat} {v : V} (h : (xs.map f)[i]? = some v) : ∃ x, xs[i]? = some x ∧ v = f x := by
  rw [List.getElem?_map] at h
  cases e : xs[i]? with
  | none =>
    rw [e] at h
    cases h
  | some x =>
    rw [e] at h
    exact ⟨x, rfl, (Option.some.inj h).symm⟩
theorem idx_get {x : Int} {xs : List Int} (h : x ∈ xs) : xs[xs.idxOf x]? = some x := by
  have hl : xs.idxOf x < xs.length := List.idxOf_lt_length_of_mem h
  rw [List.getElem?_eq_getElem hl, List.getElem_idxOf hl]
theorem idx_first {x y : Int} : ∀ {xs : List Int} {m : Nat}, m < xs.idxOf x → xs[m]? = some y → (y == x) = false
  | [], m, h, _ => by simp at h
  | z :: r, m, h, hm => by
    rw [List.idxOf_cons] at h
    by_cases e : z = x
    · subst e
      simp at h
    · have e' : (z == x) = false := by simpa using e
      rw [e'] at h
      cases m with
      | zero =>
        have q : z = y := Option.some.inj hm
        rw [← q]
        exact e'
      | succ m => exact idx_first (xs := r) (m := m) (by simp only [cond_false] at h; omega) hm
theorem eqV_int (x : Int) : eqV (.int x) (.int x) = true := by
  show (x == x) = true
  simp
theorem idx_none {x : Int} {xs : List Int} (m : Nat) (z : V) (hm : m < xs.idxOf x) (hz : (xs.map V.int)[m]? = some z) : eqV z (.int x) = false := by
  obtain ⟨y, hy, rfl⟩ := of_get_map hz
  exact idx_first hm hy
theorem ix_nat {n j : Nat} (hj : j < n) : ixN n (j : Int) = some j := by
  unfold ixN
  rw [if_pos (by omega), if_pos (by omega)]
  simp
theorem pop_seq {j n : Nat} (h : j < n) : seqIndex? (j : Int) n = some j := (ixN_seq (ix_nat h)).1
theorem erase_map {α : Type} {f : α → V} : ∀ (xs : List α) (j : Nat), (xs.map f).eraseIdx j = (xs.eraseIdx j).map f
  | [], j => by cases j <;> rfl
  | x :: r, 0 => rfl
  | x :: r, j + 1 => congrArg (f x :: ·) (erase_map r j)
theorem snoc_map {α : Type} (f : α → V) (xs : List α) (x : α) : xs.map f ++ [f x] = (xs ++ [x]).map f := by
  rw [List.map_append]
  rfl
theorem fold_take {α β : Type} (f : β → α → β) (s : β) {xs : List α} {i : Nat} {x : α} (h : xs[i]? = some x) : (xs.take (i + 1)).foldl f s = f ((xs.take i).foldl f s) x := by
  rw [List.take_add_one, h, List.foldl_append]
  rfl
theorem fold_all {α β : Type} (f : β → α → β) (s : β) {xs : List α} : (xs.take xs.length).foldl f s = xs.foldl f s := by rw [List.take_length]
theorem sizeL {n : Nat} (h : n < 1000000) : n < sizeLine := Nat.lt_of_lt_of_le h (by decide)
/-! ### touches -/
def kindS (b : Bool) : Str := if b then "write" else "read"
/-- a touch: whether it writes, its box -/
abbrev Tch := Bool × Int
def TouchAt (K : PySem.W.Frag) (H : Hp) (v : V) (t : Tch) : Prop := ∃ a, v = .ref a ∧ SqT K H a [.str (kindS t.1), .int t.2]
/-- at a a list of the touches ts -/
structure TL (K : PySem.W.Frag) (H : Hp) (xs : List V) (ts : List Tch) : Prop where
  len : xs.length = ts.length
  at_ : ∀ (i : Nat) (t : Tch), ts[i]? = some t → ∃ v, xs[i]? = some v ∧ TouchAt K H v t
theorem TouchAt.same {K : PySem.W.Frag} {H H' : Hp} {v : V} {t : Tch} (h : TouchAt K H v t) (s : Same H H') : TouchAt K H' v t := by
  obtain ⟨a, e, q⟩ := h
  exact ⟨a, e, s.seqT q⟩
theorem TL.same {K : PySem.W.Frag} {H H' : Hp} {xs : List V} {ts : List Tch} (h : TL K H xs ts) (s : Same H H') : TL K H' xs ts :=
  ⟨h.len, fun i t e => let ⟨v, e1, q⟩ := h.at_ i t e; ⟨v, e1, q.same s⟩⟩
theorem TouchAt.but {K : PySem.W.Frag} {H : Hp} {v : V} {t : Tch} {l : Addr} {ys : List V} {o : HO} (h : TouchAt K H v t) (hl : H l = some (.lst ys)) : TouchAt K (upd H l o) v t := by
  obtain ⟨a, e, q⟩ := h
  exact ⟨a, e, q.but hl⟩
theorem TL.but {K : PySem.W.Frag} {H : Hp} {xs : List V} {ts : List Tch} {l : Addr} {ys : List V} {o : HO} (h : TL K H xs ts) (hl : H l = some (.lst ys)) : TL K (upd H l o) xs ts :=
  ⟨h.len, fun i t e => let ⟨v, e1, q⟩ := h.at_ i t e; ⟨v, e1, q.but hl⟩⟩
theorem TL.nil {K : PySem.W.Frag} {H : Hp} : TL K H [] [] := ⟨rfl, fun i t e => by simp at e⟩
theorem TL.snoc {K : PySem.W.Frag} {H : Hp} {xs : List V} {ts : List Tch} {v : V} {t : Tch} (h : TL K H xs ts) (q : TouchAt K H v t) : TL K H (xs ++ [v]) (ts ++ [t]) := by
  refine ⟨by rw [List.length_append, List.length_append, h.len]; rfl, fun i u e => ?_⟩
  by_cases hi : i < ts.length
  · rw [List.getElem?_append_left hi] at e
    obtain ⟨x, e1, q1⟩ := h.at_ i u e
    exact ⟨x, by rw [List.getElem?_append_left (by rw [h.len]; exact hi)]; exact e1, q1⟩
  · have hlt := (List.getElem?_eq_some_iff.mp e).1
    rw [List.length_append] at hlt
    have hi2 : i = ts.length := by
      simp only [List.length_cons, List.length_nil] at hlt
      omega
    subst hi2
    rw [List.getElem?_append_right (Nat.le_refl _), Nat.sub_self] at e
    have et : t = u := Option.some.inj e
    subst et
    refine ⟨v, ?_, q⟩
    rw [← h.len, List.getElem?_append_right (Nat.le_refl _), Nat.sub_self]
    rfl
theorem TL.of {K : PySem.W.Frag} {H : Hp} {xs : List V} {ts : List Tch} (h : TL K H xs ts) {i : Nat} {v : V} (hv : xs[i]? = some v) : ∃ t, ts[i]? = some t ∧ TouchAt K H v t := by
  have hlt := (List.getElem?_eq_some_iff.mp hv).1
  rw [h.len] at hlt
  obtain ⟨v', e1, q⟩ := h.at_ i ts[i] (List.getElem?_eq_getElem hlt)
  rw [hv] at e1
  have ev : v = v' := Option.some.inj e1
  exact ⟨ts[i], List.getElem?_eq_getElem hlt, by rw [ev]; exact q⟩
theorem at_getD {xs : List Int} {i : Int} (h0 : 0 ≤ i) (h1 : i < xs.length) : atI (xs.map V.int) i = some (.int (xs.getD i.toNat 0)) := by
  obtain ⟨j, rfl⟩ : ∃ j : Nat, i = (j : Int) := ⟨i.toNat, by omega⟩
  have hj : j < xs.length := by omega
  refine atI_nat ?_
  rw [List.getElem?_map, Int.toNat_natCast, List.getD_eq_getElem?_getD, List.getElem?_eq_getElem hj]
  rfl
theorem mod_at {xs : List Int} (c : Int) (n : Nat) (hn : n = xs.length) (h0 : 0 < n) : atI (xs.map V.int) (c % (n : Int)) = some (.int (xs.getD (c % (n : Int)).toNat 0)) :=
  at_getD (Int.emod_nonneg _ (by omega)) (by have := Int.emod_lt_of_pos c (show 0 < (n : Int) by omega); omega)
theorem kind_at (c : Int) : atI [V.str "read", V.str "write"] (c % 2) = some (V.str (kindS (c % 2 == 1))) := by
  have h : c % 2 = 0 ∨ c % 2 = 1 := by omega
  rcases h with h | h <;> rw [h] <;> rfl
theorem int_getD {lines : List Int} {k : Nat} (h : k < lines.length) : (lines.map V.int)[k]? = some (.int (lines.getD k 0)) := by
  rw [List.getElem?_map, List.getD_eq_getElem?_getD, List.getElem?_eq_getElem h]
  rfl
theorem mod2 (c : Int) : c % 2 = 0 ∨ c % 2 = 1 := by omega
theorem mod4 (c : Int) : c % 4 = 0 ∨ c % 4 = 1 ∨ c % 4 = 2 ∨ c % 4 = 3 := by omega
end L2
namespace L2
open PySem PySem.Spec PyProof.Rows
/-! ### data at any depth, for == -/
def Sh (n : Nat) (d : PyData) : Prop := PyData.canLay0 d = true ∧ PyData.depth d ≤ n
theorem Sh.shaped {n : Nat} {d : PyData} (h : Sh n d) (hn : n ≤ 64) : SeqAt.shaped d = true := by
  unfold SeqAt.shaped
  rw [h.1, decide_eq_true (Nat.le_trans h.2 hn)]
  rfl
theorem sh_all {n : Nat} : ∀ {ds : List PyData}, (∀ d ∈ ds, Sh n d) → PyData.canLayAll0 ds = true ∧ PyData.depthAll ds ≤ n
  | [], _ => ⟨rfl, Nat.zero_le _⟩
  | d :: r, h => by
    obtain ⟨h1, h2⟩ := h d List.mem_cons_self
    obtain ⟨h3, h4⟩ := sh_all (ds := r) fun e he => h e (List.mem_cons_of_mem _ he)
    refine ⟨?_, ?_⟩
    · show (PyData.canLay0 d && PyData.canLayAll0 r) = true
      rw [h1, h3]
      rfl
    · show max (PyData.depth d) (PyData.depthAll r) ≤ n
      omega
theorem sh_list {n : Nat} {ds : List PyData} (h : ∀ d ∈ ds, Sh n d) : Sh (n + 1) (.list ds) := ⟨(sh_all h).1, Nat.succ_le_succ (sh_all h).2⟩
theorem sh_tup {n : Nat} {ds : List PyData} (h : ∀ d ∈ ds, Sh n d) : Sh (n + 1) (.tuple ds) := ⟨(sh_all h).1, Nat.succ_le_succ (sh_all h).2⟩
theorem sh_int {n : Nat} (i : Int) : Sh n (.int i) := ⟨rfl, Nat.zero_le _⟩
theorem sh_non {n : Nat} : Sh n .none := ⟨rfl, Nat.zero_le _⟩
theorem sh_bool {n : Nat} (b : Bool) : Sh n (.bool b) := ⟨rfl, Nat.zero_le _⟩
theorem sh_str {n : Nat} {x : Str} (h : PyData.strOk x = true) : Sh n (.str x) := ⟨h, Nat.zero_le _⟩
theorem dpAll_of {K : PySem.W.Frag} {H : Hp} : ∀ {xs : List V} {ds : List PyData}, xs.length = ds.length → (∀ (i : Nat) v d, xs[i]? = some v → ds[i]? = some d → Dp K H v d) → DpAll K H xs ds
  | [], [], _, _ => .nil
  | [], _ :: _, h, _ => by simp at h
  | _ :: _, [], h, _ => by simp at h
  | x :: r, d :: s, h, q => .cons (q 0 x d rfl rfl) (dpAll_of (by simpa using h) fun i v e h1 h2 => q (i + 1) v e h1 h2)
theorem eqv_self {n : Nat} {d : PyData} (h : Sh n d) : PyData.eqv d d = true := SeqAt.eqv_refl d h.1
/-! ### touches as data -/
def touchD (t : Tch) : PyData := .tuple [.str (kindS t.1), .int t.2]
theorem touch_sh (t : Tch) : Sh 1 (touchD t) := sh_tup fun d hd => by
  simp only [List.mem_cons, List.not_mem_nil, or_false] at hd
  rcases hd with rfl | rfl
  · have q : ∀ b, PyData.strOk (kindS b) = true := by
      intro b
      cases b <;> decide +kernel
    exact sh_str (q _)
  · exact sh_int _
theorem touches_sh (ts : List Tch) : Sh 2 (.list (ts.map touchD)) := sh_list fun d hd => by
  obtain ⟨t, _, rfl⟩ := List.mem_map.mp hd
  exact touch_sh t
theorem TouchAt.dp {K : PySem.W.Frag} {H : Hp} {v : V} {t : Tch} (h : TouchAt K H v t) : Dp K H v (touchD t) := by
  obtain ⟨a, rfl, q⟩ := h
  exact .tup q (.cons (.str _) (.cons (.int _) .nil))
theorem TL.dp {K : PySem.W.Frag} {H : Hp} {a : Addr} {xs : List V} {ts : List Tch} (h : TL K H xs ts) (q : SqL K H a xs) : Dp K H (.ref a) (.list (ts.map touchD)) := by
  refine .lst q (dpAll_of (by rw [h.len, List.length_map]) fun i v d hv hd => ?_)
  obtain ⟨t, ht, qt⟩ := h.of hv
  rw [List.getElem?_map, ht] at hd
  have e : touchD t = d := Option.some.inj hd
  rw [← e]
  exact qt.dp
theorem cut_one (xs : List V) : cutV xs (some 1) none = xs.drop 1 := by
  unfold cutV
  rw [show HT.sIx xs.length 0 (some 1) = min 1 xs.length from HT.sIx_nat xs.length 0 1, HT.sIx_none]
  cases xs with
  | nil => rfl
  | cons x r =>
    rw [show min 1 (x :: r).length = 1 by
      rw [List.length_cons]
      omega]
    show (List.take ((x :: r).length - 1) r) = r
    rw [List.length_cons, Nat.add_sub_cancel]
    exact List.take_length
theorem cut_from (xs : List V) (k : Nat) : cutV xs (some (k : Int)) none = xs.drop k := by
  unfold cutV
  rw [show HT.sIx xs.length 0 (some (k : Int)) = min k xs.length from HT.sIx_nat xs.length 0 k, HT.sIx_none]
  by_cases h : k ≤ xs.length
  · rw [Nat.min_eq_left h]
    exact List.take_of_length_le (by rw [List.length_drop]; exact Nat.le_refl _)
  · rw [Nat.min_eq_right (by omega), Nat.sub_self, List.drop_eq_nil_of_le (Nat.le_refl _), List.drop_eq_nil_of_le (show xs.length ≤ k by omega)]
    rfl
end L2
namespace NL
open PySem PySem.Spec PyProof.Rows L2
def top (i : Nat) : Stmt := PySem.Challenge.pw_nearlines_k11_depths_told.main.body.getD i (.Pass ⟨0, 0, 0, 0⟩)
abbrev s_depths : Stmt := top 1
abbrev s_missed_by : Stmt := top 2
abbrev s__law_cell_at : Stmt := top 4
abbrev s__law_whole : Stmt := top 5
abbrev s__law_mixed : Stmt := top 6
abbrev s__law_touches_by : Stmt := top 7
abbrev s__law_depth : Stmt := top 8
abbrev s_law : Stmt := top 9
theorem sc_depths : FnScope ["touches", "width", "order", "told", "touch", "line", "at"] ["touches", "width"] (defScope s_depths) := ⟨rfl, rfl, rfl, by decide +kernel, rfl, by decide +kernel, by decide +kernel⟩
theorem sc_missed_by : FnScope ["told", "room", "depth"] ["told", "room"] (defScope s_missed_by) := ⟨rfl, rfl, rfl, by decide +kernel, rfl, by decide +kernel, by decide +kernel⟩
theorem sc__law_cell_at : FnScope ["_law_script", "_law_k"] ["_law_script", "_law_k"] (defScope s__law_cell_at) := ⟨rfl, rfl, rfl, by decide +kernel, rfl, by decide +kernel, by decide +kernel⟩
theorem sc__law_whole : FnScope ["_law_found"] ["_law_found"] (defScope s__law_whole) := ⟨rfl, rfl, rfl, by decide +kernel, rfl, by decide +kernel, by decide +kernel⟩
theorem sc__law_mixed : FnScope ["_law_cell"] ["_law_cell"] (defScope s__law_mixed) := ⟨rfl, rfl, rfl, by decide +kernel, rfl, by decide +kernel, by decide +kernel⟩
theorem sc__law_touches_by : FnScope ["_law_cells", "_law_touches", "_law_cell", "_law_box", "_law_back"] ["_law_cells"] (defScope s__law_touches_by) := ⟨rfl, rfl, rfl, by decide +kernel, rfl, by decide +kernel, by decide +kernel⟩
theorem sc__law_depth : FnScope ["_law_lines", "_law_at", "_law_others", "_law_k"] ["_law_lines", "_law_at"] (defScope s__law_depth) := ⟨rfl, rfl, rfl, by decide +kernel, rfl, by decide +kernel, by decide +kernel⟩
theorem sc_law : FnScope ["_law_script", "_law_first", "_law_width", "_law_touches", "_law_lines", "_law_given", "_law_found", "_law_k", "_law_due", "_law_room", "_law_many", "_law_touch", "_law_one"] ["_law_script"] (defScope s_law) := ⟨rfl, rfl, rfl, by decide +kernel, rfl, by decide +kernel, by decide +kernel⟩
/-- where defs and classes stand -/
structure Cs where
  f_depths : Addr
  d_depths : FuncData
  f_missed_by : Addr
  d_missed_by : FuncData
  f__law_cell_at : Addr
  d__law_cell_at : FuncData
  f__law_whole : Addr
  d__law_whole : FuncData
  f__law_mixed : Addr
  d__law_mixed : FuncData
  f__law_touches_by : Addr
  d__law_touches_by : FuncData
  f__law_depth : Addr
  d__law_depth : FuncData
  f_law : Addr
  d_law : FuncData
/-- what the top has left -/
structure Txt (K : PySem.W.Frag) (mg : Str → Option Value) (cs : Cs) : Prop where
  fn_depths : FnAt K "depths" "depths" s_depths cs.f_depths cs.d_depths ["touches", "width"]
  gl_depths : mg "depths" = some (.ref cs.f_depths)
  fn_missed_by : FnAt K "missed_by" "missed_by" s_missed_by cs.f_missed_by cs.d_missed_by ["told", "room"]
  gl_missed_by : mg "missed_by" = some (.ref cs.f_missed_by)
  fn__law_cell_at : FnAt K "_law_cell_at" "_law_cell_at" s__law_cell_at cs.f__law_cell_at cs.d__law_cell_at ["_law_script", "_law_k"]
  gl__law_cell_at : mg "_law_cell_at" = some (.ref cs.f__law_cell_at)
  fn__law_whole : FnAt K "_law_whole" "_law_whole" s__law_whole cs.f__law_whole cs.d__law_whole ["_law_found"]
  gl__law_whole : mg "_law_whole" = some (.ref cs.f__law_whole)
  fn__law_mixed : FnAt K "_law_mixed" "_law_mixed" s__law_mixed cs.f__law_mixed cs.d__law_mixed ["_law_cell"]
  gl__law_mixed : mg "_law_mixed" = some (.ref cs.f__law_mixed)
  fn__law_touches_by : FnAt K "_law_touches_by" "_law_touches_by" s__law_touches_by cs.f__law_touches_by cs.d__law_touches_by ["_law_cells"]
  gl__law_touches_by : mg "_law_touches_by" = some (.ref cs.f__law_touches_by)
  fn__law_depth : FnAt K "_law_depth" "_law_depth" s__law_depth cs.f__law_depth cs.d__law_depth ["_law_lines", "_law_at"]
  gl__law_depth : mg "_law_depth" = some (.ref cs.f__law_depth)
  fn_law : FnAt K "law" "law" s_law cs.f_law cs.d_law ["_law_script"]
  gl_law : mg "law" = some (.ref cs.f_law)
  no_len : mg "len" = none
  no_isinstance : mg "isinstance" = none
  no_int : mg "int" = none
  no_bool : mg "bool" = none
  no_list : mg "list" = none
  no_range : mg "range" = none
section
variable {P : Program} {w : World} {K : PySem.W.Frag} {mg : Str → Option Value} {base : Heap} {cs : Cs}
/-! ### depths -/
def dStep (w : Int) (s : List Int × List (Option Int)) (t : Tch) : List Int × List (Option Int) :=
  if t.2 / w ∈ s.1 then (s.1.eraseIdx (s.1.idxOf (t.2 / w)) ++ [t.2 / w], s.2 ++ [some ((s.1.length : Int) - 1 - (s.1.idxOf (t.2 / w) : Nat))]) else (s.1 ++ [t.2 / w], s.2 ++ [none])
def depthsM (w : Int) (ts : List Tch) : List Int × List (Option Int) := ts.foldl (dStep w) ([], [])
theorem dStep_len (w : Int) (s : List Int × List (Option Int)) (t : Tch) : (dStep w s t).2.length = s.2.length + 1 ∧ (dStep w s t).1.length ≤ s.1.length + 1 := by
  unfold dStep
  split
  · refine ⟨by rw [List.length_append]; rfl, ?_⟩
    have := List.length_eraseIdx_le s.1 (s.1.idxOf (t.2 / w))
    simp only [List.length_append, List.length_cons, List.length_nil]
    omega
  · simp
theorem depthsM_len (w : Int) (ts : List Tch) : (depthsM w ts).2.length = ts.length ∧ (depthsM w ts).1.length ≤ ts.length := by
  unfold depthsM
  have : ∀ (ts : List Tch) (s : List Int × List (Option Int)), (ts.foldl (dStep w) s).2.length = s.2.length + ts.length ∧ (ts.foldl (dStep w) s).1.length ≤ s.1.length + ts.length := by
    intro ts
    induction ts with
    | nil => intro s; exact ⟨rfl, Nat.le_refl _⟩
    | cons t r ih =>
      intro s
      have h1 := dStep_len w s t
      have h2 := ih (dStep w s t)
      rw [List.foldl_cons, List.length_cons]
      omega
  have h := this ts ([], [])
  simpa using h
def sp_depths (K : PySem.W.Frag) (cs : Cs) : Sp := fun vs H Q _ => ∃ (a : Addr) (xs : List V) (ts : List Tch) (w : Int), vs = [.ref a, .int w] ∧ SqL K H a xs ∧ TL K H xs ts ∧ (0 < w ∧ w < 1000000000) ∧ ts.length ≤ 1000 ∧
  ∀ H' p, Same H H' → H p = none → H' p = some (.lst ((depthsM w ts).2.map optV)) → Q (.ref p) H'
theorem ok_depths (T : Txt K mg cs)  : Ok P w K mg base CX0 1 cs.f_depths cs.d_depths ["touches", "width"] (sp_depths K cs) := by
  refine T.fn_depths.ok sc_depths (fun vs H Q E h => ?_) (fun cdv A outer s H vs Q E hr h => ?_)
  · obtain ⟨a, xs, ts, w, rfl, _⟩ := h
    rfl
  · obtain ⟨a, xs, ts, w, rfl, hS, hT, hw, hl, k⟩ := h
    refine ⟨_, (pss_cons (ps_set (i := 2) sc_depths.nd rfl (Or.inl rfl) (pe_lst pa_nil))
      (pss_cons (ps_set (i := 3) sc_depths.nd rfl (Or.inl rfl) (pe_lst pa_nil))
      (pss_cons (ps_for PassesOwn.never rfl (pi_list (pv 0)) (pg_name (i := 4) sc_depths.nd rfl (Or.inl rfl)) (pss_cons (ps_set (i := 5) sc_depths.nd rfl (Or.inl rfl) (pe_op op_fdiv (pe_ix ix_tup (pv 4) pe_int (fun _ _ => rfl)) (pv 1)))
      (pss_cons (ps_if (pt_cmpR op_in_seq (pv 5) (pv 2) (by rfl)) (pss_cons (ps_set (i := 6) sc_depths.nd rfl (Or.inl rfl) (pe_bm PySem.F.plainAttrs_list PySem.F.slot_list_index PySem.F.type_list_index mt_index (pv 2) (pa_cons (pv 5) pa_nil)))
      (pss_cons (ps_expr (pe_bm PySem.F.plainAttrs_list PySem.F.slot_list_append PySem.F.type_list_append mt_append (pv 3) (pa_cons (pe_op op_sub (pe_op op_sub (pe_callB call_len_seq (by rfl) T.no_len PySem.boot_len (pa_cons (pv 2) pa_nil)) pe_int) (pv 6)) pa_nil)))
      (pss_one (ps_expr (pe_bm PySem.F.plainAttrs_list PySem.F.slot_list_pop PySem.F.type_list_pop mt_popAt (pv 2) (pa_cons (pv 6) pa_nil)))))) (pss_one (ps_expr (pe_bm PySem.F.plainAttrs_list PySem.F.slot_list_append PySem.F.type_list_append mt_append (pv 3) (pa_cons pe_non pa_nil)))))
      (pss_one (ps_expr (pe_bm PySem.F.plainAttrs_list PySem.F.slot_list_append PySem.F.type_list_append mt_append (pv 2) (pa_cons (pv 5) pa_nil)))))))
      (pss_one (ps_ret (pv 3)))))), ?_⟩
    refine ⟨Nat.zero_le _, fun o no => ⟨Nat.zero_le _, fun t nt => ?_⟩⟩
    have nto : t ≠ o := fun e => by
      rw [e, upd_same] at nt
      cases nt
    have nt0 : H t = none := by
      rw [upd_ne nto] at nt
      exact nt
    refine ⟨_, rfl, a, rfl, ⟨xs, ((Same.new no).trans (Same.new nt)).seq hS⟩, for_list (K := K) (a := a) (xs := xs) (fun i σ H' => ∃ v4 v5 v6, σ = [some (.ref a), some (.int w), some (.ref o), some (.ref t), v4, v5, v6] ∧ Same H H' ∧
      H' o = some (.lst ((depthsM w (ts.take i)).1.map V.int)) ∧ H' t = some (.lst ((depthsM w (ts.take i)).2.map optV))) ?_ ?_ ?_ ?_⟩
    · exact ⟨none, none, none, rfl, (Same.new no).trans (Same.new nt), by rw [upd_ne nto.symm, upd_same]; rfl, upd_same⟩
    · rintro i σ H' _ ⟨v4, v5, v6, rfl, s1, _, _⟩
      exact s1.seq hS
    · rintro i x σ H' hx ⟨v4, v5, v6, rfl, s1, ho, ht⟩
      obtain ⟨tc, htc, b, rfl, hb⟩ := hT.of hx
      have hb' := s1.seqT hb
      have hi : i < ts.length := (List.getElem?_eq_some_iff.mp htc).1
      have hlen := depthsM_len w (ts.take i)
      have hmin : (ts.take i).length ≤ 1000 := by
        rw [List.length_take]
        omega
      have est : depthsM w (ts.take (i + 1)) = dStep w (depthsM w (ts.take i)) tc := fold_take _ _ htc
      generalize hm : depthsM w (ts.take i) = m at *
      -- line = touch[1] // width
      refine ⟨_, rfl, b, _, _, _, rfl, rfl, hb', rfl, _, rfl, _, _, rfl, rfl, ⟨hw.1, by have := hw.2; omega⟩, ?_⟩
      -- if line in order
      refine ⟨_, rfl, _, rfl, o, _, rfl, .inl (SqL.of ho), rfl, flat_ints _, _, rfl, iteB (fun c => ?_) (fun c => ?_)⟩
      · have hin : tc.2 / w ∈ m.1 := of_decide_eq_true ((inV_ints _ _).symm.trans c)
        have hlt : m.1.idxOf (tc.2 / w) < m.1.length := List.idxOf_lt_length_of_mem hin
        -- at = order.index(line)
        refine ⟨_, rfl, .inl ⟨rfl, _, SqL.of ho⟩, _, rfl, ⟨_, _, _, _, _, rfl, rfl, SqL.of ho, rfl, flat_ints _, nl_get_map (idx_get hin), eqV_int _, idx_none, ?_⟩⟩
        -- told.append(len(order) - 1 - at)
        refine ⟨_, rfl, .inl ⟨rfl, _, SqL.of ht⟩, _, rfl, o, _, rfl, .inl (SqL.of ho), _, _, rfl, rfl, _, rfl, _, _, rfl, rfl, t, _, _, rfl, rfl, ht, sizeL (by rw [List.length_map]; omega), ?_⟩
        -- order.pop(at)
        have nto' : o ≠ t := nto.symm
        have hltV : m.1.idxOf (tc.2 / w) < (m.1.map V.int).length := by rw [List.length_map]; exact hlt
        have hlenV : (m.1.map V.int).length ≤ 1000 := by rw [List.length_map]; omega
        refine ⟨_, rfl, .inl ⟨rfl, _, SqL.of (by rw [upd_ne nto']; exact ho)⟩, _, rfl, ⟨_, _, _, _, _, rfl, rfl, (by rw [upd_ne nto']; exact ho), (by have := hltV; have := hlenV; omega), (by have := hltV; have := hlenV; omega), pop_seq hltV, nl_get_map (idx_get hin), ?_⟩⟩
        -- order.append(line)
        refine ⟨_, rfl, .inl ⟨rfl, _, SqL.of upd_same⟩, _, rfl, o, _, _, rfl, rfl, upd_same, sizeL (by rw [erase_map, List.length_map]; have := List.length_eraseIdx_le m.1 (m.1.idxOf (tc.2 / w)); omega), ?_⟩
        refine ⟨_, _, _, rfl, ((s1.mut nt0).mut no).mut no, ?_, ?_⟩
        · rw [upd_same, erase_map, snoc_map, est, dStep, if_pos hin]
        · rw [upd_ne nto, upd_ne nto, upd_same, est, dStep, if_pos hin, List.length_map]
          exact congrArg (fun l => some (HO.lst l)) (snoc_map optV _ (some _))
      · have hin : ¬ tc.2 / w ∈ m.1 := of_decide_eq_false ((inV_ints _ _).symm.trans c)
        -- told.append(None); order.append(line)
        refine ⟨_, rfl, .inl ⟨rfl, _, SqL.of ht⟩, t, _, _, rfl, rfl, ht, sizeL (by rw [List.length_map]; omega), ?_⟩
        have ho' := ho
        refine ⟨_, rfl, .inl ⟨rfl, _, SqL.of (by rw [upd_ne nto.symm]; exact ho)⟩, _, rfl, o, _, _, rfl, rfl, (by rw [upd_ne nto.symm]; exact ho), sizeL (by rw [List.length_map]; omega), ?_⟩
        refine ⟨_, _, _, rfl, (s1.mut nt0).mut no, ?_, ?_⟩
        · rw [upd_same, snoc_map, est, dStep, if_neg hin]
        · rw [upd_ne nto, upd_same, est, dStep, if_neg hin]
          exact congrArg (fun l => some (HO.lst l)) (snoc_map optV _ none)
    · rintro σ H' ⟨v4, v5, v6, rfl, s1, ho, ht⟩
      rw [hT.len, List.take_length] at ht
      exact ⟨_, rfl, k H' t s1 nt0 ht⟩
/-! ### missed_by -/
def missB (r : Int) (o : Option Int) : Bool := match o with
  | none => true
  | some i => decide (r ≤ i)
def missM (r : Int) (ds : List (Option Int)) : Int := ((ds.filter (missB r)).length : Nat)
theorem filter_take {α : Type} (p : α → Bool) {xs : List α} {i : Nat} {x : α} (h : xs[i]? = some x) : (xs.take (i + 1)).filter p = (xs.take i).filter p ++ (if p x = true then [x] else []) := by
  rw [List.take_add_one, h, List.filter_append]
  show _ ++ List.filter p [x] = _
  simp only [List.filter_cons, List.filter_nil]
def sp_missed_by (K : PySem.W.Frag) (cs : Cs) : Sp := fun vs H Q _ => ∃ (a : Addr) (ds : List (Option Int)) (r : Int), vs = [.ref a, .int r] ∧ SqL K H a (ds.map optV) ∧ ds.length ≤ 1000 ∧ ∀ H', Same H H' → Q (.int (missM r ds)) H'
theorem ok_missed_by (T : Txt K mg cs)  : Ok P w K mg base CX0 1 cs.f_missed_by cs.d_missed_by ["told", "room"] (sp_missed_by K cs) := by
  refine T.fn_missed_by.ok sc_missed_by (fun vs H Q E h => ?_) (fun cdv A outer s H vs Q E hr h => ?_)
  · obtain ⟨a, ds, r, rfl, _⟩ := h
    rfl
  · obtain ⟨a, ds, r, rfl, hS, hl, k⟩ := h
    refine ⟨_, (pss_one (ps_ret (pe_callB call_len_seq (by rfl) T.no_len PySem.boot_len (pa_cons (pe_lc (own := [("depth", 2)]) (g := gName 2) rfl sc_missed_by.nd (pi_list (pv 0)) (blkOk_by (N := ["told", "room", "depth"]) (sc := defScope s_missed_by) (by decide +kernel)) (fun _ _ _ _ _ => pg_name (i := 2) sc_missed_by.nd rfl (Or.inl rfl)) (fun _ _ _ _ _ => pts_one (PW.pt (pw_or (pt_cmpR op_isN (pv 2) pe_non (nomark _)) (pw_or1 (pt_cmpR op_ge (pv 2) (pv 1) (nomark _)))))) (fun _ _ _ _ _ => (pv 2))) pa_nil)))), ?_⟩
    refine ⟨_, rfl, a, rfl, ⟨_, hS⟩, fun D hD => lc_list (xs := ds.map optV) (fun i H' => Same H H' ∧ H' D = some (.lst (((ds.take i).filter (missB r)).map optV))) ⟨Same.new hD, upd_same⟩ (fun i H' _ p => p.1.seq hS) ?_ ?_⟩
    · rintro i x H' hx ⟨s1, hD'⟩
      obtain ⟨o, ho, rfl⟩ := of_get_map hx
      have hf := filter_take (missB r) ho
      have hlen : (((ds.take i).filter (missB r)).map optV).length < 1000000 := by
        rw [List.length_map]
        have h1 := List.length_filter_le (missB r) (ds.take i)
        rw [List.length_take] at h1
        omega
      cases o with
      | none =>
        refine ⟨rfl, _, rfl, rfl, _, rfl, iteT ?_⟩
        refine ⟨_, rfl, _, hD', sizeL hlen, s1.mut hD, ?_⟩
        rw [upd_same, hf, if_pos (show missB r none = true from rfl), List.map_append]
        rfl
      | some z =>
        refine ⟨rfl, _, rfl, rfl, _, rfl, iteF ⟨_, rfl, _, rfl, _, _, rfl, rfl, _, rfl, iteD (fun c => ?_) (fun c => ?_)⟩⟩
        · refine ⟨_, rfl, _, hD', sizeL hlen, s1.mut hD, ?_⟩
          rw [upd_same, hf, if_pos (show missB r (some z) = true from decide_eq_true c), List.map_append]
          rfl
        · refine ⟨s1, ?_⟩
          rw [hf, if_neg (show ¬ missB r (some z) = true from fun q => c (of_decide_eq_true q)), List.append_nil]
          exact hD'
    · rintro H' ⟨s1, hD'⟩
      refine ⟨D, _, rfl, .inl (SqL.of hD'), ?_⟩
      rw [List.length_map, List.length_map, List.take_length]
      exact k H' s1
/-! ### the law's own helpers -/
def mixed (c : Int) : Int := c * 48271 % 2147483647
def sp__law_mixed (K : PySem.W.Frag) (cs : Cs) : Sp := fun vs H Q _ => ∃ c : Int, vs = [.int c] ∧ Q (.int (mixed c)) H
theorem ok__law_mixed (T : Txt K mg cs)  : Ok P w K mg base CX0 1 cs.f__law_mixed cs.d__law_mixed ["_law_cell"] (sp__law_mixed K cs) := by
  refine T.fn__law_mixed.ok sc__law_mixed (fun vs H Q E h => ?_) (fun cdv A outer s H vs Q E hr h => ?_)
  · obtain ⟨c, rfl, _⟩ := h
    rfl
  · obtain ⟨c, rfl, k⟩ := h
    refine ⟨_, (pss_one (ps_ret (pe_op op_mod (pe_op op_mul (pv 0) pe_int) pe_int))), ?_⟩
    refine ⟨_, rfl, _, _, rfl, rfl, .inr ⟨by decide, by decide⟩, _, _, rfl, rfl, (by show (0 : Int) < _; decide), k⟩
def sp__law_cell_at (K : PySem.W.Frag) (cs : Cs) : Sp := spCell K
theorem ok__law_cell_at (T : Txt K mg cs)  : Ok P w K mg base CX0 1 cs.f__law_cell_at cs.d__law_cell_at ["_law_script", "_law_k"] (sp__law_cell_at K cs) := by
  refine T.fn__law_cell_at.ok sc__law_cell_at (fun vs H Q E h => ?_) (fun cdv A outer s H vs Q E hr h => ?_)
  · obtain ⟨l, ns, j, rfl, _⟩ := h
    rfl
  · obtain ⟨l, ns, j, rfl, hs, q⟩ := h
    refine ⟨_, (pss_cons (ps_if (pt_cmpR op_lt (pv 1) (pe_callB call_len_seq (by rfl) T.no_len PySem.boot_len (pa_cons (pv 0) pa_nil)) (nomark _)) (pss_one (ps_ret (pe_ix ix_list (pv 0) (pv 1) (fun _ _ => rfl)))) pss_nil)
      (pss_one (ps_ret pe_int))), ?_⟩
    refine ⟨_, rfl, _, rfl, l, _, rfl, .inl hs, _, _, rfl, rfl, _, rfl, iteD (fun c => ?_) (fun c => ?_)⟩
    · have hj : j < ns.length := by
        rw [List.length_map] at c
        omega
      exact ⟨_, rfl, _, rfl, l, _, _, _, rfl, rfl, hs, atI_cell hj, q⟩
    · have hj : ¬ j < ns.length := by
        rw [List.length_map] at c
        omega
      rw [cell_out hj] at q
      exact q
/-- a value's built-in type, by its name -/
def tyNames : List String := ["int", "bool", "NoneType", "str", "list", "tuple", "dict"]
def sp__law_whole (K : PySem.W.Frag) (cs : Cs) : Sp := fun vs H Q _ => ∃ (x : V) (t : String), vs = [x] ∧ TyX K H x (.type t) ∧ t ∈ tyNames ∧ Q (.bl (t == "int")) H
theorem kit_int {K : PySem.W.Frag} {t : String} (h : t ∈ tyNames) : PySem.W.kitOne K (.type t) (.type "int") = some (t == "int" || t == "bool") := by
  simp only [tyNames, List.mem_cons, List.not_mem_nil, or_false] at h
  rcases h with rfl | rfl | rfl | rfl | rfl | rfl | rfl <;> exact kit_ty (by decide +kernel)
theorem kit_bool {K : PySem.W.Frag} {t : String} (h : t ∈ tyNames) : PySem.W.kitOne K (.type t) (.type "bool") = some (t == "bool") := by
  simp only [tyNames, List.mem_cons, List.not_mem_nil, or_false] at h
  rcases h with rfl | rfl | rfl | rfl | rfl | rfl | rfl <;> exact kit_ty (by decide +kernel)
theorem ok__law_whole (T : Txt K mg cs)  : Ok P w K mg base CX0 1 cs.f__law_whole cs.d__law_whole ["_law_found"] (sp__law_whole K cs) := by
  refine T.fn__law_whole.ok sc__law_whole (fun vs H Q E h => ?_) (fun cdv A outer s H vs Q E hr h => ?_)
  · obtain ⟨x, t, rfl, _⟩ := h
    rfl
  · obtain ⟨x, t, rfl, ty, ht, q⟩ := h
    refine ⟨_, (pss_one (ps_ret (pe_and (pe_callB call_isi (by rfl) T.no_isinstance boot_isinstance (pa_cons (pv 0) (pa_cons (pe_bltn (v := .ty "int") (by rfl) T.no_int boot_int rfl) pa_nil))) (pe_one (pe_not (pe_callB call_isi (by rfl) T.no_isinstance boot_isinstance (pa_cons (pv 0) (pa_cons (pe_bltn (v := .ty "bool") (by rfl) T.no_bool boot_bool rfl) pa_nil)))))))), ?_⟩
    refine ⟨_, rfl, _, _, _, _, _, rfl, .ty "int", ty, kit_int ht, _, rfl, iteB (fun c => ?_) (fun c => ?_)⟩
    · refine ⟨_, rfl, _, _, _, _, _, rfl, .ty "bool", ty, kit_bool ht, _, rfl, ?_⟩
      have e : (!(t == "bool")) = (t == "int") := by
        simp only [tyNames, List.mem_cons, List.not_mem_nil, or_false] at ht
        rcases ht with rfl | rfl | rfl | rfl | rfl | rfl | rfl <;> first | decide | (exfalso; revert c; decide)
      rw [e]
      exact q
    · have e : (t == "int") = false := by
        cases h : (t == "int") with
        | false => rfl
        | true =>
          rw [h] at c
          cases c
      rw [e] at q
      exact q
/-! ### _law_touches_by -/
def boxMod (c : Int) : Int := [8, 30, 1000000, 8].getD (c / 2 % 4).toNat 0
theorem boxMod_pos (c : Int) : 0 < boxMod c := by
  have h0 := Int.emod_nonneg (c / 2) (show (4 : Int) ≠ 0 by decide)
  have h1 := Int.emod_lt_of_pos (c / 2) (show (0 : Int) < 4 by decide)
  unfold boxMod
  generalize c / 2 % 4 = m at *
  have : m = 0 ∨ m = 1 ∨ m = 2 ∨ m = 3 := by omega
  rcases this with rfl | rfl | rfl | rfl <;> decide
def tbBox (acc : List Tch) (c : Int) : Int :=
  if 0 < c / 8 % 8 ∧ c / 8 % 8 < 5 ∧ c / 8 % 8 ≤ acc.length then (acc.getD (acc.length - (c / 8 % 8).toNat) (false, 0)).2 else mixed c % boxMod c
def tbStep (acc : List Tch) (c : Int) : List Tch := acc ++ [(c % 2 == 1, tbBox acc c)]
def touchesM (cells : List Int) : List Tch := cells.foldl tbStep []
theorem touchesM_len (cells : List Int) : (touchesM cells).length = cells.length := by
  have : ∀ (l : List Int) (s : List Tch), (l.foldl tbStep s).length = s.length + l.length := by
    intro l
    induction l with
    | nil => intro s; rfl
    | cons t r ih =>
      intro s
      rw [List.foldl_cons, ih, tbStep, List.length_append, List.length_cons, List.length_cons, List.length_nil]
      omega
  have h := this cells []
  unfold touchesM
  simpa using h
def sp__law_touches_by (K : PySem.W.Frag) (cs : Cs) : Sp := fun vs H Q _ => ∃ (a : Addr) (ns : List Int), vs = [.ref a] ∧ SqL K H a (ns.map V.int) ∧ ns.length ≤ 1000 ∧
  ∀ H' p xs, Same H H' → H p = none → H' p = some (.lst xs) → TL K H' xs (touchesM ns) → Q (.ref p) H'
theorem ok__law_touches_by (T : Txt K mg cs) (o__law_mixed : Ok P w K mg base CX0 1 cs.f__law_mixed cs.d__law_mixed ["_law_cell"] (sp__law_mixed K cs)) : Ok P w K mg base CX0 2 cs.f__law_touches_by cs.d__law_touches_by ["_law_cells"] (sp__law_touches_by K cs) := by
  refine T.fn__law_touches_by.ok sc__law_touches_by (fun vs H Q E h => ?_) (fun cdv A outer s H vs Q E hr h => ?_)
  · obtain ⟨a, ns, rfl, _⟩ := h
    rfl
  · obtain ⟨a, ns, rfl, hS, hl, k⟩ := h
    refine ⟨_, (pss_cons (ps_set (i := 1) sc__law_touches_by.nd rfl (Or.inl rfl) (pe_lst pa_nil))
      (pss_cons (ps_for PassesOwn.never rfl (pi_list (pv 0)) (pg_name (i := 2) sc__law_touches_by.nd rfl (Or.inl rfl)) (pss_cons (ps_set (i := 3) sc__law_touches_by.nd rfl (Or.inl rfl) (pe_op op_mod (pe_callO o__law_mixed hr (by rfl) T.gl__law_mixed pass0 (pa_cons (pv 2) pa_nil)) (pe_ix ix_list (pe_lst (pa_cons pe_int (pa_cons pe_int (pa_cons pe_int (pa_cons pe_int pa_nil))))) (pe_op op_mod (pe_op op_fdiv (pv 2) pe_int) pe_int) (fun _ _ => rfl))))
      (pss_cons (ps_set (i := 4) sc__law_touches_by.nd rfl (Or.inl rfl) (pe_op op_mod (pe_op op_fdiv (pv 2) pe_int) pe_int))
      (pss_cutS (ps_if (pt_jn (PW.pt (pw_and (pt_chain op_lt op_lt pe_int (pv 4) pe_int) (pw_and1 (pt_cmpR op_le (pv 4) (pe_callB call_len_seq (by rfl) T.no_len PySem.boot_len (pa_cons (pv 1) pa_nil)) (nomark _)))))) (pss_one (ps_set (i := 3) sc__law_touches_by.nd rfl (Or.inl rfl) (pe_ix ix_tup (pe_ix ix_list (pv 1) (pe_op op_sub (pe_callB call_len_seq (by rfl) T.no_len PySem.boot_len (pa_cons (pv 1) pa_nil)) (pv 4)) (fun _ _ => rfl)) pe_int (fun _ _ => rfl)))) pss_nil)
      (pss_one (ps_expr (pe_bm PySem.F.plainAttrs_list PySem.F.slot_list_append PySem.F.type_list_append mt_append (pv 1) (pa_cons (pe_tup (pa_cons (pe_ix ix_list (pe_lst (pa_cons pe_str (pa_cons pe_str pa_nil))) (pe_op op_mod (pv 2) pe_int) (fun _ _ => rfl)) (pa_cons (pv 3) pa_nil))) pa_nil))))))))
      (pss_one (ps_ret (pv 1))))), ?_⟩
    refine ⟨Nat.zero_le _, fun t nt => ⟨_, rfl, a, rfl, ⟨_, (Same.new nt).seq hS⟩, for_list (K := K) (a := a) (xs := ns.map V.int) (fun i σ H' => ∃ v2 v3 v4 xs, σ = [some (.ref a), some (.ref t), v2, v3, v4] ∧ Same H H' ∧
      H' t = some (.lst xs) ∧ TL K H' xs (touchesM (ns.take i))) ?_ ?_ ?_ ?_⟩⟩
    · exact ⟨none, none, none, [], rfl, Same.new nt, upd_same, TL.nil⟩
    · rintro i σ H' _ ⟨v2, v3, v4, xs, rfl, s1, _, _⟩
      exact s1.seq hS
    · rintro i x σ H' hx ⟨v2, v3, v4, xs, rfl, s1, ht, hT⟩
      obtain ⟨c, hc, rfl⟩ := of_get_map hx
      have hi : i < ns.length := (List.getElem?_eq_some_iff.mp hc).1
      have est : touchesM (ns.take (i + 1)) = tbStep (touchesM (ns.take i)) c := fold_take _ _ hc
      have hlen : (touchesM (ns.take i)).length ≤ 1000 := by
        rw [touchesM_len, List.length_take]
        omega
      generalize hm : touchesM (ns.take i) = acc at *
      have hxl : xs.length = acc.length := hT.len
      -- the box
      refine ⟨_, rfl, c, rfl, by decide, fun l hl1 => ?_⟩
      have hl0 : H l = none := s1.free hl1
      have s2 : Same H' (upd H' l (.lst [.int 8, .int 30, .int 1000000, .int 8])) := Same.new hl1
      have ntl : t ≠ l := ne_of_none ht hl1
      refine ⟨_, rfl, _, _, rfl, rfl, ⟨by decide, by decide⟩, _, _, rfl, rfl, (by show (0 : Int) < _; decide), l, _, _, _, rfl, rfl, SqL.of upd_same, mod_at (xs := [8, 30, 1000000, 8]) (c / 2) 4 rfl (by decide), _, _, rfl, rfl, boxMod_pos c, ?_⟩
      -- back
      refine ⟨_, rfl, _, _, rfl, rfl, ⟨by decide, by decide⟩, _, _, rfl, rfl, (by show (0 : Int) < _; decide), ?_⟩
      have ht2 : (upd H' l (.lst [.int 8, .int 30, .int 1000000, .int 8])) t = some (.lst xs) := s2 _ _ ht
      have hT2 := hT.same s2
      have s3 := s1.trans s2
      generalize upd H' l (.lst [.int 8, .int 30, .int 1000000, .int 8]) = H2 at ht2 hT2 s3 ⊢
      -- if 0 < back < 5 and back <= len(touches): box = touches[len(touches) - back][1]
      refine ⟨fun σ' H3 => H3 = H2 ∧ σ' = [some (.ref a), some (.ref t), some (.int c), some (.int (tbBox acc c)), some (.int (c / 8 % 8))], ?_, ?_⟩
      · refine ⟨fun b H3 => H3 = H2 ∧ b = decide (0 < c / 8 % 8 ∧ c / 8 % 8 < 5 ∧ c / 8 % 8 ≤ acc.length), ?_, ?_⟩
        · refine ⟨_, rfl, _, _, rfl, rfl, _, rfl, iteD (fun c1 => ?_) (fun c1 => ?_)⟩
          · refine ⟨_, _, rfl, rfl, _, rfl, iteD (fun c2 => ?_) (fun c2 => ?_)⟩
            · refine ⟨_, rfl, _, rfl, t, _, rfl, .inl (SqL.of ht2), _, _, rfl, rfl, _, rfl, rfl, ?_⟩
              rw [hxl]
              simp [c1, c2]
            · exact ⟨rfl, by simp [c2]⟩
          · exact ⟨_, rfl, iteF ⟨rfl, by simp [c1]⟩⟩
        · rintro b H3 ⟨rfl, rfl⟩
          refine iteD (fun c1 => ?_) (fun c1 => ?_)
          · obtain ⟨c2, c3, c4⟩ := c1
            have hj : acc.length - (c / 8 % 8).toNat < acc.length := by omega
            obtain ⟨v, hv, b, rfl, hb⟩ := hT2.at_ _ _ (List.getElem?_eq_getElem hj)
            refine ⟨_, rfl, _, rfl, t, _, rfl, .inl (SqL.of ht2), _, rfl, _, _, rfl, rfl, t, _, _, _, rfl, rfl, SqL.of ht2, at_of (by rw [hxl]; omega) hv, b, _, _, _, rfl, rfl, hb, rfl, rfl, ?_⟩
            have e : tbBox acc c = (acc[acc.length - (c / 8 % 8).toNat]).2 := by
              unfold tbBox
              rw [if_pos ⟨c2, c3, c4⟩, List.getD_eq_getElem?_getD, List.getElem?_eq_getElem hj]
              rfl
            rw [e]
            rfl
          · have e : tbBox acc c = mixed c % boxMod c := if_neg c1
            rw [e]
            exact ⟨rfl, rfl⟩
      · rintro σ' H3 ⟨rfl, rfl⟩
        -- touches.append((["read", "write"][cell % 2], box))
        refine ⟨_, rfl, .inl ⟨rfl, _, SqL.of ht2⟩, by decide, fun l2 hl2 => ?_⟩
        refine ⟨_, rfl, _, _, rfl, rfl, (by show (0 : Int) < _; decide), l2, _, _, _, rfl, rfl, SqL.of upd_same, kind_at c, _, rfl, (by show 2 ≤ sizeLine; decide), fun p hp => ?_⟩
        have s4 : Same H3 (upd H3 l2 (.lst [.str "read", .str "write"])) := Same.new hl2
        have s5 : Same (upd H3 l2 (.lst [.str "read", .str "write"])) (upd (upd H3 l2 (.lst [.str "read", .str "write"])) p (.tup [.str (kindS (c % 2 == 1)), .int (tbBox acc c)])) := Same.new hp
        have ht3 := (s4.trans s5) _ _ ht2
        refine ⟨t, _, _, rfl, rfl, ht3, sizeL (by omega), ?_⟩
        refine ⟨_, _, _, xs ++ [.ref p], rfl, ((s3.trans s4).trans s5).mut nt, upd_same, ?_⟩
        rw [est]
        exact ((hT2.same (s4.trans s5)).but ht3).snoc ⟨p, rfl, (SqT.of upd_same).but ht3⟩
    · rintro σ H' ⟨v2, v3, v4, xs, rfl, s1, ht, hT⟩
      rw [List.length_map, List.take_length] at hT
      exact ⟨_, rfl, k H' t xs s1 nt ht hT⟩
/-! ### _law_depth -/
/-- the first m lines backwards, until x is met -/
def scan (lines : List Int) (x : Int) : Nat → List Int → Option (List Int)
  | 0, _ => none
  | m + 1, others => if lines.getD m 0 = x then some others else scan lines x m (if lines.getD m 0 ∈ others then others else others ++ [lines.getD m 0])
def depthL (lines : List Int) (k : Nat) : Option Int := (scan lines (lines.getD k 0) k []).map fun o => (o.length : Int)
def sp__law_depth (K : PySem.W.Frag) (cs : Cs) : Sp := fun vs H Q _ => ∃ (a : Addr) (lines : List Int) (k : Nat), vs = [.ref a, .int (k : Int)] ∧ SqL K H a (lines.map V.int) ∧ k < lines.length ∧ lines.length ≤ 1000 ∧ ∀ H', Same H H' → Q (optV (depthL lines k)) H'
theorem ok__law_depth (T : Txt K mg cs)  : Ok P w K mg base CX0 1 cs.f__law_depth cs.d__law_depth ["_law_lines", "_law_at"] (sp__law_depth K cs) := by
  refine T.fn__law_depth.ok sc__law_depth (fun vs H Q E h => ?_) (fun cdv A outer s H vs Q E hr h => ?_)
  · obtain ⟨a, lines, k, rfl, _⟩ := h
    rfl
  · obtain ⟨a, lines, k, rfl, hS, hk, hl, q⟩ := h
    refine ⟨_, (pss_cons (ps_set (i := 2) sc__law_depth.nd rfl (Or.inl rfl) (pe_lst pa_nil))
      (pss_cons (ps_set (i := 3) sc__law_depth.nd rfl (Or.inl rfl) (pe_op op_sub (pv 1) pe_int))
      (pss_cons (ps_while PassesOwn.never (PW.pt (pw_and (pt_cmpR op_ge (pv 3) pe_int (nomark _)) (pw_and1 (pt_cmpR op_ne (pe_ix ix_list (pv 0) (pv 3) (fun _ _ => rfl)) (pe_ix ix_list (pv 0) (pv 1) (fun _ _ => rfl)) (nomark _))))) (pss_cons (ps_if (pt_cmpR op_notIn_seq (pe_ix ix_list (pv 0) (pv 3) (fun _ _ => rfl)) (pv 2) (by rfl)) (pss_one (ps_expr (pe_bm PySem.F.plainAttrs_list PySem.F.slot_list_append PySem.F.type_list_append mt_append (pv 2) (pa_cons (pe_ix ix_list (pv 0) (pv 3) (fun _ _ => rfl)) pa_nil)))) pss_nil)
      (pss_one (ps_set (i := 3) sc__law_depth.nd rfl (Or.inl rfl) (pe_op op_sub (pv 3) pe_int)))))
      (pss_cons (ps_if (pt_cmpR op_lt (pv 3) pe_int (nomark _)) (pss_one (ps_ret pe_non)) pss_nil)
      (pss_one (ps_ret (pe_callB call_len_seq (by rfl) T.no_len PySem.boot_len (pa_cons (pv 2) pa_nil)))))))), ?_⟩
    refine ⟨Nat.zero_le _, fun o no => ⟨_, rfl, _, _, rfl, rfl, ?_⟩⟩
    refine ⟨fun m σ H' => ∃ others : List Int, σ = [some (.ref a), some (.int (k : Int)), some (.ref o), some (.int ((m : Int) - 1))] ∧ Same H H' ∧ H' o = some (.lst (others.map V.int)) ∧ m ≤ k ∧ others.length + m ≤ k ∧
      scan lines (lines.getD k 0) m others = scan lines (lines.getD k 0) k [], ⟨k, [], rfl, Same.new no, upd_same, Nat.le_refl _, by simp, rfl⟩, ?_⟩
    rintro m σ H' ⟨others, rfl, s1, ho, hm, hlen, hsc⟩
    have hS1 := s1.seq hS
    have done0 : m = 0 → optV (depthL lines k) = .non := fun e => by
      subst e
      unfold depthL
      rw [← hsc]
      rfl
    refine ⟨_, rfl, _, _, rfl, rfl, _, rfl, iteD (fun c => ?_) (fun c => ?_)⟩
    · obtain ⟨m, rfl⟩ : ∃ m', m = m' + 1 := ⟨m - 1, by omega⟩
      have em : ((m + 1 : Nat) : Int) - 1 = (m : Int) := by omega
      refine ⟨_, rfl, _, rfl, a, _, _, _, rfl, rfl, hS1, at_of em (int_getD (by omega)), _, rfl, _, rfl, a, _, _, _, rfl, rfl, hS1, atI_nat (int_getD hk), rfl, _, rfl, iteN (fun c2 => ?_) (fun c2 => ?_)⟩
      · have hne : ¬ lines.getD m 0 = lines.getD k 0 := fun z => c2 (congrArg V.int z)
        have hsc2 : scan lines (lines.getD k 0) m (if lines.getD m 0 ∈ others then others else others ++ [lines.getD m 0]) = scan lines (lines.getD k 0) k [] := by
          rw [← hsc]
          exact (if_neg hne).symm
        refine ⟨fun σ2 H2 => ∃ others : List Int, σ2 = [some (.ref a), some (.int (k : Int)), some (.ref o), some (.int ((m : Int) - 1))] ∧ Same H H2 ∧ H2 o = some (.lst (others.map V.int)) ∧ m ≤ k ∧ others.length + m ≤ k ∧
          scan lines (lines.getD k 0) m others = scan lines (lines.getD k 0) k [], fun σ2 H2 hw => ⟨m, Nat.lt_succ_self _, hw⟩, ?_⟩
        refine ⟨_, rfl, _, rfl, a, _, _, _, rfl, rfl, hS1, at_of em (int_getD (by omega)), _, rfl, o, _, rfl, .inl (SqL.of ho), rfl, flat_ints _, _, rfl, iteB (fun c3 => ?_) (fun c3 => ?_)⟩
        · have hin : ¬ lines.getD m 0 ∈ others := fun z => by
            have e := inV_ints (lines.getD m 0) others
            rw [decide_eq_true z] at e
            have c4 : (!inV (.int (lines.getD m 0)) (others.map V.int)) = true := c3
            rw [e] at c4
            cases c4
          refine ⟨_, rfl, .inl ⟨rfl, _, SqL.of ho⟩, _, rfl, _, rfl, a, _, _, _, rfl, rfl, hS1, at_of em (int_getD (by omega)), o, _, _, rfl, rfl, ho, sizeL (by rw [List.length_map]; omega), ?_⟩
          rw [if_neg hin] at hsc2
          refine ⟨_, rfl, _, _, rfl, rfl, others ++ [lines.getD m 0], ?_, s1.mut no, ?_, by omega, by rw [List.length_append, List.length_singleton]; omega, hsc2⟩
          · rw [em]
            rfl
          · rw [upd_same, snoc_map]
        · have hin : lines.getD m 0 ∈ others := by
            have c4 : (!inV (.int (lines.getD m 0)) (others.map V.int)) = false := c3
            rw [inV_ints] at c4
            simpa using c4
          rw [if_pos hin] at hsc2
          refine ⟨_, rfl, _, _, rfl, rfl, others, ?_, s1, ho, by omega, by omega, hsc2⟩
          rw [em]
          rfl
      · have heq : lines.getD m 0 = lines.getD k 0 := V.int.inj c2
        -- behind the loop: found
        refine ⟨_, rfl, _, _, rfl, rfl, _, rfl, iteD (fun c3 => by omega) (fun _ => ?_)⟩
        refine ⟨_, rfl, o, _, rfl, .inl (SqL.of ho), ?_⟩
        have e : optV (depthL lines k) = .int ((others.map V.int).length : Nat) := by
          unfold depthL
          rw [← hsc, scan, if_pos heq, List.length_map]
          rfl
        rw [← e]
        exact q H' s1
    · refine ⟨_, rfl, _, _, rfl, rfl, _, rfl, iteD (fun _ => ?_) (fun c3 => absurd (show ((m : Nat) : Int) - 1 < 0 by omega) c3)⟩
      have e := done0 (by omega)
      rw [e] at q
      exact q H' s1


/-! ### the plain law: depths by the order of last touches, by counting back -/
def linesOf (w : Int) (ts : List Tch) : List Int := ts.map fun t => t.2 / w
/-- each line once, the last touched first: of the lines backwards -/
def nub : List Int → List Int
  | [] => []
  | y :: r => y :: (nub r).filter (fun z => !decide (z = y))
theorem nub_mem {x : Int} : ∀ {r : List Int}, x ∈ nub r ↔ x ∈ r
  | [] => Iff.rfl
  | y :: r => by
    have ih := nub_mem (x := x) (r := r)
    unfold nub
    rw [List.mem_cons, List.mem_cons, List.mem_filter, ih]
    by_cases h : x = y
    · simp [h]
    · simp [h]
theorem nub_nodup : ∀ r : List Int, (nub r).Nodup
  | [] => List.nodup_nil
  | y :: r => by
    unfold nub
    refine List.nodup_cons.mpr ⟨?_, (nub_nodup r).sublist List.filter_sublist⟩
    rw [List.mem_filter]
    simp
/-- the lines that come until x -/
def upto (x : Int) : List Int → List Int
  | [] => []
  | y :: r => if y = x then [] else y :: upto x r
theorem upto_filter {x y : Int} (h : y ≠ x) : ∀ l : List Int, upto x (l.filter fun z => !decide (z = y)) = (upto x l).filter fun z => !decide (z = y)
  | [] => rfl
  | z :: r => by
    have ih := upto_filter h r
    rw [List.filter_cons]
    by_cases e : z = y
    · subst e
      simp [upto, h, ih]
    · by_cases e2 : z = x
      · subst e2
        simp [upto, e]
      · simp [upto, e, e2, ih]
/-- scanning a list of lines (backwards) -/
def scanR (x : Int) : List Int → List Int → Option (List Int)
  | [], _ => none
  | y :: r, others => if y = x then some others else scanR x r (if y ∈ others then others else others ++ [y])
theorem scanR_len {x : Int} : ∀ (r others : List Int), x ∉ others → (scanR x r others).map List.length = if x ∈ r then some (others.length + ((upto x (nub r)).filter fun z => !decide (z ∈ others)).length) else none
  | [], others, _ => rfl
  | y :: r, others, hx => by
    by_cases e : y = x
    · subst e
      simp [scanR, nub, upto]
    · have e' : ¬ x = y := fun z => e z.symm
      unfold scanR nub
      rw [if_neg e]
      have hm : (x ∈ y :: r) = (x ∈ r) := by simp [e']
      simp only [hm]
      have e1 : upto x (y :: (nub r).filter fun z => !decide (z = y)) = y :: (upto x (nub r)).filter fun z => !decide (z = y) := by
        rw [← upto_filter e]
        simp [upto, e]
      rw [e1, List.filter_cons, List.filter_filter]
      by_cases hy : y ∈ others
      · rw [if_pos hy, scanR_len r others hx]
        have e2 : ((upto x (nub r)).filter fun z => (!decide (z ∈ others)) && !decide (z = y)) = (upto x (nub r)).filter fun z => !decide (z ∈ others) := by
          congr 1
          funext z
          by_cases hz : z = y
          · subst hz
            simp [hy]
          · simp [hz]
        rw [e2]
        simp [hy]
      · have hx2 : x ∉ others ++ [y] := by simp [hx, e']
        rw [if_neg hy, scanR_len r _ hx2]
        have e2 : ((upto x (nub r)).filter fun z => (!decide (z ∈ others)) && !decide (z = y)) = (upto x (nub r)).filter fun z => !decide (z ∈ others ++ [y]) := by
          congr 1
          funext z
          by_cases hz : z = y <;> by_cases hz2 : z ∈ others <;> simp [hz, hz2]
        rw [e2, if_pos (show (!decide (y ∈ others)) = true by simp [hy])]
        have e3 : ∀ n : Nat, (others ++ [y]).length + n = others.length + (n + 1) := fun n => by
          rw [List.length_append, List.length_singleton]
          omega
        rw [e3]
        rfl
theorem scan_R {lines : List Int} {x : Int} : ∀ {m : Nat} {others : List Int}, m ≤ lines.length → scan lines x m others = scanR x (lines.take m).reverse others
  | 0, others, _ => rfl
  | m + 1, others, h => by
    have hl : m < lines.length := h
    have e : (lines.take (m + 1)).reverse = lines.getD m 0 :: (lines.take m).reverse := by
      rw [List.take_add_one, List.getD_eq_getElem?_getD, List.getElem?_eq_getElem hl, List.reverse_append]
      rfl
    rw [e]
    unfold scan scanR
    by_cases c : lines.getD m 0 = x
    · rw [if_pos c, if_pos c]
    · rw [if_neg c, if_neg c]
      exact scan_R (Nat.le_of_lt hl)
/-- the order of the program, turned round, is nub of the lines turned round -/
theorem split_at {x : Int} : ∀ {l : List Int}, x ∈ l → l = l.take (l.idxOf x) ++ x :: l.drop (l.idxOf x + 1) ∧ x ∉ l.take (l.idxOf x)
  | [], h => by simp at h
  | y :: r, h => by
    by_cases e : y = x
    · subst e
      simp
    · have h' : x ∈ r := by
        rcases List.mem_cons.mp h with q | q
        · exact absurd q.symm e
        · exact q
      obtain ⟨i1, i2⟩ := split_at h'
      have ei : (y :: r).idxOf x = r.idxOf x + 1 := by
        rw [List.idxOf_cons]
        have e' : (y == x) = false := by simpa using e
        rw [e']
        rfl
      rw [ei]
      refine ⟨?_, ?_⟩
      · rw [List.take_succ_cons, List.drop_succ_cons, List.cons_append]
        exact congrArg (y :: ·) i1
      · rw [List.take_succ_cons, List.mem_cons]
        intro z
        rcases z with z | z
        · exact e z.symm
        · exact i2 z
theorem idx_app {x : Int} : ∀ {a b : List Int}, x ∉ a → (a ++ x :: b).idxOf x = a.length
  | [], b, _ => by simp
  | y :: a, b, h => by
    have h1 : ¬ y = x := fun e => h (by rw [e]; exact List.mem_cons_self)
    have h2 : x ∉ a := fun q => h (List.mem_cons_of_mem _ q)
    rw [List.cons_append, List.idxOf_cons]
    have e' : (y == x) = false := by simpa using h1
    rw [e']
    simp only [cond_false, List.length_cons]
    rw [idx_app h2]
theorem erase_app {x : Int} : ∀ {a b : List Int}, (a ++ x :: b).eraseIdx a.length = a ++ b
  | [], b => rfl
  | y :: a, b => congrArg (y :: ·) (erase_app (a := a))
theorem filter_no {x : Int} {l : List Int} (h : x ∉ l) : (l.filter fun z => !decide (z = x)) = l := by
  rw [List.filter_eq_self]
  intro z hz
  have : ¬ z = x := fun e => h (by rw [← e]; exact hz)
  simp [this]
theorem upto_app {x : Int} : ∀ {a b : List Int}, x ∉ a → upto x (a ++ x :: b) = a
  | [], b, _ => by simp [upto]
  | y :: a, b, h => by
    have h1 : ¬ y = x := fun e => h (by rw [e]; exact List.mem_cons_self)
    have h2 : x ∉ a := fun q => h (List.mem_cons_of_mem _ q)
    rw [List.cons_append]
    unfold upto
    rw [if_neg h1, upto_app h2]
/-- one step of the order, as nub sees it -/
theorem order_step {o : List Int} {x : Int} (nd : o.Nodup) : ((if x ∈ o then o.eraseIdx (o.idxOf x) ++ [x] else o ++ [x]) : List Int).reverse = x :: o.reverse.filter (fun z => !decide (z = x)) := by
  by_cases h : x ∈ o
  · rw [if_pos h, List.reverse_append]
    obtain ⟨a, b, rfl, ha⟩ : ∃ a b, o = a ++ x :: b ∧ x ∉ a := ⟨_, _, split_at h⟩
    have hb : x ∉ b := by
      intro hb
      have := (List.nodup_append.mp nd).2.1
      exact (List.nodup_cons.mp this).1 hb
    have e1 : (a ++ x :: b).reverse = b.reverse ++ x :: a.reverse := by simp
    have e2 : ((x :: a.reverse).filter fun z => !decide (z = x)) = a.reverse := by
      rw [List.filter_cons, if_neg (by simp), filter_no (by rw [List.mem_reverse]; exact ha)]
    rw [idx_app ha, erase_app, e1, List.filter_append, e2, filter_no (by rw [List.mem_reverse]; exact hb), List.reverse_append]
    rfl
  · rw [if_neg h, List.reverse_append, filter_no (by rw [List.mem_reverse]; exact h)]
    rfl
theorem depth_step {o : List Int} {x : Int} (nd : o.Nodup) (h : x ∈ o) : (o.length : Int) - 1 - (o.idxOf x : Nat) = ((upto x o.reverse).length : Nat) := by
  obtain ⟨a, b, rfl, ha⟩ : ∃ a b, o = a ++ x :: b ∧ x ∉ a := ⟨_, _, split_at h⟩
  have hb : x ∉ b := by
    intro hb
    have := (List.nodup_append.mp nd).2.1
    exact (List.nodup_cons.mp this).1 hb
  have e : (a ++ x :: b).reverse = b.reverse ++ x :: a.reverse := by simp
  rw [idx_app ha, e, upto_app (by rw [List.mem_reverse]; exact hb), List.length_reverse, List.length_append, List.length_cons]
  omega
theorem dStep_fst (w : Int) (s : List Int × List (Option Int)) (t : Tch) : (dStep w s t).1 = if t.2 / w ∈ s.1 then s.1.eraseIdx (s.1.idxOf (t.2 / w)) ++ [t.2 / w] else s.1 ++ [t.2 / w] := by
  unfold dStep
  split <;> rfl
theorem nodup_rev {l : List Int} (h : l.reverse.Nodup) : l.Nodup := (List.pairwise_reverse.mp h).imp fun q => q.symm
theorem order_nub (w : Int) (ts : List Tch) : (depthsM w ts).1.reverse = nub (linesOf w ts).reverse := by
  have : ∀ (r : List Tch), (depthsM w r.reverse).1.reverse = nub (linesOf w r.reverse).reverse := by
    intro r
    induction r with
    | nil => rfl
    | cons t r ih =>
      have nd : (depthsM w r.reverse).1.Nodup := by
        refine nodup_rev ?_
        rw [ih]
        exact nub_nodup _
      have e1 : depthsM w (r.reverse ++ [t]) = dStep w (depthsM w r.reverse) t := by
        unfold depthsM
        rw [List.foldl_append]
        rfl
      have e2 : (linesOf w (r.reverse ++ [t])).reverse = t.2 / w :: (linesOf w r.reverse).reverse := by
        unfold linesOf
        rw [List.map_append, List.reverse_append]
        rfl
      rw [List.reverse_cons, e1, e2, dStep_fst, order_step nd, ih]
      rfl
  have h := this ts.reverse
  rwa [List.reverse_reverse] at h
theorem depthsM_at {w : Int} {ts : List Tch} {k : Nat} (h : k < ts.length) : (depthsM w ts).2[k]? = some (depthL (linesOf w ts) k) := by
  have pre : ∀ (r s : List Tch) (j : Nat), j < r.length → (depthsM w (r ++ s)).2[j]? = (depthsM w r).2[j]? := by
    intro r s
    have : ∀ (q : List Tch) (j : Nat), j < r.length → (depthsM w (r ++ q.reverse)).2[j]? = (depthsM w r).2[j]? := by
      intro q
      induction q with
      | nil =>
        intro j _
        rw [List.reverse_nil, List.append_nil]
      | cons t q ih =>
        intro j hj
        have e1 : depthsM w (r ++ (t :: q).reverse) = dStep w (depthsM w (r ++ q.reverse)) t := by
          unfold depthsM
          rw [List.reverse_cons, ← List.append_assoc, List.foldl_append]
          rfl
        have hl := (depthsM_len w (r ++ q.reverse)).1
        rw [List.length_append] at hl
        rw [e1, ← ih j hj]
        unfold dStep
        split
        · rw [List.getElem?_append_left (by omega)]
        · rw [List.getElem?_append_left (by omega)]
    have h := this s.reverse
    rwa [List.reverse_reverse] at h
  have ht : ts = ts.take (k + 1) ++ ts.drop (k + 1) := (List.take_append_drop _ _).symm
  have hk : ts[k]? = some ts[k] := List.getElem?_eq_getElem h
  have e0 : (depthsM w ts).2[k]? = (depthsM w (ts.take (k + 1))).2[k]? := by
    have q := pre (ts.take (k + 1)) (ts.drop (k + 1)) k (by rw [List.length_take]; omega)
    rwa [← ht] at q
  have e1 : depthsM w (ts.take (k + 1)) = dStep w (depthsM w (ts.take k)) ts[k] := fold_take _ _ hk
  have hlen := (depthsM_len w (ts.take k)).1
  rw [List.length_take, Nat.min_eq_left (Nat.le_of_lt h)] at hlen
  have ond := order_nub w (ts.take k)
  have nd : (depthsM w (ts.take k)).1.Nodup := by
    refine nodup_rev ?_
    rw [ond]
    exact nub_nodup _
  have hx : (linesOf w ts).getD k 0 = ts[k].2 / w := by
    unfold linesOf
    rw [List.getD_eq_getElem?_getD, List.getElem?_map, hk]
    rfl
  have htk : linesOf w (ts.take k) = (linesOf w ts).take k := by
    unfold linesOf
    rw [List.map_take]
  have hsc := scan_R (lines := linesOf w ts) (x := ts[k].2 / w) (m := k) (others := []) (by unfold linesOf; rw [List.length_map]; omega)
  have hln := scanR_len (x := ts[k].2 / w) ((linesOf w ts).take k).reverse [] (by simp)
  have hdl : depthL (linesOf w ts) k = if ts[k].2 / w ∈ (depthsM w (ts.take k)).1 then some (((upto (ts[k].2 / w) (depthsM w (ts.take k)).1.reverse).length : Nat) : Int) else none := by
    unfold depthL
    rw [hx, hsc]
    have e3 : (scanR (ts[k].2 / w) ((linesOf w ts).take k).reverse []).map (fun o => (o.length : Int)) = ((scanR (ts[k].2 / w) ((linesOf w ts).take k).reverse []).map List.length).map (fun n : Nat => (n : Int)) := by
      rw [Option.map_map]
      rfl
    rw [e3, hln]
    have hmem : (ts[k].2 / w ∈ (depthsM w (ts.take k)).1) ↔ ts[k].2 / w ∈ ((linesOf w ts).take k).reverse := by
      rw [← List.mem_reverse, ond, nub_mem, htk]
    rw [ond, htk]
    by_cases c : ts[k].2 / w ∈ ((linesOf w ts).take k).reverse
    · have fnil : ∀ l : List Int, (l.filter fun z => !decide (z ∈ ([] : List Int))) = l := fun l => by simp
      rw [if_pos c, if_pos (hmem.mpr c), fnil]
      simp
    · rw [if_neg c, if_neg (fun z => c (hmem.mp z))]
      rfl
  rw [e0, e1, hdl]
  unfold dStep
  by_cases c : ts[k].2 / w ∈ (depthsM w (ts.take k)).1
  · rw [if_pos c, if_pos c]
    show (_ ++ [_])[k]? = _
    rw [List.getElem?_append_right (by omega), hlen, Nat.sub_self, ← depth_step nd c]
    rfl
  · rw [if_neg c, if_neg c]
    show (_ ++ [_])[k]? = _
    rw [List.getElem?_append_right (by omega), hlen, Nat.sub_self]
    rfl
def dueM (w : Int) (ts : List Tch) : List (Option Int) := (List.range ts.length).map (depthL (linesOf w ts))
theorem depths_due (w : Int) (ts : List Tch) : (depthsM w ts).2 = dueM w ts := by
  apply List.ext_getElem?
  intro k
  unfold dueM
  by_cases h : k < ts.length
  · rw [depthsM_at h, List.getElem?_map, List.getElem?_range h]
    rfl
  · rw [List.getElem?_eq_none (by have := (depthsM_len w ts).1; omega), List.getElem?_eq_none (by rw [List.length_map, List.length_range]; omega)]
/-! ### the law -/
def widthM (f : Int) : Int := [1, 2, 1 + f / 4 % 6, [200, 1 + f / 4 % 1000].getD (f / 4 % 2).toNat 0].getD (f % 4).toNat 0
theorem widthM_pos (f : Int) : 0 < widthM f ∧ widthM f < 1000000000 := by
  unfold widthM
  have e : ∀ i : Int, (i = 0 ∨ i = 1) → 0 < [200, 1 + f / 4 % 1000].getD i.toNat 0 ∧ [200, 1 + f / 4 % 1000].getD i.toNat 0 < 1000000000 := by
    intro i hi
    rcases hi with rfl | rfl
    · show (0 : Int) < 200 ∧ (200 : Int) < 1000000000
      omega
    · show 0 < 1 + f / 4 % 1000 ∧ 1 + f / 4 % 1000 < 1000000000
      omega
  have e2 := e (f / 4 % 2) (mod2 _)
  generalize [200, 1 + f / 4 % 1000].getD (f / 4 % 2).toNat 0 = z at *
  rcases mod4 f with h | h | h | h <;> rw [h]
  · show (0 : Int) < 1 ∧ (1 : Int) < 1000000000
    omega
  · show (0 : Int) < 2 ∧ (2 : Int) < 1000000000
    omega
  · show 0 < 1 + f / 4 % 6 ∧ 1 + f / 4 % 6 < 1000000000
    omega
  · exact e2
def sp_law (K : PySem.W.Frag) (cs : Cs) : Sp := fun vs H Q _ => ∃ (a : Addr) (ns : List Int), vs = [.ref a] ∧ SqL K H a (ns.map V.int) ∧ ns.length ≤ 63 ∧ ∀ H', Q (.bl true) H'
theorem ok_law (T : Txt K mg cs) (o__law_cell_at : Ok P w K mg base CX0 1 cs.f__law_cell_at cs.d__law_cell_at ["_law_script", "_law_k"] (sp__law_cell_at K cs)) (o__law_touches_by : Ok P w K mg base CX0 2 cs.f__law_touches_by cs.d__law_touches_by ["_law_cells"] (sp__law_touches_by K cs)) (o_depths : Ok P w K mg base CX0 1 cs.f_depths cs.d_depths ["touches", "width"] (sp_depths K cs)) (o__law_depth : Ok P w K mg base CX0 1 cs.f__law_depth cs.d__law_depth ["_law_lines", "_law_at"] (sp__law_depth K cs)) (o_missed_by : Ok P w K mg base CX0 1 cs.f_missed_by cs.d_missed_by ["told", "room"] (sp_missed_by K cs)) (o__law_mixed : Ok P w K mg base CX0 1 cs.f__law_mixed cs.d__law_mixed ["_law_cell"] (sp__law_mixed K cs)) (o__law_whole : Ok P w K mg base CX0 1 cs.f__law_whole cs.d__law_whole ["_law_found"] (sp__law_whole K cs)) : Ok P w K mg base CX0 3 cs.f_law cs.d_law ["_law_script"] (sp_law K cs) := by
  refine T.fn_law.ok sc_law (fun vs H Q E h => ?_) (fun cdv A outer s H vs Q E hr h => ?_)
  · obtain ⟨a, ns, rfl, _⟩ := h
    rfl
  · obtain ⟨a, ns, rfl, hS, hl, q⟩ := h
    refine ⟨_, (pss_cons (ps_set (i := 1) sc_law.nd rfl (Or.inl rfl) (pe_callO o__law_cell_at (hr.mono (by decide)) (by rfl) T.gl__law_cell_at pass0 (pa_cons (pv 0) (pa_cons pe_int pa_nil))))
      (pss_cons (ps_set (i := 2) sc_law.nd rfl (Or.inr rfl) (pe_ix ix_list (pe_lst (pa_cons pe_int (pa_cons pe_int (pa_cons (pe_op op_add pe_int (pe_op op_mod (pe_op op_fdiv (pv 1) pe_int) pe_int)) (pa_cons (pe_ix ix_list (pe_lst (pa_cons pe_int (pa_cons (pe_op op_add pe_int (pe_op op_mod (pe_op op_fdiv (pv 1) pe_int) pe_int)) pa_nil))) (pe_op op_mod (pe_op op_fdiv (pv 1) pe_int) pe_int) (fun _ _ => rfl)) pa_nil))))) (pe_op op_mod (pv 1) pe_int) (fun _ _ => rfl)))
      (pss_cons (ps_set (i := 3) sc_law.nd rfl (Or.inl rfl) (pe_callO o__law_touches_by hr (by rfl) T.gl__law_touches_by pass0 (pa_cons (pe_slice sl_list (pv 0) (po_some pe_int) po_none) pa_nil)))
      (pss_cons (ps_set (i := 4) sc_law.nd rfl (Or.inr rfl) (pe_lc (own := [("_law_touch", 11)]) (g := gName 11) (tt := tYes) rfl sc_law.nd (pi_list (pv 3)) (blkOk_by (N := ["_law_script", "_law_first", "_law_width", "_law_touches", "_law_lines", "_law_given", "_law_found", "_law_k", "_law_due", "_law_room", "_law_many", "_law_touch", "_law_one"]) (sc := defScope s_law) (by decide +kernel)) (fun _ _ _ _ _ => pg_name (i := 11) sc_law.nd rfl (Or.inl rfl)) (fun _ _ _ _ _ => pts_nil) (fun _ _ _ _ _ => (pe_op op_fdiv (pe_ix (ix_tupK (K := K) rfl) (pv 11) pe_int (fun _ _ => rfl)) (pv 2)))))
      (pss_cons (ps_set (i := 5) sc_law.nd rfl (Or.inl rfl) (pe_callTy call_list_of (by rfl) T.no_list boot_list (pa_cons (pv 3) pa_nil)))
      (pss_cons (ps_set (i := 6) sc_law.nd rfl (Or.inl rfl) (pe_callO o_depths (hr.mono (by decide)) (by rfl) T.gl_depths pass0 (pa_cons (pv 5) (pa_cons (pv 2) pa_nil))))
      (pss_cons (ps_if (pt_jn (PW.pt (pw_or (pt_not (pt_val (pe_callB call_isi (by rfl) T.no_isinstance boot_isinstance (pa_cons (pv 6) (pa_cons (pe_bltn (v := .ty "list") (by rfl) T.no_list boot_list rfl) pa_nil))))) (pw_or (pt_cmpR op_ne (pe_callB call_len_seq (by rfl) T.no_len PySem.boot_len (pa_cons (pv 6) pa_nil)) (pe_callB call_len_seq (by rfl) T.no_len PySem.boot_len (pa_cons (pv 4) pa_nil)) (nomark _)) (pw_or1 (pt_cmpR (op_neD hr.units) (pv 5) (pv 3) (nomark _))))))) (pss_one (ps_ret pe_bl)) pss_nil)
      (pss_cons (ps_setLc (i := 8) (own := [("_law_k", 7)]) (g := gName 7) (tt := tYes) rfl sc_law.nd rfl rfl (sw_true rfl rfl rfl (by decide +kernel)) (pi_range1 (by rfl) T.no_range (pa_cons (pe_callB call_len_seq (by rfl) T.no_len PySem.boot_len (pa_cons (pv 4) pa_nil)) pa_nil)) (blkOk_by (N := ["_law_script", "_law_first", "_law_width", "_law_touches", "_law_lines", "_law_given", "_law_found", "_law_k", "_law_due", "_law_room", "_law_many", "_law_touch", "_law_one"]) (sc := defScope s_law) (by decide +kernel)) (fun _ _ _ _ _ => pg_name (i := 7) sc_law.nd rfl (Or.inl rfl)) (fun _ _ _ _ _ => pts_nil) (fun _ _ _ _ _ => (pe_callO o__law_depth (hr.mono (by decide)) (by rfl) T.gl__law_depth pass0 (pa_cons (pv 4) (pa_cons (pv 7) pa_nil)))))
      (pss_cons (ps_for PassesOwn.never rfl (pi_range1 (by rfl) T.no_range (pa_cons (pe_callB call_len_seq (by rfl) T.no_len PySem.boot_len (pa_cons (pv 8) pa_nil)) pa_nil)) (pg_name (i := 7) sc_law.nd rfl (Or.inl rfl)) (pss_cons (ps_if (pt_jn (PW.pt (pw_and (pt_cmpR op_isN (pe_ix ix_list (pv 8) (pv 7) (fun _ _ => rfl)) pe_non (nomark _)) (pw_and1 (pt_cmpR op_notN (pe_ix ix_list (pv 6) (pv 7) (fun _ _ => rfl)) pe_non (nomark _)))))) (pss_one (ps_ret pe_bl)) pss_nil)
      (pss_one (ps_if (pt_jn (PW.pt (pw_and (pt_cmpR op_notN (pe_ix ix_list (pv 8) (pv 7) (fun _ _ => rfl)) pe_non (nomark _)) (pw_and1 (PW.pt (pw_or (pt_not (pt_val (pe_callO o__law_whole (hr.mono (by decide)) (by rfl) T.gl__law_whole pass0 (pa_cons (pe_ix ix_list (pv 6) (pv 7) (fun _ _ => rfl)) pa_nil)))) (pw_or1 (pt_cmpR op_ne (pe_ix ix_list (pv 6) (pv 7) (fun _ _ => rfl)) (pe_ix ix_list (pv 8) (pv 7) (fun _ _ => rfl)) (nomark _))))))))) (pss_one (ps_ret pe_bl)) pss_nil))))
      (pss_cons (ps_for PassesOwn.never rfl (pi_tup (pe_tup (pa_cons pe_int (pa_cons pe_int (pa_cons pe_int (pa_cons pe_int (pa_cons pe_int (pa_cons pe_int (pa_cons (pe_op op_add pe_int (pe_op op_mod (pe_callO o__law_mixed (hr.mono (by decide)) (by rfl) T.gl__law_mixed pass0 (pa_cons (pv 1) pa_nil)) pe_int)) pa_nil))))))))) (pg_name (i := 9) sc_law.nd rfl (Or.inr rfl)) (pss_cons (ps_set (i := 10) sc_law.nd rfl (Or.inl rfl) (pe_callO o_missed_by (hr.mono (by decide)) (by rfl) T.gl_missed_by pass0 (pa_cons (pe_callTy call_list_of (by rfl) T.no_list boot_list (pa_cons (pv 8) pa_nil)) (pa_cons (pv 9) pa_nil))))
      (pss_one (ps_if (pt_jn (PW.pt (pw_or (pt_not (pt_val (pe_callO o__law_whole (hr.mono (by decide)) (by rfl) T.gl__law_whole pass0 (pa_cons (pv 10) pa_nil)))) (pw_or1 (pt_cmpR op_ne (pv 10) (pe_callB call_len_seq (by rfl) T.no_len PySem.boot_len (pa_cons (pe_lc (own := [("_law_one", 12)]) (g := gName 12) rfl sc_law.nd (pi_list (pv 8)) (blkOk_by (N := ["_law_script", "_law_first", "_law_width", "_law_touches", "_law_lines", "_law_given", "_law_found", "_law_k", "_law_due", "_law_room", "_law_many", "_law_touch", "_law_one"]) (sc := defScope s_law) (by decide +kernel)) (fun _ _ _ _ _ => pg_name (i := 12) sc_law.nd rfl (Or.inl rfl)) (fun _ _ _ _ _ => pts_one (PW.pt (pw_or (pt_cmpR op_isN (pv 12) pe_non (nomark _)) (pw_or1 (pt_cmpR op_ge (pv 12) (pv 9) (nomark _)))))) (fun _ _ _ _ _ => (pv 12))) pa_nil)) (nomark _)))))) (pss_one (ps_ret pe_bl)) pss_nil))))
      (pss_one (ps_ret pe_bl)))))))))))), ?_⟩
    -- first = cell_at(script, 0)
    refine ⟨_, rfl, a, ns, 0, rfl, hS, ?_⟩
    generalize cellOf ns 0 = f
    -- width
    refine ⟨_, rfl, _, _, rfl, rfl, ⟨by decide, by decide⟩, _, _, rfl, rfl, (by show (0 : Int) < _; decide), _, _, rfl, rfl, _, rfl, _, _, rfl, rfl, ⟨by decide, by decide⟩, _, _, rfl, rfl, (by show (0 : Int) < _; decide), _, _, rfl, rfl, (by show 2 ≤ sizeLine; decide), fun l1 h1 => ?_⟩
    have s1 : Same H (upd H l1 (.lst [.int 200, .int (1 + f / 4 % 1000)])) := Same.new h1
    refine ⟨_, rfl, _, _, rfl, rfl, ⟨by decide, by decide⟩, _, _, rfl, rfl, (by show (0 : Int) < _; decide), l1, _, _, _, rfl, rfl, SqL.of upd_same, mod_at (xs := [200, 1 + f / 4 % 1000]) (f / 4) 2 rfl (by decide), (by show 4 ≤ sizeLine; decide), fun l2 h2 => ?_⟩
    have s2 := s1.trans (Same.new (o := .lst [.int 1, .int 2, .int (1 + f / 4 % 6), .int ([200, 1 + f / 4 % 1000].getD (f / 4 % ((2 : Nat) : Int)).toNat 0)]) h2)
    refine ⟨_, rfl, _, _, rfl, rfl, (by show (0 : Int) < _; decide), l2, _, _, _, rfl, rfl, SqL.of upd_same, mod_at (xs := [1, 2, 1 + f / 4 % 6, [200, 1 + f / 4 % 1000].getD (f / 4 % 2).toNat 0]) f 4 rfl (by decide), ?_⟩
    obtain ⟨hw, hw2⟩ : (0 < widthM f ∧ widthM f < 1000000000) ∧ [1, 2, 1 + f / 4 % 6, [200, 1 + f / 4 % 1000].getD (f / 4 % 2).toNat 0].getD (f % ((4 : Nat) : Int)).toNat 0 = widthM f := ⟨widthM_pos f, rfl⟩
    rw [hw2]
    generalize widthM f = w at *
    generalize upd (upd H l1 _) l2 _ = H2 at s2 ⊢
    -- touches = touches_by(script[1:])
    refine ⟨_, rfl, _, rfl, a, _, rfl, s2.seq hS, fun p3 n3 => ?_⟩
    have e3 : cutV (ns.map V.int) (some 1) none = (ns.drop 1).map V.int := by rw [cut_one, List.map_drop]
    have s3 := s2.trans (Same.new (o := .lst (cutV (ns.map V.int) (some 1) none)) n3)
    refine ⟨p3, ns.drop 1, rfl, SqL.of (by rw [← e3]; exact upd_same), by rw [List.length_drop]; omega, fun H4 p4 xs s4' n4 hp4 hT => ?_⟩
    have s4 := s3.trans s4'
    have htl : (touchesM (ns.drop 1)).length ≤ 63 := by rw [touchesM_len, List.length_drop]; omega
    generalize touchesM (ns.drop 1) = ts at hT htl
    -- lines
    refine ⟨_, rfl, p4, rfl, ⟨_, SqL.of hp4⟩, fun D5 n5 => lc_list (xs := xs) (fun i H' => Same H4 H' ∧ H' D5 = some (.lst ((linesOf w (ts.take i)).map V.int))) ⟨Same.new n5, upd_same⟩ (fun i H' _ p => SqL.of (p.1 _ _ hp4)) ?_ ?_⟩
    · rintro i x H' hx ⟨s5, hD⟩
      obtain ⟨tc, htc, b, rfl, hb⟩ := hT.of hx
      refine ⟨rfl, _, rfl, b, _, _, _, rfl, rfl, s5.seqT hb, rfl, _, rfl, _, _, rfl, rfl, ⟨hw.1, by have := hw.2; omega⟩, _, hD, sizeL ?_, s5.mut n5, ?_⟩
      · rw [List.length_map]
        unfold linesOf
        rw [List.length_map, List.length_take]
        omega
      · rw [upd_same]
        have e : linesOf w (ts.take (i + 1)) = linesOf w (ts.take i) ++ [tc.2 / w] := by
          unfold linesOf
          rw [List.take_add_one, htc, List.map_append]
          rfl
        rw [e, List.map_append]
        rfl
    rintro H5 ⟨s5', hD5⟩
    rw [hT.len, List.take_length] at hD5
    have s5 := s4.trans s5'
    have hll : (linesOf w ts).length = ts.length := by
      unfold linesOf
      rw [List.length_map]
    -- given = list(touches)
    refine ⟨_, rfl, p4, xs, rfl, .inl (SqL.of (s5' _ _ hp4)), fun p6 n6 => ?_⟩
    have s6' : Same H5 (upd H5 p6 (.lst xs)) := Same.new n6
    have h64 : (upd H5 p6 (.lst xs)) p4 = some (.lst xs) := s6' _ _ (s5' _ _ hp4)
    have h6D : (upd H5 p6 (.lst xs)) D5 = some (.lst ((linesOf w ts).map V.int)) := s6' _ _ hD5
    have h66 : (upd H5 p6 (.lst xs)) p6 = some (.lst xs) := upd_same
    have hT6 := (hT.same s5').same s6'
    have s6 := s5.trans s6'
    generalize upd H5 p6 (.lst xs) = H6 at *
    -- found = depths(given, width)
    refine ⟨_, rfl, _, rfl, p6, xs, ts, w, rfl, SqL.of h66, hT6, hw, by omega, fun H7 p7 s7' n7 hp7 => ?_⟩
    rw [depths_due] at hp7
    have hdl : (dueM w ts).length = ts.length := by
      unfold dueM
      rw [List.length_map, List.length_range]
    have h7D := s7' _ _ h6D
    have h74 := s7' _ _ h64
    have h76 := s7' _ _ h66
    have hT7 := hT6.same s7'
    have s7 := s6.trans s7'
    -- if not isinstance(found, list) or ..
    refine ⟨fun b H' => b = false ∧ H' = H7, ?_, ?_⟩
    · refine ⟨_, rfl, _, _, _, _, _, rfl, .ty "list", .base (.lst hp7), kit_ty (r := true) (by decide +kernel), _, rfl, iteF ?_⟩
      refine ⟨_, rfl, p7, _, rfl, .inl (SqL.of hp7), _, rfl, D5, _, rfl, .inl (SqL.of h7D), rfl, _, rfl, iteN (fun c => ?_) (fun _ => ?_)⟩
      · exact absurd (by rw [List.length_map, List.length_map, hdl, hll]) c
      · have dp := hT7.dp (SqL.of h76)
        have dp4 := hT7.dp (SqL.of h74)
        refine ⟨_, rfl, _, rfl, _, _, dp, dp4, (touches_sh ts).shaped (by decide), (touches_sh ts).shaped (by decide), _, rfl, ?_, rfl⟩
        rw [eqv_self (touches_sh ts)]
        rfl
    rintro b H' ⟨rfl, rfl⟩
    refine iteF ?_
    -- due
    refine ⟨_, rfl, D5, _, rfl, .inl (SqL.of h7D), (((linesOf w ts).map V.int).length : Nat), rfl, by omega, by rw [List.length_map, hll]; omega, fun D8 n8 => ?_⟩
    have e8 : ((((linesOf w ts).map V.int).length : Nat) : Int).toNat = ts.length := by rw [List.length_map, hll]; rfl
    rw [e8]
    refine lc_range (n := ts.length) (fun i H8 => Same H' H8 ∧ H8 D8 = some (.lst (((dueM w ts).take i).map optV))) ⟨Same.new n8, upd_same⟩ ?_ ?_
    · rintro i H8 hi ⟨s8, hD8⟩
      refine ⟨rfl, _, rfl, _, rfl, D5, linesOf w ts, i, by rw [Int.zero_add], SqL.of (s8 _ _ h7D), by omega, by omega, fun H9 s9 => ⟨_, s9 _ _ hD8, sizeL ?_, (s8.trans s9).mut n8, ?_⟩⟩
      · rw [List.length_map, List.length_take]
        omega
      · have e : (dueM w ts)[i]? = some (depthL (linesOf w ts) i) := by
          unfold dueM
          rw [List.getElem?_map, List.getElem?_range hi]
          rfl
        rw [upd_same, List.take_add_one, e, List.map_append]
        rfl
    rintro H8 ⟨s8', hD8⟩
    rw [List.take_of_length_le (by omega)] at hD8
    have h87 := s8' _ _ hp7
    have s8 := s7.trans s8'
    generalize hdu : dueM w ts = due at *
    -- for k in range(len(due))
    refine ⟨_, rfl, D8, _, rfl, .inl (SqL.of hD8), ((due.map optV).length : Nat), rfl, by omega, by rw [List.length_map]; omega, ?_⟩
    have e9 : (((due.map optV).length : Nat) : Int).toNat = due.length := by rw [List.length_map]; rfl
    rw [e9]
    have hdue : due.length ≤ 63 := by omega
    refine for_range (lo := 0) (n := due.length) (fun i σ H' => ∃ v7 v9 v10, σ = [some (.ref a), some (.int f), some (.int w), some (.ref p4), some (.ref D5), some (.ref p6), some (.ref p7), v7, some (.ref D8), v9, v10, none, none] ∧ Same H8 H') ?_ ?_ ?_
    · exact ⟨none, none, none, rfl, Same.refl _⟩
    · rintro i σ H' hi ⟨v7, v9, v10, rfl, s9⟩
      have hD9 := SqL.of (K := K) (s9 _ _ hD8)
      have hF9 := SqL.of (K := K) (s9 _ _ h87)
      have hz : (0 : Int) + (i : Int) = ((i : Nat) : Int) := Int.zero_add _
      obtain ⟨o, ho⟩ : ∃ o, due[i]? = some o := ⟨due[i], List.getElem?_eq_getElem hi⟩
      have ho' := nl_get_map (f := optV) ho
      -- if due[k] is None and found[k] is not None
      refine ⟨fun b H2 => b = false ∧ H2 = H', ?_, ?_⟩
      · refine ⟨_, rfl, _, rfl, D8, _, _, _, rfl, rfl, hD9, at_of hz ho', rfl, _, rfl, iteD (fun c => ?_) (fun c => ⟨rfl, rfl⟩)⟩
        refine ⟨_, rfl, _, rfl, p7, _, _, _, rfl, rfl, hF9, at_of hz ho', rfl, _, rfl, ?_, rfl⟩
        rw [decide_eq_true c]
        rfl
      rintro b H2 ⟨rfl, rfl⟩
      refine iteF ?_
      -- the other way round
      refine ⟨fun b H3 => b = false ∧ Same H2 H3, ?_, ?_⟩
      · refine ⟨_, rfl, _, rfl, D8, _, _, _, rfl, rfl, hD9, at_of hz ho', rfl, _, rfl, iteN (fun c => ?_) (fun c => ⟨rfl, Same.refl _⟩)⟩
        cases o with
        | none => exact absurd rfl c
        | some z =>
          refine ⟨_, rfl, _, rfl, p7, _, _, _, rfl, rfl, hF9, at_of hz ho', .int z, "int", rfl, .base (.int z), by decide, true, rfl, iteF ?_⟩
          refine ⟨_, rfl, _, rfl, p7, _, _, _, rfl, rfl, hF9, at_of hz ho', _, rfl, _, rfl, D8, _, _, _, rfl, rfl, hD9, at_of hz ho', rfl, _, rfl, ?_, Same.refl _⟩
          show (!decide (V.int z = V.int z)) = false
          simp
      rintro b H3 ⟨rfl, s10⟩
      refine iteF ?_
      exact ⟨_, v9, v10, rfl, s9.trans s10⟩
    rintro σ H9 ⟨v7, v9, v10, rfl, s9⟩
    -- for room in (1, 2, 3, 5, 9, 200, 1 + mixed(first) % 60)
    refine ⟨_, rfl, f, rfl, _, _, rfl, rfl, (by show (0 : Int) < _; decide), _, _, rfl, rfl, (by show 7 ≤ sizeLine; decide), fun tp ntp => ?_⟩
    have s10 : Same H9 (upd H9 tp (.tup (([1, 2, 3, 5, 9, 200, 1 + mixed f % 60] : List Int).map V.int))) := Same.new ntp
    refine ⟨tp, rfl, ⟨_, SqT.of upd_same⟩, for_tup (xs := ([1, 2, 3, 5, 9, 200, 1 + mixed f % 60] : List Int).map V.int) (fun i σ H' => ∃ v9 v10, σ = [some (.ref a), some (.int f), some (.int w), some (.ref p4), some (.ref D5), some (.ref p6), some (.ref p7), v7, some (.ref D8), v9, v10, none, none] ∧
      Same (upd H9 tp (.tup (([1, 2, 3, 5, 9, 200, 1 + mixed f % 60] : List Int).map V.int))) H') ⟨v9, v10, rfl, Same.refl _⟩ ?_ ?_ ?_⟩
    · rintro i σ H' _ ⟨_, _, _, s11⟩
      exact SqT.of (s11 _ _ upd_same)
    · rintro i x σ H' hx ⟨v9, v10, rfl, s11⟩
      obtain ⟨r, _, rfl⟩ := of_get_map hx
      have hD9 := ((s9.trans s10).trans s11) _ _ hD8
      -- many = missed_by(list(due), room)
      refine ⟨_, rfl, D8, _, rfl, .inl (SqL.of hD9), fun l nl => ?_⟩
      have s12 := Same.new (o := .lst (due.map optV)) nl
      refine ⟨_, rfl, l, due, r, rfl, SqL.of upd_same, by omega, fun H10 s13 => ?_⟩
      have s14 := s12.trans s13
      refine ⟨fun b H3 => b = false ∧ Same H10 H3, ?_, ?_⟩
      · refine ⟨_, rfl, .int (missM r due), "int", rfl, .base (.int _), by decide, true, rfl, iteF ?_⟩
        have hD10 := s14 _ _ hD9
        refine ⟨_, rfl, _, rfl, D8, rfl, ⟨_, SqL.of hD10⟩, fun D nD => lc_list (xs := due.map optV) (fun i H' => Same H10 H' ∧ H' D = some (.lst (((due.take i).filter (missB r)).map optV))) ⟨Same.new nD, upd_same⟩ (fun i H' _ p => SqL.of (p.1 _ _ hD10)) ?_ ?_⟩
        · rintro i x H' hx ⟨s1, hD'⟩
          obtain ⟨o, ho, rfl⟩ := of_get_map hx
          have hf := filter_take (missB r) ho
          have hlen : (((due.take i).filter (missB r)).map optV).length < 1000000 := by
            rw [List.length_map]
            have h1 := List.length_filter_le (missB r) (due.take i)
            rw [List.length_take] at h1
            omega
          cases o with
          | none =>
            refine ⟨rfl, _, rfl, rfl, _, rfl, iteT ?_⟩
            refine ⟨_, rfl, _, hD', sizeL hlen, s1.mut nD, ?_⟩
            rw [upd_same, hf, if_pos (show missB r none = true from rfl), List.map_append]
            rfl
          | some z =>
            refine ⟨rfl, _, rfl, rfl, _, rfl, iteF ⟨_, rfl, _, rfl, _, _, rfl, rfl, _, rfl, iteD (fun c => ?_) (fun c => ?_)⟩⟩
            · refine ⟨_, rfl, _, hD', sizeL hlen, s1.mut nD, ?_⟩
              rw [upd_same, hf, if_pos (show missB r (some z) = true from decide_eq_true c), List.map_append]
              rfl
            · refine ⟨s1, ?_⟩
              rw [hf, if_neg (show ¬ missB r (some z) = true from fun q => c (of_decide_eq_true q)), List.append_nil]
              exact hD'
        · rintro H' ⟨s1, hD'⟩
          refine ⟨D, _, rfl, .inl (SqL.of hD'), rfl, _, rfl, ?_, s1⟩
          rw [List.length_map, List.length_map, List.take_length]
          show (!decide (V.int (missM r due) = V.int (missM r due))) = false
          simp
      rintro b H3 ⟨rfl, s15⟩
      refine iteF ?_
      exact ⟨_, _, rfl, (s11.trans s14).trans s15⟩
    · rintro σ H' ⟨_, _, rfl, _⟩
      exact q H'
def spEnd (K : PySem.W.Frag) : Sp := fun vs H Q _ => ∃ (a : Addr) (ns : List Int), vs = [.ref a] ∧ SqL K H a (ns.map V.int) ∧ ns.length ≤ 63 ∧ ∀ H', Q (.bl true) H'
theorem spEnd_law {K : PySem.W.Frag} (cs : Cs) {vs : List V} {H : Hp} {Q : VK} {E : XK} (h : spEnd K vs H Q E) : sp_law K cs vs H Q E := h
end
theorem all_mk {l : PySem.W.OpenLaw} {w : World} {K : PySem.W.Frag} {h : Heap} {mg : Str → Option Value} {fa : Addr} (X : K.In h) (G : h.Ns mainGlobals mg) (hfa : mg "law" = some (.ref fa))
    {f_depths f_missed_by f__law_cell_at f__law_whole f__law_mixed f__law_touches_by f__law_depth f_law : Addr}
    {od_depths an_depths od_missed_by an_missed_by od__law_cell_at an__law_cell_at od__law_whole an__law_whole od__law_mixed an__law_mixed od__law_touches_by an__law_touches_by od__law_depth an__law_depth od_law an_law : Option Addr} {sl_depths sl_missed_by sl__law_cell_at sl__law_whole sl__law_mixed sl__law_touches_by sl__law_depth sl_law : Array (Option Value)} {oc_depths kV_depths dc_depths pm_depths cd_depths ct_depths oc_missed_by kV_missed_by dc_missed_by pm_missed_by cd_missed_by ct_missed_by oc__law_cell_at kV__law_cell_at dc__law_cell_at pm__law_cell_at cd__law_cell_at ct__law_cell_at oc__law_whole kV__law_whole dc__law_whole pm__law_whole cd__law_whole ct__law_whole oc__law_mixed kV__law_mixed dc__law_mixed pm__law_mixed cd__law_mixed ct__law_mixed oc__law_touches_by kV__law_touches_by dc__law_touches_by pm__law_touches_by cd__law_touches_by ct__law_touches_by oc__law_depth kV__law_depth dc__law_depth pm__law_depth cd__law_depth ct__law_depth oc_law kV_law dc_law pm_law cd_law ct_law : Value}
    (a_depths : PySem.W.nsIn K mainGlobals "depths" = some (some (.ref f_depths)))
    (l_depths : K.lookup f_depths = some ⟨oc_depths, od_depths, .func (PySem.W.fnOf "depths" "depths" (defArgs s_depths) (defBody s_depths) (defScope s_depths) .none kV_depths dc_depths pm_depths an_depths cd_depths ct_depths), sl_depths⟩)
    (c_depths : PySem.W.codeIn K cd_depths "depths" = true)
    (k_depths : PySem.W.keepIn K (.ref f_depths) = true)
    (a_missed_by : PySem.W.nsIn K mainGlobals "missed_by" = some (some (.ref f_missed_by)))
    (l_missed_by : K.lookup f_missed_by = some ⟨oc_missed_by, od_missed_by, .func (PySem.W.fnOf "missed_by" "missed_by" (defArgs s_missed_by) (defBody s_missed_by) (defScope s_missed_by) .none kV_missed_by dc_missed_by pm_missed_by an_missed_by cd_missed_by ct_missed_by), sl_missed_by⟩)
    (c_missed_by : PySem.W.codeIn K cd_missed_by "missed_by" = true)
    (k_missed_by : PySem.W.keepIn K (.ref f_missed_by) = true)
    (a__law_cell_at : PySem.W.nsIn K mainGlobals "_law_cell_at" = some (some (.ref f__law_cell_at)))
    (l__law_cell_at : K.lookup f__law_cell_at = some ⟨oc__law_cell_at, od__law_cell_at, .func (PySem.W.fnOf "_law_cell_at" "_law_cell_at" (defArgs s__law_cell_at) (defBody s__law_cell_at) (defScope s__law_cell_at) .none kV__law_cell_at dc__law_cell_at pm__law_cell_at an__law_cell_at cd__law_cell_at ct__law_cell_at), sl__law_cell_at⟩)
    (c__law_cell_at : PySem.W.codeIn K cd__law_cell_at "_law_cell_at" = true)
    (k__law_cell_at : PySem.W.keepIn K (.ref f__law_cell_at) = true)
    (a__law_whole : PySem.W.nsIn K mainGlobals "_law_whole" = some (some (.ref f__law_whole)))
    (l__law_whole : K.lookup f__law_whole = some ⟨oc__law_whole, od__law_whole, .func (PySem.W.fnOf "_law_whole" "_law_whole" (defArgs s__law_whole) (defBody s__law_whole) (defScope s__law_whole) .none kV__law_whole dc__law_whole pm__law_whole an__law_whole cd__law_whole ct__law_whole), sl__law_whole⟩)
    (c__law_whole : PySem.W.codeIn K cd__law_whole "_law_whole" = true)
    (k__law_whole : PySem.W.keepIn K (.ref f__law_whole) = true)
    (a__law_mixed : PySem.W.nsIn K mainGlobals "_law_mixed" = some (some (.ref f__law_mixed)))
    (l__law_mixed : K.lookup f__law_mixed = some ⟨oc__law_mixed, od__law_mixed, .func (PySem.W.fnOf "_law_mixed" "_law_mixed" (defArgs s__law_mixed) (defBody s__law_mixed) (defScope s__law_mixed) .none kV__law_mixed dc__law_mixed pm__law_mixed an__law_mixed cd__law_mixed ct__law_mixed), sl__law_mixed⟩)
    (c__law_mixed : PySem.W.codeIn K cd__law_mixed "_law_mixed" = true)
    (k__law_mixed : PySem.W.keepIn K (.ref f__law_mixed) = true)
    (a__law_touches_by : PySem.W.nsIn K mainGlobals "_law_touches_by" = some (some (.ref f__law_touches_by)))
    (l__law_touches_by : K.lookup f__law_touches_by = some ⟨oc__law_touches_by, od__law_touches_by, .func (PySem.W.fnOf "_law_touches_by" "_law_touches_by" (defArgs s__law_touches_by) (defBody s__law_touches_by) (defScope s__law_touches_by) .none kV__law_touches_by dc__law_touches_by pm__law_touches_by an__law_touches_by cd__law_touches_by ct__law_touches_by), sl__law_touches_by⟩)
    (c__law_touches_by : PySem.W.codeIn K cd__law_touches_by "_law_touches_by" = true)
    (k__law_touches_by : PySem.W.keepIn K (.ref f__law_touches_by) = true)
    (a__law_depth : PySem.W.nsIn K mainGlobals "_law_depth" = some (some (.ref f__law_depth)))
    (l__law_depth : K.lookup f__law_depth = some ⟨oc__law_depth, od__law_depth, .func (PySem.W.fnOf "_law_depth" "_law_depth" (defArgs s__law_depth) (defBody s__law_depth) (defScope s__law_depth) .none kV__law_depth dc__law_depth pm__law_depth an__law_depth cd__law_depth ct__law_depth), sl__law_depth⟩)
    (c__law_depth : PySem.W.codeIn K cd__law_depth "_law_depth" = true)
    (k__law_depth : PySem.W.keepIn K (.ref f__law_depth) = true)
    (a_law : PySem.W.nsIn K mainGlobals "law" = some (some (.ref f_law)))
    (l_law : K.lookup f_law = some ⟨oc_law, od_law, .func (PySem.W.fnOf "law" "law" (defArgs s_law) (defBody s_law) (defScope s_law) .none kV_law dc_law pm_law an_law cd_law ct_law), sl_law⟩)
    (c_law : PySem.W.codeIn K cd_law "law" = true)
    (k_law : PySem.W.keepIn K (.ref f_law) = true)
    (z_len : PySem.W.nsIn K mainGlobals "len" = some none)
    (z_isinstance : PySem.W.nsIn K mainGlobals "isinstance" = some none)
    (z_int : PySem.W.nsIn K mainGlobals "int" = some none)
    (z_bool : PySem.W.nsIn K mainGlobals "bool" = some none)
    (z_list : PySem.W.nsIn K mainGlobals "list" = some none)
    (z_range : PySem.W.nsIn K mainGlobals "range" = some none)
    : ∃ (cs : Cs) (fd : FuncData), (∀ (s : Shared) (v : Value), BindsTo s fd ⟨[v], []⟩ [("_law_script", v)]) ∧ ∀ base : Heap, K.In base → base.Ns mainGlobals mg → FnOk l.prog w K mg base CX0 3 fa fd ["_law_script"] (sp_law K cs) := by
  have e : f_law = fa := Value.ref.inj (Option.some.inj ((PySem.W.mg_of X G a_law).symm.trans hfa))
  obtain ⟨cs, hcs⟩ : ∃ cs : Cs, cs = { f_depths := f_depths, d_depths := (PySem.W.fnOf "depths" "depths" (defArgs s_depths) (defBody s_depths) (defScope s_depths) .none kV_depths dc_depths pm_depths an_depths cd_depths ct_depths), f_missed_by := f_missed_by, d_missed_by := (PySem.W.fnOf "missed_by" "missed_by" (defArgs s_missed_by) (defBody s_missed_by) (defScope s_missed_by) .none kV_missed_by dc_missed_by pm_missed_by an_missed_by cd_missed_by ct_missed_by), f__law_cell_at := f__law_cell_at, d__law_cell_at := (PySem.W.fnOf "_law_cell_at" "_law_cell_at" (defArgs s__law_cell_at) (defBody s__law_cell_at) (defScope s__law_cell_at) .none kV__law_cell_at dc__law_cell_at pm__law_cell_at an__law_cell_at cd__law_cell_at ct__law_cell_at), f__law_whole := f__law_whole, d__law_whole := (PySem.W.fnOf "_law_whole" "_law_whole" (defArgs s__law_whole) (defBody s__law_whole) (defScope s__law_whole) .none kV__law_whole dc__law_whole pm__law_whole an__law_whole cd__law_whole ct__law_whole), f__law_mixed := f__law_mixed, d__law_mixed := (PySem.W.fnOf "_law_mixed" "_law_mixed" (defArgs s__law_mixed) (defBody s__law_mixed) (defScope s__law_mixed) .none kV__law_mixed dc__law_mixed pm__law_mixed an__law_mixed cd__law_mixed ct__law_mixed), f__law_touches_by := f__law_touches_by, d__law_touches_by := (PySem.W.fnOf "_law_touches_by" "_law_touches_by" (defArgs s__law_touches_by) (defBody s__law_touches_by) (defScope s__law_touches_by) .none kV__law_touches_by dc__law_touches_by pm__law_touches_by an__law_touches_by cd__law_touches_by ct__law_touches_by), f__law_depth := f__law_depth, d__law_depth := (PySem.W.fnOf "_law_depth" "_law_depth" (defArgs s__law_depth) (defBody s__law_depth) (defScope s__law_depth) .none kV__law_depth dc__law_depth pm__law_depth an__law_depth cd__law_depth ct__law_depth), f_law := f_law, d_law := (PySem.W.fnOf "law" "law" (defArgs s_law) (defBody s_law) (defScope s_law) .none kV_law dc_law pm_law an_law cd_law ct_law) } := ⟨_, rfl⟩
  have T : Txt K mg cs := by
    rw [hcs]
    exact { fn_depths := ⟨fun_mk (st := s_depths) l_depths c_depths k_depths, (fun_mk (st := s_depths) l_depths c_depths k_depths).binds (ps := ["touches", "width"]) fun _ _ _ _ _ _ us hl => match us, hl with | [_, _], _ => rfl⟩, gl_depths := PySem.W.mg_of X G a_depths, fn_missed_by := ⟨fun_mk (st := s_missed_by) l_missed_by c_missed_by k_missed_by, (fun_mk (st := s_missed_by) l_missed_by c_missed_by k_missed_by).binds (ps := ["told", "room"]) fun _ _ _ _ _ _ us hl => match us, hl with | [_, _], _ => rfl⟩, gl_missed_by := PySem.W.mg_of X G a_missed_by, fn__law_cell_at := ⟨fun_mk (st := s__law_cell_at) l__law_cell_at c__law_cell_at k__law_cell_at, (fun_mk (st := s__law_cell_at) l__law_cell_at c__law_cell_at k__law_cell_at).binds (ps := ["_law_script", "_law_k"]) fun _ _ _ _ _ _ us hl => match us, hl with | [_, _], _ => rfl⟩, gl__law_cell_at := PySem.W.mg_of X G a__law_cell_at, fn__law_whole := ⟨fun_mk (st := s__law_whole) l__law_whole c__law_whole k__law_whole, (fun_mk (st := s__law_whole) l__law_whole c__law_whole k__law_whole).binds (ps := ["_law_found"]) fun _ _ _ _ _ _ us hl => match us, hl with | [_], _ => rfl⟩, gl__law_whole := PySem.W.mg_of X G a__law_whole, fn__law_mixed := ⟨fun_mk (st := s__law_mixed) l__law_mixed c__law_mixed k__law_mixed, (fun_mk (st := s__law_mixed) l__law_mixed c__law_mixed k__law_mixed).binds (ps := ["_law_cell"]) fun _ _ _ _ _ _ us hl => match us, hl with | [_], _ => rfl⟩, gl__law_mixed := PySem.W.mg_of X G a__law_mixed, fn__law_touches_by := ⟨fun_mk (st := s__law_touches_by) l__law_touches_by c__law_touches_by k__law_touches_by, (fun_mk (st := s__law_touches_by) l__law_touches_by c__law_touches_by k__law_touches_by).binds (ps := ["_law_cells"]) fun _ _ _ _ _ _ us hl => match us, hl with | [_], _ => rfl⟩, gl__law_touches_by := PySem.W.mg_of X G a__law_touches_by, fn__law_depth := ⟨fun_mk (st := s__law_depth) l__law_depth c__law_depth k__law_depth, (fun_mk (st := s__law_depth) l__law_depth c__law_depth k__law_depth).binds (ps := ["_law_lines", "_law_at"]) fun _ _ _ _ _ _ us hl => match us, hl with | [_, _], _ => rfl⟩, gl__law_depth := PySem.W.mg_of X G a__law_depth, fn_law := ⟨fun_mk (st := s_law) l_law c_law k_law, (fun_mk (st := s_law) l_law c_law k_law).binds (ps := ["_law_script"]) fun _ _ _ _ _ _ us hl => match us, hl with | [_], _ => rfl⟩, gl_law := PySem.W.mg_of X G a_law, no_len := PySem.W.mg_none_of X G z_len, no_isinstance := PySem.W.mg_none_of X G z_isinstance, no_int := PySem.W.mg_none_of X G z_int, no_bool := PySem.W.mg_none_of X G z_bool, no_list := PySem.W.mg_none_of X G z_list, no_range := PySem.W.mg_none_of X G z_range }
  refine ⟨cs, cs.d_law, ?_, fun base KB GB => ?_⟩
  · rw [hcs]
    exact fun s v => .of_eq rfl
  have o__law_cell_at := ok__law_cell_at (P := l.prog) (w := w) (base := base) T 
  have o__law_mixed := ok__law_mixed (P := l.prog) (w := w) (base := base) T 
  have o__law_touches_by := ok__law_touches_by (P := l.prog) (w := w) (base := base) T o__law_mixed
  have o_depths := ok_depths (P := l.prog) (w := w) (base := base) T 
  have o__law_depth := ok__law_depth (P := l.prog) (w := w) (base := base) T 
  have o_missed_by := ok_missed_by (P := l.prog) (w := w) (base := base) T 
  have o__law_whole := ok__law_whole (P := l.prog) (w := w) (base := base) T 
  have o_law := ok_law (P := l.prog) (w := w) (base := base) T o__law_cell_at o__law_touches_by o_depths o__law_depth o_missed_by o__law_mixed o__law_whole
  have ef : cs.f_law = fa := by
    rw [hcs]
    exact e
  rw [← ef]
  exact o_law.ok
theorem walk {l : PySem.W.OpenLaw} {q : Program} {loose : List Str} {XP : (Str → Option Value) → Heap → Prop} {YP : World → Heap → Prop} {d : DefRec} {K : Params → PySem.W.Frag} (hn : l.most = some 63) (hdf : d.params.defaults = [])
    (hY : ∀ (w : World) (h : Heap), YP w h → (K w.params).In h)
    (F : ∀ (w : World) (mg : Str → Option Value) (fa : Addr) (h : Heap), (K w.params).In h → h.Ns mainGlobals mg → mg d.name = some (.ref fa) →
      ∃ (cs : Cs) (fd : FuncData), (∀ (s : Shared) (u : Value), BindsTo s fd ⟨[u], []⟩ [("_law_script", u)]) ∧ ∀ base : Heap, (K w.params).In base → base.Ns mainGlobals mg → FnOk l.prog w (K w.params) mg base CX0 3 fa fd ["_law_script"] (sp_law (K w.params) cs)) :
    PySem.W.WalkO q loose XP YP l.row.toRowW d [] (fun f vs => PySem.call f vs) :=
  L2.walk_of (n := 63) (k := 3) (x := "_law_script") (CX := fun _ => CX0) (sp := fun w => spEnd (K w.params)) hn (by decide) hdf ⟨rfl, by decide, by decide⟩ hY (fun w mg fa h KX G hm => by
    obtain ⟨cs, fd, B, O⟩ := F w mg fa h KX G hm
    exact ⟨fd, B, fun base KB GB => (O base KB GB).imp fun vs H Q E z => spEnd_law cs z⟩) (fun _ _ a ns hl _ hS => ⟨a, ns, rfl, hS, hl, fun _ => rfl⟩) fun _ _ _ _ _ z => z
end NL
open PySem PySem.W PyProof.Rows
set_option maxRecDepth 100000 in
set_option maxHeartbeats 0 in
theorem PySem.Challenge.cw_nearlines_k11_depths_told_holds : PySem.Challenge.rw_nearlines_k11_depths_told.Holds := by
  w_on; o_law; k_head; (case hw => w_witness2)
  k_fill
  refine NL.walk (l := PySem.Challenge.rw_nearlines_k11_depths_told) rfl rfl (fun w h Y => PySem.W.kIn_of Y) ?F
  case F =>
    intro w mg fa h KX G hmg
    refine' NL.all_mk KX G hmg ?a_depths ?l_depths ?c_depths ?k_depths ?a_missed_by ?l_missed_by ?c_missed_by ?k_missed_by ?a__law_cell_at ?l__law_cell_at ?c__law_cell_at ?k__law_cell_at ?a__law_whole ?l__law_whole ?c__law_whole ?k__law_whole ?a__law_mixed ?l__law_mixed ?c__law_mixed ?k__law_mixed ?a__law_touches_by ?l__law_touches_by ?c__law_touches_by ?k__law_touches_by ?a__law_depth ?l__law_depth ?c__law_depth ?k__law_depth ?a_law ?l_law ?c_law ?k_law ?z_len ?z_isinstance ?z_int ?z_bool ?z_list ?z_range
    (case a_depths => k_is)
    (case l_depths => k_is)
    (case c_depths => k_is)
    (case k_depths => k_is)
    (case a_missed_by => k_is)
    (case l_missed_by => k_is)
    (case c_missed_by => k_is)
    (case k_missed_by => k_is)
    (case a__law_cell_at => k_is)
    (case l__law_cell_at => k_is)
    (case c__law_cell_at => k_is)
    (case k__law_cell_at => k_is)
    (case a__law_whole => k_is)
    (case l__law_whole => k_is)
    (case c__law_whole => k_is)
    (case k__law_whole => k_is)
    (case a__law_mixed => k_is)
    (case l__law_mixed => k_is)
    (case c__law_mixed => k_is)
    (case k__law_mixed => k_is)
    (case a__law_touches_by => k_is)
    (case l__law_touches_by => k_is)
    (case c__law_touches_by => k_is)
    (case k__law_touches_by => k_is)
    (case a__law_depth => k_is)
    (case l__law_depth => k_is)
    (case c__law_depth => k_is)
    (case k__law_depth => k_is)
    (case a_law => k_is)
    (case l_law => k_is)
    (case c_law => k_is)
    (case k_law => k_is)
    (case z_len => k_is)
    (case z_isinstance => k_is)
    (case z_int => k_is)
    (case z_bool => k_is)
    (case z_list => k_is)
    (case z_range => k_is)
#print axioms PySem.Challenge.cw_nearlines_k11_depths_told_holds
