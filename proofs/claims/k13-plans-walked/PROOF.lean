import PyProof.Rows.All
import Wide.All
import OpenK.AllK
import Wide.FinOn
import HandS.ForMost
import HandS.IsInst
import HandS.Deep
import HandS.LawCells
import HandS.ForExc
import HandS.ExcIs
import HandS.HotCalls
import HandS.SetFor
import HandS.More
import PySem.Challenge.RW_nearlines_k13_plans_walked
set_option Elab.async false
set_option linter.all false
set_option maxRecDepth 100000
set_option maxHeartbeats 4000000
namespace L2
open PySem PySem.Spec PyProof.Rows
/-! ## common to all laws: a def of the text with its place, its promise, its call -/
/-- the def at f is the one that stands in the text at st, its parameters are ps -/
structure FnAt (K : PySem.W.Frag) (x qual : Str) (st : Stmt) (f : Addr) (fd : FuncData) (ps : List Str) : Prop where
  fn : Fun K x qual st f fd
  bd : Binds K fd ps []
/-- the def at f keeps the promise sp -/
structure Ok (P : Program) (w : World) (K : PySem.W.Frag) (mg : Str → Option Value) (base : Heap) (cx : CXT) (k : Nat) (f : Addr) (fd : FuncData) (ps : List Str) (sp : Sp) : Prop where
  ok : FnOk P w K mg base cx k f fd ps sp
  bd : Binds K fd ps []
  kp : PySem.W.keepIn K (.ref f) = true
theorem Ok.imp {P : Program} {w : World} {K : PySem.W.Frag} {mg : Str → Option Value} {base : Heap} {cx : CXT} {k : Nat} {f : Addr} {fd : FuncData} {ps : List Str} {sp sp' : Sp} (o : Ok P w K mg base cx k f fd ps sp)
    (h : ∀ vs H Q E, sp' vs H Q E → sp vs H Q E) : Ok P w K mg base cx k f fd ps sp' := ⟨o.ok.imp h, o.bd, o.kp⟩
section
variable {P : Program} {w : World} {K : PySem.W.Frag} {mg : Str → Option Value} {base : Heap} {x qual : Str} {st : Stmt} {f : Addr} {fd : FuncData} {ps N : List Str} {k : Nat} {sp : Sp}
theorem FnAt.ok (F : FnAt K x qual st f fd ps) (S : FnScope N ps (defScope st)) (len : ∀ vs H Q E, sp vs H Q E → vs.length = ps.length)
    (body : ∀ (cdv : Value) (A : Around) (outer : List Env) (s : Shared) (H : Hp) (vs : List V) (Q : VK) (E : XK), Room k (A.deeper (envOfC qual (defScope st) s.heap.objs.size f cdv)) → sp vs H Q E →
      ∃ t, PSs (cxOf CX0 P w K mg base N qual (defScope st) f cdv A outer s H E).nox (defBody st) t ∧ t { nx := fun _ H' => Q .non H', rt := Q } (start N vs) H) : Ok P w K mg base CX0 (k + 1) f fd ps sp := ⟨F.fn.ok S len body, F.bd, F.fn.kp⟩
theorem FnAt.okX (F : FnAt K x qual st f fd ps) (S : FnScope N ps (defScope st)) (len : ∀ vs H Q E, sp vs H Q E → vs.length = ps.length)
    (body : ∀ (cdv : Value) (A : Around) (outer : List Env) (s : Shared) (H : Hp) (vs : List V) (Q : VK) (E : XK), Room k (A.deeper (envOfC qual (defScope st) s.heap.objs.size f cdv)) → sp vs H Q E →
      ∃ t, PSs (cxOf (L2.CX P w) P w K mg base N qual (defScope st) f cdv A outer s H E) (defBody st) t ∧ t { nx := fun _ H' => Q .non H', rt := Q } (start N vs) H) : Ok P w K mg base (L2.CX P w) (k + 1) f fd ps sp := ⟨F.fn.okX S len body, F.bd, F.fn.kp⟩
end
section
variable {X : Cx} {cx : CXT} {k : Nat} {f : Addr} {fd : FuncData} {ps : List Str} {sp : Sp} {E : XK} {x m : Str} {p pos apos : Pos} {e o : Expr} {es : List Expr} {ta : TE} {t : TA}
/-- f(..) -/
def tCallO (sp : Sp) (E : XK) (t : TA) : TE := fun σ H Q => t σ H fun vs H1 => sp vs H1 Q E
theorem tCallO_eq {sp : Sp} {E : XK} {t : TA} : tCall sp [] E t = tCallO sp E t := by
  funext σ H Q
  show t σ H (fun vs H1 => sp (vs ++ []) H1 Q E) = t σ H fun vs H1 => sp vs H1 Q E
  simp only [List.append_nil]
theorem pe_callO (O : Ok X.prog X.w X.K X.mg X.base cx k f fd ps sp) (hr : Room k X.A) (hg : Gl X x) (hm : X.mg x = some (.ref f)) (hx : Passes cx X E) (ha : PA X (e :: es) t)
    (hdb : (x == ("__debug__" : Str)) = false := by decide) (he : starEach (e :: es) X.env = (false, eval e X.env) :: starEach es X.env := by rfl) (hpl : (backTo pos (starEach es X.env)).any (·.1) = false := by rfl) :
    PE X (.Call (.Name x p) (e :: es) [] pos) (tCallO sp E t) := by
  obtain ⟨F, B, kp⟩ := O
  rw [← tCallO_eq]
  exact pe_call F hr hg hm kp B .nil hx ha hdb he hpl
/-- o.m(..) -/
def tMethO (C : Addr) (m : Str) (sp : Sp) (E : XK) (ta : TE) (t : TA) : TE := fun σ H Q => ta σ H fun x H1 => ∃ a dx fs, x = .ref a ∧ H1 a = some (.ins C dx fs) ∧ fs.lookup m = none ∧ t σ H1 fun vs H2 => sp (x :: vs) H2 Q E
theorem tMethO_eq {C : Addr} {m : Str} {sp : Sp} {E : XK} {ta : TE} {t : TA} : tMeth C m sp [] E ta t = tMethO C m sp E ta t := by
  funext σ H Q
  unfold tMeth tMethO
  simp only [List.append_nil]
theorem pe_methO {C : Addr} {pl : Sem Bool} (O : Ok X.prog X.w X.K X.mg X.base cx k f fd ps sp) (c : Cls X.K C) (hm : Meth X.K C m f) (hr : Room k X.A) (hx : Passes cx X E) (he : PE X o ta) (ha : PA X (e :: es) t)
    (hst : starEach (e :: es) X.env = (false, eval e X.env) :: starEach es X.env := by rfl) (hpl : (backTo pos (starEach es X.env)).any (·.1) = false := by rfl)
    (ht : eval (.Call (.Attribute o m apos) (e :: es) [] pos) X.env = (do
      let ov ← eval o X.env
      standAt apos.atName
      let (f, first) ← holding [ov] (getMethod ov m pl)
      callWith pos f first (backTo pos (starEach (e :: es) X.env)) (backToKw pos (keywordEach [] X.env))) := by rfl) :
    PE X (.Call (.Attribute o m apos) (e :: es) [] pos) (tMethO C m sp E ta t) := by
  obtain ⟨F, B, kp⟩ := O
  rw [← tMethO_eq]
  exact pe_meth he c hm F hr B .nil hx ha hst hpl ht
theorem pe_methO0 {C : Addr} {pl : Sem Bool} (O : Ok X.prog X.w X.K X.mg X.base cx k f fd ps sp) (c : Cls X.K C) (hm : Meth X.K C m f) (hr : Room k X.A) (hx : Passes cx X E) (he : PE X o ta)
    (ht : eval (.Call (.Attribute o m apos) [] [] pos) X.env = (do
      let ov ← eval o X.env
      standAt apos.atName
      let (f, first) ← holding [ov] (getMethod ov m pl)
      callWith pos f first (backTo pos (starEach [] X.env)) (backToKw pos (keywordEach [] X.env))) := by rfl) :
    PE X (.Call (.Attribute o m apos) [] [] pos) (tMethO C m sp E ta tNil) := by
  obtain ⟨F, B, kp⟩ := O
  rw [← tMethO_eq]
  exact pe_meth0 he c hm F hr B .nil hx ht
end
/-! ### tests, heaps -/
theorem iteD {c A B : Prop} [Decidable c] (h1 : c → A) (h2 : ¬ c → B) : if decide c = true then A else B := by
  by_cases h : c
  · rw [decide_eq_true h]
    exact iteT (h1 h)
  · rw [decide_eq_false h]
    exact iteF (h2 h)
theorem iteN {c A B : Prop} [Decidable c] (h1 : ¬ c → A) (h2 : c → B) : if (!decide c) = true then A else B := by
  by_cases h : c
  · rw [decide_eq_true h]
    exact iteF (h2 h)
  · rw [decide_eq_false h]
    exact iteT (h1 h)
theorem iteB {b : Bool} {A B : Prop} (h1 : b = true → A) (h2 : b = false → B) : if b = true then A else B := by
  cases b with
  | true => exact iteT (h1 rfl)
  | false => exact iteF (h2 rfl)
theorem iteBN {b : Bool} {A B : Prop} (h1 : b = false → A) (h2 : b = true → B) : if (!b) = true then A else B := by
  cases b with
  | true => exact iteF (h2 rfl)
  | false => exact iteT (h1 rfl)
theorem Same.new {H : Hp} {p : Addr} {o : HO} (h : H p = none) : Same H (upd H p o) := fun b x e => by
  rw [upd_ne (ne_of_none e h)]
  exact e
/-- what H does not know may change -/
theorem Same.mut {H H' : Hp} {p : Addr} {o : HO} (s : Same H H') (h : H p = none) : Same H (upd H' p o) := fun b x e => by
  rw [upd_ne (ne_of_none e h)]
  exact s b x e
theorem Same.seqT {K : PySem.W.Frag} {H H' : Hp} {a : Addr} {xs : List V} (e : Same H H') (h : SqT K H a xs) : SqT K H' a xs := by
  rcases h with (h | ⟨o, h⟩) | h
  · exact .inl (.inl (e _ _ h))
  · exact .inl (.inr ⟨o, e _ _ h⟩)
  · exact .inr h
/-- the list at l is not the tuple at a -/
theorem SqT.but {K : PySem.W.Frag} {H : Hp} {a l : Addr} {xs ys : List V} {o : HO} (h : SqT K H a xs) (hl : H l = some (.lst ys)) : SqT K (upd H l o) a xs := by
  rcases h with (h | ⟨u, h⟩) | h
  · exact .inl (.inl (by rw [upd_ne (ne_of h hl (by intro z; cases z))]; exact h))
  · exact .inl (.inr ⟨u, by rw [upd_ne (ne_of h hl (by intro z; cases z))]; exact h⟩)
  · exact .inr h
/-! ### ways joined: a word between a part and what follows -/
section
variable {X : Cx}
def tJoinE (t : TE) : TE := fun σ H Q => ∃ R : VK, t σ H R ∧ ∀ v H1, R v H1 → Q v H1
theorem pe_jn {e : Expr} {t : TE} (h : PE X e t) : PE X e (tJoinE t) := by
  refine ⟨fun pins s σ H Q I hq => ?_⟩
  obtain ⟨R, h1, h2⟩ := hq
  refine thn (h.run pins s σ H R I h1) fun u s1 hh => ?_
  obtain ⟨v, H1, I1, r, q⟩ := hh
  exact ⟨v, H1, I1, r, h2 v H1 q⟩
def tJoinT (t : TT) : TT := fun σ H Q => ∃ R : Bool → Hp → Prop, t σ H R ∧ ∀ b H1, R b H1 → Q b H1
theorem pt_jn {e : Expr} {t : TT} (h : PT X e t) : PT X e (tJoinT t) := by
  refine ⟨fun pins s σ H Q I hq => ?_⟩
  obtain ⟨R, h1, h2⟩ := hq
  refine thn (h.run pins s σ H R I h1) fun b s1 hh => ?_
  obtain ⟨H1, I1, q⟩ := hh
  exact ⟨H1, I1, h2 b H1 q⟩
def tCutS (t u : TS) : TS := fun D σ H => ∃ Mid : St → Hp → Prop, t { D with nx := Mid } σ H ∧ ∀ σ' H', Mid σ' H' → u D σ' H'
theorem pss_cutS {st : Stmt} {rest : List Stmt} {t u : TS} (h1 : PS X st t) (h2 : PSs X rest u) : PSs X (st :: rest) (tCutS t u) := by
  refine ⟨fun pins s σ H D I h => ?_⟩
  obtain ⟨Mid, hm, hu⟩ := h
  refine wpAny_execs_cons (thn (h1.run pins s σ H { D with nx := Mid } I hm) fun f s1 q => ?_)
  cases f with
  | next =>
    obtain ⟨σ1, H1, I1, q1⟩ := q
    exact h2.run pins s1 σ1 H1 D I1 (hu σ1 H1 q1)
  | ret v => exact q
  | brk => exact q
  | cont => exact q
end
/-! ### rules within a comprehension: the written part named -/
section
variable {X : Cx} {K : PySem.W.Frag}
theorem ix_tupK (h : X.K = K) : IxR X (rIxT K) := by subst h; exact ix_tup
theorem ix_listK (h : X.K = K) : IxR X (rIxL K) := by subst h; exact ix_list
theorem ix_seqK (h : X.K = K) : IxR X (rIx K) := by subst h; exact ix_seq
theorem op_in_seqK (h : X.K = K) : OpR X (compareOp .In) (rIn K false) := by subst h; exact op_in_seq
theorem op_notIn_seqK (h : X.K = K) : OpR X (compareOp .NotIn) (rIn K true) := by subst h; exact op_notIn_seq
def rLenQ (K : PySem.W.Frag) : List V → Hp → VK → Prop := fun xs H Q => ∃ p ys, xs = [.ref p] ∧ (SqL K H p ys ∨ SqT K H p ys) ∧ Q (.int ys.length) H
theorem call_len_seqK (h : X.K = K) : CallR X (.builtin "len") (rLenQ K) := by subst h; exact call_len_seq
theorem call_isiK' (h : X.K = K) : CallR X (.builtin "isinstance") (rIsi K) := by subst h; exact call_isi
end
theorem SqL.but {K : PySem.W.Frag} {H : Hp} {a l : Addr} {xs ys : List V} {o : HO} (h : SqL K H a xs) (hl : H l = some (.lst ys)) (n : a ≠ l) : SqL K (upd H l o) a xs := by
  rcases h with (h | ⟨u, h⟩) | h
  · exact .inl (.inl (by rw [upd_ne n]; exact h))
  · exact .inl (.inr ⟨u, by rw [upd_ne n]; exact h⟩)
  · exact .inr h
end L2
namespace L2
open PySem PySem.Spec PyProof.Rows
/-! ### lists of ints, of ints and None, by values -/
def optV : Option Int → V
  | none => .non
  | some i => .int i
theorem optV_flat (o : Option Int) : flatV (optV o) = true := by cases o <;> rfl
theorem flat_ints (xs : List Int) : (xs.map V.int).all flatV = true := by
  induction xs with
  | nil => rfl
  | cons x r ih => exact ih
theorem flat_opts (xs : List (Option Int)) : (xs.map optV).all flatV = true := by
  induction xs with
  | nil => rfl
  | cons x r ih =>
    show (flatV (optV x) && (r.map optV).all flatV) = true
    rw [ih, optV_flat]
    rfl
theorem inV_ints (x : Int) (xs : List Int) : inV (.int x) (xs.map V.int) = decide (x ∈ xs) := by
  induction xs with
  | nil => rfl
  | cons y r ih =>
    show (y == x || inV (.int x) (r.map V.int)) = decide (x ∈ y :: r)
    rw [ih]
    by_cases h : y = x
    · subst h
      simp
    · have h' : ¬ x = y := fun z => h z.symm
      simp [h, h']
theorem inV_non_ints (xs : List Int) : inV .non (xs.map V.int) = false := by
  induction xs with
  | nil => rfl
  | cons y r ih =>
    show (false || inV .non (r.map V.int)) = false
    rw [ih]
    rfl
theorem nl_get_map {α : Type} {f : α → V} {xs : List α} {i : Nat} {x : α} (h : xs[i]? = some x) : (xs.map f)[i]? = some (f x) := by
  rw [List.getElem?_map, h]
  rfl
theorem of_get_map {α : Type} {f : α → V} {xs : List α} {i : Nat} {v : V} (h : (xs.map f)[i]? = some v) : ∃ x, xs[i]? = some x ∧ v = f x := by
  rw [List.getElem?_map] at h
  cases e : xs[i]? with
  | none =>
    rw [e] at h
    cases h
  | some x =>
    rw [e] at h
    exact ⟨x, rfl, (Option.some.inj h).symm⟩
theorem idx_get {x : Int} {xs : List Int} (h : x ∈ xs) : xs[xs.idxOf x]? = some x := by
  have hl : xs.idxOf x < xs.length := List.idxOf_lt_length_of_mem h
  rw [List.getElem?_eq_getElem hl, List.getElem_idxOf hl]
theorem idx_first {x y : Int} : ∀ {xs : List Int} {m : Nat}, m < xs.idxOf x → xs[m]? = some y → (y == x) = false
  | [], m, h, _ => by simp at h
  | z :: r, m, h, hm => by
    rw [List.idxOf_cons] at h
    by_cases e : z = x
    · subst e
      simp at h
    · have e' : (z == x) = false := by simpa using e
      rw [e'] at h
      cases m with
      | zero =>
        have q : z = y := Option.some.inj hm
        rw [← q]
        exact e'
      | succ m => exact idx_first (xs := r) (m := m) (by simp only [cond_false] at h; omega) hm
theorem eqV_int (x : Int) : eqV (.int x) (.int x) = true := by
  show (x == x) = true
  simp
theorem idx_none {x : Int} {xs : List Int} (m : Nat) (z : V) (hm : m < xs.idxOf x) (hz : (xs.map V.int)[m]? = some z) : eqV z (.int x) = false := by
  obtain ⟨y, hy, rfl⟩ := of_get_map hz
  exact idx_first hm hy
theorem ix_nat {n j : Nat} (hj : j < n) : ixN n (j : Int) = some j := by
  unfold ixN
  rw [if_pos (by omega), if_pos (by omega)]
  simp
theorem pop_seq {j n : Nat} (h : j < n) : seqIndex? (j : Int) n = some j := (ixN_seq (ix_nat h)).1
theorem erase_map {α : Type} {f : α → V} : ∀ (xs : List α) (j : Nat), (xs.map f).eraseIdx j = (xs.eraseIdx j).map f
  | [], j => by cases j <;> rfl
  | x :: r, 0 => rfl
  | x :: r, j + 1 => congrArg (f x :: ·) (erase_map r j)
theorem snoc_map {α : Type} (f : α → V) (xs : List α) (x : α) : xs.map f ++ [f x] = (xs ++ [x]).map f := by
  rw [List.map_append]
  rfl
theorem fold_take {α β : Type} (f : β → α → β) (s : β) {xs : List α} {i : Nat} {x : α} (h : xs[i]? = some x) : (xs.take (i + 1)).foldl f s = f ((xs.take i).foldl f s) x := by
  rw [List.take_add_one, h, List.foldl_append]
  rfl
theorem fold_all {α β : Type} (f : β → α → β) (s : β) {xs : List α} : (xs.take xs.length).foldl f s = xs.foldl f s := by rw [List.take_length]
theorem sizeL {n : Nat} (h : n < 1000000) : n < sizeLine := Nat.lt_of_lt_of_le h (by decide)
/-! ### touches -/
def kindS (b : Bool) : Str := if b then "write" else "read"
/-- a touch: whether it writes, its box -/
abbrev Tch := Bool × Int
def TouchAt (K : PySem.W.Frag) (H : Hp) (v : V) (t : Tch) : Prop := ∃ a, v = .ref a ∧ SqT K H a [.str (kindS t.1), .int t.2]
/-- at a a list of the touches ts -/
structure TL (K : PySem.W.Frag) (H : Hp) (xs : List V) (ts : List Tch) : Prop where
  len : xs.length = ts.length
  at_ : ∀ (i : Nat) (t : Tch), ts[i]? = some t → ∃ v, xs[i]? = some v ∧ TouchAt K H v t
theorem TouchAt.same {K : PySem.W.Frag} {H H' : Hp} {v : V} {t : Tch} (h : TouchAt K H v t) (s : Same H H') : TouchAt K H' v t := by
  obtain ⟨a, e, q⟩ := h
  exact ⟨a, e, s.seqT q⟩
theorem TL.same {K : PySem.W.Frag} {H H' : Hp} {xs : List V} {ts : List Tch} (h : TL K H xs ts) (s : Same H H') : TL K H' xs ts :=
  ⟨h.len, fun i t e => let ⟨v, e1, q⟩ := h.at_ i t e; ⟨v, e1, q.same s⟩⟩
theorem TouchAt.but {K : PySem.W.Frag} {H : Hp} {v : V} {t : Tch} {l : Addr} {ys : List V} {o : HO} (h : TouchAt K H v t) (hl : H l = some (.lst ys)) : TouchAt K (upd H l o) v t := by
  obtain ⟨a, e, q⟩ := h
  exact ⟨a, e, q.but hl⟩
theorem TL.but {K : PySem.W.Frag} {H : Hp} {xs : List V} {ts : List Tch} {l : Addr} {ys : List V} {o : HO} (h : TL K H xs ts) (hl : H l = some (.lst ys)) : TL K (upd H l o) xs ts :=
  ⟨h.len, fun i t e => let ⟨v, e1, q⟩ := h.at_ i t e; ⟨v, e1, q.but hl⟩⟩
theorem TL.nil {K : PySem.W.Frag} {H : Hp} : TL K H [] [] := ⟨rfl, fun i t e => by simp at e⟩
theorem TL.snoc {K : PySem.W.Frag} {H : Hp} {xs : List V} {ts : List Tch} {v : V} {t : Tch} (h : TL K H xs ts) (q : TouchAt K H v t) : TL K H (xs ++ [v]) (ts ++ [t]) := by
  refine ⟨by rw [List.length_append, List.length_append, h.len]; rfl, fun i u e => ?_⟩
  by_cases hi : i < ts.length
  · rw [List.getElem?_append_left hi] at e
    obtain ⟨x, e1, q1⟩ := h.at_ i u e
    exact ⟨x, by rw [List.getElem?_append_left (by rw [h.len]; exact hi)]; exact e1, q1⟩
  · have hlt := (List.getElem?_eq_some_iff.mp e).1
    rw [List.length_append] at hlt
    have hi2 : i = ts.length := by
      simp only [List.length_cons, List.length_nil] at hlt
      omega
    subst hi2
    rw [List.getElem?_append_right (Nat.le_refl _), Nat.sub_self] at e
    have et : t = u := Option.some.inj e
    subst et
    refine ⟨v, ?_, q⟩
    rw [← h.len, List.getElem?_append_right (Nat.le_refl _), Nat.sub_self]
    rfl
theorem TL.of {K : PySem.W.Frag} {H : Hp} {xs : List V} {ts : List Tch} (h : TL K H xs ts) {i : Nat} {v : V} (hv : xs[i]? = some v) : ∃ t, ts[i]? = some t ∧ TouchAt K H v t := by
  have hlt := (List.getElem?_eq_some_iff.mp hv).1
  rw [h.len] at hlt
  obtain ⟨v', e1, q⟩ := h.at_ i ts[i] (List.getElem?_eq_getElem hlt)
  rw [hv] at e1
  have ev : v = v' := Option.some.inj e1
  exact ⟨ts[i], List.getElem?_eq_getElem hlt, by rw [ev]; exact q⟩
theorem at_getD {xs : List Int} {i : Int} (h0 : 0 ≤ i) (h1 : i < xs.length) : atI (xs.map V.int) i = some (.int (xs.getD i.toNat 0)) := by
  obtain ⟨j, rfl⟩ : ∃ j : Nat, i = (j : Int) := ⟨i.toNat, by omega⟩
  have hj : j < xs.length := by omega
  refine atI_nat ?_
  rw [List.getElem?_map, Int.toNat_natCast, List.getD_eq_getElem?_getD, List.getElem?_eq_getElem hj]
  rfl
theorem mod_at {xs : List Int} (c : Int) (n : Nat) (hn : n = xs.length) (h0 : 0 < n) : atI (xs.map V.int) (c % (n : Int)) = some (.int (xs.getD (c % (n : Int)).toNat 0)) :=
  at_getD (Int.emod_nonneg _ (by omega)) (by have := Int.emod_lt_of_pos c (show 0 < (n : Int) by omega); omega)
theorem kind_at (c : Int) : atI [V.str "read", V.str "write"] (c % 2) = some (V.str (kindS (c % 2 == 1))) := by
  have h : c % 2 = 0 ∨ c % 2 = 1 := by omega
  rcases h with h | h <;> rw [h] <;> rfl
theorem int_getD {lines : List Int} {k : Nat} (h : k < lines.length) : (lines.map V.int)[k]? = some (.int (lines.getD k 0)) := by
  rw [List.getElem?_map, List.getD_eq_getElem?_getD, List.getElem?_eq_getElem h]
  rfl
theorem mod2 (c : Int) : c % 2 = 0 ∨ c % 2 = 1 := by omega
theorem mod4 (c : Int) : c % 4 = 0 ∨ c % 4 = 1 ∨ c % 4 = 2 ∨ c % 4 = 3 := by omega
end L2
namespace L2
open PySem PySem.Spec PyProof.Rows
/-! ### data at any depth, for == -/
def Sh (n : Nat) (d : PyData) : Prop := PyData.canLay0 d = true ∧ PyData.depth d ≤ n
theorem Sh.shaped {n : Nat} {d : PyData} (h : Sh n d) (hn : n ≤ 64) : SeqAt.shaped d = true := by
  unfold SeqAt.shaped
  rw [h.1, decide_eq_true (Nat.le_trans h.2 hn)]
  rfl
theorem sh_all {n : Nat} : ∀ {ds : List PyData}, (∀ d ∈ ds, Sh n d) → PyData.canLayAll0 ds = true ∧ PyData.depthAll ds ≤ n
  | [], _ => ⟨rfl, Nat.zero_le _⟩
  | d :: r, h => by
    obtain ⟨h1, h2⟩ := h d List.mem_cons_self
    obtain ⟨h3, h4⟩ := sh_all (ds := r) fun e he => h e (List.mem_cons_of_mem _ he)
    refine ⟨?_, ?_⟩
    · show (PyData.canLay0 d && PyData.canLayAll0 r) = true
      rw [h1, h3]
      rfl
    · show max (PyData.depth d) (PyData.depthAll r) ≤ n
      omega
theorem sh_list {n : Nat} {ds : List PyData} (h : ∀ d ∈ ds, Sh n d) : Sh (n + 1) (.list ds) := ⟨(sh_all h).1, Nat.succ_le_succ (sh_all h).2⟩
theorem sh_tup {n : Nat} {ds : List PyData} (h : ∀ d ∈ ds, Sh n d) : Sh (n + 1) (.tuple ds) := ⟨(sh_all h).1, Nat.succ_le_succ (sh_all h).2⟩
theorem sh_int {n : Nat} (i : Int) : Sh n (.int i) := ⟨rfl, Nat.zero_le _⟩
theorem sh_non {n : Nat} : Sh n .none := ⟨rfl, Nat.zero_le _⟩
theorem sh_bool {n : Nat} (b : Bool) : Sh n (.bool b) := ⟨rfl, Nat.zero_le _⟩
theorem sh_str {n : Nat} {x : Str} (h : PyData.strOk x = true) : Sh n (.str x) := ⟨h, Nat.zero_le _⟩
theorem dpAll_of {K : PySem.W.Frag} {H : Hp} : ∀ {xs : List V} {ds : List PyData}, xs.length = ds.length → (∀ (i : Nat) v d, xs[i]? = some v → ds[i]? = some d → Dp K H v d) → DpAll K H xs ds
  | [], [], _, _ => .nil
  | [], _ :: _, h, _ => by simp at h
  | _ :: _, [], h, _ => by simp at h
  | x :: r, d :: s, h, q => .cons (q 0 x d rfl rfl) (dpAll_of (by simpa using h) fun i v e h1 h2 => q (i + 1) v e h1 h2)
theorem eqv_self {n : Nat} {d : PyData} (h : Sh n d) : PyData.eqv d d = true := SeqAt.eqv_refl d h.1
/-! ### touches as data -/
def touchD (t : Tch) : PyData := .tuple [.str (kindS t.1), .int t.2]
theorem touch_sh (t : Tch) : Sh 1 (touchD t) := sh_tup fun d hd => by
  simp only [List.mem_cons, List.not_mem_nil, or_false] at hd
  rcases hd with rfl | rfl
  · have q : ∀ b, PyData.strOk (kindS b) = true := by
      intro b
      cases b <;> decide +kernel
    exact sh_str (q _)
  · exact sh_int _
theorem touches_sh (ts : List Tch) : Sh 2 (.list (ts.map touchD)) := sh_list fun d hd => by
  obtain ⟨t, _, rfl⟩ := List.mem_map.mp hd
  exact touch_sh t
theorem TouchAt.dp {K : PySem.W.Frag} {H : Hp} {v : V} {t : Tch} (h : TouchAt K H v t) : Dp K H v (touchD t) := by
  obtain ⟨a, rfl, q⟩ := h
  exact .tup q (.cons (.str _) (.cons (.int _) .nil))
theorem TL.dp {K : PySem.W.Frag} {H : Hp} {a : Addr} {xs : List V} {ts : List Tch} (h : TL K H xs ts) (q : SqL K H a xs) : Dp K H (.ref a) (.list (ts.map touchD)) := by
  refine .lst q (dpAll_of (by rw [h.len, List.length_map]) fun i v d hv hd => ?_)
  obtain ⟨t, ht, qt⟩ := h.of hv
  rw [List.getElem?_map, ht] at hd
  have e : touchD t = d := Option.some.inj hd
  rw [← e]
  exact qt.dp
theorem cut_one (xs : List V) : cutV xs (some 1) none = xs.drop 1 := by
  unfold cutV
  rw [show HT.sIx xs.length 0 (some 1) = min 1 xs.length from HT.sIx_nat xs.length 0 1, HT.sIx_none]
  cases xs with
  | nil => rfl
  | cons x r =>
    rw [show min 1 (x :: r).length = 1 by
      rw [List.length_cons]
      omega]
    show (List.take ((x :: r).length - 1) r) = r
    rw [List.length_cons, Nat.add_sub_cancel]
    exact List.take_length
theorem cut_from (xs : List V) (k : Nat) : cutV xs (some (k : Int)) none = xs.drop k := by
  unfold cutV
  rw [show HT.sIx xs.length 0 (some (k : Int)) = min k xs.length from HT.sIx_nat xs.length 0 k, HT.sIx_none]
  by_cases h : k ≤ xs.length
  · rw [Nat.min_eq_left h]
    exact List.take_of_length_le (by rw [List.length_drop]; exact Nat.le_refl _)
  · rw [Nat.min_eq_right (by omega), Nat.sub_self, List.drop_eq_nil_of_le (Nat.le_refl _), List.drop_eq_nil_of_le (show xs.length ≤ k by omega)]
    rfl
end L2
namespace L2
open PySem PySem.Spec PyProof.Rows
/-! ### own classes of errors -/
/-- the class x of errors stands at C -/
structure ExcAt (K : PySem.W.Frag) (mg : Str → Option Value) (x : Str) (C : Addr) : Prop where
  g : mg x = some (.ref C)
  x : PySem.W.excIn K C [.type "ValueError", .type "Exception", .type "BaseException", .type "object"] "ValueError.__new__" = true
  k : PySem.W.keepIn K (.ref C) = true
  b : PySem.W.subIn K (.ref C) (.type "BaseException") = some true
  t : PySem.W.typeIn K (.ref C) = some (.type "type")
  i : PySem.W.isClsIn K C = true
  s : PySem.W.subIn K (.ref C) (.ref C) = some true
/-- what one class is to another: an instance of D asked for C -/
theorem kit_own {K : PySem.W.Frag} {D C : Addr} {v : Bool} (hi : PySem.W.isClsIn K C = true) (ht : PySem.W.typeIn K (.ref C) = some (.type "type")) (hs : PySem.W.subIn K (.ref C) (.ref C) = some true) (h : PySem.W.subIn K (.ref D) (.ref C) = some v) :
    PySem.W.kitOne K (.ref D) (.ref C) = some v := by
  by_cases e : D = C
  · subst e
    have ev : v = true := Option.some.inj (h.symm.trans hs)
    subst ev
    show (if (Value.ref D == Value.ref D) = true then some true else _) = _
    rw [if_pos (beq_self_eq_true _)]
  · have n : ¬ (Value.ref D == Value.ref C) = true := fun z => e (Value.ref.inj (beq_iff_eq.mp z))
    show (if (Value.ref D == Value.ref C) = true then some true else PySem.W.kitCls K (.ref D) (.ref C)) = _
    rw [if_neg n]
    show (if ((PySem.W.clsIn K C).isSome && PySem.W.typeIn K (.ref C) == some (.type "type")) = true then PySem.W.subIn K (.ref D) (.ref C) else none) = _
    have hi' : (PySem.W.clsIn K C).isSome = true := hi
    rw [hi', ht, if_pos (by simp)]
    exact h
theorem kit_val {K : PySem.W.Frag} {D : Addr} {v : Bool} (h : PySem.W.subIn K (.ref D) (.type "ValueError") = some v) : PySem.W.kitOne K (.ref D) (.type "ValueError") = some v := by
  have n : ¬ (Value.ref D == Value.type "ValueError") = true := fun z => nomatch (beq_iff_eq.mp z)
  show (if (Value.ref D == Value.type "ValueError") = true then some true else PySem.W.kitCls K (.ref D) (.type "ValueError")) = _
  rw [if_neg n]
  show (if PySem.W.kitMeta "ValueError" = true then PySem.W.subIn K (.ref D) (.type "ValueError") else none) = _
  rw [if_pos (by decide +kernel)]
  exact h
/-- an except clause of the own class C -/
theorem exm_own {K : PySem.W.Frag} {C : Addr} {cls : Value} {v : Bool} (hb : PySem.W.subIn K (.ref C) (.type "BaseException") = some true) (hi : PySem.W.isClsIn K C = true) (ht : PySem.W.typeIn K (.ref C) = some (.type "type")) (h : PySem.W.subIn K cls (.ref C) = some v) :
    PySem.W.exmOne K cls (.ref C) = some v := by
  have e1 : (PySem.W.subIn K (.ref C) (.type "BaseException") == some true) = true := by rw [hb] <;> rfl
  have e2 : ((PySem.W.clsIn K C).isSome && PySem.W.typeIn K (.ref C) == some (.type "type")) = true := by
    have hi' : (PySem.W.clsIn K C).isSome = true := hi
    rw [hi', ht] <;> rfl
  show (if (PySem.W.subIn K (.ref C) (.type "BaseException") == some true) = true then (if ((PySem.W.clsIn K C).isSome && PySem.W.typeIn K (.ref C) == some (.type "type")) = true then PySem.W.subIn K cls (.ref C) else none) else none) = some v
  rw [if_pos e1, if_pos e2]
  exact h
theorem ExcAt.te {K : PySem.W.Frag} {mg : Str → Option Value} {x : Str} {C : Addr} (e : ExcAt K mg x C) : PySem.W.exmOne K (.ref C) (.ref C) = some true := exm_own e.b e.i e.t e.s
theorem ExcAt.self {K : PySem.W.Frag} {mg : Str → Option Value} {x : Str} {C : Addr} (e : ExcAt K mg x C) {D : Addr} {v : Bool} (h : PySem.W.subIn K (.ref D) (.ref C) = some v) : PySem.W.kitOne K (.ref D) (.ref C) = some v := kit_own e.i e.t e.s h

/-! ### a def that is handed the error that is being handled: p, its place and what stands there -/
/-- what such a def promises -/
structure OkP (P : Program) (w : World) (K : PySem.W.Frag) (mg : Str → Option Value) (base : Heap) (k : Nat) (f : Addr) (fd : FuncData) (ps : List Str) (sp : Addr → Addr → Sp) : Prop where
  len : ∀ a D vs H Q E, sp a D vs H Q E → vs.length = ps.length
  kp : PySem.W.keepIn K (.ref f) = true
  bd : Binds K fd ps []
  run : ∀ (A : Around) (outer : List Env) (s : Shared) (H : Hp) (args : Args) (us : List Value) (vs : List V) (Q : VK) (E : XK) (p : Addr × Obj) (D : Addr), L2H.RoomH k A → L2H.PinOk outer H s p → Zc (.ref D) none p.2 → (∃ vs, p.2.data = .fields vs) → Env0 P w K mg base A outer s H → BindsTo s fd args (ps.zip us) → Vals vs us →
    sp p.1 D vs H Q E → codeAny (model P w) A (.call (.ref f) args) (CR CX0 outer P w H s Q E) s
section
variable {P : Program} {w : World} {K : PySem.W.Frag} {mg : Str → Option Value} {base : Heap} {x qual : Str} {st : Stmt} {f : Addr} {fd : FuncData} {ps N : List Str} {k : Nat} {sp : Addr → Addr → Sp}
theorem FnAt.okP (F : FnAt K x qual st f fd ps) (S : FnScope N ps (defScope st)) (len : ∀ a D vs H Q E, sp a D vs H Q E → vs.length = ps.length)
    (body : ∀ (cdv : Value) (A : Around) (outer : List Env) (s : Shared) (H : Hp) (vs : List V) (Q : VK) (E : XK) (p : Addr × Obj) (D : Addr), L2H.RoomH k (A.deeper (envOfC qual (defScope st) s.heap.objs.size f cdv)) → Zc (.ref D) none p.2 → (∃ vs, p.2.data = .fields vs) → sp p.1 D vs H Q E →
      ∃ t, PSs (L2H.cxH CX0 P w K mg base N qual (defScope st) f cdv A outer s H E p) (defBody st) t ∧ t { nx := fun _ H' => Q .non H', rt := Q } (start N vs) H) : OkP P w K mg base (k + 1) f fd ps sp := by
  obtain ⟨G, B⟩ := F
  refine ⟨len, G.kp, B, fun A outer s H args us vs Q E p D room pin hz hf e0 bt rv hsp => ?_⟩
  obtain ⟨oc, od, kV, doc, pm, an, cdv, ct, osl, rfl, found, code⟩ := G.ex
  have inK : K.In s.heap := e0.mod.kin.keeps fun b o e => (e0.bs b o e).1
  have lim : s.heap.NoLimit := e0.mod.nolimit.keeps fun b o e => (e0.bs b o e).1
  have kinds : ∀ y ∈ ps.zip us, (defScope st).names.lookup y.1 = some .local ∨ ((defScope st).names.lookup y.1 = some .cell ∧ ((cellsFrom (s.heap.objs.size + 1) (defScope st).names []).lookup y.1).isSome = true) := by
    rintro ⟨n, v⟩ hy
    rcases S.par n (List.of_mem_zip hy).1 with z | z
    · exact Or.inl z
    · exact Or.inr ⟨z, PySem.W.cellsFrom_some _ _ _ (Or.inl z)⟩
  refine codeAny_call_function room.depth (inK _ _ found) rfl S.co S.gen rfl (PySem.W.codeRec_of inK code) (bt _ _ _ _ ?_)
  refine wpAny_newFunctionEnv_cells S.kind kinds fun env henv s1 made => ?_
  subst henv
  refine ⟨lim.keeps made.toInCall.keep, codeAny_func ?_⟩
  obtain ⟨t, derived, reading⟩ := body cdv A outer s H vs Q E p D (room.deeper _) hz hf hsp
  have I : Inv (L2H.cxH CX0 P w K mg base N qual (defScope st) f cdv A outer s H E p) [] (start N vs) H s1 := L2H.inv_startH S pin e0 (len _ _ _ _ _ _ hsp) rv made
  refine wpAny_mono (derived.run [] s1 (start N vs) H _ I reading) (fun fl s2 hs => ?_) fun e s2 hs => hs
  cases fl with
  | ret u =>
    obtain ⟨v, σ2, H2, J, r2, q2⟩ := hs
    exact ⟨v, H2, J.os, J.bare, J.base, J.hok, r2, q2⟩
  | next =>
    obtain ⟨σ2, H2, J, q2⟩ := hs
    exact ⟨V.non, H2, J.os, J.bare, J.base, J.hok, rfl, q2⟩
  | brk =>
    obtain ⟨_, _, _, q2⟩ := hs
    exact q2.elim
  | cont =>
    obtain ⟨_, _, _, q2⟩ := hs
    exact q2.elim
end
section
variable {X : Cx} {k : Nat} {f : Addr} {fd : FuncData} {ps : List Str} {sp : Addr → Addr → Sp} {x : Str} {q pos : Pos} {e : Expr} {es : List Expr} {t : TA}
/-- f(e, ..) where the error at a, of the class cls, is being handled -/
def tCallP (a : Addr) (cls : Value) (d : Option Addr) (sp : Addr → Addr → Sp) (t : TA) : TE := fun σ H Q => t σ H fun vs H1 => ∃ D, cls = .ref D ∧ d = none ∧ sp a D vs H1 Q E0
theorem pe_callP {a : Addr} {oe : Obj} {cls : Value} {d : Option Addr} (O : OkP X.prog X.w X.K X.mg X.base k f fd ps sp) (hr : L2H.RoomH k X.A) (hp : (a, oe) ∈ X.pn) (hz : Zc cls d oe) (hf : ∃ vs, oe.data = .fields vs) (hg : Gl X x) (hm : X.mg x = some (.ref f)) (ha : PA X (e :: es) t)
    (hdb : (x == ("__debug__" : Str)) = false := by decide) (he : starEach (e :: es) X.env = (false, eval e X.env) :: starEach es X.env := by rfl) (hpl : (backTo pos (starEach es X.env)).any (·.1) = false := by rfl) :
    PE X (.Call (.Name x q) (e :: es) [] pos) (tCallP a cls d sp t) := by
  refine ⟨fun pins s σ H Q I h => ?_⟩
  refine wpAny_Call_Name_kw (ld_glob I hg hm ?_ hdb)
  refine PySem.W.callWith_K (h₀ := X.base) I.ok.mod.kin O.kp (thn (ha.run pos pins s σ H _ I h) fun us s1 ⟨vs, H1, I1, rv, D, ec, ed, hsp⟩ => ⟨I1.kIn, ?_⟩) he hpl
  subst ec ed
  have hl : us.length = ps.length := rv.length.symm.trans (O.len _ _ _ _ _ _ hsp)
  have bt := O.bd s1 us I1.kIn (by rw [List.append_nil]; exact hl)
  rw [List.append_nil] at bt
  have at_ := I1.pin (a, oe) (List.mem_append_left _ hp)
  have pin : L2H.PinOk X.stack H1 s1 (a, oe) := ⟨at_.1, at_.2.1, fun hm => (List.mem_cons.mp (I1.stkSub a hm)).elim at_.2.2.1 at_.2.2.2.1, at_.2.2.2.2⟩
  refine wpAny_call (codeAny_mono (O.run X.A X.stack s1 H1 ⟨us, []⟩ us vs Q E0 (a, oe) D hr pin hz hf I1.env0 bt rv hsp) fun r s2 hq => ?_)
  cases r with
  | error e => exact hq.elim
  | ok fl =>
    cases fl with
    | ret u => exact I1.after hq
    | next => exact hq.elim
    | brk => exact hq.elim
    | cont => exact hq.elim
/-- isinstance(e, c), e the error at a that is pinned -/
theorem call_isP {X : Cx} {a D : Addr} {oe : Obj} (C : ExcC X.K D) (hp : (a, oe) ∈ X.pn) (hz : Zc (.ref D) none oe) (hf : ∃ vs, oe.data = .fields vs) : CallR X (.builtin "isinstance") (rIsE X.K D a) := by
  intro pins s σ H xs us Q I r h
  obtain ⟨c, cv, b, rfl, hcv, hk, q⟩ := h
  obtain ⟨u1, u2, rfl, r1, r2⟩ := vals2 r
  cases (show u1 = Value.ref a from r1)
  have ec := hcv _ r2
  subst ec
  obtain ⟨found, _⟩ := I.pin (a, oe) (List.mem_append_left _ hp)
  obtain ⟨vs, hv⟩ := hf
  have J : PySem.W.InstAt s.heap a oe D none := by
    obtain ⟨oc, od, oda, osl⟩ := oe
    obtain ⟨h1, h2⟩ := hz
    simp only at h1 h2 hv
    subst h1 h2 hv
    exact ⟨found, rfl, rfl, trivial⟩
  exact PySem.W.kia_one (PySem.W.handS_kitx_exc C.hg C.hk C.hs C.hd C.ha C.hn C.ht C.hm) I.kIn J hk (fun z => nomatch z) fun tk => ⟨.bl b, H, I.kept (t' := tk) fun _ _ z => z, rfl, q⟩
/-! ### xs.count(True), xs a list of truth values -/
def eqTrue (v : Value) : Bool := match v with
  | .bool b => b
  | _ => false
def rCntT (K : PySem.W.Frag) : V → List V → Hp → VK → Prop := fun x xs H Q => ∃ (p : Addr) (bs : List Bool), x = .ref p ∧ xs = [.bl true] ∧ SqL K H p (bs.map V.bl) ∧ Q (.int (bs.count true : Nat)) H
theorem eqTrue_count : ∀ {bs : List Bool} {us : List Value}, Vals (bs.map V.bl) us → us.countP eqTrue = bs.count true
  | [], [], _ => rfl
  | b :: r, u :: us, .cons h t => by
    cases (show u = Value.bool b from h)
    rw [List.countP_cons, List.count_cons, eqTrue_count t]
    cases b <;> rfl
theorem mt_countT : MtR X "list.count" (rCntT X.K) := by
  intro pins s σ H x xs v us Q I rx rxs h
  obtain ⟨p, bs, rfl, rfl, hs, q⟩ := h
  cases rx
  obtain ⟨u, rfl, ru⟩ := rxs.one
  cases (show u = Value.bool true from ru)
  obtain ⟨its, rv, ⟨⟨cls, dd, data, sl⟩, n, found, hc, hdn, hd⟩, hlen⟩ := I.list hs
  simp only at hc hd
  subst hc hd
  have each : ∀ (bs : List Bool) (us : List Value), Vals (bs.map V.bl) us → ∀ y ∈ us, SeqAt.EqAt X.A.in1.in1 s y (.bool true) (eqTrue y) ∧ ∃ b, y = .bool b := by
    intro bs
    induction bs with
    | nil =>
      intro us h y hy
      cases h
      cases hy
    | cons b r ih =>
      intro us h y hy
      cases h with
      | cons h1 h2 =>
        rcases List.mem_cons.mp hy with e | e
        · cases (show _ = Value.bool b from h1)
          subst e
          have z := eqAt_V (A := X.A.in1.in1) (s := s) (y := .bl b) (x := .bl true) (u := .bool b) (v := .bool true) rfl rfl rfl rfl
          refine ⟨?_, b, rfl⟩
          have e2 : eqV (.bl b) (.bl true) = eqTrue (.bool b) := by cases b <;> rfl
          rw [← e2]
          exact z
        · exact ih _ h2 y e
  have each' : ∀ (A : Around), ∀ y ∈ its, SeqAt.EqAt A s y (.bool true) (eqTrue y) := by
    intro A y hy
    obtain ⟨_, b, rfl⟩ := each bs its rv y hy
    have e2 : eqV (.bl b) (.bl true) = eqTrue (.bool b) := by cases b <;> rfl
    rw [← e2]
    exact eqAt_V (A := A) (s := s) (y := .bl b) (x := .bl true) (u := .bool b) (v := .bool true) rfl rfl rfl rfl
  refine call_meets PySem.F.slot_list_count ⟨_, found, rfl⟩ PySem.F.entry_list_count (PySem.F.args_list_count_2 _ _)
    (SeqAt.list_countAt p its.toArray n dd sl (.bool true) eqTrue) ⟨found, fun y hy => each' _ y (by simpa using hy), ?_⟩
  have ec : its.toArray.toList.countP eqTrue = bs.count true := eqTrue_count rv
  refine ⟨.int (bs.count true : Nat), H, I.tok _, ⟨s.toks, ?_⟩, q⟩
  show Value.int ((its.toArray.toList.countP eqTrue : Nat) : Int) s.toks = Value.int ((bs.count true : Nat) : Int) s.toks
  rw [ec]
end
theorem roomP {j k : Nat} {A : Around} {a : Option Value} (hr : Room k A) (h : j ≤ k) : L2H.RoomH j (A.mark a) := ⟨(hr.mono h).dp, (hr.mono h).un⟩
/-! ### calls in the body of a try -/
section
variable {X : Cx} {cx : CXT} {k : Nat} {f : Addr} {fd : FuncData} {ps : List Str} {sp : Sp} {E : St → XK} {x m : Str} {p pos apos : Pos} {e o : Expr} {es : List Expr} {ta : TE} {t : TA}
theorem pe_callSO (O : Ok X.prog X.w X.K X.mg X.base cx k f fd ps sp) (hr : Room k X.A) (hg : Gl X x) (hm : X.mg x = some (.ref f)) (hx : ∀ σ, PassesAt cx X σ (E σ)) (ha : PA X (e :: es) t)
    (hdb : (x == ("__debug__" : Str)) = false := by decide) (he : starEach (e :: es) X.env = (false, eval e X.env) :: starEach es X.env := by rfl) (hpl : (backTo pos (starEach es X.env)).any (·.1) = false := by rfl) :
    PE X (.Call (.Name x p) (e :: es) [] pos) (tCallS sp E t) := pe_callS O.ok hr hg hm O.kp O.bd hx ha hdb he hpl
def tMethSO (C : Addr) (m : Str) (sp : Sp) (E : St → XK) (ta : TE) (t : TA) : TE := fun σ H Q => ta σ H fun x H1 => ∃ a dx fs, x = .ref a ∧ H1 a = some (.ins C dx fs) ∧ fs.lookup m = none ∧ t σ H1 fun vs H2 => sp (x :: vs) H2 Q (E σ)
theorem pe_methSO {C : Addr} {pl : Sem Bool} (O : Ok X.prog X.w X.K X.mg X.base cx k f fd ps sp) (c : Cls X.K C) (hm : Meth X.K C m f) (hr : Room k X.A) (hx : ∀ σ, PassesAt cx X σ (E σ)) (he : PE X o ta) (ha : PA X (e :: es) t)
    (hst : starEach (e :: es) X.env = (false, eval e X.env) :: starEach es X.env := by rfl) (hpl : (backTo pos (starEach es X.env)).any (·.1) = false := by rfl)
    (ht : eval (.Call (.Attribute o m apos) (e :: es) [] pos) X.env = (do
      let ov ← eval o X.env
      standAt apos.atName
      let (f, first) ← holding [ov] (getMethod ov m pl)
      callWith pos f first (backTo pos (starEach (e :: es) X.env)) (backToKw pos (keywordEach [] X.env))) := by rfl) :
    PE X (.Call (.Attribute o m apos) (e :: es) [] pos) (tMethSO C m sp E ta t) := by
  refine ⟨fun pins s σ H Q I h => ?_⟩
  refine PySem.W.methodCall_KW (pl := pl) (thn (he.run pins s σ H _ I h) fun u s1 ⟨y, H1, I1, ry, a, dx, fs, ey, ea, l, q⟩ => ?_) ht
  subst ey
  obtain rfl : u = Value.ref a := ry
  refine getmeth_ok I1 ea c hm l ?_
  refine PySem.W.callWith_K (first := [.ref a]) (h₀ := X.base) I.ok.mod.kin hm.kp (thn (ha.run pos pins s1 σ H1 _ I1 q) fun us s2 ⟨vs, H2, I2, rv, q2⟩ => ⟨I2.kIn, ?_⟩) hst hpl
  exact run_fnS (us := .ref a :: us) (vs := .ref a :: vs) O.ok hr O.bd (hx σ) I2 (.cons rfl rv) q2
end
end L2
namespace NL
open PySem PySem.Spec PyProof.Rows L2
def top (i : Nat) : Stmt := PySem.Challenge.pw_nearlines_k13_plans_walked.main.body.getD i (.Pass ⟨0, 0, 0, 0⟩)
abbrev s_walked : Stmt := top 8
abbrev s__law_cell_at : Stmt := top 10
abbrev s__law_whole : Stmt := top 11
abbrev s__law_mixed : Stmt := top 12
abbrev s__law_touches_by : Stmt := top 13
abbrev s__law_plan_by : Stmt := top 14
abbrev s__law_missed : Stmt := top 15
abbrev s__law_alone : Stmt := top 16
abbrev s_law : Stmt := top 17
theorem sc_walked : FnScope ["touches", "room", "width", "plan", "near", "many", "at", "line", "goes", "must"] ["touches", "room", "width", "plan"] (defScope s_walked) := ⟨rfl, rfl, rfl, by decide +kernel, rfl, by decide +kernel, by decide +kernel⟩
theorem sc__law_cell_at : FnScope ["_law_script", "_law_k"] ["_law_script", "_law_k"] (defScope s__law_cell_at) := ⟨rfl, rfl, rfl, by decide +kernel, rfl, by decide +kernel, by decide +kernel⟩
theorem sc__law_whole : FnScope ["_law_found"] ["_law_found"] (defScope s__law_whole) := ⟨rfl, rfl, rfl, by decide +kernel, rfl, by decide +kernel, by decide +kernel⟩
theorem sc__law_mixed : FnScope ["_law_cell"] ["_law_cell"] (defScope s__law_mixed) := ⟨rfl, rfl, rfl, by decide +kernel, rfl, by decide +kernel, by decide +kernel⟩
theorem sc__law_touches_by : FnScope ["_law_cells", "_law_touches", "_law_cell", "_law_box", "_law_back"] ["_law_cells"] (defScope s__law_touches_by) := ⟨rfl, rfl, rfl, by decide +kernel, rfl, by decide +kernel, by decide +kernel⟩
theorem sc__law_plan_by : FnScope ["_law_cells", "_law_lines", "_law_room", "_law_near", "_law_plan", "_law_k", "_law_goes", "_law_line"] ["_law_cells", "_law_lines", "_law_room"] (defScope s__law_plan_by) := ⟨rfl, rfl, rfl, by decide +kernel, rfl, by decide +kernel, by decide +kernel⟩
theorem sc__law_missed : FnScope ["_law_lines", "_law_room", "_law_plan", "_law_near", "_law_many", "_law_k", "_law_line"] ["_law_lines", "_law_room", "_law_plan"] (defScope s__law_missed) := ⟨rfl, rfl, rfl, by decide +kernel, rfl, by decide +kernel, by decide +kernel⟩
theorem sc__law_alone : FnScope ["_law_e", "_law_own", "_law_some"] ["_law_e", "_law_own"] (defScope s__law_alone) := ⟨rfl, rfl, rfl, by decide +kernel, rfl, by decide +kernel, by decide +kernel⟩
theorem sc_law : FnScope ["_law_script", "_law_first", "_law_room", "_law_width", "_law_touches", "_law_lines", "_law_plan", "_law_how", "_law_at", "_law_due", "_law_given", "_law_told", "_law_many", "_law_e", "_law_touch"] ["_law_script"] (defScope s_law) := ⟨rfl, rfl, rfl, by decide +kernel, rfl, by decide +kernel, by decide +kernel⟩
/-- where defs and classes stand -/
structure Cs where
  f_walked : Addr
  d_walked : FuncData
  f__law_cell_at : Addr
  d__law_cell_at : FuncData
  f__law_whole : Addr
  d__law_whole : FuncData
  f__law_mixed : Addr
  d__law_mixed : FuncData
  f__law_touches_by : Addr
  d__law_touches_by : FuncData
  f__law_plan_by : Addr
  d__law_plan_by : FuncData
  f__law_missed : Addr
  d__law_missed : FuncData
  f__law_alone : Addr
  d__law_alone : FuncData
  f_law : Addr
  d_law : FuncData
  C_LineError : Addr
  C_BadRow : Addr
  C_BadBoxes : Addr
  C_BadShape : Addr
  C_NoBox : Addr
  C_BadPlan : Addr
/-- what the top has left -/
structure Txt (K : PySem.W.Frag) (mg : Str → Option Value) (cs : Cs) : Prop where
  fn_walked : FnAt K "walked" "walked" s_walked cs.f_walked cs.d_walked ["touches", "room", "width", "plan"]
  gl_walked : mg "walked" = some (.ref cs.f_walked)
  fn__law_cell_at : FnAt K "_law_cell_at" "_law_cell_at" s__law_cell_at cs.f__law_cell_at cs.d__law_cell_at ["_law_script", "_law_k"]
  gl__law_cell_at : mg "_law_cell_at" = some (.ref cs.f__law_cell_at)
  fn__law_whole : FnAt K "_law_whole" "_law_whole" s__law_whole cs.f__law_whole cs.d__law_whole ["_law_found"]
  gl__law_whole : mg "_law_whole" = some (.ref cs.f__law_whole)
  fn__law_mixed : FnAt K "_law_mixed" "_law_mixed" s__law_mixed cs.f__law_mixed cs.d__law_mixed ["_law_cell"]
  gl__law_mixed : mg "_law_mixed" = some (.ref cs.f__law_mixed)
  fn__law_touches_by : FnAt K "_law_touches_by" "_law_touches_by" s__law_touches_by cs.f__law_touches_by cs.d__law_touches_by ["_law_cells"]
  gl__law_touches_by : mg "_law_touches_by" = some (.ref cs.f__law_touches_by)
  fn__law_plan_by : FnAt K "_law_plan_by" "_law_plan_by" s__law_plan_by cs.f__law_plan_by cs.d__law_plan_by ["_law_cells", "_law_lines", "_law_room"]
  gl__law_plan_by : mg "_law_plan_by" = some (.ref cs.f__law_plan_by)
  fn__law_missed : FnAt K "_law_missed" "_law_missed" s__law_missed cs.f__law_missed cs.d__law_missed ["_law_lines", "_law_room", "_law_plan"]
  gl__law_missed : mg "_law_missed" = some (.ref cs.f__law_missed)
  fn__law_alone : FnAt K "_law_alone" "_law_alone" s__law_alone cs.f__law_alone cs.d__law_alone ["_law_e", "_law_own"]
  gl__law_alone : mg "_law_alone" = some (.ref cs.f__law_alone)
  fn_law : FnAt K "law" "law" s_law cs.f_law cs.d_law ["_law_script"]
  gl_law : mg "law" = some (.ref cs.f_law)
  no_len : mg "len" = none
  no_range : mg "range" = none
  no_isinstance : mg "isinstance" = none
  no_int : mg "int" = none
  no_bool : mg "bool" = none
  no_ValueError : mg "ValueError" = none
  no_list : mg "list" = none
  ex_LineError : ExcAt K mg "LineError" cs.C_LineError
  ex_BadRow : ExcAt K mg "BadRow" cs.C_BadRow
  ex_BadBoxes : ExcAt K mg "BadBoxes" cs.C_BadBoxes
  ex_BadShape : ExcAt K mg "BadShape" cs.C_BadShape
  ex_NoBox : ExcAt K mg "NoBox" cs.C_NoBox
  ex_BadPlan : ExcAt K mg "BadPlan" cs.C_BadPlan
  ec_BadPlan : ExcC K cs.C_BadPlan
  is_BadPlan_LineError : PySem.W.kitOne K (.ref cs.C_BadPlan) (.ref cs.C_LineError) = some true
  is_BadPlan_BadRow : PySem.W.kitOne K (.ref cs.C_BadPlan) (.ref cs.C_BadRow) = some false
  is_BadPlan_BadBoxes : PySem.W.kitOne K (.ref cs.C_BadPlan) (.ref cs.C_BadBoxes) = some false
  is_BadPlan_BadShape : PySem.W.kitOne K (.ref cs.C_BadPlan) (.ref cs.C_BadShape) = some false
  is_BadPlan_NoBox : PySem.W.kitOne K (.ref cs.C_BadPlan) (.ref cs.C_NoBox) = some false
  is_BadPlan_BadPlan : PySem.W.kitOne K (.ref cs.C_BadPlan) (.ref cs.C_BadPlan) = some true
  iv_BadPlan : PySem.W.kitOne K (.ref cs.C_BadPlan) (.type "ValueError") = some true
section
variable {P : Program} {w : World} {K : PySem.W.Frag} {mg : Str → Option Value} {base : Heap} {cs : Cs}
/-! ### walked -/
/-- the lines near and how many touches were missed, behind one more touch; none where the plan's word is wrong -/
def wkOne (room : Int) (s : List Int × Int) (p : Int × Option Int) : Option (List Int × Int) :=
  if p.1 ∉ s.1 ∧ (s.1.length : Int) = room then
    match p.2 with
    | none => none
    | some x => if x ∈ s.1 then some (s.1.eraseIdx (s.1.idxOf x) ++ [p.1], s.2 + 1) else none
  else
    match p.2 with
    | some _ => none
    | none => if p.1 ∈ s.1 then some s else some (s.1 ++ [p.1], s.2 + 1)
def wkF (room : Int) (o : Option (List Int × Int)) (p : Int × Option Int) : Option (List Int × Int) := o.bind fun s => wkOne room s p
def wkAll (room : Int) (ps : List (Int × Option Int)) : Option (List Int × Int) := ps.foldl (wkF room) (some ([], 0))
theorem wk_none (room : Int) : ∀ ps : List (Int × Option Int), ps.foldl (wkF room) none = none
  | [] => rfl
  | _ :: r => wk_none room r
theorem wkAll_cut {room : Int} {ps : List (Int × Option Int)} {i : Nat} (h : wkAll room (ps.take i) = none) : wkAll room ps = none := by
  have e : ps = ps.take i ++ ps.drop i := (List.take_append_drop _ _).symm
  rw [e]
  unfold wkAll at *
  rw [List.foldl_append, h, wk_none]
theorem wkOne_len {room : Int} {s s' : List Int × Int} {p : Int × Option Int} (h : wkOne room s p = some s') : s'.1.length ≤ s.1.length + 1 := by
  unfold wkOne at h
  split at h
  · split at h
    · cases h
    · split at h
      · cases h
        have := List.length_eraseIdx_le s.1 (s.1.idxOf (by assumption))
        simp only [List.length_append, List.length_cons, List.length_nil]
        omega
      · cases h
  · split at h
    · cases h
    · split at h
      · cases h
        omega
      · cases h
        simp
theorem wkAll_len {room : Int} : ∀ {ps : List (Int × Option Int)} {i : Nat} {s : List Int × Int}, wkAll room (ps.take i) = some s → s.1.length ≤ i
  | ps, 0, s, h => by
    rw [List.take_zero] at h
    cases h
    exact Nat.le_refl _
  | ps, i + 1, s, h => by
    by_cases hi : i < ps.length
    · have e : wkAll room (ps.take (i + 1)) = wkF room (wkAll room (ps.take i)) ps[i] := fold_take _ _ (List.getElem?_eq_getElem hi)
      rw [e] at h
      cases e2 : wkAll room (ps.take i) with
      | none =>
        rw [e2] at h
        cases h
      | some s0 =>
        rw [e2] at h
        have h1 := wkAll_len e2
        have h2 := wkOne_len (show wkOne room s0 ps[i] = some s from h)
        omega
    · rw [List.take_of_length_le (by omega)] at h
      have h1 := wkAll_len (ps := ps) (i := i) (by rw [List.take_of_length_le (by omega)]; exact h)
      omega
/-- what walked tells; none where it refuses -/
def walkedM (ts : List Tch) (room w : Int) (plan : List (Option Int)) : Option Int :=
  if plan.length = ts.length then (wkAll room ((ts.map fun t => t.2 / w).zip plan)).map (·.2) else none
def sp_walked (K : PySem.W.Frag) (cs : Cs) : Sp := fun vs H Q E => ∃ (a b : Addr) (xs : List V) (ts : List Tch) (room w : Int) (plan : List (Option Int)), vs = [.ref a, .int room, .int w, .ref b] ∧ SqL K H a xs ∧ TL K H xs ts ∧ SqL K H b (plan.map optV) ∧
  (0 < w ∧ w < 1000000000) ∧ ts.length ≤ 1000 ∧ (∀ m H', walkedM ts room w plan = some m → Same H H' → Q (.int m) H') ∧ (∀ H', walkedM ts room w plan = none → Same H H' → E (.ref cs.C_BadPlan) none H')
theorem zip_get {α β : Type} {xs : List α} {ys : List β} {i : Nat} {x : α} {y : β} (hx : xs[i]? = some x) (hy : ys[i]? = some y) : (xs.zip ys)[i]? = some (x, y) := by
  rw [List.getElem?_zip_eq_some]
  exact ⟨hx, hy⟩
theorem idx_no {x : Int} {xs : List Int} (m : Nat) (h : m < xs.idxOf x) : xs[m]? ≠ some x := fun e => by
  have q := idx_first h e
  rw [beq_self_eq_true] at q
  cases q
theorem ok_walked (T : Txt K mg cs)  : Ok P w K mg base (L2.CX P w) 1 cs.f_walked cs.d_walked ["touches", "room", "width", "plan"] (sp_walked K cs) := by
  refine T.fn_walked.okX sc_walked (fun vs H Q E h => ?_) (fun cdv A outer s H vs Q E hr h => ?_)
  · obtain ⟨a, b, xs, ts, room, w, plan, rfl, _⟩ := h
    rfl
  · obtain ⟨a, b, xs, ts, room, w, plan, rfl, hS, hT, hP, hw, hl, kQ, kE⟩ := h
    refine ⟨_, (pss_cons (ps_if (pt_cmpR op_ne (pe_callB call_len_seq (by rfl) T.no_len PySem.boot_len (pa_cons (pv 3) pa_nil)) (pe_callB call_len_seq (by rfl) T.no_len PySem.boot_len (pa_cons (pv 0) pa_nil)) (nomark _)) (pss_one (ps_raise rfl (takes_of rfl rfl rfl rfl) (pmk_own PySem.F.excBase_ValueError T.ex_BadPlan.x T.ex_BadPlan.g T.ex_BadPlan.k (raises_own T.ex_BadPlan.b T.ex_BadPlan.t) (by rfl)))) pss_nil)
      (pss_cons (ps_set (i := 4) sc_walked.nd rfl (Or.inl rfl) (pe_lst pa_nil))
      (pss_cons (ps_set (i := 5) sc_walked.nd rfl (Or.inl rfl) pe_int)
      (pss_cons (ps_for (passes_of rfl) rfl (pi_range1 (by rfl) T.no_range (pa_cons (pe_callB call_len_seq (by rfl) T.no_len PySem.boot_len (pa_cons (pv 0) pa_nil)) pa_nil)) (pg_name (i := 6) sc_walked.nd rfl (Or.inl rfl)) (pss_cons (ps_set (i := 7) sc_walked.nd rfl (Or.inl rfl) (pe_op op_fdiv (pe_ix ix_tup (pe_ix ix_list (pv 0) (pv 6) (fun _ _ => rfl)) pe_int (fun _ _ => rfl)) (pv 2)))
      (pss_cons (ps_set (i := 8) sc_walked.nd rfl (Or.inl rfl) (pe_ix ix_list (pv 3) (pv 6) (fun _ _ => rfl)))
      (pss_cons (ps_set (i := 9) sc_walked.nd rfl (Or.inl rfl) (pe_jn (pe_and (pe_cmpR op_notIn_seq (pv 7) (pv 4) (by rfl)) (pe_one (pe_cmpR op_eq (pe_callB call_len_seq (by rfl) T.no_len PySem.boot_len (pa_cons (pv 4) pa_nil)) (pv 1) (nomark _))))))
      (pss_cons (ps_if (pt_jn (PW.pt (pw_or (PW.pt (pw_and (pt_val (pv 9)) (pw_and1 (pt_cmpR op_notIn_seq (pv 8) (pv 4) (by rfl))))) (pw_or1 (PW.pt (pw_and (pt_not (pt_val (pv 9))) (pw_and1 (pt_cmpR op_notN (pv 8) pe_non (nomark _))))))))) (pss_one (ps_raise rfl (takes_of rfl rfl rfl rfl) (pmk_own PySem.F.excBase_ValueError T.ex_BadPlan.x T.ex_BadPlan.g T.ex_BadPlan.k (raises_own T.ex_BadPlan.b T.ex_BadPlan.t) (by rfl)))) pss_nil)
      (pss_one (ps_if (pt_cmpR op_notIn_seq (pv 7) (pv 4) (by rfl)) (pss_cons (ps_set (i := 5) sc_walked.nd rfl (Or.inl rfl) (pe_op op_add (pv 5) pe_int))
      (pss_cons (ps_if (pt_val (pv 9)) (pss_one (ps_expr (pe_bm PySem.F.plainAttrs_list PySem.F.slot_list_remove PySem.F.type_list_remove mt_remove (pv 4) (pa_cons (pv 8) pa_nil)))) pss_nil)
      (pss_one (ps_expr (pe_bm PySem.F.plainAttrs_list PySem.F.slot_list_append PySem.F.type_list_append mt_append (pv 4) (pa_cons (pv 7) pa_nil)))))) pss_nil)))))))
      (pss_one (ps_ret (pv 5))))))), ?_⟩
    -- if len(plan) != len(touches): raise
    refine ⟨_, rfl, b, _, rfl, .inl hP, _, rfl, a, _, rfl, .inl hS, rfl, _, rfl, iteN (fun c => ?_) (fun c => ?_)⟩
    · refine kE H ?_ (Same.refl H)
      unfold walkedM
      refine if_neg fun z => c ?_
      rw [List.length_map, z, hT.len]
    have c2 := V.int.inj c
    have elen : plan.length = ts.length := by
      rw [List.length_map, hT.len] at c2
      omega
    have em : walkedM ts room w plan = (wkAll room ((ts.map fun t => t.2 / w).zip plan)).map (·.2) := if_pos elen
    have ezl : ((ts.map fun t => t.2 / w).zip plan).length = ts.length := by
      rw [List.length_zip, List.length_map]
      omega
    generalize hz : (ts.map fun t => t.2 / w).zip plan = zs at em ezl
    -- near = []; many = 0; for at in range(len(touches))
    refine ⟨Nat.zero_le _, fun n nn => ?_⟩
    have sn : Same H (upd H n (.lst [])) := Same.new nn
    refine ⟨_, rfl, a, _, rfl, .inl (sn.seq hS), (xs.length : Nat), rfl, by omega, by have := hT.len; omega, ?_⟩
    have e0 : ((xs.length : Nat) : Int).toNat = ts.length := by
      have := hT.len
      omega
    rw [e0]
    refine for_range (lo := 0) (n := ts.length) (fun i σ H' => ∃ v6 v7 v8 v9 near many, σ = [some (.ref a), some (.int room), some (.int w), some (.ref b), some (.ref n), some (.int many), v6, v7, v8, v9] ∧ Same H H' ∧
      H' n = some (.lst (near.map V.int)) ∧ wkAll room (zs.take i) = some (near, many)) ⟨none, none, none, none, [], 0, rfl, sn, upd_same, by rw [List.take_zero]; rfl⟩ ?_ ?_
    · rintro i σ H' hi ⟨v6, v7, v8, v9, near, many, rfl, s1, hn, hwk⟩
      have hzi : (0 : Int) + (i : Int) = ((i : Nat) : Int) := Int.zero_add _
      have hS1 := s1.seq hS
      have hP1 := s1.seq hP
      obtain ⟨t, ht⟩ : ∃ t, ts[i]? = some t := ⟨ts[i], List.getElem?_eq_getElem hi⟩
      obtain ⟨goes, hg⟩ : ∃ g, plan[i]? = some g := ⟨plan[i], List.getElem?_eq_getElem (by omega)⟩
      obtain ⟨v, hv, tb, rfl, htb⟩ := hT.at_ i t ht
      have htb1 := s1.seqT htb
      have hzs : zs[i]? = some (t.2 / w, goes) := by
        rw [← hz]
        refine zip_get ?_ hg
        rw [List.getElem?_map, ht]
        rfl
      have est : wkAll room (zs.take (i + 1)) = wkOne room (near, many) (t.2 / w, goes) := by
        have q : wkAll room (zs.take (i + 1)) = wkF room (wkAll room (zs.take i)) (t.2 / w, goes) := fold_take _ _ hzs
        rw [q, hwk]
        rfl
      have hlen : near.length ≤ i := wkAll_len hwk
      -- line = touches[at][1] // width; goes = plan[at]
      refine ⟨_, rfl, _, rfl, a, _, _, _, rfl, rfl, hS1, at_of hzi hv, tb, _, _, _, rfl, rfl, htb1, rfl, _, rfl, _, _, rfl, rfl, ⟨hw.1, by have := hw.2; omega⟩, ?_⟩
      refine ⟨_, rfl, _, rfl, b, _, _, _, rfl, rfl, hP1, at_of hzi (nl_get_map hg), ?_⟩
      -- must
      refine ⟨fun v H2 => v = .bl (decide (t.2 / w ∉ near ∧ (near.length : Int) = room)) ∧ H2 = H', ?_, ?_⟩
      · refine ⟨_, rfl, _, rfl, n, _, rfl, .inl (SqL.of hn), rfl, flat_ints _, _, rfl, iteB (fun c => ?_) (fun c => ?_)⟩
        · have hin : t.2 / w ∉ near := fun z => by
            have c4 : (!inV (.int (t.2 / w)) (near.map V.int)) = true := c
            rw [inV_ints, decide_eq_true z] at c4
            cases c4
          refine ⟨_, rfl, n, _, rfl, .inl (SqL.of hn), _, rfl, rfl, ?_, rfl⟩
          rw [List.length_map]
          by_cases c3 : (near.length : Int) = room
          · simp [c3, hin]
          · simp [c3]
        · have hin : t.2 / w ∈ near := by
            have c4 : (!inV (.int (t.2 / w)) (near.map V.int)) = false := c
            rw [inV_ints] at c4
            simpa using c4
          exact ⟨by simp [hin], rfl⟩
      rintro v H2 ⟨rfl, rfl⟩
      -- the plan's word
      obtain ⟨must, hmd⟩ : ∃ m, m = decide (t.2 / w ∉ near ∧ (near.length : Int) = room) := ⟨_, rfl⟩
      rw [← hmd]
      refine ⟨fun x H3 => x = decide (wkOne room (near, many) (t.2 / w, goes) = none) ∧ H3 = H2, ?_, ?_⟩
      · refine ⟨_, rfl, _, rfl, iteB (fun c => ?_) (fun c => ?_)⟩
        · subst c
          have hm := of_decide_eq_true hmd.symm
          refine ⟨_, rfl, _, rfl, n, _, rfl, .inl (SqL.of hn), optV_flat _, flat_ints _, _, rfl, ?_⟩
          cases goes with
          | none =>
            have e : wkOne room (near, many) (t.2 / w, none) = none := by
              unfold wkOne
              rw [if_pos hm]
            refine iteB (fun _ => ⟨by rw [e]; rfl, rfl⟩) (fun c => ?_)
            have c4 : (!inV .non (near.map V.int)) = false := c
            rw [inV_non_ints] at c4
            cases c4
          | some g =>
            refine iteB (fun c => ?_) (fun c => ?_)
            · have c4 : (!inV (.int g) (near.map V.int)) = true := c
              rw [inV_ints] at c4
              have c3 : g ∉ near := by simpa using c4
              have e : wkOne room (near, many) (t.2 / w, some g) = none := by
                unfold wkOne
                rw [if_pos hm]
                exact if_neg c3
              exact ⟨by rw [e]; rfl, rfl⟩
            · have c4 : (!inV (.int g) (near.map V.int)) = false := c
              rw [inV_ints] at c4
              have c3 : g ∈ near := by simpa using c4
              have e : wkOne room (near, many) (t.2 / w, some g) = some (near.eraseIdx (near.idxOf g) ++ [t.2 / w], many + 1) := by
                unfold wkOne
                rw [if_pos hm]
                exact if_pos c3
              refine ⟨_, rfl, _, rfl, iteF ⟨by rw [e]; rfl, rfl⟩⟩
        · subst c
          have hm := of_decide_eq_false hmd.symm
          refine ⟨_, rfl, _, rfl, iteT ⟨_, rfl, rfl, _, rfl, ?_, rfl⟩⟩
          cases goes with
          | none =>
            have e : wkOne room (near, many) (t.2 / w, none) = if t.2 / w ∈ near then some (near, many) else some (near ++ [t.2 / w], many + 1) := by
              unfold wkOne
              rw [if_neg hm]
            rw [e]
            by_cases c3 : t.2 / w ∈ near <;> simp [c3, optV]
          | some g =>
            have e : wkOne room (near, many) (t.2 / w, some g) = none := by
              unfold wkOne
              rw [if_neg hm]
            rw [e]
            simp [optV]
      rintro x H3 ⟨rfl, rfl⟩
      refine iteD (fun c => ?_) (fun c => ?_)
      · refine kE H3 ?_ s1
        rw [em, wkAll_cut (i := i + 1) (by rw [est]; exact c)]
        rfl
      -- if line not in near
      refine ⟨_, rfl, _, rfl, n, _, rfl, .inl (SqL.of hn), rfl, flat_ints _, _, rfl, iteB (fun c1 => ?_) (fun c1 => ?_)⟩
      · have hin : t.2 / w ∉ near := fun z => by
          have c4 : (!inV (.int (t.2 / w)) (near.map V.int)) = true := c1
          rw [inV_ints, decide_eq_true z] at c4
          cases c4
        -- many = many + 1; if must: near.remove(goes)
        refine ⟨_, rfl, _, _, rfl, rfl, _, rfl, _, rfl, iteB (fun c2 => ?_) (fun c2 => ?_)⟩
        · subst c2
          have hm := of_decide_eq_true hmd.symm
          cases goes with
          | none =>
            refine (c ?_).elim
            unfold wkOne
            rw [if_pos hm]
          | some g =>
            have hgn : g ∈ near := by
              refine Classical.byContradiction fun z => c ?_
              unfold wkOne
              rw [if_pos hm]
              exact if_neg z
            refine ⟨_, rfl, .inl ⟨rfl, _, SqL.of hn⟩, _, rfl, n, near, g, _, rfl, rfl, hn, idx_get hgn, fun m hm => idx_no m hm, ?_⟩
            refine ⟨_, rfl, .inl ⟨rfl, _, SqL.of upd_same⟩, _, rfl, n, _, _, rfl, rfl, upd_same, sizeL (by rw [List.length_map]; have := List.length_eraseIdx_le near (near.idxOf g); omega), ?_⟩
            refine ⟨_, _, _, _, near.eraseIdx (near.idxOf g) ++ [t.2 / w], _, rfl, (s1.mut nn).mut nn, ?_, ?_⟩
            · rw [upd_same, snoc_map]
            · rw [est]
              unfold wkOne
              rw [if_pos hm]
              exact if_pos hgn
        · subst c2
          have hm := of_decide_eq_false hmd.symm
          refine ⟨_, rfl, .inl ⟨rfl, _, SqL.of hn⟩, _, rfl, n, _, _, rfl, rfl, hn, sizeL (by rw [List.length_map]; omega), ?_⟩
          refine ⟨_, _, _, _, near ++ [t.2 / w], _, rfl, s1.mut nn, ?_, ?_⟩
          · rw [upd_same, snoc_map]
          · rw [est]
            cases goes with
            | none =>
              unfold wkOne
              rw [if_neg hm]
              exact if_neg hin
            | some g =>
              refine (c ?_).elim
              unfold wkOne
              rw [if_neg hm]
      · have hin : t.2 / w ∈ near := by
          have c4 : (!inV (.int (t.2 / w)) (near.map V.int)) = false := c1
          rw [inV_ints] at c4
          simpa using c4
        refine ⟨_, _, _, _, _, _, rfl, s1, hn, ?_⟩
        rw [est]
        have hm : ¬ (t.2 / w ∉ near ∧ (near.length : Int) = room) := fun z => z.1 hin
        cases goes with
        | none =>
          unfold wkOne
          rw [if_neg hm]
          exact if_pos hin
        | some g =>
          refine (c ?_).elim
          unfold wkOne
          rw [if_neg hm]
    · rintro σ H' ⟨v6, v7, v8, v9, near, many, rfl, s1, hn, hwk⟩
      rw [List.take_of_length_le (by omega)] at hwk
      refine ⟨_, rfl, kQ many H' ?_ s1⟩
      rw [em, hwk]
      rfl
/-! ### the law's own helpers -/
def mixed (c : Int) : Int := c * 48271 % 2147483647
def sp__law_mixed (K : PySem.W.Frag) (cs : Cs) : Sp := fun vs H Q _ => ∃ c : Int, vs = [.int c] ∧ Q (.int (mixed c)) H
theorem ok__law_mixed (T : Txt K mg cs)  : Ok P w K mg base CX0 1 cs.f__law_mixed cs.d__law_mixed ["_law_cell"] (sp__law_mixed K cs) := by
  refine T.fn__law_mixed.ok sc__law_mixed (fun vs H Q E h => ?_) (fun cdv A outer s H vs Q E hr h => ?_)
  · obtain ⟨c, rfl, _⟩ := h
    rfl
  · obtain ⟨c, rfl, k⟩ := h
    refine ⟨_, (pss_one (ps_ret (pe_op op_mod (pe_op op_mul (pv 0) pe_int) pe_int))), ?_⟩
    refine ⟨_, rfl, _, _, rfl, rfl, .inr ⟨by decide, by decide⟩, _, _, rfl, rfl, (by show (0 : Int) < _; decide), k⟩
def sp__law_cell_at (K : PySem.W.Frag) (cs : Cs) : Sp := spCell K
theorem ok__law_cell_at (T : Txt K mg cs)  : Ok P w K mg base CX0 1 cs.f__law_cell_at cs.d__law_cell_at ["_law_script", "_law_k"] (sp__law_cell_at K cs) := by
  refine T.fn__law_cell_at.ok sc__law_cell_at (fun vs H Q E h => ?_) (fun cdv A outer s H vs Q E hr h => ?_)
  · obtain ⟨l, ns, j, rfl, _⟩ := h
    rfl
  · obtain ⟨l, ns, j, rfl, hs, q⟩ := h
    refine ⟨_, (pss_cons (ps_if (pt_cmpR op_lt (pv 1) (pe_callB call_len_seq (by rfl) T.no_len PySem.boot_len (pa_cons (pv 0) pa_nil)) (nomark _)) (pss_one (ps_ret (pe_ix ix_list (pv 0) (pv 1) (fun _ _ => rfl)))) pss_nil)
      (pss_one (ps_ret pe_int))), ?_⟩
    refine ⟨_, rfl, _, rfl, l, _, rfl, .inl hs, _, _, rfl, rfl, _, rfl, iteD (fun c => ?_) (fun c => ?_)⟩
    · have hj : j < ns.length := by
        rw [List.length_map] at c
        omega
      exact ⟨_, rfl, _, rfl, l, _, _, _, rfl, rfl, hs, atI_cell hj, q⟩
    · have hj : ¬ j < ns.length := by
        rw [List.length_map] at c
        omega
      rw [cell_out hj] at q
      exact q
/-- a value's built-in type, by its name -/
def tyNames : List String := ["int", "bool", "NoneType", "str", "list", "tuple", "dict"]
def sp__law_whole (K : PySem.W.Frag) (cs : Cs) : Sp := fun vs H Q _ => ∃ (x : V) (t : String), vs = [x] ∧ TyX K H x (.type t) ∧ t ∈ tyNames ∧ Q (.bl (t == "int")) H
theorem kit_int {K : PySem.W.Frag} {t : String} (h : t ∈ tyNames) : PySem.W.kitOne K (.type t) (.type "int") = some (t == "int" || t == "bool") := by
  simp only [tyNames, List.mem_cons, List.not_mem_nil, or_false] at h
  rcases h with rfl | rfl | rfl | rfl | rfl | rfl | rfl <;> exact kit_ty (by decide +kernel)
theorem kit_bool {K : PySem.W.Frag} {t : String} (h : t ∈ tyNames) : PySem.W.kitOne K (.type t) (.type "bool") = some (t == "bool") := by
  simp only [tyNames, List.mem_cons, List.not_mem_nil, or_false] at h
  rcases h with rfl | rfl | rfl | rfl | rfl | rfl | rfl <;> exact kit_ty (by decide +kernel)
theorem ok__law_whole (T : Txt K mg cs)  : Ok P w K mg base CX0 1 cs.f__law_whole cs.d__law_whole ["_law_found"] (sp__law_whole K cs) := by
  refine T.fn__law_whole.ok sc__law_whole (fun vs H Q E h => ?_) (fun cdv A outer s H vs Q E hr h => ?_)
  · obtain ⟨x, t, rfl, _⟩ := h
    rfl
  · obtain ⟨x, t, rfl, ty, ht, q⟩ := h
    refine ⟨_, (pss_one (ps_ret (pe_and (pe_callB call_isi (by rfl) T.no_isinstance boot_isinstance (pa_cons (pv 0) (pa_cons (pe_bltn (v := .ty "int") (by rfl) T.no_int boot_int rfl) pa_nil))) (pe_one (pe_not (pe_callB call_isi (by rfl) T.no_isinstance boot_isinstance (pa_cons (pv 0) (pa_cons (pe_bltn (v := .ty "bool") (by rfl) T.no_bool boot_bool rfl) pa_nil)))))))), ?_⟩
    refine ⟨_, rfl, _, _, _, _, _, rfl, .ty "int", ty, kit_int ht, _, rfl, iteB (fun c => ?_) (fun c => ?_)⟩
    · refine ⟨_, rfl, _, _, _, _, _, rfl, .ty "bool", ty, kit_bool ht, _, rfl, ?_⟩
      have e : (!(t == "bool")) = (t == "int") := by
        simp only [tyNames, List.mem_cons, List.not_mem_nil, or_false] at ht
        rcases ht with rfl | rfl | rfl | rfl | rfl | rfl | rfl <;> first | decide | (exfalso; revert c; decide)
      rw [e]
      exact q
    · have e : (t == "int") = false := by
        cases h : (t == "int") with
        | false => rfl
        | true =>
          rw [h] at c
          cases c
      rw [e] at q
      exact q
/-! ### _law_touches_by -/
def boxMod (c : Int) : Int := [8, 30, 1000000, 8].getD (c / 2 % 4).toNat 0
theorem boxMod_pos (c : Int) : 0 < boxMod c := by
  have h0 := Int.emod_nonneg (c / 2) (show (4 : Int) ≠ 0 by decide)
  have h1 := Int.emod_lt_of_pos (c / 2) (show (0 : Int) < 4 by decide)
  unfold boxMod
  generalize c / 2 % 4 = m at *
  have : m = 0 ∨ m = 1 ∨ m = 2 ∨ m = 3 := by omega
  rcases this with rfl | rfl | rfl | rfl <;> decide
def tbBox (acc : List Tch) (c : Int) : Int :=
  if 0 < c / 8 % 8 ∧ c / 8 % 8 < 5 ∧ c / 8 % 8 ≤ acc.length then (acc.getD (acc.length - (c / 8 % 8).toNat) (false, 0)).2 else mixed c % boxMod c
def tbStep (acc : List Tch) (c : Int) : List Tch := acc ++ [(c % 2 == 1, tbBox acc c)]
def touchesM (cells : List Int) : List Tch := cells.foldl tbStep []
theorem touchesM_len (cells : List Int) : (touchesM cells).length = cells.length := by
  have : ∀ (l : List Int) (s : List Tch), (l.foldl tbStep s).length = s.length + l.length := by
    intro l
    induction l with
    | nil => intro s; rfl
    | cons t r ih =>
      intro s
      rw [List.foldl_cons, ih, tbStep, List.length_append, List.length_cons, List.length_cons, List.length_nil]
      omega
  have h := this cells []
  unfold touchesM
  simpa using h
def sp__law_touches_by (K : PySem.W.Frag) (cs : Cs) : Sp := fun vs H Q _ => ∃ (a : Addr) (ns : List Int), vs = [.ref a] ∧ SqL K H a (ns.map V.int) ∧ ns.length ≤ 1000 ∧
  ∀ H' p xs, Same H H' → H p = none → H' p = some (.lst xs) → TL K H' xs (touchesM ns) → Q (.ref p) H'
theorem ok__law_touches_by (T : Txt K mg cs) (o__law_mixed : Ok P w K mg base CX0 1 cs.f__law_mixed cs.d__law_mixed ["_law_cell"] (sp__law_mixed K cs)) : Ok P w K mg base CX0 2 cs.f__law_touches_by cs.d__law_touches_by ["_law_cells"] (sp__law_touches_by K cs) := by
  refine T.fn__law_touches_by.ok sc__law_touches_by (fun vs H Q E h => ?_) (fun cdv A outer s H vs Q E hr h => ?_)
  · obtain ⟨a, ns, rfl, _⟩ := h
    rfl
  · obtain ⟨a, ns, rfl, hS, hl, k⟩ := h
    refine ⟨_, (pss_cons (ps_set (i := 1) sc__law_touches_by.nd rfl (Or.inl rfl) (pe_lst pa_nil))
      (pss_cons (ps_for PassesOwn.never rfl (pi_list (pv 0)) (pg_name (i := 2) sc__law_touches_by.nd rfl (Or.inl rfl)) (pss_cons (ps_set (i := 3) sc__law_touches_by.nd rfl (Or.inl rfl) (pe_op op_mod (pe_callO o__law_mixed hr (by rfl) T.gl__law_mixed pass0 (pa_cons (pv 2) pa_nil)) (pe_ix ix_list (pe_lst (pa_cons pe_int (pa_cons pe_int (pa_cons pe_int (pa_cons pe_int pa_nil))))) (pe_op op_mod (pe_op op_fdiv (pv 2) pe_int) pe_int) (fun _ _ => rfl))))
      (pss_cons (ps_set (i := 4) sc__law_touches_by.nd rfl (Or.inl rfl) (pe_op op_mod (pe_op op_fdiv (pv 2) pe_int) pe_int))
      (pss_cutS (ps_if (pt_jn (PW.pt (pw_and (pt_chain op_lt op_lt pe_int (pv 4) pe_int) (pw_and1 (pt_cmpR op_le (pv 4) (pe_callB call_len_seq (by rfl) T.no_len PySem.boot_len (pa_cons (pv 1) pa_nil)) (nomark _)))))) (pss_one (ps_set (i := 3) sc__law_touches_by.nd rfl (Or.inl rfl) (pe_ix ix_tup (pe_ix ix_list (pv 1) (pe_op op_sub (pe_callB call_len_seq (by rfl) T.no_len PySem.boot_len (pa_cons (pv 1) pa_nil)) (pv 4)) (fun _ _ => rfl)) pe_int (fun _ _ => rfl)))) pss_nil)
      (pss_one (ps_expr (pe_bm PySem.F.plainAttrs_list PySem.F.slot_list_append PySem.F.type_list_append mt_append (pv 1) (pa_cons (pe_tup (pa_cons (pe_ix ix_list (pe_lst (pa_cons pe_str (pa_cons pe_str pa_nil))) (pe_op op_mod (pv 2) pe_int) (fun _ _ => rfl)) (pa_cons (pv 3) pa_nil))) pa_nil))))))))
      (pss_one (ps_ret (pv 1))))), ?_⟩
    refine ⟨Nat.zero_le _, fun t nt => ⟨_, rfl, a, rfl, ⟨_, (Same.new nt).seq hS⟩, for_list (K := K) (a := a) (xs := ns.map V.int) (fun i σ H' => ∃ v2 v3 v4 xs, σ = [some (.ref a), some (.ref t), v2, v3, v4] ∧ Same H H' ∧
      H' t = some (.lst xs) ∧ TL K H' xs (touchesM (ns.take i))) ?_ ?_ ?_ ?_⟩⟩
    · exact ⟨none, none, none, [], rfl, Same.new nt, upd_same, TL.nil⟩
    · rintro i σ H' _ ⟨v2, v3, v4, xs, rfl, s1, _, _⟩
      exact s1.seq hS
    · rintro i x σ H' hx ⟨v2, v3, v4, xs, rfl, s1, ht, hT⟩
      obtain ⟨c, hc, rfl⟩ := of_get_map hx
      have hi : i < ns.length := (List.getElem?_eq_some_iff.mp hc).1
      have est : touchesM (ns.take (i + 1)) = tbStep (touchesM (ns.take i)) c := fold_take _ _ hc
      have hlen : (touchesM (ns.take i)).length ≤ 1000 := by
        rw [touchesM_len, List.length_take]
        omega
      generalize hm : touchesM (ns.take i) = acc at *
      have hxl : xs.length = acc.length := hT.len
      -- the box
      refine ⟨_, rfl, c, rfl, by decide, fun l hl1 => ?_⟩
      have hl0 : H l = none := s1.free hl1
      have s2 : Same H' (upd H' l (.lst [.int 8, .int 30, .int 1000000, .int 8])) := Same.new hl1
      have ntl : t ≠ l := ne_of_none ht hl1
      refine ⟨_, rfl, _, _, rfl, rfl, ⟨by decide, by decide⟩, _, _, rfl, rfl, (by show (0 : Int) < _; decide), l, _, _, _, rfl, rfl, SqL.of upd_same, mod_at (xs := [8, 30, 1000000, 8]) (c / 2) 4 rfl (by decide), _, _, rfl, rfl, boxMod_pos c, ?_⟩
      -- back
      refine ⟨_, rfl, _, _, rfl, rfl, ⟨by decide, by decide⟩, _, _, rfl, rfl, (by show (0 : Int) < _; decide), ?_⟩
      have ht2 : (upd H' l (.lst [.int 8, .int 30, .int 1000000, .int 8])) t = some (.lst xs) := s2 _ _ ht
      have hT2 := hT.same s2
      have s3 := s1.trans s2
      generalize upd H' l (.lst [.int 8, .int 30, .int 1000000, .int 8]) = H2 at ht2 hT2 s3 ⊢
      -- if 0 < back < 5 and back <= len(touches): box = touches[len(touches) - back][1]
      refine ⟨fun σ' H3 => H3 = H2 ∧ σ' = [some (.ref a), some (.ref t), some (.int c), some (.int (tbBox acc c)), some (.int (c / 8 % 8))], ?_, ?_⟩
      · refine ⟨fun b H3 => H3 = H2 ∧ b = decide (0 < c / 8 % 8 ∧ c / 8 % 8 < 5 ∧ c / 8 % 8 ≤ acc.length), ?_, ?_⟩
        · refine ⟨_, rfl, _, _, rfl, rfl, _, rfl, iteD (fun c1 => ?_) (fun c1 => ?_)⟩
          · refine ⟨_, _, rfl, rfl, _, rfl, iteD (fun c2 => ?_) (fun c2 => ?_)⟩
            · refine ⟨_, rfl, _, rfl, t, _, rfl, .inl (SqL.of ht2), _, _, rfl, rfl, _, rfl, rfl, ?_⟩
              rw [hxl]
              simp [c1, c2]
            · exact ⟨rfl, by simp [c2]⟩
          · exact ⟨_, rfl, iteF ⟨rfl, by simp [c1]⟩⟩
        · rintro b H3 ⟨rfl, rfl⟩
          refine iteD (fun c1 => ?_) (fun c1 => ?_)
          · obtain ⟨c2, c3, c4⟩ := c1
            have hj : acc.length - (c / 8 % 8).toNat < acc.length := by omega
            obtain ⟨v, hv, b, rfl, hb⟩ := hT2.at_ _ _ (List.getElem?_eq_getElem hj)
            refine ⟨_, rfl, _, rfl, t, _, rfl, .inl (SqL.of ht2), _, rfl, _, _, rfl, rfl, t, _, _, _, rfl, rfl, SqL.of ht2, at_of (by rw [hxl]; omega) hv, b, _, _, _, rfl, rfl, hb, rfl, rfl, ?_⟩
            have e : tbBox acc c = (acc[acc.length - (c / 8 % 8).toNat]).2 := by
              unfold tbBox
              rw [if_pos ⟨c2, c3, c4⟩, List.getD_eq_getElem?_getD, List.getElem?_eq_getElem hj]
              rfl
            rw [e]
            rfl
          · have e : tbBox acc c = mixed c % boxMod c := if_neg c1
            rw [e]
            exact ⟨rfl, rfl⟩
      · rintro σ' H3 ⟨rfl, rfl⟩
        -- touches.append((["read", "write"][cell % 2], box))
        refine ⟨_, rfl, .inl ⟨rfl, _, SqL.of ht2⟩, by decide, fun l2 hl2 => ?_⟩
        refine ⟨_, rfl, _, _, rfl, rfl, (by show (0 : Int) < _; decide), l2, _, _, _, rfl, rfl, SqL.of upd_same, kind_at c, _, rfl, (by show 2 ≤ sizeLine; decide), fun p hp => ?_⟩
        have s4 : Same H3 (upd H3 l2 (.lst [.str "read", .str "write"])) := Same.new hl2
        have s5 : Same (upd H3 l2 (.lst [.str "read", .str "write"])) (upd (upd H3 l2 (.lst [.str "read", .str "write"])) p (.tup [.str (kindS (c % 2 == 1)), .int (tbBox acc c)])) := Same.new hp
        have ht3 := (s4.trans s5) _ _ ht2
        refine ⟨t, _, _, rfl, rfl, ht3, sizeL (by omega), ?_⟩
        refine ⟨_, _, _, xs ++ [.ref p], rfl, ((s3.trans s4).trans s5).mut nt, upd_same, ?_⟩
        rw [est]
        exact ((hT2.same (s4.trans s5)).but ht3).snoc ⟨p, rfl, (SqT.of upd_same).but ht3⟩
    · rintro σ H' ⟨v2, v3, v4, xs, rfl, s1, ht, hT⟩
      rw [List.length_map, List.take_length] at hT
      exact ⟨_, rfl, k H' t xs s1 nt ht hT⟩
/-! ### _law_plan_by: some plan that walks -/
def pbStep (room : Int) (s : List Int × List (Option Int)) (p : Int × Int) : List Int × List (Option Int) :=
  if p.1 ∈ s.1 then (s.1, s.2 ++ [none])
  else if (s.1.length : Int) = room then
    (s.1.filter (fun z => !decide (z = s.1.getD (mixed (p.2 + 3) % (s.1.length : Int)).toNat 0)) ++ [p.1], s.2 ++ [some (s.1.getD (mixed (p.2 + 3) % (s.1.length : Int)).toNat 0)])
  else (s.1 ++ [p.1], s.2 ++ [none])
def planBy (room : Int) (lines cells : List Int) : List Int × List (Option Int) := (lines.zip cells).foldl (pbStep room) ([], [])
theorem pbStep_len (room : Int) (s : List Int × List (Option Int)) (p : Int × Int) : (pbStep room s p).1.length ≤ s.1.length + 1 ∧ (pbStep room s p).2.length = s.2.length + 1 := by
  unfold pbStep
  split
  · exact ⟨Nat.le_succ _, by rw [List.length_append]; rfl⟩
  · split
    · refine ⟨?_, by rw [List.length_append]; rfl⟩
      have := List.length_filter_le (fun z => !decide (z = s.1.getD (mixed (p.2 + 3) % (s.1.length : Int)).toNat 0)) s.1
      simp only [List.length_append, List.length_cons, List.length_nil]
      omega
    · simp
theorem planBy_take (room : Int) (zs : List (Int × Int)) (i : Nat) : ((zs.take i).foldl (pbStep room) ([], [])).1.length ≤ i ∧ ((zs.take i).foldl (pbStep room) ([], [])).2.length = min i zs.length := by
  have : ∀ (l : List (Int × Int)) (s : List Int × List (Option Int)), (l.foldl (pbStep room) s).1.length ≤ s.1.length + l.length ∧ (l.foldl (pbStep room) s).2.length = s.2.length + l.length := by
    intro l
    induction l with
    | nil => intro s; exact ⟨Nat.le_refl _, rfl⟩
    | cons t r ih =>
      intro s
      have h1 := pbStep_len room s t
      have h2 := ih (pbStep room s t)
      rw [List.foldl_cons, List.length_cons]
      omega
  have h := this (zs.take i) ([], [])
  simp only [List.length_nil, List.length_take] at h
  omega
def sp__law_plan_by (K : PySem.W.Frag) (cs : Cs) : Sp := fun vs H Q _ => ∃ (a b : Addr) (cells lines : List Int) (room : Int), vs = [.ref a, .ref b, .int room] ∧ SqL K H a (cells.map V.int) ∧ SqL K H b (lines.map V.int) ∧ cells.length = lines.length ∧ lines.length ≤ 1000 ∧ 0 < room ∧
  ∀ H' p, Same H H' → H p = none → H' p = some (.lst ((planBy room lines cells).2.map optV)) → Q (.ref p) H'
theorem ok__law_plan_by (T : Txt K mg cs) (o__law_mixed : Ok P w K mg base CX0 1 cs.f__law_mixed cs.d__law_mixed ["_law_cell"] (sp__law_mixed K cs)) : Ok P w K mg base CX0 2 cs.f__law_plan_by cs.d__law_plan_by ["_law_cells", "_law_lines", "_law_room"] (sp__law_plan_by K cs) := by
  refine T.fn__law_plan_by.ok sc__law_plan_by (fun vs H Q E h => ?_) (fun cdv A outer s H vs Q E hr h => ?_)
  · obtain ⟨a, b, cells, lines, room, rfl, _⟩ := h
    rfl
  · obtain ⟨a, b, cells, lines, room, rfl, hC, hL, hcl, hl, hr0, k⟩ := h
    refine ⟨_, (pss_cons (ps_set (i := 3) sc__law_plan_by.nd rfl (Or.inl rfl) (pe_lst pa_nil))
      (pss_cons (ps_set (i := 4) sc__law_plan_by.nd rfl (Or.inl rfl) (pe_lst pa_nil))
      (pss_cons (ps_for PassesOwn.never rfl (pi_range1 (by rfl) T.no_range (pa_cons (pe_callB call_len_seq (by rfl) T.no_len PySem.boot_len (pa_cons (pv 1) pa_nil)) pa_nil)) (pg_name (i := 5) sc__law_plan_by.nd rfl (Or.inl rfl)) (pss_cons (ps_set (i := 6) sc__law_plan_by.nd rfl (Or.inr rfl) pe_non)
      (pss_cons (ps_if (pt_cmpR op_notIn_seq (pe_ix ix_list (pv 1) (pv 5) (fun _ _ => rfl)) (pv 3) (by rfl)) (pss_cutS (ps_if (pt_cmpR op_eq (pe_callB call_len_seq (by rfl) T.no_len PySem.boot_len (pa_cons (pv 3) pa_nil)) (pv 2) (nomark _)) (pss_one (ps_set (i := 6) sc__law_plan_by.nd rfl (Or.inr rfl) (pe_ix ix_list (pv 3) (pe_op op_mod (pe_callO o__law_mixed hr (by rfl) T.gl__law_mixed pass0 (pa_cons (pe_op op_add (pe_ix ix_list (pv 0) (pv 5) (fun _ _ => rfl)) pe_int) pa_nil)) (pe_callB call_len_seq (by rfl) T.no_len PySem.boot_len (pa_cons (pv 3) pa_nil))) (fun _ _ => rfl)))) pss_nil)
      (pss_one (ps_set (i := 3) sc__law_plan_by.nd rfl (Or.inl rfl) (pe_op op_cat (pe_lc (own := [("_law_line", 7)]) (g := gName 7) rfl sc__law_plan_by.nd (pi_list (pv 3)) (blkOk_by (N := ["_law_cells", "_law_lines", "_law_room", "_law_near", "_law_plan", "_law_k", "_law_goes", "_law_line"]) (sc := defScope s__law_plan_by) (by decide +kernel)) (fun _ _ _ _ _ => pg_name (i := 7) sc__law_plan_by.nd rfl (Or.inl rfl)) (fun _ _ _ _ _ => pts_one (pt_cmpR op_ne (pv 7) (pv 6) (nomark _))) (fun _ _ _ _ _ => (pv 7))) (pe_lst (pa_cons (pe_ix ix_list (pv 1) (pv 5) (fun _ _ => rfl)) pa_nil)))))) pss_nil)
      (pss_one (ps_expr (pe_bm PySem.F.plainAttrs_list PySem.F.slot_list_append PySem.F.type_list_append mt_append (pv 4) (pa_cons (pv 6) pa_nil)))))))
      (pss_one (ps_ret (pv 4)))))), ?_⟩
    refine ⟨Nat.zero_le _, fun n0 nn0 => ⟨Nat.zero_le _, fun pl npl => ?_⟩⟩
    have sp0 : Same H (upd (upd H n0 (.lst [])) pl (.lst [])) := (Same.new nn0).trans (Same.new npl)
    have npl0 : H pl = none := (Same.new nn0).free npl
    have hn0 : (upd (upd H n0 (.lst [])) pl (.lst [])) n0 = some (.lst []) := Same.new npl _ _ upd_same
    generalize hz : lines.zip cells = zs
    have ezl : zs.length = lines.length := by
      rw [← hz, List.length_zip]
      omega
    refine ⟨_, rfl, b, _, rfl, .inl (sp0.seq hL), ((lines.map V.int).length : Nat), rfl, by omega, by rw [List.length_map]; omega, ?_⟩
    have e0 : (((lines.map V.int).length : Nat) : Int).toNat = lines.length := by rw [List.length_map]; rfl
    rw [e0]
    refine for_range (lo := 0) (n := lines.length) (fun i σ H' => ∃ nr v5 v6, σ = [some (.ref a), some (.ref b), some (.int room), some (.ref nr), some (.ref pl), v5, v6, none] ∧ Same H H' ∧ nr ≠ pl ∧
      H' nr = some (.lst (((zs.take i).foldl (pbStep room) ([], [])).1.map V.int)) ∧ H' pl = some (.lst (((zs.take i).foldl (pbStep room) ([], [])).2.map optV))) ?_ ?_ ?_
    · exact ⟨n0, none, none, rfl, sp0, ne_of_none upd_same npl, hn0, upd_same⟩
    · rintro i σ H' hi ⟨nr, v5, v6, rfl, s1, hne, hnr, hpl⟩
      have hzi : (0 : Int) + (i : Int) = ((i : Nat) : Int) := Int.zero_add _
      obtain ⟨line, hline⟩ : ∃ x, lines[i]? = some x := ⟨lines[i], List.getElem?_eq_getElem hi⟩
      obtain ⟨cell, hcell⟩ : ∃ x, cells[i]? = some x := ⟨cells[i], List.getElem?_eq_getElem (by omega)⟩
      have hzs : zs[i]? = some (line, cell) := by
        rw [← hz]
        exact (List.getElem?_zip_eq_some).mpr ⟨hline, hcell⟩
      have est := fold_take (pbStep room) (([], []) : List Int × List (Option Int)) hzs
      have hlen := planBy_take room zs i
      generalize hs : (zs.take i).foldl (pbStep room) ([], []) = st at *
      obtain ⟨near, plan⟩ := st
      simp only at hnr hpl hlen
      have hL1 := s1.seq hL
      have hC1 := s1.seq hC
      -- goes = None; if lines[k] not in near
      refine ⟨_, rfl, _, rfl, b, _, _, _, rfl, rfl, hL1, at_of hzi (nl_get_map hline), _, rfl, nr, _, rfl, .inl (SqL.of hnr), rfl, flat_ints _, _, rfl, iteB (fun c => ?_) (fun c => ?_)⟩
      · have hin : line ∉ near := fun z => by
          have c4 : (!inV (.int line) (near.map V.int)) = true := c
          rw [inV_ints, decide_eq_true z] at c4
          cases c4
        obtain ⟨g, hg⟩ : ∃ g, g = if (near.length : Int) = room then some (near.getD (mixed (cell + 3) % (near.length : Int)).toNat 0) else none := ⟨_, rfl⟩
        refine ⟨fun σ' H2 => σ' = [some (.ref a), some (.ref b), some (.int room), some (.ref nr), some (.ref pl), some (.int (0 + (i : Int))), some (optV g), none] ∧ H2 = H', ?_, ?_⟩
        · refine ⟨_, rfl, nr, _, rfl, .inl (SqL.of hnr), _, rfl, rfl, _, rfl, iteD (fun c2 => ?_) (fun c2 => ?_)⟩
          · have c3 : (near.length : Int) = room := by
              have := V.int.inj c2
              rw [List.length_map] at this
              exact this
            have hpos : 0 < (near.length : Int) := by omega
            rw [if_pos c3] at hg
            have hnn := Int.emod_nonneg (mixed (cell + 3)) (show (near.length : Int) ≠ 0 by omega)
            have hlt := Int.emod_lt_of_pos (mixed (cell + 3)) hpos
            have hat := at_getD (xs := near) hnn hlt
            have e5 : (((near.map V.int).length : Nat) : Int) = (near.length : Int) := by rw [List.length_map]
            have hat2 : atI (near.map V.int) (mixed (cell + 3) % (((near.map V.int).length : Nat) : Int)) = some (.int (near.getD (mixed (cell + 3) % (near.length : Int)).toNat 0)) := by
              rw [e5]
              exact hat
            refine ⟨_, rfl, _, rfl, _, rfl, a, _, _, _, rfl, rfl, hC1, at_of hzi (nl_get_map hcell), _, _, rfl, rfl, cell + 3, rfl, _, rfl, nr, _, rfl, .inl (SqL.of hnr), _, _, rfl, rfl, (by rw [e5]; exact hpos), nr, _, _, _, rfl, rfl, SqL.of hnr, hat2, ?_, rfl⟩
            rw [hg]
            rfl
          · have c3 : ¬ (near.length : Int) = room := fun z => c2 (by rw [List.length_map, z])
            rw [if_neg c3] at hg
            rw [hg]
            exact ⟨rfl, rfl⟩
        rintro σ' H2 ⟨rfl, rfl⟩
        -- near = [line for line in near if line != goes] + [lines[k]]
        have hk : pbStep room (near, plan) (line, cell) = (near.filter (fun z => !decide (some z = g)) ++ [line], plan ++ [g]) := by
          unfold pbStep
          rw [if_neg hin]
          by_cases c3 : (near.length : Int) = room
          · rw [if_pos c3] at hg
            rw [if_pos c3, hg]
            simp
          · rw [if_neg c3] at hg
            rw [if_neg c3, hg]
            have e6 : (near.filter fun z => !decide (some z = (none : Option Int))) = near := by simp
            rw [e6]
        refine ⟨_, rfl, nr, rfl, ⟨_, SqL.of hnr⟩, fun D nD => lc_list (xs := near.map V.int) (fun j H3 => Same H2 H3 ∧ H3 D = some (.lst (((near.take j).filter fun z => !decide (some z = g)).map V.int))) ⟨Same.new nD, upd_same⟩ (fun j H3 _ p => SqL.of (p.1 _ _ hnr)) ?_ ?_⟩
        · rintro j x H3 hx ⟨s2, hD⟩
          obtain ⟨y, hy, rfl⟩ := of_get_map hx
          have hft : (near.take (j + 1)).filter (fun z => !decide (some z = g)) = (near.take j).filter (fun z => !decide (some z = g)) ++ (if (!decide (some y = g)) = true then [y] else []) := by
            rw [List.take_add_one, hy, List.filter_append]
            show _ ++ List.filter _ [y] = _
            simp only [List.filter_cons, List.filter_nil]
          have esc : scal (.int y) (optV g) = true := by cases g <;> rfl
          have edc : (V.int y = optV g) ↔ (some y = g) := by
            cases g with
            | none => exact ⟨fun z => (nomatch z), fun z => (nomatch z)⟩
            | some x => exact ⟨fun z => congrArg some (V.int.inj z), fun z => congrArg V.int (Option.some.inj z)⟩
          have hll : (((near.take j).filter fun z => !decide (some z = g)).map V.int).length < 1000000 := by
            rw [List.length_map]
            have h1 := List.length_filter_le (fun z => !decide (some z = g)) (near.take j)
            rw [List.length_take] at h1
            omega
          refine ⟨rfl, _, rfl, _, rfl, esc, _, rfl, iteN (fun c2 => ?_) (fun c2 => ?_)⟩
          · have c3 : ¬ some y = g := fun z => c2 (edc.mpr z)
            refine ⟨_, rfl, _, hD, sizeL hll, s2.mut nD, ?_⟩
            rw [upd_same, hft, if_pos (by simp [c3]), List.map_append]
            rfl
          · have c3 : some y = g := edc.mp c2
            refine ⟨s2, ?_⟩
            rw [hft, if_neg (by simp [c3]), List.append_nil]
            exact hD
        rintro H3 ⟨s2, hD⟩
        rw [List.length_map, List.take_length] at hD
        have hL3 := s2.seq hL1
        refine ⟨_, rfl, _, rfl, b, _, _, _, rfl, rfl, hL3, at_of hzi (nl_get_map hline), (by show 1 ≤ sizeLine; decide), fun l4 nl4 => ?_⟩
        have s4 : Same H3 (upd H3 l4 (.lst [.int line])) := Same.new nl4
        have hll : ((near.filter fun z => !decide (some z = g)).map V.int).length ≤ 1000 := by
          rw [List.length_map]
          have h1 := List.length_filter_le (fun z => !decide (some z = g)) near
          omega
        refine ⟨D, l4, _, _, rfl, rfl, s4 _ _ hD, upd_same, Nat.le_of_lt (sizeL (by simp only [List.length_append, List.length_cons, List.length_nil]; omega)), fun c5 nc5 => ?_⟩
        have s5 := s4.trans (Same.new (o := .lst ((near.filter fun z => !decide (some z = g)).map V.int ++ [V.int line])) nc5)
        have hpl5 := (s2.trans s5) _ _ hpl
        have hn5 : c5 ≠ pl := fun e => by
          rw [e, (s2.trans s4) _ _ hpl] at nc5
          cases nc5
        -- plan.append(goes)
        refine ⟨_, rfl, .inl ⟨rfl, _, SqL.of hpl5⟩, _, rfl, pl, _, _, rfl, rfl, hpl5, sizeL (by rw [List.length_map]; omega), ?_⟩
        refine ⟨c5, _, _, rfl, ((s1.trans s2).trans s5).mut npl0, hn5, ?_, ?_⟩
        · rw [upd_ne hn5, upd_same, snoc_map, est, hk]
        · rw [upd_same, snoc_map, est, hk]
      · have hin : line ∈ near := by
          have c4 : (!inV (.int line) (near.map V.int)) = false := c
          rw [inV_ints] at c4
          simpa using c4
        refine ⟨_, rfl, .inl ⟨rfl, _, SqL.of hpl⟩, _, rfl, pl, _, _, rfl, rfl, hpl, sizeL (by rw [List.length_map]; omega), ?_⟩
        have hk : pbStep room (near, plan) (line, cell) = (near, plan ++ [none]) := by
          unfold pbStep
          rw [if_pos hin]
        refine ⟨nr, _, _, rfl, s1.mut npl0, hne, ?_, ?_⟩
        · rw [upd_ne hne, est, hk]
          exact hnr
        · rw [upd_same, est, hk]
          exact congrArg (fun l => some (HO.lst l)) (snoc_map optV plan none)
    · rintro σ H' ⟨nr, v5, v6, rfl, s1, hne, hnr, hpl⟩
      rw [List.take_of_length_le (by omega), ← hz] at hpl
      exact ⟨_, rfl, k H' pl s1 npl0 hpl⟩
/-! ### _law_missed -/
/-- what stays near stays apart, and fits the room -/
theorem filter_erase {x : Int} : ∀ {l : List Int}, l.Nodup → x ∈ l → l.filter (fun z => !decide (z = x)) = l.eraseIdx (l.idxOf x)
  | [], _, h => by simp at h
  | y :: r, nd, h => by
    obtain ⟨h1, h2⟩ := List.nodup_cons.mp nd
    by_cases e : y = x
    · subst e
      have e2 : (y :: r).idxOf y = 0 := by simp
      rw [e2, List.filter_cons, if_neg (by simp)]
      show _ = r
      rw [List.filter_eq_self]
      intro z hz
      have : ¬ z = y := fun q => h1 (by rw [← q]; exact hz)
      simp [this]
    · have h3 : x ∈ r := by
        rcases List.mem_cons.mp h with q | q
        · exact absurd q.symm e
        · exact q
      have e2 : (y :: r).idxOf x = r.idxOf x + 1 := by
        rw [List.idxOf_cons]
        have e' : (y == x) = false := by simpa using e
        rw [e']
        rfl
      rw [e2, List.filter_cons, if_pos (by simp [e]), filter_erase h2 h3]
      rfl
theorem wkOne_ok {room : Int} {s s' : List Int × Int} {p : Int × Option Int} (h : wkOne room s p = some s') (nd : s.1.Nodup) (hr : (s.1.length : Int) ≤ room) (h0 : 0 < room) : s'.1.Nodup ∧ (s'.1.length : Int) ≤ room := by
  unfold wkOne at h
  split at h
  · rename_i hm
    split at h
    · cases h
    · split at h
      · rename_i x _ hx
        cases h
        have hlt := List.idxOf_lt_length_of_mem hx
        have hl := List.length_eraseIdx_of_lt hlt
        refine ⟨?_, ?_⟩
        · show (s.1.eraseIdx (s.1.idxOf x) ++ [p.1]).Nodup
          rw [← filter_erase nd hx]
          refine nd_snoc (nd.sublist List.filter_sublist) fun q => hm.1 (List.mem_filter.mp q).1
        · show (((s.1.eraseIdx (s.1.idxOf x) ++ [p.1]).length : Nat) : Int) ≤ room
          rw [List.length_append, hl, List.length_singleton]
          omega
      · cases h
  · rename_i hm
    split at h
    · cases h
    · split at h
      · cases h
        exact ⟨nd, hr⟩
      · rename_i hn
        cases h
        refine ⟨nd_snoc nd hn, ?_⟩
        show (((s.1 ++ [p.1]).length : Nat) : Int) ≤ room
        have : ¬ (s.1.length : Int) = room := fun q => hm ⟨hn, q⟩
        rw [List.length_append, List.length_singleton]
        omega
def missedM (lines : List Int) (room : Int) (plan : List (Option Int)) : Option Int := if plan.length = lines.length then (wkAll room (lines.zip plan)).map (·.2) else none
def sp__law_missed (K : PySem.W.Frag) (cs : Cs) : Sp := fun vs H Q _ => ∃ (a b : Addr) (lines : List Int) (plan : List (Option Int)) (room : Int), vs = [.ref a, .int room, .ref b] ∧ SqL K H a (lines.map V.int) ∧ SqL K H b (plan.map optV) ∧ lines.length ≤ 1000 ∧ 0 < room ∧
  ∀ H', Same H H' → Q (optV (missedM lines room plan)) H'
theorem ok__law_missed (T : Txt K mg cs)  : Ok P w K mg base CX0 1 cs.f__law_missed cs.d__law_missed ["_law_lines", "_law_room", "_law_plan"] (sp__law_missed K cs) := by
  refine T.fn__law_missed.ok sc__law_missed (fun vs H Q E h => ?_) (fun cdv A outer s H vs Q E hr h => ?_)
  · obtain ⟨a, b, lines, plan, room, rfl, _⟩ := h
    rfl
  · obtain ⟨a, b, lines, plan, room, rfl, hL, hP, hl, hr0, k⟩ := h
    refine ⟨_, (pss_cons (ps_set (i := 3) sc__law_missed.nd rfl (Or.inl rfl) (pe_lst pa_nil))
      (pss_cons (ps_set (i := 4) sc__law_missed.nd rfl (Or.inl rfl) pe_int)
      (pss_cons (ps_if (pt_cmpR op_ne (pe_callB call_len_seq (by rfl) T.no_len PySem.boot_len (pa_cons (pv 2) pa_nil)) (pe_callB call_len_seq (by rfl) T.no_len PySem.boot_len (pa_cons (pv 0) pa_nil)) (nomark _)) (pss_one (ps_ret pe_non)) pss_nil)
      (pss_cons (ps_for PassesOwn.never rfl (pi_range1 (by rfl) T.no_range (pa_cons (pe_callB call_len_seq (by rfl) T.no_len PySem.boot_len (pa_cons (pv 0) pa_nil)) pa_nil)) (pg_name (i := 5) sc__law_missed.nd rfl (Or.inr rfl)) (pss_cutS (ps_if (pt_jn (PW.pt (pw_or (pt_cmpR op_in_seq (pe_ix ix_list (pv 0) (pv 5) (fun _ _ => rfl)) (pv 3) (by rfl)) (pw_or1 (pt_cmpR op_lt (pe_callB call_len_seq (by rfl) T.no_len PySem.boot_len (pa_cons (pv 3) pa_nil)) (pv 1) (nomark _)))))) (pss_one (ps_if (pt_cmpR op_notN (pe_ix ix_list (pv 2) (pv 5) (fun _ _ => rfl)) pe_non (nomark _)) (pss_one (ps_ret pe_non)) pss_nil)) (pss_one (ps_if (pt_jn (PW.pt (pw_or (pt_cmpR op_isN (pe_ix ix_list (pv 2) (pv 5) (fun _ _ => rfl)) pe_non (nomark _)) (pw_or1 (pt_cmpR op_notIn_seq (pe_ix ix_list (pv 2) (pv 5) (fun _ _ => rfl)) (pv 3) (by rfl)))))) (pss_one (ps_ret pe_non)) pss_nil)))
      (pss_one (ps_if (pt_cmpR op_notIn_seq (pe_ix ix_list (pv 0) (pv 5) (fun _ _ => rfl)) (pv 3) (by rfl)) (pss_cons (ps_set (i := 4) sc__law_missed.nd rfl (Or.inl rfl) (pe_op op_add (pv 4) pe_int))
      (pss_one (ps_set (i := 3) sc__law_missed.nd rfl (Or.inl rfl) (pe_op op_cat (pe_lc (own := [("_law_line", 6)]) (g := gName 6) rfl sc__law_missed.nd (pi_list (pv 3)) (blkOk_by (N := ["_law_lines", "_law_room", "_law_plan", "_law_near", "_law_many", "_law_k", "_law_line"]) (sc := defScope s__law_missed) (by decide +kernel)) (fun _ _ _ _ _ => pg_name (i := 6) sc__law_missed.nd rfl (Or.inl rfl)) (fun _ _ _ _ _ => pts_one (pt_cmpR op_ne (pv 6) (pe_ix (ix_listK (K := K) rfl) (pv 2) (pv 5) (fun _ _ => rfl)) (nomark _))) (fun _ _ _ _ _ => (pv 6))) (pe_lst (pa_cons (pe_ix ix_list (pv 0) (pv 5) (fun _ _ => rfl)) pa_nil)))))) pss_nil))))
      (pss_one (ps_ret (pv 4))))))), ?_⟩
    refine ⟨Nat.zero_le _, fun n0 nn0 => ?_⟩
    have s0 : Same H (upd H n0 (.lst [])) := Same.new nn0
    -- if len(plan) != len(lines): return None
    refine ⟨_, rfl, b, _, rfl, .inl (s0.seq hP), _, rfl, a, _, rfl, .inl (s0.seq hL), rfl, _, rfl, iteN (fun c => ?_) (fun c => ?_)⟩
    · have e : missedM lines room plan = none := if_neg fun z => c (by rw [List.length_map, List.length_map, z])
      rw [e] at k
      exact k _ s0
    have elen : plan.length = lines.length := by
      have := V.int.inj c
      rw [List.length_map, List.length_map] at this
      omega
    have em : missedM lines room plan = (wkAll room (lines.zip plan)).map (·.2) := if_pos elen
    generalize hz : lines.zip plan = zs at em
    have ezl : zs.length = lines.length := by
      rw [← hz, List.length_zip]
      omega
    refine ⟨_, rfl, a, _, rfl, .inl (s0.seq hL), ((lines.map V.int).length : Nat), rfl, by omega, by rw [List.length_map]; omega, ?_⟩
    have e0 : (((lines.map V.int).length : Nat) : Int).toNat = lines.length := by rw [List.length_map]; rfl
    rw [e0]
    refine for_range (lo := 0) (n := lines.length) (fun i σ H' => ∃ nr v5 near many, σ = [some (.ref a), some (.int room), some (.ref b), some (.ref nr), some (.int many), v5, none] ∧ Same H H' ∧
      H' nr = some (.lst (near.map V.int)) ∧ wkAll room (zs.take i) = some (near, many) ∧ near.Nodup ∧ (near.length : Int) ≤ room) ?_ ?_ ?_
    · exact ⟨n0, none, [], 0, rfl, s0, upd_same, by rw [List.take_zero]; rfl, List.nodup_nil, by simp only [List.length_nil]; omega⟩
    · rintro i σ H' hi ⟨nr, v5, near, many, rfl, s1, hnr, hwk, nd, hroom⟩
      have hzi : (0 : Int) + (i : Int) = ((i : Nat) : Int) := Int.zero_add _
      obtain ⟨line, hline⟩ : ∃ x, lines[i]? = some x := ⟨lines[i], List.getElem?_eq_getElem hi⟩
      obtain ⟨goes, hgoes⟩ : ∃ x, plan[i]? = some x := ⟨plan[i], List.getElem?_eq_getElem (by omega)⟩
      have hzs : zs[i]? = some (line, goes) := by
        rw [← hz]
        exact (List.getElem?_zip_eq_some).mpr ⟨hline, hgoes⟩
      have est : wkAll room (zs.take (i + 1)) = wkOne room (near, many) (line, goes) := by
        have q : wkAll room (zs.take (i + 1)) = wkF room (wkAll room (zs.take i)) (line, goes) := fold_take _ _ hzs
        rw [q, hwk]
        rfl
      have hlen : near.length ≤ i := wkAll_len hwk
      have hL1 := s1.seq hL
      have hP1 := s1.seq hP
      have hline' := nl_get_map (f := V.int) hline
      have hgoes' := nl_get_map (f := optV) hgoes
      have bad : wkOne room (near, many) (line, goes) = none → Q .non H' := fun e => by
        rw [em, wkAll_cut (i := i + 1) (by rw [est]; exact e)] at k
        exact k H' s1
      -- the first if
      refine ⟨fun σ' H2 => H2 = H' ∧ σ' = [some (.ref a), some (.int room), some (.ref b), some (.ref nr), some (.int many), some (.int (0 + (i : Int))), none] ∧ wkOne room (near, many) (line, goes) ≠ none, ?_, ?_⟩
      · refine ⟨fun x H2 => x = decide (line ∈ near ∨ (near.length : Int) < room) ∧ H2 = H', ?_, ?_⟩
        · refine ⟨_, rfl, _, rfl, a, _, _, _, rfl, rfl, hL1, at_of hzi hline', _, rfl, nr, _, rfl, .inl (SqL.of hnr), rfl, flat_ints _, _, rfl, iteB (fun c1 => ?_) (fun c1 => ?_)⟩
          · have c2 : line ∈ near := of_decide_eq_true ((inV_ints _ _).symm.trans c1)
            exact ⟨by simp [c2], rfl⟩
          · have c2 : ¬ line ∈ near := of_decide_eq_false ((inV_ints _ _).symm.trans c1)
            refine ⟨_, rfl, nr, _, rfl, .inl (SqL.of hnr), _, rfl, _, _, rfl, rfl, _, rfl, ?_, rfl⟩
            rw [List.length_map]
            simp [c2]
        rintro x H2 ⟨rfl, rfl⟩
        refine iteD (fun c1 => ?_) (fun c1 => ?_)
        · have hm : ¬ (line ∉ near ∧ (near.length : Int) = room) := fun z => by
            rcases c1 with c1 | c1
            · exact z.1 c1
            · omega
          refine ⟨_, rfl, _, rfl, b, _, _, _, rfl, rfl, hP1, at_of hzi hgoes', rfl, _, rfl, iteN (fun c2 => ?_) (fun c2 => ?_)⟩
          · refine bad ?_
            cases goes with
            | none => exact absurd rfl c2
            | some g =>
              unfold wkOne
              rw [if_neg hm]
          · refine ⟨rfl, rfl, ?_⟩
            cases goes with
            | none =>
              unfold wkOne
              rw [if_neg hm]
              show (if line ∈ near then some (near, many) else some (near ++ [line], many + 1)) ≠ none
              split <;> exact fun z => nomatch z
            | some g => exact nomatch c2
        · have hm : line ∉ near ∧ (near.length : Int) = room := ⟨fun z => c1 (Or.inl z), by
            have : ¬ (near.length : Int) < room := fun z => c1 (Or.inr z)
            omega⟩
          refine ⟨fun x H3 => x = decide (wkOne room (near, many) (line, goes) = none) ∧ H3 = H2, ?_, ?_⟩
          · refine ⟨_, rfl, _, rfl, b, _, _, _, rfl, rfl, hP1, at_of hzi hgoes', rfl, _, rfl, iteD (fun c2 => ?_) (fun c2 => ?_)⟩
            · refine ⟨?_, rfl⟩
              cases goes with
              | none =>
                unfold wkOne
                rw [if_pos hm]
                rfl
              | some g => exact nomatch c2
            · cases goes with
              | none => exact absurd rfl c2
              | some g =>
                refine ⟨_, rfl, _, rfl, b, _, _, _, rfl, rfl, hP1, at_of hzi hgoes', _, rfl, nr, _, rfl, .inl (SqL.of hnr), rfl, flat_ints _, _, rfl, ?_, rfl⟩
                show (!inV (.int g) (near.map V.int)) = _
                rw [inV_ints]
                unfold wkOne
                rw [if_pos hm]
                show (!decide (g ∈ near)) = decide ((if g ∈ near then some (near.eraseIdx (near.idxOf g) ++ [line], many + 1) else none) = none)
                by_cases c3 : g ∈ near <;> simp [c3]
          rintro x H3 ⟨rfl, rfl⟩
          exact iteD (fun c2 => bad c2) (fun c2 => ⟨rfl, rfl, c2⟩)
      rintro σ' H2 ⟨rfl, rfl, hok⟩
      obtain ⟨⟨near', many'⟩, hst⟩ : ∃ s', wkOne room (near, many) (line, goes) = some s' := by
        cases e : wkOne room (near, many) (line, goes) with
        | none => exact absurd e hok
        | some s' => exact ⟨s', rfl⟩
      obtain ⟨nd', hroom'⟩ := wkOne_ok hst nd hroom hr0
      -- if lines[k] not in near
      refine ⟨_, rfl, _, rfl, a, _, _, _, rfl, rfl, hL1, at_of hzi hline', _, rfl, nr, _, rfl, .inl (SqL.of hnr), rfl, flat_ints _, _, rfl, iteB (fun c1 => ?_) (fun c1 => ?_)⟩
      · have hin : line ∉ near := fun z => by
          have c4 : (!inV (.int line) (near.map V.int)) = true := c1
          rw [inV_ints, decide_eq_true z] at c4
          cases c4
        have hk : near' = near.filter (fun z => !decide (some z = goes)) ++ [line] ∧ many' = many + 1 := by
          by_cases hm : line ∉ near ∧ (near.length : Int) = room
          · unfold wkOne at hst
            rw [if_pos hm] at hst
            cases goes with
            | none => cases hst
            | some g =>
              have hst : (if g ∈ near then some (near.eraseIdx (near.idxOf g) ++ [line], many + 1) else none) = some (near', many') := hst
              by_cases hg : g ∈ near
              · rw [if_pos hg] at hst
                cases hst
                refine ⟨?_, rfl⟩
                rw [← filter_erase nd hg]
                simp
              · rw [if_neg hg] at hst
                cases hst
          · unfold wkOne at hst
            rw [if_neg hm] at hst
            cases goes with
            | none =>
              have hst : (if line ∈ near then some (near, many) else some (near ++ [line], many + 1)) = some (near', many') := hst
              rw [if_neg hin] at hst
              cases hst
              refine ⟨?_, rfl⟩
              have e6 : (near.filter fun z => !decide (some z = (none : Option Int))) = near := by simp
              rw [e6]
            | some g => cases hst
        obtain ⟨hk1, hk2⟩ := hk
        -- many = many + 1; near = [line for line in near if line != plan[k]] + [lines[k]]
        refine ⟨_, rfl, _, _, rfl, rfl, _, rfl, nr, rfl, ⟨_, SqL.of hnr⟩, fun D nD => lc_list (xs := near.map V.int) (fun j H3 => Same H2 H3 ∧ H3 D = some (.lst (((near.take j).filter fun z => !decide (some z = goes)).map V.int))) ⟨Same.new nD, upd_same⟩ (fun j H3 _ p => SqL.of (p.1 _ _ hnr)) ?_ ?_⟩
        · rintro j x H3 hx ⟨s2, hD⟩
          obtain ⟨y, hy, rfl⟩ := of_get_map hx
          have hft : (near.take (j + 1)).filter (fun z => !decide (some z = goes)) = (near.take j).filter (fun z => !decide (some z = goes)) ++ (if (!decide (some y = goes)) = true then [y] else []) := by
            rw [List.take_add_one, hy, List.filter_append]
            show _ ++ List.filter _ [y] = _
            simp only [List.filter_cons, List.filter_nil]
          have esc : scal (.int y) (optV goes) = true := by cases goes <;> rfl
          have edc : (V.int y = optV goes) ↔ (some y = goes) := by
            cases goes with
            | none => exact ⟨fun z => (nomatch z), fun z => (nomatch z)⟩
            | some x => exact ⟨fun z => congrArg some (V.int.inj z), fun z => congrArg V.int (Option.some.inj z)⟩
          have hll : (((near.take j).filter fun z => !decide (some z = goes)).map V.int).length < 1000000 := by
            rw [List.length_map]
            have h1 := List.length_filter_le (fun z => !decide (some z = goes)) (near.take j)
            rw [List.length_take] at h1
            omega
          refine ⟨rfl, _, rfl, _, rfl, _, rfl, b, _, _, _, rfl, rfl, s2.seq hP1, at_of hzi hgoes', esc, _, rfl, iteN (fun c2 => ?_) (fun c2 => ?_)⟩
          · have c3 : ¬ some y = goes := fun z => c2 (edc.mpr z)
            refine ⟨_, rfl, _, hD, sizeL hll, s2.mut nD, ?_⟩
            rw [upd_same, hft, if_pos (by simp [c3]), List.map_append]
            rfl
          · have c3 : some y = goes := edc.mp c2
            refine ⟨s2, ?_⟩
            rw [hft, if_neg (by simp [c3]), List.append_nil]
            exact hD
        rintro H3 ⟨s2, hD⟩
        rw [List.length_map, List.take_length] at hD
        have hL3 := s2.seq hL1
        refine ⟨_, rfl, _, rfl, a, _, _, _, rfl, rfl, hL3, at_of hzi hline', (by show 1 ≤ sizeLine; decide), fun l4 nl4 => ?_⟩
        have s4 : Same H3 (upd H3 l4 (.lst [.int line])) := Same.new nl4
        have hll : ((near.filter fun z => !decide (some z = goes)).map V.int).length ≤ 1000 := by
          rw [List.length_map]
          have h1 := List.length_filter_le (fun z => !decide (some z = goes)) near
          omega
        refine ⟨D, l4, _, _, rfl, rfl, s4 _ _ hD, upd_same, Nat.le_of_lt (sizeL (by simp only [List.length_append, List.length_cons, List.length_nil]; omega)), fun c5 nc5 => ?_⟩
        have s5 := s4.trans (Same.new (o := .lst ((near.filter fun z => !decide (some z = goes)).map V.int ++ [V.int line])) nc5)
        refine ⟨c5, some (.int (0 + (i : Int))), near', many', ?_, (s1.trans s2).trans s5, ?_, by rw [est]; exact hst, nd', hroom'⟩
        · rw [hk2]
          rfl
        · rw [upd_same, snoc_map, hk1]
      · have hin : line ∈ near := by
          have c4 : (!inV (.int line) (near.map V.int)) = false := c1
          rw [inV_ints] at c4
          simpa using c4
        have hk : near' = near ∧ many' = many := by
          have hm : ¬ (line ∉ near ∧ (near.length : Int) = room) := fun z => z.1 hin
          unfold wkOne at hst
          rw [if_neg hm] at hst
          cases goes with
          | none =>
            have hst : (if line ∈ near then some (near, many) else some (near ++ [line], many + 1)) = some (near', many') := hst
            rw [if_pos hin] at hst
            cases hst
            exact ⟨rfl, rfl⟩
          | some g => cases hst
        obtain ⟨rfl, rfl⟩ := hk
        exact ⟨nr, _, _, _, rfl, s1, hnr, by rw [est]; exact hst, nd', hroom'⟩
    · rintro σ H' ⟨nr, v5, near, many, rfl, s1, hnr, hwk, _, _⟩
      rw [List.take_of_length_le (by omega)] at hwk
      rw [em, hwk] at k
      exact ⟨_, rfl, k H' s1⟩
/-! ### _law_alone: of the five refusals the error is just the one that is asked for -/
/-- which of the five a class is, by the truth values of the five questions -/
structure OneOf (K : PySem.W.Frag) (cs : Cs) (D : Addr) (b0 b1 b2 b3 b4 : Bool) : Prop where
  c : ExcC K D
  h0 : PySem.W.kitOne K (.ref D) (.ref cs.C_BadRow) = some b0
  h1 : PySem.W.kitOne K (.ref D) (.ref cs.C_BadBoxes) = some b1
  h2 : PySem.W.kitOne K (.ref D) (.ref cs.C_BadShape) = some b2
  h3 : PySem.W.kitOne K (.ref D) (.ref cs.C_NoBox) = some b3
  h4 : PySem.W.kitOne K (.ref D) (.ref cs.C_BadPlan) = some b4
  h5 : PySem.W.kitOne K (.ref D) (.ref cs.C_LineError) = some true
  h6 : PySem.W.kitOne K (.ref D) (.type "ValueError") = some true
def sp__law_alone (K : PySem.W.Frag) (cs : Cs) (a D : Addr) : Sp := fun vs H Q _ => ∃ (own : Nat) (b0 b1 b2 b3 b4 : Bool), vs = [.ref a, .int (own : Int)] ∧ OneOf K cs D b0 b1 b2 b3 b4 ∧ [b0, b1, b2, b3, b4].count true = 1 ∧ [b0, b1, b2, b3, b4][own]? = some true ∧
  ∀ H', Same H H' → Q (.bl true) H'
theorem ok__law_alone (T : Txt K mg cs)  : OkP P w K mg base 1 cs.f__law_alone cs.d__law_alone ["_law_e", "_law_own"] (sp__law_alone K cs) := by
  refine T.fn__law_alone.okP sc__law_alone (fun a D vs H Q E h => ?_) (fun cdv A outer s H vs Q E p D hr hz hf h => ?_)
  · obtain ⟨own, b0, b1, b2, b3, b4, rfl, _⟩ := h
    rfl
  · obtain ⟨own, b0, b1, b2, b3, b4, rfl, O, hc, ho, k⟩ := h
    have hC := O.c
    refine ⟨_, (pss_cons (ps_set (i := 2) sc__law_alone.nd rfl (Or.inl rfl) (pe_lst (pa_cons (pe_callB (call_isP hC List.mem_cons_self hz hf) (by rfl) T.no_isinstance boot_isinstance (pa_cons (pv 0) (pa_cons (pe_glob (v := .ref cs.C_BadRow) (by rfl) T.ex_BadRow.g rfl) pa_nil))) (pa_cons (pe_callB (call_isP hC List.mem_cons_self hz hf) (by rfl) T.no_isinstance boot_isinstance (pa_cons (pv 0) (pa_cons (pe_glob (v := .ref cs.C_BadBoxes) (by rfl) T.ex_BadBoxes.g rfl) pa_nil))) (pa_cons (pe_callB (call_isP hC List.mem_cons_self hz hf) (by rfl) T.no_isinstance boot_isinstance (pa_cons (pv 0) (pa_cons (pe_glob (v := .ref cs.C_BadShape) (by rfl) T.ex_BadShape.g rfl) pa_nil))) (pa_cons (pe_callB (call_isP hC List.mem_cons_self hz hf) (by rfl) T.no_isinstance boot_isinstance (pa_cons (pv 0) (pa_cons (pe_glob (v := .ref cs.C_NoBox) (by rfl) T.ex_NoBox.g rfl) pa_nil))) pa_nil))))))
      (pss_cons (ps_expr (pe_bm PySem.F.plainAttrs_list PySem.F.slot_list_append PySem.F.type_list_append mt_append (pv 2) (pa_cons (pe_callB (call_isP hC List.mem_cons_self hz hf) (by rfl) T.no_isinstance boot_isinstance (pa_cons (pv 0) (pa_cons (pe_glob (v := .ref cs.C_BadPlan) (by rfl) T.ex_BadPlan.g rfl) pa_nil))) pa_nil)))
      (pss_one (ps_ret (pe_and (pe_cmpR op_eq (pe_bm PySem.F.plainAttrs_list PySem.F.slot_list_count PySem.F.type_list_count mt_countT (pv 2) (pa_cons pe_bl pa_nil)) pe_int (nomark _)) (pe_and (pe_ix ix_list (pv 2) (pv 1) (fun _ _ => rfl)) (pe_and (pe_callB (call_isP hC List.mem_cons_self hz hf) (by rfl) T.no_isinstance boot_isinstance (pa_cons (pv 0) (pa_cons (pe_glob (v := .ref cs.C_LineError) (by rfl) T.ex_LineError.g rfl) pa_nil))) (pe_one (pe_callB (call_isP hC List.mem_cons_self hz hf) (by rfl) T.no_isinstance boot_isinstance (pa_cons (pv 0) (pa_cons (pe_bltn (v := .ty "ValueError") (by rfl) T.no_ValueError (by decide +kernel) rfl) pa_nil))))))))))), ?_⟩
    refine ⟨_, rfl, _, _, _, rfl, (fun _ r => r), O.h0, _, rfl, _, _, _, rfl, (fun _ r => r), O.h1, _, rfl, _, _, _, rfl, (fun _ r => r), O.h2, _, rfl, _, _, _, rfl, (fun _ r => r), O.h3, (by show 4 ≤ sizeLine; decide), fun l hl => ?_⟩
    refine ⟨_, rfl, .inl ⟨rfl, _, SqL.of upd_same⟩, _, rfl, _, _, _, rfl, (fun _ r => r), O.h4, l, _, _, rfl, rfl, upd_same, (by show 4 < sizeLine; decide), ?_⟩
    have s1 : Same H (upd (upd H l (.lst [.bl b0, .bl b1, .bl b2, .bl b3])) l (.lst [.bl b0, .bl b1, .bl b2, .bl b3, .bl b4])) := (Same.new hl).mut hl
    refine ⟨_, rfl, .inl ⟨rfl, _, SqL.of upd_same⟩, l, [b0, b1, b2, b3, b4], rfl, rfl, SqL.of upd_same, rfl, _, rfl, ?_⟩
    rw [hc]
    refine iteT ⟨_, rfl, _, rfl, l, _, _, _, rfl, rfl, SqL.of upd_same, atI_nat (nl_get_map (f := V.bl) (xs := [b0, b1, b2, b3, b4]) ho), _, rfl, iteT ?_⟩
    exact ⟨_, rfl, _, _, _, rfl, (fun _ r => r), O.h5, _, rfl, iteT ⟨_, rfl, _, _, _, rfl, (fun _ r => r), O.h6, k _ s1⟩⟩
/-! ### the drawn room and width -/
def roomM (f : Int) : Int := [1 + f / 4 % 5, 1 + f / 4 % 14, 1 + f / 4 % 3, 2].getD (f % 4).toNat 0
def widthM (f : Int) : Int := [1, 2, 1 + f / 56 % 4, 1 + f / 56 % 200].getD (mixed f % 4).toNat 0
theorem roomM_pos (f : Int) : 0 < roomM f ∧ roomM f < 1000000000 := by
  unfold roomM
  rcases mod4 f with h | h | h | h <;> rw [h]
  · show 0 < 1 + f / 4 % 5 ∧ 1 + f / 4 % 5 < 1000000000
    omega
  · show 0 < 1 + f / 4 % 14 ∧ 1 + f / 4 % 14 < 1000000000
    omega
  · show 0 < 1 + f / 4 % 3 ∧ 1 + f / 4 % 3 < 1000000000
    omega
  · show (0 : Int) < 2 ∧ (2 : Int) < 1000000000
    omega
theorem widthM_pos (f : Int) : 0 < widthM f ∧ widthM f < 1000000000 := by
  unfold widthM
  rcases mod4 (mixed f) with h | h | h | h <;> rw [h]
  · show (0 : Int) < 1 ∧ (1 : Int) < 1000000000
    omega
  · show (0 : Int) < 2 ∧ (2 : Int) < 1000000000
    omega
  · show 0 < 1 + f / 56 % 4 ∧ 1 + f / 56 % 4 < 1000000000
    omega
  · show 0 < 1 + f / 56 % 200 ∧ 1 + f / 56 % 200 < 1000000000
    omega
def linesOf (w : Int) (ts : List Tch) : List Int := ts.map fun t => t.2 / w
theorem linesOf_len (w : Int) (ts : List Tch) : (linesOf w ts).length = ts.length := by
  unfold linesOf
  rw [List.length_map]
theorem linesOf_snoc {w : Int} {ts : List Tch} {i : Nat} {t : Tch} (h : ts[i]? = some t) : linesOf w (ts.take (i + 1)) = linesOf w (ts.take i) ++ [t.2 / w] := by
  unfold linesOf
  rw [List.take_add_one, h, List.map_append]
  rfl
/-! ### lists of numbers and None as data -/
def optD : Option Int → PyData
  | none => .none
  | some i => .int i
theorem optD_sh (n : Nat) (o : Option Int) : Sh n (optD o) := by
  cases o with
  | none => exact sh_non
  | some i => exact sh_int i
theorem opts_sh (ds : List (Option Int)) : Sh 1 (.list (ds.map optD)) := sh_list fun d hd => by
  obtain ⟨o, _, rfl⟩ := List.mem_map.mp hd
  exact optD_sh 0 o
theorem opts_dp {K : PySem.W.Frag} {H : Hp} {a : Addr} {ds : List (Option Int)} (h : SqL K H a (ds.map optV)) : Dp K H (.ref a) (.list (ds.map optD)) := by
  refine .lst h (dpAll_of (by rw [List.length_map, List.length_map]) fun i v d hv hd => ?_)
  obtain ⟨o, ho, rfl⟩ := of_get_map hv
  rw [List.getElem?_map, ho] at hd
  have e : optD o = d := Option.some.inj hd
  rw [← e]
  cases o with
  | none => exact .non
  | some i => exact .int i
/-! ### the law -/
theorem missed_walked (ts : List Tch) (room w : Int) (plan : List (Option Int)) : missedM (linesOf w ts) room plan = walkedM ts room w plan := by
  unfold missedM walkedM
  rw [linesOf_len]
  rfl
theorem cut_last (xs : List V) : cutV xs none (some (-1)) = xs.dropLast := by
  unfold cutV
  rw [HT.sIx_none]
  cases xs with
  | nil => rfl
  | cons x r =>
    have e : HT.sIx (x :: r).length (x :: r).length (some (-1)) = r.length := by
      unfold HT.sIx
      simp
      omega
    rw [e, List.drop_zero, Nat.sub_zero, List.dropLast_eq_take]
    rfl
def sp_law (K : PySem.W.Frag) (cs : Cs) : Sp := fun vs H Q _ => ∃ (a : Addr) (ns : List Int), vs = [.ref a] ∧ SqL K H a (ns.map V.int) ∧ ns.length ≤ 63 ∧ ∀ H', Q (.bl true) H'
theorem ok_law (T : Txt K mg cs) (o__law_cell_at : Ok P w K mg base CX0 1 cs.f__law_cell_at cs.d__law_cell_at ["_law_script", "_law_k"] (sp__law_cell_at K cs)) (o__law_touches_by : Ok P w K mg base CX0 2 cs.f__law_touches_by cs.d__law_touches_by ["_law_cells"] (sp__law_touches_by K cs)) (o__law_plan_by : Ok P w K mg base CX0 2 cs.f__law_plan_by cs.d__law_plan_by ["_law_cells", "_law_lines", "_law_room"] (sp__law_plan_by K cs)) (o__law_missed : Ok P w K mg base CX0 1 cs.f__law_missed cs.d__law_missed ["_law_lines", "_law_room", "_law_plan"] (sp__law_missed K cs)) (o_walked : Ok P w K mg base (L2.CX P w) 1 cs.f_walked cs.d_walked ["touches", "room", "width", "plan"] (sp_walked K cs)) (o__law_whole : Ok P w K mg base CX0 1 cs.f__law_whole cs.d__law_whole ["_law_found"] (sp__law_whole K cs)) (o__law_mixed : Ok P w K mg base CX0 1 cs.f__law_mixed cs.d__law_mixed ["_law_cell"] (sp__law_mixed K cs)) (o__law_alone : OkP P w K mg base 1 cs.f__law_alone cs.d__law_alone ["_law_e", "_law_own"] (sp__law_alone K cs)) : Ok P w K mg base CX0 3 cs.f_law cs.d_law ["_law_script"] (sp_law K cs) := by
  refine T.fn_law.ok sc_law (fun vs H Q E h => ?_) (fun cdv A outer s H vs Q E hr h => ?_)
  · obtain ⟨a, ns, rfl, _⟩ := h
    rfl
  · obtain ⟨a, ns, rfl, hS, hl, q⟩ := h
    have hu := hu_of hr
    refine ⟨_, (pss_cons (ps_set (i := 1) sc_law.nd rfl (Or.inl rfl) (pe_callO o__law_cell_at (hr.mono (by decide)) (by rfl) T.gl__law_cell_at pass0 (pa_cons (pv 0) (pa_cons pe_int pa_nil))))
      (pss_cons (ps_set (i := 2) sc_law.nd rfl (Or.inl rfl) (pe_ix ix_list (pe_lst (pa_cons (pe_op op_add pe_int (pe_op op_mod (pe_op op_fdiv (pv 1) pe_int) pe_int)) (pa_cons (pe_op op_add pe_int (pe_op op_mod (pe_op op_fdiv (pv 1) pe_int) pe_int)) (pa_cons (pe_op op_add pe_int (pe_op op_mod (pe_op op_fdiv (pv 1) pe_int) pe_int)) (pa_cons pe_int pa_nil))))) (pe_op op_mod (pv 1) pe_int) (fun _ _ => rfl)))
      (pss_cons (ps_set (i := 3) sc_law.nd rfl (Or.inr rfl) (pe_ix ix_list (pe_lst (pa_cons pe_int (pa_cons pe_int (pa_cons (pe_op op_add pe_int (pe_op op_mod (pe_op op_fdiv (pv 1) pe_int) pe_int)) (pa_cons (pe_op op_add pe_int (pe_op op_mod (pe_op op_fdiv (pv 1) pe_int) pe_int)) pa_nil))))) (pe_op op_mod (pe_callO o__law_mixed (hr.mono (by decide)) (by rfl) T.gl__law_mixed pass0 (pa_cons (pv 1) pa_nil)) pe_int) (fun _ _ => rfl)))
      (pss_cons (ps_set (i := 4) sc_law.nd rfl (Or.inl rfl) (pe_callO o__law_touches_by hr (by rfl) T.gl__law_touches_by pass0 (pa_cons (pe_slice sl_list (pv 0) (po_some pe_int) po_none) pa_nil)))
      (pss_cons (ps_setLc (i := 5) (own := [("_law_touch", 14)]) (g := gName 14) (tt := tYes) rfl sc_law.nd rfl rfl (sw_true rfl rfl rfl (by decide +kernel)) (pi_list (pv 4)) (blkOk_by (N := ["_law_script", "_law_first", "_law_room", "_law_width", "_law_touches", "_law_lines", "_law_plan", "_law_how", "_law_at", "_law_due", "_law_given", "_law_told", "_law_many", "_law_e", "_law_touch"]) (sc := defScope s_law) (by decide +kernel)) (fun _ _ _ _ _ => pg_name (i := 14) sc_law.nd rfl (Or.inl rfl)) (fun _ _ _ _ _ => pts_nil) (fun _ _ _ _ _ => (pe_op op_fdiv (pe_ix (ix_tupK (K := K) rfl) (pv 14) pe_int (fun _ _ => rfl)) (pv 3))))
      (pss_cons (ps_set (i := 6) sc_law.nd rfl (Or.inl rfl) (pe_callO o__law_plan_by hr (by rfl) T.gl__law_plan_by pass0 (pa_cons (pe_slice sl_list (pv 0) (po_some pe_int) po_none) (pa_cons (pv 5) (pa_cons (pv 2) pa_nil)))))
      (pss_cons (ps_set (i := 7) sc_law.nd rfl (Or.inl rfl) (pe_callO o__law_cell_at (hr.mono (by decide)) (by rfl) T.gl__law_cell_at pass0 (pa_cons (pv 0) (pa_cons pe_int pa_nil))))
      (pss_cutS (ps_if (pt_jn (PW.pt (pw_and (pt_cmpR op_eq (pe_op op_mod (pv 7) pe_int) pe_int (nomark _)) (pw_and1 (pt_cmpR op_eq (pe_op op_mod (pe_op op_fdiv (pv 7) pe_int) pe_int) pe_int (nomark _)))))) (pss_one (ps_set (i := 6) sc_law.nd rfl (Or.inl rfl) (pe_slice sl_list (pv 6) po_none (po_some (pe_un un_neg pe_int))))) (pss_one (ps_if (pt_jn (PW.pt (pw_and (pt_cmpR op_eq (pe_op op_mod (pv 7) pe_int) pe_int (nomark _)) (pw_and1 (pt_cmpR op_eq (pe_op op_mod (pe_op op_fdiv (pv 7) pe_int) pe_int) pe_int (nomark _)))))) (pss_one (ps_set (i := 6) sc_law.nd rfl (Or.inl rfl) (pe_op op_cat (pv 6) (pe_lst (pa_cons pe_non pa_nil))))) (pss_one (ps_if (pt_jn (PW.pt (pw_and (pt_cmpR op_eq (pe_op op_mod (pv 7) pe_int) pe_int (nomark _)) (pw_and1 (pt_cmpR op_gt (pe_callB call_len_seq (by rfl) T.no_len PySem.boot_len (pa_cons (pv 6) pa_nil)) pe_int (nomark _)))))) (pss_cons (ps_set (i := 8) sc_law.nd rfl (Or.inl rfl) (pe_op op_mod (pe_callO o__law_cell_at (hr.mono (by decide)) (by rfl) T.gl__law_cell_at pass0 (pa_cons (pv 0) (pa_cons pe_int pa_nil))) (pe_callB call_len_seq (by rfl) T.no_len PySem.boot_len (pa_cons (pv 6) pa_nil))))
      (pss_one (ps_asg (pe_ix ix_list (pe_lst (pa_cons pe_non (pa_cons (pe_ix ix_list (pv 5) (pv 8) (fun _ _ => rfl)) (pa_cons (pe_ix ix_list (pv 5) pe_int (fun _ _ => rfl)) (pa_cons (pe_op op_sub pe_int pe_int) (pa_cons (pe_ix ix_list (pv 5) (pe_op op_fdiv (pv 8) pe_int) (fun _ _ => rfl)) (pa_cons pe_non pa_nil))))))) (pe_op op_mod (pe_op op_fdiv (pv 7) pe_int) pe_int) (fun _ _ => rfl)) (pg_sub (pv 6) (pv 8) set_list)))) pss_nil)))))
      (pss_cons (ps_set (i := 9) sc_law.nd rfl (Or.inl rfl) (pe_callO o__law_missed (hr.mono (by decide)) (by rfl) T.gl__law_missed pass0 (pa_cons (pv 5) (pa_cons (pv 2) (pa_cons (pv 6) pa_nil)))))
      (pss_cons (ps_set (i := 10) sc_law.nd rfl (Or.inl rfl) (pe_callTy call_list_of (by rfl) T.no_list boot_list (pa_cons (pv 4) pa_nil)))
      (pss_cons (ps_set (i := 11) sc_law.nd rfl (Or.inl rfl) (pe_callTy call_list_of (by rfl) T.no_list boot_list (pa_cons (pv 6) pa_nil)))
      (pss_cons (ps_try_as (i := 13) rfl rfl sc_law.nd rfl rfl ⟨by rfl, by decide, Or.inl T.ex_BadPlan.g⟩ takes0 (fun W pn xe tk _ => (pss_one (ps_set (i := 12) sc_law.nd rfl (Or.inl rfl) (pe_callSO o_walked (hr.mono (by decide)) (by rfl) T.gl_walked (fun σ => passAt tk σ) (pa_cons (pv 10) (pa_cons (pv 2) (pa_cons (pv 3) (pa_cons (pv 11) pa_nil))))))))
      (fun a oe cls d pn hz hf => (pss_one (ps_ret (pe_and (pe_cmpR op_isN (pv 9) pe_non (nomark _)) (pe_one (pe_callP o__law_alone (roomP hr (by decide)) List.mem_cons_self hz hf (by rfl) T.gl__law_alone (pa_cons (pv 13) (pa_cons pe_int pa_nil)))))))))
      (pss_one (ps_ret (pe_and (pe_cmpR op_notN (pv 9) pe_non (nomark _)) (pe_and (pe_callO o__law_whole (hr.mono (by decide)) (by rfl) T.gl__law_whole pass0 (pa_cons (pv 12) pa_nil)) (pe_and (pe_cmpR op_eq (pv 12) (pv 9) (nomark _)) (pe_and (pe_cmpR (op_eqD hr.units) (pv 10) (pv 4) (nomark _)) (pe_one (pe_cmpR (op_eqD hr.units) (pv 11) (pv 6) (nomark _))))))))))))))))))))), ?_⟩
    -- first, room, width
    refine ⟨_, rfl, a, ns, 0, rfl, hS, ?_⟩
    generalize cellOf ns 0 = f
    refine ⟨_, rfl, _, _, rfl, rfl, ⟨by decide, by decide⟩, _, _, rfl, rfl, (by show (0 : Int) < _; decide), _, _, rfl, rfl, _, rfl, _, _, rfl, rfl, ⟨by decide, by decide⟩, _, _, rfl, rfl, (by show (0 : Int) < _; decide), _, _, rfl, rfl, _, rfl, _, _, rfl, rfl, ⟨by decide, by decide⟩, _, _, rfl, rfl, (by show (0 : Int) < _; decide), _, _, rfl, rfl, (by show 4 ≤ sizeLine; decide), fun l1 h1 => ?_⟩
    have s1 : Same H (upd H l1 (.lst [.int (1 + f / 4 % 5), .int (1 + f / 4 % 14), .int (1 + f / 4 % 3), .int 2])) := Same.new h1
    refine ⟨_, rfl, _, _, rfl, rfl, (by show (0 : Int) < _; decide), l1, _, _, _, rfl, rfl, SqL.of upd_same, mod_at (xs := [1 + f / 4 % 5, 1 + f / 4 % 14, 1 + f / 4 % 3, 2]) f 4 rfl (by decide), ?_⟩
    obtain ⟨hr0, er⟩ : (0 < roomM f ∧ roomM f < 1000000000) ∧ [1 + f / 4 % 5, 1 + f / 4 % 14, 1 + f / 4 % 3, 2].getD (f % ((4 : Nat) : Int)).toNat 0 = roomM f := ⟨roomM_pos f, rfl⟩
    rw [er]
    refine ⟨_, rfl, _, _, rfl, rfl, ⟨by decide, by decide⟩, _, _, rfl, rfl, (by show (0 : Int) < _; decide), _, _, rfl, rfl, _, rfl, _, _, rfl, rfl, ⟨by decide, by decide⟩, _, _, rfl, rfl, (by show (0 : Int) < _; decide), _, _, rfl, rfl, (by show 4 ≤ sizeLine; decide), fun l2 h2 => ?_⟩
    have s2 := s1.trans (Same.new (o := .lst [.int 1, .int 2, .int (1 + f / 56 % 4), .int (1 + f / 56 % 200)]) h2)
    refine ⟨_, rfl, f, rfl, _, _, rfl, rfl, (by show (0 : Int) < _; decide), l2, _, _, _, rfl, rfl, SqL.of upd_same, mod_at (xs := [1, 2, 1 + f / 56 % 4, 1 + f / 56 % 200]) (mixed f) 4 rfl (by decide), ?_⟩
    obtain ⟨hw, hw2⟩ : (0 < widthM f ∧ widthM f < 1000000000) ∧ [1, 2, 1 + f / 56 % 4, 1 + f / 56 % 200].getD (mixed f % ((4 : Nat) : Int)).toNat 0 = widthM f := ⟨widthM_pos f, rfl⟩
    rw [hw2]
    generalize widthM f = w at *
    generalize roomM f = room at *
    generalize upd (upd H l1 _) l2 _ = H2 at s2 ⊢
    -- touches = touches_by(script[3:])
    refine ⟨_, rfl, _, rfl, a, _, rfl, s2.seq hS, fun p3 n3 => ?_⟩
    have e3 : cutV (ns.map V.int) (some 3) none = (ns.drop 3).map V.int := by
      rw [show (3 : Int) = ((3 : Nat) : Int) from rfl, cut_from, List.map_drop]
    have s3 := s2.trans (Same.new (o := .lst (cutV (ns.map V.int) (some 3) none)) n3)
    refine ⟨p3, ns.drop 3, rfl, SqL.of (by rw [← e3]; exact upd_same), by rw [List.length_drop]; omega, fun H4 p4 xs s4' n4 hp4 hT => ?_⟩
    have s4 := s3.trans s4'
    have htl : (touchesM (ns.drop 3)).length = (ns.drop 3).length := touchesM_len _
    have hcl : (ns.drop 3).length ≤ 63 := by rw [List.length_drop]; omega
    generalize touchesM (ns.drop 3) = ts at hT htl
    -- lines
    refine ⟨_, rfl, p4, rfl, ⟨_, SqL.of hp4⟩, fun D5 n5 => lc_list (xs := xs) (fun i H' => Same H4 H' ∧ H' D5 = some (.lst ((linesOf w (ts.take i)).map V.int))) ⟨Same.new n5, upd_same⟩ (fun i H' _ p => SqL.of (p.1 _ _ hp4)) ?_ ?_⟩
    · rintro i x H' hx ⟨s5, hD⟩
      obtain ⟨tc, htc, b, rfl, hb⟩ := hT.of hx
      refine ⟨rfl, _, rfl, b, _, _, _, rfl, rfl, s5.seqT hb, rfl, _, rfl, _, _, rfl, rfl, ⟨hw.1, by have := hw.2; omega⟩, _, hD, sizeL ?_, s5.mut n5, ?_⟩
      · rw [List.length_map, linesOf_len, List.length_take]
        omega
      · rw [upd_same, linesOf_snoc htc, List.map_append]
        rfl
    rintro H5 ⟨s5', hD5⟩
    rw [hT.len, List.take_length] at hD5
    have s5 := s4.trans s5'
    have hll : (linesOf w ts).length = ts.length := linesOf_len w ts
    have hT5 := hT.same s5'
    have h54 := s5' _ _ hp4
    -- plan = plan_by(script[3:], lines, room)
    refine ⟨_, rfl, _, rfl, a, _, rfl, s5.seq hS, fun p6 n6 => ?_⟩
    have s6' : Same H5 (upd H5 p6 (.lst (cutV (ns.map V.int) (some 3) none))) := Same.new n6
    refine ⟨_, rfl, _, rfl, p6, D5, ns.drop 3, linesOf w ts, room, rfl, SqL.of (by rw [← e3]; exact upd_same), SqL.of (s6' _ _ hD5), by omega, by omega, hr0.1, fun H7 p7 s7' n7 hp7 => ?_⟩
    have s57 := s6'.trans s7'
    have s7 := s5.trans s57
    have h7D := s57 _ _ hD5
    have h74 := s57 _ _ h54
    have hT7 := hT5.same s57
    have n70 : H p7 = none := (s5.trans s6').free n7
    have n7D : p7 ≠ D5 := fun e => by
      rw [e, s6' _ _ hD5] at n7
      cases n7
    have n74 : p7 ≠ p4 := fun e => by
      rw [e, s6' _ _ h54] at n7
      cases n7
    have hpl : (planBy room (linesOf w ts) (ns.drop 3)).2.length = ts.length := by
      have := (planBy_take room ((linesOf w ts).zip (ns.drop 3)) (ts.length)).2
      unfold planBy
      rw [List.length_zip, hll, ← htl, Nat.min_self] at this
      rw [List.take_of_length_le (by rw [List.length_zip, hll]; omega)] at this
      omega
    generalize (planBy room (linesOf w ts) (ns.drop 3)).2 = plan0 at hp7 hpl
    -- how = cell_at(script, 1)
    refine ⟨_, rfl, a, ns, 1, rfl, s7.seq hS, ?_⟩
    generalize cellOf ns 1 = how
    -- the plan that is turned
    refine ⟨fun σ' H8 => ∃ (p8 : Addr) (plan : List (Option Int)) (v8 : Option V), σ' = [some (.ref a), some (.int f), some (.int room), some (.int w), some (.ref p4), some (.ref D5), some (.ref p8), some (.int how), v8, none, none, none, none, none, none] ∧ Same H H8 ∧
      H8 p8 = some (.lst (plan.map optV)) ∧ H8 D5 = some (.lst ((linesOf w ts).map V.int)) ∧ H8 p4 = some (.lst xs) ∧ TL K H8 xs ts ∧ plan.length ≤ 100, ?_, ?_⟩
    · refine ⟨fun b H8 => H8 = H7 ∧ b = decide (how % 2 = 1 ∧ how / 2 % 6 = 0), ?_, ?_⟩
      · refine ⟨_, rfl, _, _, rfl, rfl, (by show (0 : Int) < _; decide), rfl, _, rfl, iteD (fun c => ?_) (fun c => ?_)⟩
        · have c' := V.int.inj c
          refine ⟨_, rfl, _, _, rfl, rfl, ⟨by decide, by decide⟩, _, _, rfl, rfl, (by show (0 : Int) < _; decide), rfl, _, rfl, rfl, ?_⟩
          simp [c']
        · have c' : ¬ how % 2 = 1 := fun z => c (congrArg V.int z)
          exact ⟨rfl, by simp [c']⟩
      rintro b H8 ⟨rfl, rfl⟩
      refine iteD (fun _ => ?_) (fun _ => ?_)
      · -- plan[:-1]
        refine ⟨_, rfl, _, rfl, _, rfl, p7, _, rfl, SqL.of hp7, fun p8 n8 => ?_⟩
        have s8 : Same H8 (upd H8 p8 (.lst (cutV (plan0.map optV) none (some (-1))))) := Same.new n8
        refine ⟨p8, plan0.dropLast, none, rfl, s7.trans s8, ?_, s8 _ _ h7D, s8 _ _ h74, hT7.same s8, by rw [List.length_dropLast]; omega⟩
        rw [upd_same, cut_last, List.map_dropLast]
      refine ⟨fun b H9 => H9 = H8 ∧ b = decide (how % 2 = 1 ∧ how / 2 % 6 = 1), ?_, ?_⟩
      · refine ⟨_, rfl, _, _, rfl, rfl, (by show (0 : Int) < _; decide), rfl, _, rfl, iteD (fun c => ?_) (fun c => ?_)⟩
        · have c' := V.int.inj c
          refine ⟨_, rfl, _, _, rfl, rfl, ⟨by decide, by decide⟩, _, _, rfl, rfl, (by show (0 : Int) < _; decide), rfl, _, rfl, rfl, ?_⟩
          simp [c']
        · have c' : ¬ how % 2 = 1 := fun z => c (congrArg V.int z)
          exact ⟨rfl, by simp [c']⟩
      rintro b H9 ⟨rfl, rfl⟩
      refine iteD (fun _ => ?_) (fun _ => ?_)
      · -- plan + [None]
        refine ⟨_, rfl, (by show 1 ≤ sizeLine; decide), fun l8 m8 => ?_⟩
        have s8 : Same H9 (upd H9 l8 (.lst [.non])) := Same.new m8
        refine ⟨p7, l8, _, _, rfl, rfl, s8 _ _ hp7, upd_same, Nat.le_of_lt (sizeL (by simp only [List.length_append, List.length_map, List.length_cons, List.length_nil]; omega)), fun p8 n8 => ?_⟩
        have s9 := s8.trans (Same.new (o := .lst (plan0.map optV ++ [V.non])) n8)
        refine ⟨p8, plan0 ++ [none], none, rfl, s7.trans s9, ?_, s9 _ _ h7D, s9 _ _ h74, hT7.same s9, by rw [List.length_append]; simp only [List.length_cons, List.length_nil]; omega⟩
        rw [upd_same, List.map_append]
        rfl
      refine ⟨fun b H10 => H10 = H9 ∧ b = decide (how % 2 = 1 ∧ 0 < plan0.length), ?_, ?_⟩
      · refine ⟨_, rfl, _, _, rfl, rfl, (by show (0 : Int) < _; decide), rfl, _, rfl, iteD (fun c => ?_) (fun c => ?_)⟩
        · have c' := V.int.inj c
          refine ⟨_, rfl, p7, _, rfl, .inl (SqL.of hp7), _, _, rfl, rfl, _, rfl, rfl, ?_⟩
          rw [List.length_map]
          simp [c']
        · have c' : ¬ how % 2 = 1 := fun z => c (congrArg V.int z)
          exact ⟨rfl, by simp [c']⟩
      rintro b H10 ⟨rfl, rfl⟩
      refine iteD (fun c => ?_) (fun _ => ?_)
      · have hpos : 0 < plan0.length := c.2
        have e5 : (((plan0.map optV).length : Nat) : Int) = (plan0.length : Int) := by rw [List.length_map]
        -- at = cell_at(script, 2) % len(plan)
        refine ⟨_, rfl, a, ns, 2, rfl, s7.seq hS, _, rfl, p7, _, rfl, .inl (SqL.of hp7), _, _, rfl, rfl, (by rw [e5]; omega), ?_⟩
        rw [e5]
        have hnn := Int.emod_nonneg (cellOf ns 2) (show (plan0.length : Int) ≠ 0 by omega)
        have hlt := Int.emod_lt_of_pos (cellOf ns 2) (show 0 < (plan0.length : Int) by omega)
        -- plan[at] = [..][how // 12 % 6]
        have hat : atI ((linesOf w ts).map V.int) (cellOf ns 2 % (plan0.length : Int)) = some (.int ((linesOf w ts).getD (cellOf ns 2 % (plan0.length : Int)).toNat 0)) := at_getD hnn (by omega)
        have hat0 : atI ((linesOf w ts).map V.int) 0 = some (.int ((linesOf w ts).getD 0 0)) := at_getD (i := 0) (by omega) (by omega)
        have hat2 : atI ((linesOf w ts).map V.int) (cellOf ns 2 % (plan0.length : Int) / 2) = some (.int ((linesOf w ts).getD (cellOf ns 2 % (plan0.length : Int) / 2).toNat 0)) := at_getD (by omega) (by omega)
        refine ⟨_, rfl, _, rfl, D5, _, _, _, rfl, rfl, SqL.of h7D, hat, _, rfl, D5, _, _, _, rfl, rfl, SqL.of h7D, hat0, _, _, rfl, rfl, _, rfl, _, rfl, _, _, rfl, rfl, ⟨by decide, by decide⟩, D5, _, _, _, rfl, rfl, SqL.of h7D, hat2, (by show 6 ≤ sizeLine; decide), fun l8 m8 => ?_⟩
        obtain ⟨os, hos⟩ : ∃ os : List (Option Int), os = [none, some ((linesOf w ts).getD (cellOf ns 2 % (plan0.length : Int)).toNat 0), some ((linesOf w ts).getD 0 0), some (0 - 1), some ((linesOf w ts).getD (cellOf ns 2 % (plan0.length : Int) / 2).toNat 0), none] := ⟨_, rfl⟩
        have eos : [V.non, .int ((linesOf w ts).getD (cellOf ns 2 % (plan0.length : Int)).toNat 0), .int ((linesOf w ts).getD 0 0), .int (0 - 1), .int ((linesOf w ts).getD (cellOf ns 2 % (plan0.length : Int) / 2).toNat 0), .non] = os.map optV := by
          rw [hos]
          rfl
        have s8 : Same H10 (upd H10 l8 (.lst [V.non, .int ((linesOf w ts).getD (cellOf ns 2 % (plan0.length : Int)).toNat 0), .int ((linesOf w ts).getD 0 0), .int (0 - 1), .int ((linesOf w ts).getD (cellOf ns 2 % (plan0.length : Int) / 2).toNat 0), .non])) := Same.new m8
        have h6a := Int.emod_nonneg (how / 12) (show (6 : Int) ≠ 0 by decide)
        have h6b := Int.emod_lt_of_pos (how / 12) (show (0 : Int) < 6 by decide)
        obtain ⟨o, ho⟩ : ∃ o, os[(how / 12 % 6).toNat]? = some o := ⟨os[(how / 12 % 6).toNat]'(by rw [hos]; show _ < 6; omega), List.getElem?_eq_getElem _⟩
        have ho' : atI (os.map optV) (how / 12 % 6) = some (optV o) := at_of (j := (how / 12 % 6).toNat) (by omega) (nl_get_map ho)
        refine ⟨_, rfl, _, _, rfl, rfl, ⟨by decide, by decide⟩, _, _, rfl, rfl, (by show (0 : Int) < _; decide), l8, _, _, _, rfl, rfl, SqL.of upd_same, (by rw [eos]; exact ho'), ?_⟩
        have hjn : ixN (plan0.map optV).length (cellOf ns 2 % (plan0.length : Int)) = some (cellOf ns 2 % (plan0.length : Int)).toNat := by
          have q := ix_nat (n := (plan0.map optV).length) (j := (cellOf ns 2 % (plan0.length : Int)).toNat) (by rw [List.length_map]; omega)
          rwa [Int.toNat_of_nonneg hnn] at q
        refine ⟨_, rfl, _, rfl, p7, _, _, _, rfl, rfl, s8 _ _ hp7, hjn, ?_⟩
        refine ⟨p7, plan0.set (cellOf ns 2 % (plan0.length : Int)).toNat o, some (.int (cellOf ns 2 % (plan0.length : Int))), rfl, (s7.trans s8).mut n70, ?_, ?_, ?_, (hT7.same s8).but (s8 _ _ hp7), by rw [List.length_set]; omega⟩
        · rw [upd_same, List.map_set]
        · rw [upd_ne (Ne.symm n7D)]
          exact s8 _ _ h7D
        · rw [upd_ne (Ne.symm n74)]
          exact s8 _ _ h74
      · exact ⟨p7, plan0, none, rfl, s7, hp7, h7D, h74, hT7, by omega⟩
    rintro σ' H8 ⟨p8, plan, v8, rfl, s8, h8p, h8D, h84, hT8, hpl8⟩
    -- due = missed(lines, room, plan)
    refine ⟨_, rfl, _, rfl, _, rfl, D5, p8, linesOf w ts, plan, room, rfl, SqL.of h8D, SqL.of h8p, by omega, hr0.1, fun H9 s9' => ?_⟩
    rw [missed_walked]
    have s9 := s8.trans s9'
    have h9p := s9' _ _ h8p
    have h94 := s9' _ _ h84
    have hT9 := hT8.same s9'
    -- given = list(touches); told = list(plan)
    refine ⟨_, rfl, p4, xs, rfl, .inl (SqL.of h94), fun g1 ng1 => ?_⟩
    have t1 : Same H9 (upd H9 g1 (.lst xs)) := Same.new ng1
    refine ⟨_, rfl, p8, _, rfl, .inl (SqL.of (t1 _ _ h9p)), fun g2 ng2 => ?_⟩
    have t2' : Same (upd H9 g1 (.lst xs)) (upd (upd H9 g1 (.lst xs)) g2 (.lst (plan.map optV))) := Same.new ng2
    have t2 := t1.trans t2'
    have hg1 := t2' _ _ (show (upd H9 g1 (.lst xs)) g1 = some (.lst xs) from upd_same)
    have hg2 : (upd (upd H9 g1 (.lst xs)) g2 (.lst (plan.map optV))) g2 = some (.lst (plan.map optV)) := upd_same
    have hT10 := hT9.same t2
    have h104 := t2 _ _ h94
    have h10p := t2 _ _ h9p
    generalize upd (upd H9 g1 (.lst xs)) g2 (.lst (plan.map optV)) = H10 at *
    -- try
    refine ⟨_, rfl, _, rfl, _, rfl, _, rfl, g1, g2, xs, ts, room, w, plan, rfl, SqL.of hg1, hT10, SqL.of hg2, hw, by omega, fun m H11 hm s11 => ?_, fun H11 hm s11 => ?_⟩
    · -- it told a number
      rw [hm]
      have dp1 := (hT10.same s11).dp (SqL.of (s11 _ _ hg1))
      have dp2 := (hT10.same s11).dp (SqL.of (s11 _ _ h104))
      have dp3 := opts_dp (K := K) (SqL.of (s11 _ _ hg2))
      have dp4 := opts_dp (K := K) (SqL.of (s11 _ _ h10p))
      refine ⟨_, rfl, rfl, _, rfl, iteN (fun _ => ?_) (fun z => nomatch z)⟩
      refine ⟨_, rfl, .int m, "int", rfl, .base (.int _), by decide, _, rfl, iteT ?_⟩
      refine ⟨_, rfl, _, rfl, rfl, _, rfl, iteD (fun _ => ?_) (fun z => absurd rfl z)⟩
      refine ⟨_, rfl, _, rfl, _, _, dp1, dp2, (touches_sh ts).shaped (by decide), (touches_sh ts).shaped (by decide), _, rfl, ?_⟩
      rw [eqv_self (touches_sh ts)]
      refine iteT ⟨_, rfl, _, rfl, _, _, dp3, dp4, (opts_sh plan).shaped (by decide), (opts_sh plan).shaped (by decide), ?_⟩
      rw [eqv_self (opts_sh plan)]
      exact q _
    · -- it refused
      rw [hm]
      refine ⟨true, T.ex_BadPlan.te, fun _ e he => ?_, fun z => nomatch z⟩
      refine ⟨_, rfl, rfl, _, rfl, iteD (fun _ => ?_) (fun z => absurd rfl z)⟩
      refine ⟨_, rfl, _, rfl, rfl, 4, false, false, false, false, true, rfl, ⟨T.ec_BadPlan, T.is_BadPlan_BadRow, T.is_BadPlan_BadBoxes, T.is_BadPlan_BadShape, T.is_BadPlan_NoBox, T.is_BadPlan_BadPlan, T.is_BadPlan_LineError, T.iv_BadPlan⟩, rfl, rfl, fun H12 _ => q H12⟩
def spEnd (K : PySem.W.Frag) : Sp := fun vs H Q _ => ∃ (a : Addr) (ns : List Int), vs = [.ref a] ∧ SqL K H a (ns.map V.int) ∧ ns.length ≤ 63 ∧ ∀ H', Q (.bl true) H'
theorem spEnd_law {K : PySem.W.Frag} (cs : Cs) {vs : List V} {H : Hp} {Q : VK} {E : XK} (h : spEnd K vs H Q E) : sp_law K cs vs H Q E := h
end
theorem all_mk {l : PySem.W.OpenLaw} {w : World} {K : PySem.W.Frag} {h : Heap} {mg : Str → Option Value} {fa : Addr} (X : K.In h) (G : h.Ns mainGlobals mg) (hfa : mg "law" = some (.ref fa))
    {f_walked f__law_cell_at f__law_whole f__law_mixed f__law_touches_by f__law_plan_by f__law_missed f__law_alone f_law C_LineError C_BadRow C_BadBoxes C_BadShape C_NoBox C_BadPlan : Addr}
    {od_walked an_walked od__law_cell_at an__law_cell_at od__law_whole an__law_whole od__law_mixed an__law_mixed od__law_touches_by an__law_touches_by od__law_plan_by an__law_plan_by od__law_missed an__law_missed od__law_alone an__law_alone od_law an_law : Option Addr} {sl_walked sl__law_cell_at sl__law_whole sl__law_mixed sl__law_touches_by sl__law_plan_by sl__law_missed sl__law_alone sl_law : Array (Option Value)} {oc_walked kV_walked dc_walked pm_walked cd_walked ct_walked oc__law_cell_at kV__law_cell_at dc__law_cell_at pm__law_cell_at cd__law_cell_at ct__law_cell_at oc__law_whole kV__law_whole dc__law_whole pm__law_whole cd__law_whole ct__law_whole oc__law_mixed kV__law_mixed dc__law_mixed pm__law_mixed cd__law_mixed ct__law_mixed oc__law_touches_by kV__law_touches_by dc__law_touches_by pm__law_touches_by cd__law_touches_by ct__law_touches_by oc__law_plan_by kV__law_plan_by dc__law_plan_by pm__law_plan_by cd__law_plan_by ct__law_plan_by oc__law_missed kV__law_missed dc__law_missed pm__law_missed cd__law_missed ct__law_missed oc__law_alone kV__law_alone dc__law_alone pm__law_alone cd__law_alone ct__law_alone oc_law kV_law dc_law pm_law cd_law ct_law : Value}
    (a_walked : PySem.W.nsIn K mainGlobals "walked" = some (some (.ref f_walked)))
    (l_walked : K.lookup f_walked = some ⟨oc_walked, od_walked, .func (PySem.W.fnOf "walked" "walked" (defArgs s_walked) (defBody s_walked) (defScope s_walked) .none kV_walked dc_walked pm_walked an_walked cd_walked ct_walked), sl_walked⟩)
    (c_walked : PySem.W.codeIn K cd_walked "walked" = true)
    (k_walked : PySem.W.keepIn K (.ref f_walked) = true)
    (a__law_cell_at : PySem.W.nsIn K mainGlobals "_law_cell_at" = some (some (.ref f__law_cell_at)))
    (l__law_cell_at : K.lookup f__law_cell_at = some ⟨oc__law_cell_at, od__law_cell_at, .func (PySem.W.fnOf "_law_cell_at" "_law_cell_at" (defArgs s__law_cell_at) (defBody s__law_cell_at) (defScope s__law_cell_at) .none kV__law_cell_at dc__law_cell_at pm__law_cell_at an__law_cell_at cd__law_cell_at ct__law_cell_at), sl__law_cell_at⟩)
    (c__law_cell_at : PySem.W.codeIn K cd__law_cell_at "_law_cell_at" = true)
    (k__law_cell_at : PySem.W.keepIn K (.ref f__law_cell_at) = true)
    (a__law_whole : PySem.W.nsIn K mainGlobals "_law_whole" = some (some (.ref f__law_whole)))
    (l__law_whole : K.lookup f__law_whole = some ⟨oc__law_whole, od__law_whole, .func (PySem.W.fnOf "_law_whole" "_law_whole" (defArgs s__law_whole) (defBody s__law_whole) (defScope s__law_whole) .none kV__law_whole dc__law_whole pm__law_whole an__law_whole cd__law_whole ct__law_whole), sl__law_whole⟩)
    (c__law_whole : PySem.W.codeIn K cd__law_whole "_law_whole" = true)
    (k__law_whole : PySem.W.keepIn K (.ref f__law_whole) = true)
    (a__law_mixed : PySem.W.nsIn K mainGlobals "_law_mixed" = some (some (.ref f__law_mixed)))
    (l__law_mixed : K.lookup f__law_mixed = some ⟨oc__law_mixed, od__law_mixed, .func (PySem.W.fnOf "_law_mixed" "_law_mixed" (defArgs s__law_mixed) (defBody s__law_mixed) (defScope s__law_mixed) .none kV__law_mixed dc__law_mixed pm__law_mixed an__law_mixed cd__law_mixed ct__law_mixed), sl__law_mixed⟩)
    (c__law_mixed : PySem.W.codeIn K cd__law_mixed "_law_mixed" = true)
    (k__law_mixed : PySem.W.keepIn K (.ref f__law_mixed) = true)
    (a__law_touches_by : PySem.W.nsIn K mainGlobals "_law_touches_by" = some (some (.ref f__law_touches_by)))
    (l__law_touches_by : K.lookup f__law_touches_by = some ⟨oc__law_touches_by, od__law_touches_by, .func (PySem.W.fnOf "_law_touches_by" "_law_touches_by" (defArgs s__law_touches_by) (defBody s__law_touches_by) (defScope s__law_touches_by) .none kV__law_touches_by dc__law_touches_by pm__law_touches_by an__law_touches_by cd__law_touches_by ct__law_touches_by), sl__law_touches_by⟩)
    (c__law_touches_by : PySem.W.codeIn K cd__law_touches_by "_law_touches_by" = true)
    (k__law_touches_by : PySem.W.keepIn K (.ref f__law_touches_by) = true)
    (a__law_plan_by : PySem.W.nsIn K mainGlobals "_law_plan_by" = some (some (.ref f__law_plan_by)))
    (l__law_plan_by : K.lookup f__law_plan_by = some ⟨oc__law_plan_by, od__law_plan_by, .func (PySem.W.fnOf "_law_plan_by" "_law_plan_by" (defArgs s__law_plan_by) (defBody s__law_plan_by) (defScope s__law_plan_by) .none kV__law_plan_by dc__law_plan_by pm__law_plan_by an__law_plan_by cd__law_plan_by ct__law_plan_by), sl__law_plan_by⟩)
    (c__law_plan_by : PySem.W.codeIn K cd__law_plan_by "_law_plan_by" = true)
    (k__law_plan_by : PySem.W.keepIn K (.ref f__law_plan_by) = true)
    (a__law_missed : PySem.W.nsIn K mainGlobals "_law_missed" = some (some (.ref f__law_missed)))
    (l__law_missed : K.lookup f__law_missed = some ⟨oc__law_missed, od__law_missed, .func (PySem.W.fnOf "_law_missed" "_law_missed" (defArgs s__law_missed) (defBody s__law_missed) (defScope s__law_missed) .none kV__law_missed dc__law_missed pm__law_missed an__law_missed cd__law_missed ct__law_missed), sl__law_missed⟩)
    (c__law_missed : PySem.W.codeIn K cd__law_missed "_law_missed" = true)
    (k__law_missed : PySem.W.keepIn K (.ref f__law_missed) = true)
    (a__law_alone : PySem.W.nsIn K mainGlobals "_law_alone" = some (some (.ref f__law_alone)))
    (l__law_alone : K.lookup f__law_alone = some ⟨oc__law_alone, od__law_alone, .func (PySem.W.fnOf "_law_alone" "_law_alone" (defArgs s__law_alone) (defBody s__law_alone) (defScope s__law_alone) .none kV__law_alone dc__law_alone pm__law_alone an__law_alone cd__law_alone ct__law_alone), sl__law_alone⟩)
    (c__law_alone : PySem.W.codeIn K cd__law_alone "_law_alone" = true)
    (k__law_alone : PySem.W.keepIn K (.ref f__law_alone) = true)
    (a_law : PySem.W.nsIn K mainGlobals "law" = some (some (.ref f_law)))
    (l_law : K.lookup f_law = some ⟨oc_law, od_law, .func (PySem.W.fnOf "law" "law" (defArgs s_law) (defBody s_law) (defScope s_law) .none kV_law dc_law pm_law an_law cd_law ct_law), sl_law⟩)
    (c_law : PySem.W.codeIn K cd_law "law" = true)
    (k_law : PySem.W.keepIn K (.ref f_law) = true)
    (z_len : PySem.W.nsIn K mainGlobals "len" = some none)
    (z_range : PySem.W.nsIn K mainGlobals "range" = some none)
    (z_isinstance : PySem.W.nsIn K mainGlobals "isinstance" = some none)
    (z_int : PySem.W.nsIn K mainGlobals "int" = some none)
    (z_bool : PySem.W.nsIn K mainGlobals "bool" = some none)
    (z_ValueError : PySem.W.nsIn K mainGlobals "ValueError" = some none)
    (z_list : PySem.W.nsIn K mainGlobals "list" = some none)
    (g_LineError : PySem.W.nsIn K mainGlobals "LineError" = some (some (.ref C_LineError)))
    (xx_LineError : PySem.W.excIn K C_LineError [.type "ValueError", .type "Exception", .type "BaseException", .type "object"] "ValueError.__new__" = true)
    (xk_LineError : PySem.W.keepIn K (.ref C_LineError) = true)
    (xb_LineError : PySem.W.subIn K (.ref C_LineError) (.type "BaseException") = some true)
    (xt_LineError : PySem.W.typeIn K (.ref C_LineError) = some (.type "type"))
    (xi_LineError : PySem.W.isClsIn K C_LineError = true)
    (xs_LineError : PySem.W.subIn K (.ref C_LineError) (.ref C_LineError) = some true)
    (g_BadRow : PySem.W.nsIn K mainGlobals "BadRow" = some (some (.ref C_BadRow)))
    (xx_BadRow : PySem.W.excIn K C_BadRow [.type "ValueError", .type "Exception", .type "BaseException", .type "object"] "ValueError.__new__" = true)
    (xk_BadRow : PySem.W.keepIn K (.ref C_BadRow) = true)
    (xb_BadRow : PySem.W.subIn K (.ref C_BadRow) (.type "BaseException") = some true)
    (xt_BadRow : PySem.W.typeIn K (.ref C_BadRow) = some (.type "type"))
    (xi_BadRow : PySem.W.isClsIn K C_BadRow = true)
    (xs_BadRow : PySem.W.subIn K (.ref C_BadRow) (.ref C_BadRow) = some true)
    (g_BadBoxes : PySem.W.nsIn K mainGlobals "BadBoxes" = some (some (.ref C_BadBoxes)))
    (xx_BadBoxes : PySem.W.excIn K C_BadBoxes [.type "ValueError", .type "Exception", .type "BaseException", .type "object"] "ValueError.__new__" = true)
    (xk_BadBoxes : PySem.W.keepIn K (.ref C_BadBoxes) = true)
    (xb_BadBoxes : PySem.W.subIn K (.ref C_BadBoxes) (.type "BaseException") = some true)
    (xt_BadBoxes : PySem.W.typeIn K (.ref C_BadBoxes) = some (.type "type"))
    (xi_BadBoxes : PySem.W.isClsIn K C_BadBoxes = true)
    (xs_BadBoxes : PySem.W.subIn K (.ref C_BadBoxes) (.ref C_BadBoxes) = some true)
    (g_BadShape : PySem.W.nsIn K mainGlobals "BadShape" = some (some (.ref C_BadShape)))
    (xx_BadShape : PySem.W.excIn K C_BadShape [.type "ValueError", .type "Exception", .type "BaseException", .type "object"] "ValueError.__new__" = true)
    (xk_BadShape : PySem.W.keepIn K (.ref C_BadShape) = true)
    (xb_BadShape : PySem.W.subIn K (.ref C_BadShape) (.type "BaseException") = some true)
    (xt_BadShape : PySem.W.typeIn K (.ref C_BadShape) = some (.type "type"))
    (xi_BadShape : PySem.W.isClsIn K C_BadShape = true)
    (xs_BadShape : PySem.W.subIn K (.ref C_BadShape) (.ref C_BadShape) = some true)
    (g_NoBox : PySem.W.nsIn K mainGlobals "NoBox" = some (some (.ref C_NoBox)))
    (xx_NoBox : PySem.W.excIn K C_NoBox [.type "ValueError", .type "Exception", .type "BaseException", .type "object"] "ValueError.__new__" = true)
    (xk_NoBox : PySem.W.keepIn K (.ref C_NoBox) = true)
    (xb_NoBox : PySem.W.subIn K (.ref C_NoBox) (.type "BaseException") = some true)
    (xt_NoBox : PySem.W.typeIn K (.ref C_NoBox) = some (.type "type"))
    (xi_NoBox : PySem.W.isClsIn K C_NoBox = true)
    (xs_NoBox : PySem.W.subIn K (.ref C_NoBox) (.ref C_NoBox) = some true)
    (g_BadPlan : PySem.W.nsIn K mainGlobals "BadPlan" = some (some (.ref C_BadPlan)))
    (xx_BadPlan : PySem.W.excIn K C_BadPlan [.type "ValueError", .type "Exception", .type "BaseException", .type "object"] "ValueError.__new__" = true)
    (xk_BadPlan : PySem.W.keepIn K (.ref C_BadPlan) = true)
    (xb_BadPlan : PySem.W.subIn K (.ref C_BadPlan) (.type "BaseException") = some true)
    (xt_BadPlan : PySem.W.typeIn K (.ref C_BadPlan) = some (.type "type"))
    (xi_BadPlan : PySem.W.isClsIn K C_BadPlan = true)
    (xs_BadPlan : PySem.W.subIn K (.ref C_BadPlan) (.ref C_BadPlan) = some true)
    (ehg_BadPlan : PySem.W.findIn K (.ref C_BadPlan) "__getattribute__" = some (some (.builtin "BaseException.__getattribute__")))
    (ehk_BadPlan : PySem.W.findIn K (.ref C_BadPlan) "__getattr__" = some none)
    (ehd_BadPlan : PySem.W.hasDictIn K C_BadPlan = true)
    (eha_BadPlan : PySem.W.findIn K (.ref C_BadPlan) "__class__" = some (some (.builtin "object.__class__")))
    (ehm_BadPlan : PySem.W.mroIn K C_BadPlan (.type "object") = some true)
    (e_hn : PySem.W.specialIn K (.builtin "object.__class__") "__get__" = some (some (.builtin "getset_descriptor.__get__")))
    (e_ht : PySem.W.takesIn K (.builtin "object.__class__") = some true)
    (u_BadPlan_LineError : PySem.W.subIn K (.ref C_BadPlan) (.ref C_LineError) = some true)
    (u_BadPlan_BadRow : PySem.W.subIn K (.ref C_BadPlan) (.ref C_BadRow) = some false)
    (u_BadPlan_BadBoxes : PySem.W.subIn K (.ref C_BadPlan) (.ref C_BadBoxes) = some false)
    (u_BadPlan_BadShape : PySem.W.subIn K (.ref C_BadPlan) (.ref C_BadShape) = some false)
    (u_BadPlan_NoBox : PySem.W.subIn K (.ref C_BadPlan) (.ref C_NoBox) = some false)
    (u_BadPlan_BadPlan : PySem.W.subIn K (.ref C_BadPlan) (.ref C_BadPlan) = some true)
    (uv_BadPlan : PySem.W.subIn K (.ref C_BadPlan) (.type "ValueError") = some true)
    : ∃ (cs : Cs) (fd : FuncData), (∀ (s : Shared) (v : Value), BindsTo s fd ⟨[v], []⟩ [("_law_script", v)]) ∧ ∀ base : Heap, K.In base → base.Ns mainGlobals mg → FnOk l.prog w K mg base CX0 3 fa fd ["_law_script"] (sp_law K cs) := by
  have e : f_law = fa := Value.ref.inj (Option.some.inj ((PySem.W.mg_of X G a_law).symm.trans hfa))
  obtain ⟨cs, hcs⟩ : ∃ cs : Cs, cs = { f_walked := f_walked, d_walked := (PySem.W.fnOf "walked" "walked" (defArgs s_walked) (defBody s_walked) (defScope s_walked) .none kV_walked dc_walked pm_walked an_walked cd_walked ct_walked), f__law_cell_at := f__law_cell_at, d__law_cell_at := (PySem.W.fnOf "_law_cell_at" "_law_cell_at" (defArgs s__law_cell_at) (defBody s__law_cell_at) (defScope s__law_cell_at) .none kV__law_cell_at dc__law_cell_at pm__law_cell_at an__law_cell_at cd__law_cell_at ct__law_cell_at), f__law_whole := f__law_whole, d__law_whole := (PySem.W.fnOf "_law_whole" "_law_whole" (defArgs s__law_whole) (defBody s__law_whole) (defScope s__law_whole) .none kV__law_whole dc__law_whole pm__law_whole an__law_whole cd__law_whole ct__law_whole), f__law_mixed := f__law_mixed, d__law_mixed := (PySem.W.fnOf "_law_mixed" "_law_mixed" (defArgs s__law_mixed) (defBody s__law_mixed) (defScope s__law_mixed) .none kV__law_mixed dc__law_mixed pm__law_mixed an__law_mixed cd__law_mixed ct__law_mixed), f__law_touches_by := f__law_touches_by, d__law_touches_by := (PySem.W.fnOf "_law_touches_by" "_law_touches_by" (defArgs s__law_touches_by) (defBody s__law_touches_by) (defScope s__law_touches_by) .none kV__law_touches_by dc__law_touches_by pm__law_touches_by an__law_touches_by cd__law_touches_by ct__law_touches_by), f__law_plan_by := f__law_plan_by, d__law_plan_by := (PySem.W.fnOf "_law_plan_by" "_law_plan_by" (defArgs s__law_plan_by) (defBody s__law_plan_by) (defScope s__law_plan_by) .none kV__law_plan_by dc__law_plan_by pm__law_plan_by an__law_plan_by cd__law_plan_by ct__law_plan_by), f__law_missed := f__law_missed, d__law_missed := (PySem.W.fnOf "_law_missed" "_law_missed" (defArgs s__law_missed) (defBody s__law_missed) (defScope s__law_missed) .none kV__law_missed dc__law_missed pm__law_missed an__law_missed cd__law_missed ct__law_missed), f__law_alone := f__law_alone, d__law_alone := (PySem.W.fnOf "_law_alone" "_law_alone" (defArgs s__law_alone) (defBody s__law_alone) (defScope s__law_alone) .none kV__law_alone dc__law_alone pm__law_alone an__law_alone cd__law_alone ct__law_alone), f_law := f_law, d_law := (PySem.W.fnOf "law" "law" (defArgs s_law) (defBody s_law) (defScope s_law) .none kV_law dc_law pm_law an_law cd_law ct_law), C_LineError := C_LineError, C_BadRow := C_BadRow, C_BadBoxes := C_BadBoxes, C_BadShape := C_BadShape, C_NoBox := C_NoBox, C_BadPlan := C_BadPlan } := ⟨_, rfl⟩
  have T : Txt K mg cs := by
    rw [hcs]
    exact { fn_walked := ⟨fun_mk (st := s_walked) l_walked c_walked k_walked, (fun_mk (st := s_walked) l_walked c_walked k_walked).binds (ps := ["touches", "room", "width", "plan"]) fun _ _ _ _ _ _ us hl => match us, hl with | [_, _, _, _], _ => rfl⟩, gl_walked := PySem.W.mg_of X G a_walked, fn__law_cell_at := ⟨fun_mk (st := s__law_cell_at) l__law_cell_at c__law_cell_at k__law_cell_at, (fun_mk (st := s__law_cell_at) l__law_cell_at c__law_cell_at k__law_cell_at).binds (ps := ["_law_script", "_law_k"]) fun _ _ _ _ _ _ us hl => match us, hl with | [_, _], _ => rfl⟩, gl__law_cell_at := PySem.W.mg_of X G a__law_cell_at, fn__law_whole := ⟨fun_mk (st := s__law_whole) l__law_whole c__law_whole k__law_whole, (fun_mk (st := s__law_whole) l__law_whole c__law_whole k__law_whole).binds (ps := ["_law_found"]) fun _ _ _ _ _ _ us hl => match us, hl with | [_], _ => rfl⟩, gl__law_whole := PySem.W.mg_of X G a__law_whole, fn__law_mixed := ⟨fun_mk (st := s__law_mixed) l__law_mixed c__law_mixed k__law_mixed, (fun_mk (st := s__law_mixed) l__law_mixed c__law_mixed k__law_mixed).binds (ps := ["_law_cell"]) fun _ _ _ _ _ _ us hl => match us, hl with | [_], _ => rfl⟩, gl__law_mixed := PySem.W.mg_of X G a__law_mixed, fn__law_touches_by := ⟨fun_mk (st := s__law_touches_by) l__law_touches_by c__law_touches_by k__law_touches_by, (fun_mk (st := s__law_touches_by) l__law_touches_by c__law_touches_by k__law_touches_by).binds (ps := ["_law_cells"]) fun _ _ _ _ _ _ us hl => match us, hl with | [_], _ => rfl⟩, gl__law_touches_by := PySem.W.mg_of X G a__law_touches_by, fn__law_plan_by := ⟨fun_mk (st := s__law_plan_by) l__law_plan_by c__law_plan_by k__law_plan_by, (fun_mk (st := s__law_plan_by) l__law_plan_by c__law_plan_by k__law_plan_by).binds (ps := ["_law_cells", "_law_lines", "_law_room"]) fun _ _ _ _ _ _ us hl => match us, hl with | [_, _, _], _ => rfl⟩, gl__law_plan_by := PySem.W.mg_of X G a__law_plan_by, fn__law_missed := ⟨fun_mk (st := s__law_missed) l__law_missed c__law_missed k__law_missed, (fun_mk (st := s__law_missed) l__law_missed c__law_missed k__law_missed).binds (ps := ["_law_lines", "_law_room", "_law_plan"]) fun _ _ _ _ _ _ us hl => match us, hl with | [_, _, _], _ => rfl⟩, gl__law_missed := PySem.W.mg_of X G a__law_missed, fn__law_alone := ⟨fun_mk (st := s__law_alone) l__law_alone c__law_alone k__law_alone, (fun_mk (st := s__law_alone) l__law_alone c__law_alone k__law_alone).binds (ps := ["_law_e", "_law_own"]) fun _ _ _ _ _ _ us hl => match us, hl with | [_, _], _ => rfl⟩, gl__law_alone := PySem.W.mg_of X G a__law_alone, fn_law := ⟨fun_mk (st := s_law) l_law c_law k_law, (fun_mk (st := s_law) l_law c_law k_law).binds (ps := ["_law_script"]) fun _ _ _ _ _ _ us hl => match us, hl with | [_], _ => rfl⟩, gl_law := PySem.W.mg_of X G a_law, no_len := PySem.W.mg_none_of X G z_len, no_range := PySem.W.mg_none_of X G z_range, no_isinstance := PySem.W.mg_none_of X G z_isinstance, no_int := PySem.W.mg_none_of X G z_int, no_bool := PySem.W.mg_none_of X G z_bool, no_ValueError := PySem.W.mg_none_of X G z_ValueError, no_list := PySem.W.mg_none_of X G z_list, ex_LineError := ⟨PySem.W.mg_of X G g_LineError, xx_LineError, xk_LineError, xb_LineError, xt_LineError, xi_LineError, xs_LineError⟩, ex_BadRow := ⟨PySem.W.mg_of X G g_BadRow, xx_BadRow, xk_BadRow, xb_BadRow, xt_BadRow, xi_BadRow, xs_BadRow⟩, ex_BadBoxes := ⟨PySem.W.mg_of X G g_BadBoxes, xx_BadBoxes, xk_BadBoxes, xb_BadBoxes, xt_BadBoxes, xi_BadBoxes, xs_BadBoxes⟩, ex_BadShape := ⟨PySem.W.mg_of X G g_BadShape, xx_BadShape, xk_BadShape, xb_BadShape, xt_BadShape, xi_BadShape, xs_BadShape⟩, ex_NoBox := ⟨PySem.W.mg_of X G g_NoBox, xx_NoBox, xk_NoBox, xb_NoBox, xt_NoBox, xi_NoBox, xs_NoBox⟩, ex_BadPlan := ⟨PySem.W.mg_of X G g_BadPlan, xx_BadPlan, xk_BadPlan, xb_BadPlan, xt_BadPlan, xi_BadPlan, xs_BadPlan⟩, ec_BadPlan := ⟨ehg_BadPlan, ehk_BadPlan, xb_BadPlan, ehd_BadPlan, eha_BadPlan, e_hn, e_ht, ehm_BadPlan⟩, is_BadPlan_LineError := kit_own xi_LineError xt_LineError xs_LineError u_BadPlan_LineError, is_BadPlan_BadRow := kit_own xi_BadRow xt_BadRow xs_BadRow u_BadPlan_BadRow, is_BadPlan_BadBoxes := kit_own xi_BadBoxes xt_BadBoxes xs_BadBoxes u_BadPlan_BadBoxes, is_BadPlan_BadShape := kit_own xi_BadShape xt_BadShape xs_BadShape u_BadPlan_BadShape, is_BadPlan_NoBox := kit_own xi_NoBox xt_NoBox xs_NoBox u_BadPlan_NoBox, is_BadPlan_BadPlan := kit_own xi_BadPlan xt_BadPlan xs_BadPlan u_BadPlan_BadPlan, iv_BadPlan := kit_val uv_BadPlan }
  refine ⟨cs, cs.d_law, ?_, fun base KB GB => ?_⟩
  · rw [hcs]
    exact fun s v => .of_eq rfl
  have o__law_cell_at := ok__law_cell_at (P := l.prog) (w := w) (base := base) T 
  have o__law_mixed := ok__law_mixed (P := l.prog) (w := w) (base := base) T 
  have o__law_touches_by := ok__law_touches_by (P := l.prog) (w := w) (base := base) T o__law_mixed
  have o__law_plan_by := ok__law_plan_by (P := l.prog) (w := w) (base := base) T o__law_mixed
  have o__law_missed := ok__law_missed (P := l.prog) (w := w) (base := base) T 
  have o_walked := ok_walked (P := l.prog) (w := w) (base := base) T 
  have o__law_whole := ok__law_whole (P := l.prog) (w := w) (base := base) T 
  have o__law_alone := ok__law_alone (P := l.prog) (w := w) (base := base) T 
  have o_law := ok_law (P := l.prog) (w := w) (base := base) T o__law_cell_at o__law_touches_by o__law_plan_by o__law_missed o_walked o__law_whole o__law_mixed o__law_alone
  have ef : cs.f_law = fa := by
    rw [hcs]
    exact e
  rw [← ef]
  exact o_law.ok
theorem walk {l : PySem.W.OpenLaw} {q : Program} {loose : List Str} {XP : (Str → Option Value) → Heap → Prop} {YP : World → Heap → Prop} {d : DefRec} {K : Params → PySem.W.Frag} (hn : l.most = some 63) (hdf : d.params.defaults = [])
    (hY : ∀ (w : World) (h : Heap), YP w h → (K w.params).In h)
    (F : ∀ (w : World) (mg : Str → Option Value) (fa : Addr) (h : Heap), (K w.params).In h → h.Ns mainGlobals mg → mg d.name = some (.ref fa) →
      ∃ (cs : Cs) (fd : FuncData), (∀ (s : Shared) (u : Value), BindsTo s fd ⟨[u], []⟩ [("_law_script", u)]) ∧ ∀ base : Heap, (K w.params).In base → base.Ns mainGlobals mg → FnOk l.prog w (K w.params) mg base CX0 3 fa fd ["_law_script"] (sp_law (K w.params) cs)) :
    PySem.W.WalkO q loose XP YP l.row.toRowW d [] (fun f vs => PySem.call f vs) :=
  L2.walk_of (n := 63) (k := 3) (x := "_law_script") (CX := fun _ => CX0) (sp := fun w => spEnd (K w.params)) hn (by decide) hdf ⟨rfl, by decide, by decide⟩ hY (fun w mg fa h KX G hm => by
    obtain ⟨cs, fd, B, O⟩ := F w mg fa h KX G hm
    exact ⟨fd, B, fun base KB GB => (O base KB GB).imp fun vs H Q E z => spEnd_law cs z⟩) (fun _ _ a ns hl _ hS => ⟨a, ns, rfl, hS, hl, fun _ => rfl⟩) fun _ _ _ _ _ z => z
end NL
open PySem PySem.W PyProof.Rows
set_option maxRecDepth 100000 in
set_option maxHeartbeats 0 in
theorem PySem.Challenge.cw_nearlines_k13_plans_walked_holds : PySem.Challenge.rw_nearlines_k13_plans_walked.Holds := by
  w_on; o_law; k_head; (case hw => w_witness2)
  k_fill
  refine NL.walk (l := PySem.Challenge.rw_nearlines_k13_plans_walked) rfl rfl (fun w h Y => PySem.W.kIn_of Y) ?F
  case F =>
    intro w mg fa h KX G hmg
    refine' NL.all_mk KX G hmg ?a_walked ?l_walked ?c_walked ?k_walked ?a__law_cell_at ?l__law_cell_at ?c__law_cell_at ?k__law_cell_at ?a__law_whole ?l__law_whole ?c__law_whole ?k__law_whole ?a__law_mixed ?l__law_mixed ?c__law_mixed ?k__law_mixed ?a__law_touches_by ?l__law_touches_by ?c__law_touches_by ?k__law_touches_by ?a__law_plan_by ?l__law_plan_by ?c__law_plan_by ?k__law_plan_by ?a__law_missed ?l__law_missed ?c__law_missed ?k__law_missed ?a__law_alone ?l__law_alone ?c__law_alone ?k__law_alone ?a_law ?l_law ?c_law ?k_law ?z_len ?z_range ?z_isinstance ?z_int ?z_bool ?z_ValueError ?z_list ?g_LineError ?xx_LineError ?xk_LineError ?xb_LineError ?xt_LineError ?xi_LineError ?xs_LineError ?g_BadRow ?xx_BadRow ?xk_BadRow ?xb_BadRow ?xt_BadRow ?xi_BadRow ?xs_BadRow ?g_BadBoxes ?xx_BadBoxes ?xk_BadBoxes ?xb_BadBoxes ?xt_BadBoxes ?xi_BadBoxes ?xs_BadBoxes ?g_BadShape ?xx_BadShape ?xk_BadShape ?xb_BadShape ?xt_BadShape ?xi_BadShape ?xs_BadShape ?g_NoBox ?xx_NoBox ?xk_NoBox ?xb_NoBox ?xt_NoBox ?xi_NoBox ?xs_NoBox ?g_BadPlan ?xx_BadPlan ?xk_BadPlan ?xb_BadPlan ?xt_BadPlan ?xi_BadPlan ?xs_BadPlan ?ehg_BadPlan ?ehk_BadPlan ?ehd_BadPlan ?eha_BadPlan ?ehm_BadPlan ?e_hn ?e_ht ?u_BadPlan_LineError ?u_BadPlan_BadRow ?u_BadPlan_BadBoxes ?u_BadPlan_BadShape ?u_BadPlan_NoBox ?u_BadPlan_BadPlan ?uv_BadPlan
    (case a_walked => k_is)
    (case l_walked => k_is)
    (case c_walked => k_is)
    (case k_walked => k_is)
    (case a__law_cell_at => k_is)
    (case l__law_cell_at => k_is)
    (case c__law_cell_at => k_is)
    (case k__law_cell_at => k_is)
    (case a__law_whole => k_is)
    (case l__law_whole => k_is)
    (case c__law_whole => k_is)
    (case k__law_whole => k_is)
    (case a__law_mixed => k_is)
    (case l__law_mixed => k_is)
    (case c__law_mixed => k_is)
    (case k__law_mixed => k_is)
    (case a__law_touches_by => k_is)
    (case l__law_touches_by => k_is)
    (case c__law_touches_by => k_is)
    (case k__law_touches_by => k_is)
    (case a__law_plan_by => k_is)
    (case l__law_plan_by => k_is)
    (case c__law_plan_by => k_is)
    (case k__law_plan_by => k_is)
    (case a__law_missed => k_is)
    (case l__law_missed => k_is)
    (case c__law_missed => k_is)
    (case k__law_missed => k_is)
    (case a__law_alone => k_is)
    (case l__law_alone => k_is)
    (case c__law_alone => k_is)
    (case k__law_alone => k_is)
    (case a_law => k_is)
    (case l_law => k_is)
    (case c_law => k_is)
    (case k_law => k_is)
    (case z_len => k_is)
    (case z_range => k_is)
    (case z_isinstance => k_is)
    (case z_int => k_is)
    (case z_bool => k_is)
    (case z_ValueError => k_is)
    (case z_list => k_is)
    (case g_LineError => k_is)
    (case xx_LineError => k_exc)
    (case xk_LineError => k_is)
    (case xb_LineError => k_is)
    (case xt_LineError => k_is)
    (case xi_LineError => k_is)
    (case xs_LineError => first | k_is | rfl)
    (case g_BadRow => k_is)
    (case xx_BadRow => k_exc)
    (case xk_BadRow => k_is)
    (case xb_BadRow => k_is)
    (case xt_BadRow => k_is)
    (case xi_BadRow => k_is)
    (case xs_BadRow => first | k_is | rfl)
    (case g_BadBoxes => k_is)
    (case xx_BadBoxes => k_exc)
    (case xk_BadBoxes => k_is)
    (case xb_BadBoxes => k_is)
    (case xt_BadBoxes => k_is)
    (case xi_BadBoxes => k_is)
    (case xs_BadBoxes => first | k_is | rfl)
    (case g_BadShape => k_is)
    (case xx_BadShape => k_exc)
    (case xk_BadShape => k_is)
    (case xb_BadShape => k_is)
    (case xt_BadShape => k_is)
    (case xi_BadShape => k_is)
    (case xs_BadShape => first | k_is | rfl)
    (case g_NoBox => k_is)
    (case xx_NoBox => k_exc)
    (case xk_NoBox => k_is)
    (case xb_NoBox => k_is)
    (case xt_NoBox => k_is)
    (case xi_NoBox => k_is)
    (case xs_NoBox => first | k_is | rfl)
    (case g_BadPlan => k_is)
    (case xx_BadPlan => k_exc)
    (case xk_BadPlan => k_is)
    (case xb_BadPlan => k_is)
    (case xt_BadPlan => k_is)
    (case xi_BadPlan => k_is)
    (case xs_BadPlan => first | k_is | rfl)
    (case ehg_BadPlan => k_is)
    (case ehk_BadPlan => k_is)
    (case ehd_BadPlan => k_is)
    (case eha_BadPlan => k_is)
    (case ehm_BadPlan => k_is)
    (case e_hn => k_is)
    (case e_ht => k_is)
    (case u_BadPlan_LineError => first | k_is | rfl)
    (case u_BadPlan_BadRow => first | k_is | rfl)
    (case u_BadPlan_BadBoxes => first | k_is | rfl)
    (case u_BadPlan_BadShape => first | k_is | rfl)
    (case u_BadPlan_NoBox => first | k_is | rfl)
    (case u_BadPlan_BadPlan => first | k_is | rfl)
    (case uv_BadPlan => k_is)
#print axioms PySem.Challenge.cw_nearlines_k13_plans_walked_holds
