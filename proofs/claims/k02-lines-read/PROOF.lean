import PyProof.Rows.All
import Wide.All
import OpenK.AllK
import Wide.FinOn
import HandS.ForMost
import HandS.IsInst
import HandS.Deep
import HandS.LawCells
import HandS.ForExc
import HandS.ExcIs
import HandS.HotCalls
import HandS.SetFor
import HandS.More
import HandS.Replace
import HandS.Codes
import HandS.Walk
import PySem.Challenge.RW_nearlines_k02_lines_read
set_option Elab.async false
set_option linter.all false
set_option maxRecDepth 100000
set_option maxHeartbeats 4000000
namespace L2
open PySem PySem.Spec PyProof.Rows
/-! ## common to all laws: a def of the text with its place, its promise, its call -/
/-- the def at f is the one that stands in the text at st, its parameters are ps -/
structure FnAt (K : PySem.W.Frag) (x qual : Str) (st : Stmt) (f : Addr) (fd : FuncData) (ps : List Str) : Prop where
  fn : Fun K x qual st f fd
  bd : Binds K fd ps []
/-- the def at f keeps the promise sp -/
structure Ok (P : Program) (w : World) (K : PySem.W.Frag) (mg : Str → Option Value) (base : Heap) (cx : CXT) (k : Nat) (f : Addr) (fd : FuncData) (ps : List Str) (sp : Sp) : Prop where
  ok : FnOk P w K mg base cx k f fd ps sp
  bd : Binds K fd ps []
  kp : PySem.W.keepIn K (.ref f) = true
theorem Ok.imp {P : Program} {w : World} {K : PySem.W.Frag} {mg : Str → Option Value} {base : Heap} {cx : CXT} {k : Nat} {f : Addr} {fd : FuncData} {ps : List Str} {sp sp' : Sp} (o : Ok P w K mg base cx k f fd ps sp)
    (h : ∀ vs H Q E, sp' vs H Q E → sp vs H Q E) : Ok P w K mg base cx k f fd ps sp' := ⟨o.ok.imp h, o.bd, o.kp⟩
section
variable {P : Program} {w : World} {K : PySem.W.Frag} {mg : Str → Option Value} {base : Heap} {x qual : Str} {st : Stmt} {f : Addr} {fd : FuncData} {ps N : List Str} {k : Nat} {sp : Sp}
theorem FnAt.ok (F : FnAt K x qual st f fd ps) (S : FnScope N ps (defScope st)) (len : ∀ vs H Q E, sp vs H Q E → vs.length = ps.length)
    (body : ∀ (cdv : Value) (A : Around) (outer : List Env) (s : Shared) (H : Hp) (vs : List V) (Q : VK) (E : XK), Room k (A.deeper (envOfC qual (defScope st) s.heap.objs.size f cdv)) → sp vs H Q E →
      ∃ t, PSs (cxOf CX0 P w K mg base N qual (defScope st) f cdv A outer s H E).nox (defBody st) t ∧ t { nx := fun _ H' => Q .non H', rt := Q } (start N vs) H) : Ok P w K mg base CX0 (k + 1) f fd ps sp := ⟨F.fn.ok S len body, F.bd, F.fn.kp⟩
theorem FnAt.okX (F : FnAt K x qual st f fd ps) (S : FnScope N ps (defScope st)) (len : ∀ vs H Q E, sp vs H Q E → vs.length = ps.length)
    (body : ∀ (cdv : Value) (A : Around) (outer : List Env) (s : Shared) (H : Hp) (vs : List V) (Q : VK) (E : XK), Room k (A.deeper (envOfC qual (defScope st) s.heap.objs.size f cdv)) → sp vs H Q E →
      ∃ t, PSs (cxOf (L2.CX P w) P w K mg base N qual (defScope st) f cdv A outer s H E) (defBody st) t ∧ t { nx := fun _ H' => Q .non H', rt := Q } (start N vs) H) : Ok P w K mg base (L2.CX P w) (k + 1) f fd ps sp := ⟨F.fn.okX S len body, F.bd, F.fn.kp⟩
end
section
variable {X : Cx} {cx : CXT} {k : Nat} {f : Addr} {fd : FuncData} {ps : List Str} {sp : Sp} {E : XK} {x m : Str} {p pos apos : Pos} {e o : Expr} {es : List Expr} {ta : TE} {t : TA}
/-- f(..) -/
def tCallO (sp : Sp) (E : XK) (t : TA) : TE := fun σ H Q => t σ H fun vs H1 => sp vs H1 Q E
theorem tCallO_eq {sp : Sp} {E : XK} {t : TA} : tCall sp [] E t = tCallO sp E t := by
  funext σ H Q
  show t σ H (fun vs H1 => sp (vs ++ []) H1 Q E) = t σ H fun vs H1 => sp vs H1 Q E
  simp only [List.append_nil]
theorem pe_callO (O : Ok X.prog X.w X.K X.mg X.base cx k f fd ps sp) (hr : Room k X.A) (hg : Gl X x) (hm : X.mg x = some (.ref f)) (hx : Passes cx X E) (ha : PA X (e :: es) t)
    (hdb : (x == ("__debug__" : Str)) = false := by decide) (he : starEach (e :: es) X.env = (false, eval e X.env) :: starEach es X.env := by rfl) (hpl : (backTo pos (starEach es X.env)).any (·.1) = false := by rfl) :
    PE X (.Call (.Name x p) (e :: es) [] pos) (tCallO sp E t) := by
  obtain ⟨F, B, kp⟩ := O
  rw [← tCallO_eq]
  exact pe_call F hr hg hm kp B .nil hx ha hdb he hpl
/-- o.m(..) -/
def tMethO (C : Addr) (m : Str) (sp : Sp) (E : XK) (ta : TE) (t : TA) : TE := fun σ H Q => ta σ H fun x H1 => ∃ a dx fs, x = .ref a ∧ H1 a = some (.ins C dx fs) ∧ fs.lookup m = none ∧ t σ H1 fun vs H2 => sp (x :: vs) H2 Q E
theorem tMethO_eq {C : Addr} {m : Str} {sp : Sp} {E : XK} {ta : TE} {t : TA} : tMeth C m sp [] E ta t = tMethO C m sp E ta t := by
  funext σ H Q
  unfold tMeth tMethO
  simp only [List.append_nil]
theorem pe_methO {C : Addr} {pl : Sem Bool} (O : Ok X.prog X.w X.K X.mg X.base cx k f fd ps sp) (c : Cls X.K C) (hm : Meth X.K C m f) (hr : Room k X.A) (hx : Passes cx X E) (he : PE X o ta) (ha : PA X (e :: es) t)
    (hst : starEach (e :: es) X.env = (false, eval e X.env) :: starEach es X.env := by rfl) (hpl : (backTo pos (starEach es X.env)).any (·.1) = false := by rfl)
    (ht : eval (.Call (.Attribute o m apos) (e :: es) [] pos) X.env = (do
      let ov ← eval o X.env
      standAt apos.atName
      let (f, first) ← holding [ov] (getMethod ov m pl)
      callWith pos f first (backTo pos (starEach (e :: es) X.env)) (backToKw pos (keywordEach [] X.env))) := by rfl) :
    PE X (.Call (.Attribute o m apos) (e :: es) [] pos) (tMethO C m sp E ta t) := by
  obtain ⟨F, B, kp⟩ := O
  rw [← tMethO_eq]
  exact pe_meth he c hm F hr B .nil hx ha hst hpl ht
theorem pe_methO0 {C : Addr} {pl : Sem Bool} (O : Ok X.prog X.w X.K X.mg X.base cx k f fd ps sp) (c : Cls X.K C) (hm : Meth X.K C m f) (hr : Room k X.A) (hx : Passes cx X E) (he : PE X o ta)
    (ht : eval (.Call (.Attribute o m apos) [] [] pos) X.env = (do
      let ov ← eval o X.env
      standAt apos.atName
      let (f, first) ← holding [ov] (getMethod ov m pl)
      callWith pos f first (backTo pos (starEach [] X.env)) (backToKw pos (keywordEach [] X.env))) := by rfl) :
    PE X (.Call (.Attribute o m apos) [] [] pos) (tMethO C m sp E ta tNil) := by
  obtain ⟨F, B, kp⟩ := O
  rw [← tMethO_eq]
  exact pe_meth0 he c hm F hr B .nil hx ht
end
/-! ### tests, heaps -/
theorem iteD {c A B : Prop} [Decidable c] (h1 : c → A) (h2 : ¬ c → B) : if decide c = true then A else B := by
  by_cases h : c
  · rw [decide_eq_true h]
    exact iteT (h1 h)
  · rw [decide_eq_false h]
    exact iteF (h2 h)
theorem iteN {c A B : Prop} [Decidable c] (h1 : ¬ c → A) (h2 : c → B) : if (!decide c) = true then A else B := by
  by_cases h : c
  · rw [decide_eq_true h]
    exact iteF (h2 h)
  · rw [decide_eq_false h]
    exact iteT (h1 h)
theorem iteB {b : Bool} {A B : Prop} (h1 : b = true → A) (h2 : b = false → B) : if b = true then A else B := by
  cases b with
  | true => exact iteT (h1 rfl)
  | false => exact iteF (h2 rfl)
theorem iteBN {b : Bool} {A B : Prop} (h1 : b = false → A) (h2 : b = true → B) : if (!b) = true then A else B := by
  cases b with
  | true => exact iteF (h2 rfl)
  | false => exact iteT (h1 rfl)
theorem Same.new {H : Hp} {p : Addr} {o : HO} (h : H p = none) : Same H (upd H p o) := fun b x e => by
  rw [upd_ne (ne_of_none e h)]
  exact e
/-- what H does not know may change -/
theorem Same.mut {H H' : Hp} {p : Addr} {o : HO} (s : Same H H') (h : H p = none) : Same H (upd H' p o) := fun b x e => by
  rw [upd_ne (ne_of_none e h)]
  exact s b x e
theorem Same.seqT {K : PySem.W.Frag} {H H' : Hp} {a : Addr} {xs : List V} (e : Same H H') (h : SqT K H a xs) : SqT K H' a xs := by
  rcases h with (h | ⟨o, h⟩) | h
  · exact .inl (.inl (e _ _ h))
  · exact .inl (.inr ⟨o, e _ _ h⟩)
  · exact .inr h
/-- the list at l is not the tuple at a -/
theorem SqT.but {K : PySem.W.Frag} {H : Hp} {a l : Addr} {xs ys : List V} {o : HO} (h : SqT K H a xs) (hl : H l = some (.lst ys)) : SqT K (upd H l o) a xs := by
  rcases h with (h | ⟨u, h⟩) | h
  · exact .inl (.inl (by rw [upd_ne (ne_of h hl (by intro z; cases z))]; exact h))
  · exact .inl (.inr ⟨u, by rw [upd_ne (ne_of h hl (by intro z; cases z))]; exact h⟩)
  · exact .inr h
/-! ### ways joined: a word between a part and what follows -/
section
variable {X : Cx}
def tJoinE (t : TE) : TE := fun σ H Q => ∃ R : VK, t σ H R ∧ ∀ v H1, R v H1 → Q v H1
theorem pe_jn {e : Expr} {t : TE} (h : PE X e t) : PE X e (tJoinE t) := by
  refine ⟨fun pins s σ H Q I hq => ?_⟩
  obtain ⟨R, h1, h2⟩ := hq
  refine thn (h.run pins s σ H R I h1) fun u s1 hh => ?_
  obtain ⟨v, H1, I1, r, q⟩ := hh
  exact ⟨v, H1, I1, r, h2 v H1 q⟩
def tJoinT (t : TT) : TT := fun σ H Q => ∃ R : Bool → Hp → Prop, t σ H R ∧ ∀ b H1, R b H1 → Q b H1
theorem pt_jn {e : Expr} {t : TT} (h : PT X e t) : PT X e (tJoinT t) := by
  refine ⟨fun pins s σ H Q I hq => ?_⟩
  obtain ⟨R, h1, h2⟩ := hq
  refine thn (h.run pins s σ H R I h1) fun b s1 hh => ?_
  obtain ⟨H1, I1, q⟩ := hh
  exact ⟨H1, I1, h2 b H1 q⟩
def tCutS (t u : TS) : TS := fun D σ H => ∃ Mid : St → Hp → Prop, t { D with nx := Mid } σ H ∧ ∀ σ' H', Mid σ' H' → u D σ' H'
theorem pss_cutS {st : Stmt} {rest : List Stmt} {t u : TS} (h1 : PS X st t) (h2 : PSs X rest u) : PSs X (st :: rest) (tCutS t u) := by
  refine ⟨fun pins s σ H D I h => ?_⟩
  obtain ⟨Mid, hm, hu⟩ := h
  refine wpAny_execs_cons (thn (h1.run pins s σ H { D with nx := Mid } I hm) fun f s1 q => ?_)
  cases f with
  | next =>
    obtain ⟨σ1, H1, I1, q1⟩ := q
    exact h2.run pins s1 σ1 H1 D I1 (hu σ1 H1 q1)
  | ret v => exact q
  | brk => exact q
  | cont => exact q
end
/-! ### rules within a comprehension: the written part named -/
section
variable {X : Cx} {K : PySem.W.Frag}
theorem ix_tupK (h : X.K = K) : IxR X (rIxT K) := by subst h; exact ix_tup
theorem ix_listK (h : X.K = K) : IxR X (rIxL K) := by subst h; exact ix_list
theorem ix_seqK (h : X.K = K) : IxR X (rIx K) := by subst h; exact ix_seq
theorem op_in_seqK (h : X.K = K) : OpR X (compareOp .In) (rIn K false) := by subst h; exact op_in_seq
theorem op_notIn_seqK (h : X.K = K) : OpR X (compareOp .NotIn) (rIn K true) := by subst h; exact op_notIn_seq
def rLenQ (K : PySem.W.Frag) : List V → Hp → VK → Prop := fun xs H Q => ∃ p ys, xs = [.ref p] ∧ (SqL K H p ys ∨ SqT K H p ys) ∧ Q (.int ys.length) H
theorem call_len_seqK (h : X.K = K) : CallR X (.builtin "len") (rLenQ K) := by subst h; exact call_len_seq
theorem call_isiK' (h : X.K = K) : CallR X (.builtin "isinstance") (rIsi K) := by subst h; exact call_isi
end
theorem SqL.but {K : PySem.W.Frag} {H : Hp} {a l : Addr} {xs ys : List V} {o : HO} (h : SqL K H a xs) (hl : H l = some (.lst ys)) (n : a ≠ l) : SqL K (upd H l o) a xs := by
  rcases h with (h | ⟨u, h⟩) | h
  · exact .inl (.inl (by rw [upd_ne n]; exact h))
  · exact .inl (.inr ⟨u, by rw [upd_ne n]; exact h⟩)
  · exact .inr h
end L2
namespace L2
open PySem PySem.Spec PyProof.Rows
/-! ### lists of ints, of ints and None, by values -/
def optV : Option Int → V
  | none => .non
  | some i => .int i
theorem optV_flat (o : Option Int) : flatV (optV o) = true := by cases o <;> rfl
theorem flat_ints (xs : List Int) : (xs.map V.int).all flatV = true := by
  induction xs with
  | nil => rfl
  | cons x r ih => exact ih
theorem flat_opts (xs : List (Option Int)) : (xs.map optV).all flatV = true := by
  induction xs with
  | nil => rfl
  | cons x r ih =>
    show (flatV (optV x) && (r.map optV).all flatV) = true
    rw [ih, optV_flat]
    rfl
theorem inV_ints (x : Int) (xs : List Int) : inV (.int x) (xs.map V.int) = decide (x ∈ xs) := by
  induction xs with
  | nil => rfl
  | cons y r ih =>
    show (y == x || inV (.int x) (r.map V.int)) = decide (x ∈ y :: r)
    rw [ih]
    by_cases h : y = x
    · subst h
      simp
    · have h' : ¬ x = y := fun z => h z.symm
      simp [h, h']
theorem inV_non_ints (xs : List Int) : inV .non (xs.map V.int) = false := by
  induction xs with
  | nil => rfl
  | cons y r ih =>
    show (false || inV .non (r.map V.int)) = false
    rw [ih]
    rfl
theorem nl_get_map {α : Type} {f : α → V} {xs : List α} {i : Nat} {x : α} (h : xs[i]? = some x) : (xs.map f)[i]? = some (f x) := by
  rw [List.getElem?_map, h]
  rfl
theorem of_get_map {α : Type} {f : α → V} {xs : List α} {i : Nat} {v : V} (h : (xs.map f)[i]? = some v) : ∃ x, xs[i]? = some x ∧ v = f x := by
  rw [List.getElem?_map] at h
  cases e : xs[i]? with
  | none =>
    rw [e] at h
    cases h
  | some x =>
    rw [e] at h
    exact ⟨x, rfl, (Option.some.inj h).symm⟩
theorem of_get_mapG {α β : Type} {f : α → β} {xs : List α} {i : Nat} {v : β} (h : (xs.map f)[i]? = some v) : ∃ x, xs[i]? = some x ∧ v = f x := by
  rw [List.getElem?_map] at h
  cases e : xs[i]? with
  | none =>
    rw [e] at h
    cases h
  | some x =>
    rw [e] at h
    exact ⟨x, rfl, (Option.some.inj h).symm⟩
theorem idx_get {x : Int} {xs : List Int} (h : x ∈ xs) : xs[xs.idxOf x]? = some x := by
  have hl : xs.idxOf x < xs.length := List.idxOf_lt_length_of_mem h
  rw [List.getElem?_eq_getElem hl, List.getElem_idxOf hl]
theorem idx_first {x y : Int} : ∀ {xs : List Int} {m : Nat}, m < xs.idxOf x → xs[m]? = some y → (y == x) = false
  | [], m, h, _ => by simp at h
  | z :: r, m, h, hm => by
    rw [List.idxOf_cons] at h
    by_cases e : z = x
    · subst e
      simp at h
    · have e' : (z == x) = false := by simpa using e
      rw [e'] at h
      cases m with
      | zero =>
        have q : z = y := Option.some.inj hm
        rw [← q]
        exact e'
      | succ m => exact idx_first (xs := r) (m := m) (by simp only [cond_false] at h; omega) hm
theorem eqV_int (x : Int) : eqV (.int x) (.int x) = true := by
  show (x == x) = true
  simp
theorem idx_none {x : Int} {xs : List Int} (m : Nat) (z : V) (hm : m < xs.idxOf x) (hz : (xs.map V.int)[m]? = some z) : eqV z (.int x) = false := by
  obtain ⟨y, hy, rfl⟩ := of_get_map hz
  exact idx_first hm hy
theorem ix_nat {n j : Nat} (hj : j < n) : ixN n (j : Int) = some j := by
  unfold ixN
  rw [if_pos (by omega), if_pos (by omega)]
  simp
theorem pop_seq {j n : Nat} (h : j < n) : seqIndex? (j : Int) n = some j := (ixN_seq (ix_nat h)).1
theorem erase_map {α : Type} {f : α → V} : ∀ (xs : List α) (j : Nat), (xs.map f).eraseIdx j = (xs.eraseIdx j).map f
  | [], j => by cases j <;> rfl
  | x :: r, 0 => rfl
  | x :: r, j + 1 => congrArg (f x :: ·) (erase_map r j)
theorem snoc_map {α : Type} (f : α → V) (xs : List α) (x : α) : xs.map f ++ [f x] = (xs ++ [x]).map f := by
  rw [List.map_append]
  rfl
theorem fold_take {α β : Type} (f : β → α → β) (s : β) {xs : List α} {i : Nat} {x : α} (h : xs[i]? = some x) : (xs.take (i + 1)).foldl f s = f ((xs.take i).foldl f s) x := by
  rw [List.take_add_one, h, List.foldl_append]
  rfl
theorem fold_all {α β : Type} (f : β → α → β) (s : β) {xs : List α} : (xs.take xs.length).foldl f s = xs.foldl f s := by rw [List.take_length]
theorem sizeL {n : Nat} (h : n < 1000000) : n < sizeLine := Nat.lt_of_lt_of_le h (by decide)
/-! ### touches -/
def kindS (b : Bool) : Str := if b then "write" else "read"
/-- a touch: whether it writes, its box -/
abbrev Tch := Bool × Int
def TouchAt (K : PySem.W.Frag) (H : Hp) (v : V) (t : Tch) : Prop := ∃ a, v = .ref a ∧ SqT K H a [.str (kindS t.1), .int t.2]
/-- at a a list of the touches ts -/
structure TL (K : PySem.W.Frag) (H : Hp) (xs : List V) (ts : List Tch) : Prop where
  len : xs.length = ts.length
  at_ : ∀ (i : Nat) (t : Tch), ts[i]? = some t → ∃ v, xs[i]? = some v ∧ TouchAt K H v t
theorem TouchAt.same {K : PySem.W.Frag} {H H' : Hp} {v : V} {t : Tch} (h : TouchAt K H v t) (s : Same H H') : TouchAt K H' v t := by
  obtain ⟨a, e, q⟩ := h
  exact ⟨a, e, s.seqT q⟩
theorem TL.same {K : PySem.W.Frag} {H H' : Hp} {xs : List V} {ts : List Tch} (h : TL K H xs ts) (s : Same H H') : TL K H' xs ts :=
  ⟨h.len, fun i t e => let ⟨v, e1, q⟩ := h.at_ i t e; ⟨v, e1, q.same s⟩⟩
theorem TouchAt.but {K : PySem.W.Frag} {H : Hp} {v : V} {t : Tch} {l : Addr} {ys : List V} {o : HO} (h : TouchAt K H v t) (hl : H l = some (.lst ys)) : TouchAt K (upd H l o) v t := by
  obtain ⟨a, e, q⟩ := h
  exact ⟨a, e, q.but hl⟩
theorem TL.but {K : PySem.W.Frag} {H : Hp} {xs : List V} {ts : List Tch} {l : Addr} {ys : List V} {o : HO} (h : TL K H xs ts) (hl : H l = some (.lst ys)) : TL K (upd H l o) xs ts :=
  ⟨h.len, fun i t e => let ⟨v, e1, q⟩ := h.at_ i t e; ⟨v, e1, q.but hl⟩⟩
theorem TL.nil {K : PySem.W.Frag} {H : Hp} : TL K H [] [] := ⟨rfl, fun i t e => by simp at e⟩
theorem TL.snoc {K : PySem.W.Frag} {H : Hp} {xs : List V} {ts : List Tch} {v : V} {t : Tch} (h : TL K H xs ts) (q : TouchAt K H v t) : TL K H (xs ++ [v]) (ts ++ [t]) := by
  refine ⟨by rw [List.length_append, List.length_append, h.len]; rfl, fun i u e => ?_⟩
  by_cases hi : i < ts.length
  · rw [List.getElem?_append_left hi] at e
    obtain ⟨x, e1, q1⟩ := h.at_ i u e
    exact ⟨x, by rw [List.getElem?_append_left (by rw [h.len]; exact hi)]; exact e1, q1⟩
  · have hlt := (List.getElem?_eq_some_iff.mp e).1
    rw [List.length_append] at hlt
    have hi2 : i = ts.length := by
      simp only [List.length_cons, List.length_nil] at hlt
      omega
    subst hi2
    rw [List.getElem?_append_right (Nat.le_refl _), Nat.sub_self] at e
    have et : t = u := Option.some.inj e
    subst et
    refine ⟨v, ?_, q⟩
    rw [← h.len, List.getElem?_append_right (Nat.le_refl _), Nat.sub_self]
    rfl
theorem TL.of {K : PySem.W.Frag} {H : Hp} {xs : List V} {ts : List Tch} (h : TL K H xs ts) {i : Nat} {v : V} (hv : xs[i]? = some v) : ∃ t, ts[i]? = some t ∧ TouchAt K H v t := by
  have hlt := (List.getElem?_eq_some_iff.mp hv).1
  rw [h.len] at hlt
  obtain ⟨v', e1, q⟩ := h.at_ i ts[i] (List.getElem?_eq_getElem hlt)
  rw [hv] at e1
  have ev : v = v' := Option.some.inj e1
  exact ⟨ts[i], List.getElem?_eq_getElem hlt, by rw [ev]; exact q⟩
theorem at_getD {xs : List Int} {i : Int} (h0 : 0 ≤ i) (h1 : i < xs.length) : atI (xs.map V.int) i = some (.int (xs.getD i.toNat 0)) := by
  obtain ⟨j, rfl⟩ : ∃ j : Nat, i = (j : Int) := ⟨i.toNat, by omega⟩
  have hj : j < xs.length := by omega
  refine atI_nat ?_
  rw [List.getElem?_map, Int.toNat_natCast, List.getD_eq_getElem?_getD, List.getElem?_eq_getElem hj]
  rfl
theorem mod_at {xs : List Int} (c : Int) (n : Nat) (hn : n = xs.length) (h0 : 0 < n) : atI (xs.map V.int) (c % (n : Int)) = some (.int (xs.getD (c % (n : Int)).toNat 0)) :=
  at_getD (Int.emod_nonneg _ (by omega)) (by have := Int.emod_lt_of_pos c (show 0 < (n : Int) by omega); omega)
theorem kind_at (c : Int) : atI [V.str "read", V.str "write"] (c % 2) = some (V.str (kindS (c % 2 == 1))) := by
  have h : c % 2 = 0 ∨ c % 2 = 1 := by omega
  rcases h with h | h <;> rw [h] <;> rfl
theorem int_getD {lines : List Int} {k : Nat} (h : k < lines.length) : (lines.map V.int)[k]? = some (.int (lines.getD k 0)) := by
  rw [List.getElem?_map, List.getD_eq_getElem?_getD, List.getElem?_eq_getElem h]
  rfl
theorem mod2 (c : Int) : c % 2 = 0 ∨ c % 2 = 1 := by omega
theorem mod4 (c : Int) : c % 4 = 0 ∨ c % 4 = 1 ∨ c % 4 = 2 ∨ c % 4 = 3 := by omega
theorem filter_erase {x : Int} : ∀ {l : List Int}, l.Nodup → x ∈ l → l.filter (fun z => !decide (z = x)) = l.eraseIdx (l.idxOf x)
  | [], _, h => by simp at h
  | y :: r, nd, h => by
    obtain ⟨h1, h2⟩ := List.nodup_cons.mp nd
    by_cases e : y = x
    · subst e
      have e2 : (y :: r).idxOf y = 0 := by simp
      rw [e2, List.filter_cons, if_neg (by simp)]
      show _ = r
      rw [List.filter_eq_self]
      intro z hz
      have : ¬ z = y := fun q => h1 (by rw [← q]; exact hz)
      simp [this]
    · have h3 : x ∈ r := by
        rcases List.mem_cons.mp h with q | q
        · exact absurd q.symm e
        · exact q
      have e2 : (y :: r).idxOf x = r.idxOf x + 1 := by
        rw [List.idxOf_cons]
        have e' : (y == x) = false := by simpa using e
        rw [e']
        rfl
      rw [e2, List.filter_cons, if_pos (by simp [e]), filter_erase h2 h3]
      rfl
theorem at_ofG {α : Type} {xs : List α} {z : Int} {j : Nat} {v : α} (e : z = (j : Int)) (h : xs[j]? = some v) : atI xs z = some v := by
  rw [e]
  exact atI_nat h
end L2
namespace L2
open PySem PySem.Spec PyProof.Rows
/-! ### data at any depth, for == -/
def Sh (n : Nat) (d : PyData) : Prop := PyData.canLay0 d = true ∧ PyData.depth d ≤ n
theorem Sh.shaped {n : Nat} {d : PyData} (h : Sh n d) (hn : n ≤ 64) : SeqAt.shaped d = true := by
  unfold SeqAt.shaped
  rw [h.1, decide_eq_true (Nat.le_trans h.2 hn)]
  rfl
theorem sh_all {n : Nat} : ∀ {ds : List PyData}, (∀ d ∈ ds, Sh n d) → PyData.canLayAll0 ds = true ∧ PyData.depthAll ds ≤ n
  | [], _ => ⟨rfl, Nat.zero_le _⟩
  | d :: r, h => by
    obtain ⟨h1, h2⟩ := h d List.mem_cons_self
    obtain ⟨h3, h4⟩ := sh_all (ds := r) fun e he => h e (List.mem_cons_of_mem _ he)
    refine ⟨?_, ?_⟩
    · show (PyData.canLay0 d && PyData.canLayAll0 r) = true
      rw [h1, h3]
      rfl
    · show max (PyData.depth d) (PyData.depthAll r) ≤ n
      omega
theorem sh_list {n : Nat} {ds : List PyData} (h : ∀ d ∈ ds, Sh n d) : Sh (n + 1) (.list ds) := ⟨(sh_all h).1, Nat.succ_le_succ (sh_all h).2⟩
theorem sh_tup {n : Nat} {ds : List PyData} (h : ∀ d ∈ ds, Sh n d) : Sh (n + 1) (.tuple ds) := ⟨(sh_all h).1, Nat.succ_le_succ (sh_all h).2⟩
theorem sh_int {n : Nat} (i : Int) : Sh n (.int i) := ⟨rfl, Nat.zero_le _⟩
theorem sh_non {n : Nat} : Sh n .none := ⟨rfl, Nat.zero_le _⟩
theorem sh_bool {n : Nat} (b : Bool) : Sh n (.bool b) := ⟨rfl, Nat.zero_le _⟩
theorem sh_str {n : Nat} {x : Str} (h : PyData.strOk x = true) : Sh n (.str x) := ⟨h, Nat.zero_le _⟩
theorem dpAll_of {K : PySem.W.Frag} {H : Hp} : ∀ {xs : List V} {ds : List PyData}, xs.length = ds.length → (∀ (i : Nat) v d, xs[i]? = some v → ds[i]? = some d → Dp K H v d) → DpAll K H xs ds
  | [], [], _, _ => .nil
  | [], _ :: _, h, _ => by simp at h
  | _ :: _, [], h, _ => by simp at h
  | x :: r, d :: s, h, q => .cons (q 0 x d rfl rfl) (dpAll_of (by simpa using h) fun i v e h1 h2 => q (i + 1) v e h1 h2)
theorem eqv_self {n : Nat} {d : PyData} (h : Sh n d) : PyData.eqv d d = true := SeqAt.eqv_refl d h.1
/-! ### touches as data -/
def touchD (t : Tch) : PyData := .tuple [.str (kindS t.1), .int t.2]
theorem touch_sh (t : Tch) : Sh 1 (touchD t) := sh_tup fun d hd => by
  simp only [List.mem_cons, List.not_mem_nil, or_false] at hd
  rcases hd with rfl | rfl
  · have q : ∀ b, PyData.strOk (kindS b) = true := by
      intro b
      cases b <;> decide +kernel
    exact sh_str (q _)
  · exact sh_int _
theorem touches_sh (ts : List Tch) : Sh 2 (.list (ts.map touchD)) := sh_list fun d hd => by
  obtain ⟨t, _, rfl⟩ := List.mem_map.mp hd
  exact touch_sh t
theorem TouchAt.dp {K : PySem.W.Frag} {H : Hp} {v : V} {t : Tch} (h : TouchAt K H v t) : Dp K H v (touchD t) := by
  obtain ⟨a, rfl, q⟩ := h
  exact .tup q (.cons (.str _) (.cons (.int _) .nil))
theorem TL.dp {K : PySem.W.Frag} {H : Hp} {a : Addr} {xs : List V} {ts : List Tch} (h : TL K H xs ts) (q : SqL K H a xs) : Dp K H (.ref a) (.list (ts.map touchD)) := by
  refine .lst q (dpAll_of (by rw [h.len, List.length_map]) fun i v d hv hd => ?_)
  obtain ⟨t, ht, qt⟩ := h.of hv
  rw [List.getElem?_map, ht] at hd
  have e : touchD t = d := Option.some.inj hd
  rw [← e]
  exact qt.dp
theorem cut_one (xs : List V) : cutV xs (some 1) none = xs.drop 1 := by
  unfold cutV
  rw [show HT.sIx xs.length 0 (some 1) = min 1 xs.length from HT.sIx_nat xs.length 0 1, HT.sIx_none]
  cases xs with
  | nil => rfl
  | cons x r =>
    rw [show min 1 (x :: r).length = 1 by
      rw [List.length_cons]
      omega]
    show (List.take ((x :: r).length - 1) r) = r
    rw [List.length_cons, Nat.add_sub_cancel]
    exact List.take_length
theorem cut_from (xs : List V) (k : Nat) : cutV xs (some (k : Int)) none = xs.drop k := by
  unfold cutV
  rw [show HT.sIx xs.length 0 (some (k : Int)) = min k xs.length from HT.sIx_nat xs.length 0 k, HT.sIx_none]
  by_cases h : k ≤ xs.length
  · rw [Nat.min_eq_left h]
    exact List.take_of_length_le (by rw [List.length_drop]; exact Nat.le_refl _)
  · rw [Nat.min_eq_right (by omega), Nat.sub_self, List.drop_eq_nil_of_le (Nat.le_refl _), List.drop_eq_nil_of_le (show xs.length ≤ k by omega)]
    rfl
end L2
namespace L2
open PySem PySem.Spec PyProof.Rows
mutual
theorem dp_same {K : PySem.W.Frag} {H H' : Hp} (s : Same H H') : ∀ (d : PyData) (v : V), Dp K H v d → Dp K H' v d
  | .none, _, h => by cases h; exact .non
  | .bool b, _, h => by cases h; exact .bl b
  | .int i, _, h => by cases h; exact .int i
  | .str x, _, h => by cases h; exact .str x
  | .list ds, _, h => by
    cases h with
    | lst q a => exact .lst (s.seq q) (dpAll_same s ds _ a)
  | .tuple ds, _, h => by
    cases h with
    | tup q a => exact .tup (s.seqT q) (dpAll_same s ds _ a)
  | .dict _, _, h => by cases h
theorem dpAll_same {K : PySem.W.Frag} {H H' : Hp} (s : Same H H') : ∀ (ds : List PyData) (vs : List V), DpAll K H vs ds → DpAll K H' vs ds
  | [], _, h => by cases h; exact .nil
  | d :: ds, _, h => by
    cases h with
    | cons a b => exact .cons (dp_same s d _ a) (dpAll_same s ds _ b)
end
end L2
namespace L2
open PySem PySem.Spec PyProof.Rows
/-! ### own classes of errors -/
/-- the class x of errors stands at C -/
structure ExcAt (K : PySem.W.Frag) (mg : Str → Option Value) (x : Str) (C : Addr) : Prop where
  g : mg x = some (.ref C)
  x : PySem.W.excIn K C [.type "ValueError", .type "Exception", .type "BaseException", .type "object"] "ValueError.__new__" = true
  k : PySem.W.keepIn K (.ref C) = true
  b : PySem.W.subIn K (.ref C) (.type "BaseException") = some true
  t : PySem.W.typeIn K (.ref C) = some (.type "type")
  i : PySem.W.isClsIn K C = true
  s : PySem.W.subIn K (.ref C) (.ref C) = some true
/-- what one class is to another: an instance of D asked for C -/
theorem kit_own {K : PySem.W.Frag} {D C : Addr} {v : Bool} (hi : PySem.W.isClsIn K C = true) (ht : PySem.W.typeIn K (.ref C) = some (.type "type")) (hs : PySem.W.subIn K (.ref C) (.ref C) = some true) (h : PySem.W.subIn K (.ref D) (.ref C) = some v) :
    PySem.W.kitOne K (.ref D) (.ref C) = some v := by
  by_cases e : D = C
  · subst e
    have ev : v = true := Option.some.inj (h.symm.trans hs)
    subst ev
    show (if (Value.ref D == Value.ref D) = true then some true else _) = _
    rw [if_pos (beq_self_eq_true _)]
  · have n : ¬ (Value.ref D == Value.ref C) = true := fun z => e (Value.ref.inj (beq_iff_eq.mp z))
    show (if (Value.ref D == Value.ref C) = true then some true else PySem.W.kitCls K (.ref D) (.ref C)) = _
    rw [if_neg n]
    show (if ((PySem.W.clsIn K C).isSome && PySem.W.typeIn K (.ref C) == some (.type "type")) = true then PySem.W.subIn K (.ref D) (.ref C) else none) = _
    have hi' : (PySem.W.clsIn K C).isSome = true := hi
    rw [hi', ht, if_pos (by simp)]
    exact h
theorem kit_val {K : PySem.W.Frag} {D : Addr} {v : Bool} (h : PySem.W.subIn K (.ref D) (.type "ValueError") = some v) : PySem.W.kitOne K (.ref D) (.type "ValueError") = some v := by
  have n : ¬ (Value.ref D == Value.type "ValueError") = true := fun z => nomatch (beq_iff_eq.mp z)
  show (if (Value.ref D == Value.type "ValueError") = true then some true else PySem.W.kitCls K (.ref D) (.type "ValueError")) = _
  rw [if_neg n]
  show (if PySem.W.kitMeta "ValueError" = true then PySem.W.subIn K (.ref D) (.type "ValueError") else none) = _
  rw [if_pos (by decide +kernel)]
  exact h
/-- an except clause of the own class C -/
theorem exm_own {K : PySem.W.Frag} {C : Addr} {cls : Value} {v : Bool} (hb : PySem.W.subIn K (.ref C) (.type "BaseException") = some true) (hi : PySem.W.isClsIn K C = true) (ht : PySem.W.typeIn K (.ref C) = some (.type "type")) (h : PySem.W.subIn K cls (.ref C) = some v) :
    PySem.W.exmOne K cls (.ref C) = some v := by
  have e1 : (PySem.W.subIn K (.ref C) (.type "BaseException") == some true) = true := by rw [hb] <;> rfl
  have e2 : ((PySem.W.clsIn K C).isSome && PySem.W.typeIn K (.ref C) == some (.type "type")) = true := by
    have hi' : (PySem.W.clsIn K C).isSome = true := hi
    rw [hi', ht] <;> rfl
  show (if (PySem.W.subIn K (.ref C) (.type "BaseException") == some true) = true then (if ((PySem.W.clsIn K C).isSome && PySem.W.typeIn K (.ref C) == some (.type "type")) = true then PySem.W.subIn K cls (.ref C) else none) else none) = some v
  rw [if_pos e1, if_pos e2]
  exact h
theorem ExcAt.te {K : PySem.W.Frag} {mg : Str → Option Value} {x : Str} {C : Addr} (e : ExcAt K mg x C) : PySem.W.exmOne K (.ref C) (.ref C) = some true := exm_own e.b e.i e.t e.s
theorem ExcAt.self {K : PySem.W.Frag} {mg : Str → Option Value} {x : Str} {C : Addr} (e : ExcAt K mg x C) {D : Addr} {v : Bool} (h : PySem.W.subIn K (.ref D) (.ref C) = some v) : PySem.W.kitOne K (.ref D) (.ref C) = some v := kit_own e.i e.t e.s h

/-! ### a def that is handed the error that is being handled: p, its place and what stands there -/
/-- what such a def promises -/
structure OkP (P : Program) (w : World) (K : PySem.W.Frag) (mg : Str → Option Value) (base : Heap) (k : Nat) (f : Addr) (fd : FuncData) (ps : List Str) (sp : Addr → Addr → Sp) : Prop where
  len : ∀ a D vs H Q E, sp a D vs H Q E → vs.length = ps.length
  kp : PySem.W.keepIn K (.ref f) = true
  bd : Binds K fd ps []
  run : ∀ (A : Around) (outer : List Env) (s : Shared) (H : Hp) (args : Args) (us : List Value) (vs : List V) (Q : VK) (E : XK) (p : Addr × Obj) (D : Addr), L2H.RoomH k A → L2H.PinOk outer H s p → Zc (.ref D) none p.2 → (∃ vs, p.2.data = .fields vs) → Env0 P w K mg base A outer s H → BindsTo s fd args (ps.zip us) → Vals vs us →
    sp p.1 D vs H Q E → codeAny (model P w) A (.call (.ref f) args) (CR CX0 outer P w H s Q E) s
section
variable {P : Program} {w : World} {K : PySem.W.Frag} {mg : Str → Option Value} {base : Heap} {x qual : Str} {st : Stmt} {f : Addr} {fd : FuncData} {ps N : List Str} {k : Nat} {sp : Addr → Addr → Sp}
theorem FnAt.okP (F : FnAt K x qual st f fd ps) (S : FnScope N ps (defScope st)) (len : ∀ a D vs H Q E, sp a D vs H Q E → vs.length = ps.length)
    (body : ∀ (cdv : Value) (A : Around) (outer : List Env) (s : Shared) (H : Hp) (vs : List V) (Q : VK) (E : XK) (p : Addr × Obj) (D : Addr), L2H.RoomH k (A.deeper (envOfC qual (defScope st) s.heap.objs.size f cdv)) → Zc (.ref D) none p.2 → (∃ vs, p.2.data = .fields vs) → sp p.1 D vs H Q E →
      ∃ t, PSs (L2H.cxH CX0 P w K mg base N qual (defScope st) f cdv A outer s H E p) (defBody st) t ∧ t { nx := fun _ H' => Q .non H', rt := Q } (start N vs) H) : OkP P w K mg base (k + 1) f fd ps sp := by
  obtain ⟨G, B⟩ := F
  refine ⟨len, G.kp, B, fun A outer s H args us vs Q E p D room pin hz hf e0 bt rv hsp => ?_⟩
  obtain ⟨oc, od, kV, doc, pm, an, cdv, ct, osl, rfl, found, code⟩ := G.ex
  have inK : K.In s.heap := e0.mod.kin.keeps fun b o e => (e0.bs b o e).1
  have lim : s.heap.NoLimit := e0.mod.nolimit.keeps fun b o e => (e0.bs b o e).1
  have kinds : ∀ y ∈ ps.zip us, (defScope st).names.lookup y.1 = some .local ∨ ((defScope st).names.lookup y.1 = some .cell ∧ ((cellsFrom (s.heap.objs.size + 1) (defScope st).names []).lookup y.1).isSome = true) := by
    rintro ⟨n, v⟩ hy
    rcases S.par n (List.of_mem_zip hy).1 with z | z
    · exact Or.inl z
    · exact Or.inr ⟨z, PySem.W.cellsFrom_some _ _ _ (Or.inl z)⟩
  refine codeAny_call_function room.depth (inK _ _ found) rfl S.co S.gen rfl (PySem.W.codeRec_of inK code) (bt _ _ _ _ ?_)
  refine wpAny_newFunctionEnv_cells S.kind kinds fun env henv s1 made => ?_
  subst henv
  refine ⟨lim.keeps made.toInCall.keep, codeAny_func ?_⟩
  obtain ⟨t, derived, reading⟩ := body cdv A outer s H vs Q E p D (room.deeper _) hz hf hsp
  have I : Inv (L2H.cxH CX0 P w K mg base N qual (defScope st) f cdv A outer s H E p) [] (start N vs) H s1 := L2H.inv_startH S pin e0 (len _ _ _ _ _ _ hsp) rv made
  refine wpAny_mono (derived.run [] s1 (start N vs) H _ I reading) (fun fl s2 hs => ?_) fun e s2 hs => hs
  cases fl with
  | ret u =>
    obtain ⟨v, σ2, H2, J, r2, q2⟩ := hs
    exact ⟨v, H2, J.os, J.bare, J.base, J.hok, r2, q2⟩
  | next =>
    obtain ⟨σ2, H2, J, q2⟩ := hs
    exact ⟨V.non, H2, J.os, J.bare, J.base, J.hok, rfl, q2⟩
  | brk =>
    obtain ⟨_, _, _, q2⟩ := hs
    exact q2.elim
  | cont =>
    obtain ⟨_, _, _, q2⟩ := hs
    exact q2.elim
end
section
variable {X : Cx} {k : Nat} {f : Addr} {fd : FuncData} {ps : List Str} {sp : Addr → Addr → Sp} {x : Str} {q pos : Pos} {e : Expr} {es : List Expr} {t : TA}
/-- f(e, ..) where the error at a, of the class cls, is being handled -/
def tCallP (a : Addr) (cls : Value) (d : Option Addr) (sp : Addr → Addr → Sp) (t : TA) : TE := fun σ H Q => t σ H fun vs H1 => ∃ D, cls = .ref D ∧ d = none ∧ sp a D vs H1 Q E0
theorem pe_callP {a : Addr} {oe : Obj} {cls : Value} {d : Option Addr} (O : OkP X.prog X.w X.K X.mg X.base k f fd ps sp) (hr : L2H.RoomH k X.A) (hp : (a, oe) ∈ X.pn) (hz : Zc cls d oe) (hf : ∃ vs, oe.data = .fields vs) (hg : Gl X x) (hm : X.mg x = some (.ref f)) (ha : PA X (e :: es) t)
    (hdb : (x == ("__debug__" : Str)) = false := by decide) (he : starEach (e :: es) X.env = (false, eval e X.env) :: starEach es X.env := by rfl) (hpl : (backTo pos (starEach es X.env)).any (·.1) = false := by rfl) :
    PE X (.Call (.Name x q) (e :: es) [] pos) (tCallP a cls d sp t) := by
  refine ⟨fun pins s σ H Q I h => ?_⟩
  refine wpAny_Call_Name_kw (ld_glob I hg hm ?_ hdb)
  refine PySem.W.callWith_K (h₀ := X.base) I.ok.mod.kin O.kp (thn (ha.run pos pins s σ H _ I h) fun us s1 ⟨vs, H1, I1, rv, D, ec, ed, hsp⟩ => ⟨I1.kIn, ?_⟩) he hpl
  subst ec ed
  have hl : us.length = ps.length := rv.length.symm.trans (O.len _ _ _ _ _ _ hsp)
  have bt := O.bd s1 us I1.kIn (by rw [List.append_nil]; exact hl)
  rw [List.append_nil] at bt
  have at_ := I1.pin (a, oe) (List.mem_append_left _ hp)
  have pin : L2H.PinOk X.stack H1 s1 (a, oe) := ⟨at_.1, at_.2.1, fun hm => (List.mem_cons.mp (I1.stkSub a hm)).elim at_.2.2.1 at_.2.2.2.1, at_.2.2.2.2⟩
  refine wpAny_call (codeAny_mono (O.run X.A X.stack s1 H1 ⟨us, []⟩ us vs Q E0 (a, oe) D hr pin hz hf I1.env0 bt rv hsp) fun r s2 hq => ?_)
  cases r with
  | error e => exact hq.elim
  | ok fl =>
    cases fl with
    | ret u => exact I1.after hq
    | next => exact hq.elim
    | brk => exact hq.elim
    | cont => exact hq.elim
/-- isinstance(e, c), e the error at a that is pinned -/
theorem call_isP {X : Cx} {a D : Addr} {oe : Obj} (C : ExcC X.K D) (hp : (a, oe) ∈ X.pn) (hz : Zc (.ref D) none oe) (hf : ∃ vs, oe.data = .fields vs) : CallR X (.builtin "isinstance") (rIsE X.K D a) := by
  intro pins s σ H xs us Q I r h
  obtain ⟨c, cv, b, rfl, hcv, hk, q⟩ := h
  obtain ⟨u1, u2, rfl, r1, r2⟩ := vals2 r
  cases (show u1 = Value.ref a from r1)
  have ec := hcv _ r2
  subst ec
  obtain ⟨found, _⟩ := I.pin (a, oe) (List.mem_append_left _ hp)
  obtain ⟨vs, hv⟩ := hf
  have J : PySem.W.InstAt s.heap a oe D none := by
    obtain ⟨oc, od, oda, osl⟩ := oe
    obtain ⟨h1, h2⟩ := hz
    simp only at h1 h2 hv
    subst h1 h2 hv
    exact ⟨found, rfl, rfl, trivial⟩
  exact PySem.W.kia_one (PySem.W.handS_kitx_exc C.hg C.hk C.hs C.hd C.ha C.hn C.ht C.hm) I.kIn J hk (fun z => nomatch z) fun tk => ⟨.bl b, H, I.kept (t' := tk) fun _ _ z => z, rfl, q⟩
/-! ### xs.count(True), xs a list of truth values -/
def eqTrue (v : Value) : Bool := match v with
  | .bool b => b
  | _ => false
def rCntT (K : PySem.W.Frag) : V → List V → Hp → VK → Prop := fun x xs H Q => ∃ (p : Addr) (bs : List Bool), x = .ref p ∧ xs = [.bl true] ∧ SqL K H p (bs.map V.bl) ∧ Q (.int (bs.count true : Nat)) H
theorem eqTrue_count : ∀ {bs : List Bool} {us : List Value}, Vals (bs.map V.bl) us → us.countP eqTrue = bs.count true
  | [], [], _ => rfl
  | b :: r, u :: us, .cons h t => by
    cases (show u = Value.bool b from h)
    rw [List.countP_cons, List.count_cons, eqTrue_count t]
    cases b <;> rfl
theorem mt_countT : MtR X "list.count" (rCntT X.K) := by
  intro pins s σ H x xs v us Q I rx rxs h
  obtain ⟨p, bs, rfl, rfl, hs, q⟩ := h
  cases rx
  obtain ⟨u, rfl, ru⟩ := rxs.one
  cases (show u = Value.bool true from ru)
  obtain ⟨its, rv, ⟨⟨cls, dd, data, sl⟩, n, found, hc, hdn, hd⟩, hlen⟩ := I.list hs
  simp only at hc hd
  subst hc hd
  have each : ∀ (bs : List Bool) (us : List Value), Vals (bs.map V.bl) us → ∀ y ∈ us, SeqAt.EqAt X.A.in1.in1 s y (.bool true) (eqTrue y) ∧ ∃ b, y = .bool b := by
    intro bs
    induction bs with
    | nil =>
      intro us h y hy
      cases h
      cases hy
    | cons b r ih =>
      intro us h y hy
      cases h with
      | cons h1 h2 =>
        rcases List.mem_cons.mp hy with e | e
        · cases (show _ = Value.bool b from h1)
          subst e
          have z := eqAt_V (A := X.A.in1.in1) (s := s) (y := .bl b) (x := .bl true) (u := .bool b) (v := .bool true) rfl rfl rfl rfl
          refine ⟨?_, b, rfl⟩
          have e2 : eqV (.bl b) (.bl true) = eqTrue (.bool b) := by cases b <;> rfl
          rw [← e2]
          exact z
        · exact ih _ h2 y e
  have each' : ∀ (A : Around), ∀ y ∈ its, SeqAt.EqAt A s y (.bool true) (eqTrue y) := by
    intro A y hy
    obtain ⟨_, b, rfl⟩ := each bs its rv y hy
    have e2 : eqV (.bl b) (.bl true) = eqTrue (.bool b) := by cases b <;> rfl
    rw [← e2]
    exact eqAt_V (A := A) (s := s) (y := .bl b) (x := .bl true) (u := .bool b) (v := .bool true) rfl rfl rfl rfl
  refine call_meets PySem.F.slot_list_count ⟨_, found, rfl⟩ PySem.F.entry_list_count (PySem.F.args_list_count_2 _ _)
    (SeqAt.list_countAt p its.toArray n dd sl (.bool true) eqTrue) ⟨found, fun y hy => each' _ y (by simpa using hy), ?_⟩
  have ec : its.toArray.toList.countP eqTrue = bs.count true := eqTrue_count rv
  refine ⟨.int (bs.count true : Nat), H, I.tok _, ⟨s.toks, ?_⟩, q⟩
  show Value.int ((its.toArray.toList.countP eqTrue : Nat) : Int) s.toks = Value.int ((bs.count true : Nat) : Int) s.toks
  rw [ec]
end
theorem roomP {j k : Nat} {A : Around} {a : Option Value} (hr : Room k A) (h : j ≤ k) : L2H.RoomH j (A.mark a) := ⟨(hr.mono h).dp, (hr.mono h).un⟩
/-! ### calls in the body of a try -/
section
variable {X : Cx} {cx : CXT} {k : Nat} {f : Addr} {fd : FuncData} {ps : List Str} {sp : Sp} {E : St → XK} {x m : Str} {p pos apos : Pos} {e o : Expr} {es : List Expr} {ta : TE} {t : TA}
theorem pe_callSO (O : Ok X.prog X.w X.K X.mg X.base cx k f fd ps sp) (hr : Room k X.A) (hg : Gl X x) (hm : X.mg x = some (.ref f)) (hx : ∀ σ, PassesAt cx X σ (E σ)) (ha : PA X (e :: es) t)
    (hdb : (x == ("__debug__" : Str)) = false := by decide) (he : starEach (e :: es) X.env = (false, eval e X.env) :: starEach es X.env := by rfl) (hpl : (backTo pos (starEach es X.env)).any (·.1) = false := by rfl) :
    PE X (.Call (.Name x p) (e :: es) [] pos) (tCallS sp E t) := pe_callS O.ok hr hg hm O.kp O.bd hx ha hdb he hpl
def tMethSO (C : Addr) (m : Str) (sp : Sp) (E : St → XK) (ta : TE) (t : TA) : TE := fun σ H Q => ta σ H fun x H1 => ∃ a dx fs, x = .ref a ∧ H1 a = some (.ins C dx fs) ∧ fs.lookup m = none ∧ t σ H1 fun vs H2 => sp (x :: vs) H2 Q (E σ)
theorem pe_methSO {C : Addr} {pl : Sem Bool} (O : Ok X.prog X.w X.K X.mg X.base cx k f fd ps sp) (c : Cls X.K C) (hm : Meth X.K C m f) (hr : Room k X.A) (hx : ∀ σ, PassesAt cx X σ (E σ)) (he : PE X o ta) (ha : PA X (e :: es) t)
    (hst : starEach (e :: es) X.env = (false, eval e X.env) :: starEach es X.env := by rfl) (hpl : (backTo pos (starEach es X.env)).any (·.1) = false := by rfl)
    (ht : eval (.Call (.Attribute o m apos) (e :: es) [] pos) X.env = (do
      let ov ← eval o X.env
      standAt apos.atName
      let (f, first) ← holding [ov] (getMethod ov m pl)
      callWith pos f first (backTo pos (starEach (e :: es) X.env)) (backToKw pos (keywordEach [] X.env))) := by rfl) :
    PE X (.Call (.Attribute o m apos) (e :: es) [] pos) (tMethSO C m sp E ta t) := by
  refine ⟨fun pins s σ H Q I h => ?_⟩
  refine PySem.W.methodCall_KW (pl := pl) (thn (he.run pins s σ H _ I h) fun u s1 ⟨y, H1, I1, ry, a, dx, fs, ey, ea, l, q⟩ => ?_) ht
  subst ey
  obtain rfl : u = Value.ref a := ry
  refine getmeth_ok I1 ea c hm l ?_
  refine PySem.W.callWith_K (first := [.ref a]) (h₀ := X.base) I.ok.mod.kin hm.kp (thn (ha.run pos pins s1 σ H1 _ I1 q) fun us s2 ⟨vs, H2, I2, rv, q2⟩ => ⟨I2.kIn, ?_⟩) hst hpl
  exact run_fnS (us := .ref a :: us) (vs := .ref a :: vs) O.ok hr O.bd (hx σ) I2 (.cons rfl rv) q2
end
end L2
namespace L2
open PySem PySem.Spec PyProof.Rows
/-! ### things of any kind: their built-in type -/
def tyNames : List String := ["int", "bool", "NoneType", "str", "list", "tuple", "dict"]
theorem ty_cases {t : String} (h : t ∈ tyNames) : t = "int" ∨ t = "bool" ∨ t = "NoneType" ∨ t = "str" ∨ t = "list" ∨ t = "tuple" ∨ t = "dict" := by
  simpa [tyNames] using h
theorem kit_int {K : PySem.W.Frag} {t : String} (h : t ∈ tyNames) : PySem.W.kitOne K (.type t) (.type "int") = some (t == "int" || t == "bool") := by
  rcases ty_cases h with rfl | rfl | rfl | rfl | rfl | rfl | rfl <;> exact kit_ty (by decide +kernel)
theorem kit_bool {K : PySem.W.Frag} {t : String} (h : t ∈ tyNames) : PySem.W.kitOne K (.type t) (.type "bool") = some (t == "bool") := by
  rcases ty_cases h with rfl | rfl | rfl | rfl | rfl | rfl | rfl <;> exact kit_ty (by decide +kernel)
theorem kit_str {K : PySem.W.Frag} {t : String} (h : t ∈ tyNames) : PySem.W.kitOne K (.type t) (.type "str") = some (t == "str") := by
  rcases ty_cases h with rfl | rfl | rfl | rfl | rfl | rfl | rfl <;> exact kit_ty (by decide +kernel)
theorem kit_tup {K : PySem.W.Frag} {t : String} (h : t ∈ tyNames) : PySem.W.kitOne K (.type t) (.type "tuple") = some (t == "tuple") := by
  rcases ty_cases h with rfl | rfl | rfl | rfl | rfl | rfl | rfl <;> exact kit_ty (by decide +kernel)
/-- x is a thing of one of these types -/
def Typ (K : PySem.W.Frag) (H : Hp) (x : V) : Prop := ∃ t, TyX K H x (.type t) ∧ t ∈ tyNames
theorem typ_int {K : PySem.W.Frag} {H : Hp} {x : V} (h : TyX K H x (.type "int")) : ∃ i, x = .int i := by
  generalize e : Value.type "int" = t at h
  cases h with
  | base b => cases b <;> first | exact ⟨_, rfl⟩ | (exfalso; revert e; decide) | (cases e)
  | byt _ => exfalso; revert e; decide
  | set _ => exfalso; revert e; decide
  | kList _ _ => exfalso; revert e; decide
  | kTuple _ _ => exfalso; revert e; decide
  | kDict _ _ => exfalso; revert e; decide
  | fTuple _ => exfalso; revert e; decide
  | fDict _ => exfalso; revert e; decide
theorem typ_str {K : PySem.W.Frag} {H : Hp} {x : V} (h : TyX K H x (.type "str")) : ∃ i, x = .str i := by
  generalize e : Value.type "str" = t at h
  cases h with
  | base b => cases b <;> first | exact ⟨_, rfl⟩ | (exfalso; revert e; decide) | (cases e)
  | byt _ => exfalso; revert e; decide
  | set _ => exfalso; revert e; decide
  | kList _ _ => exfalso; revert e; decide
  | kTuple _ _ => exfalso; revert e; decide
  | kDict _ _ => exfalso; revert e; decide
  | fTuple _ => exfalso; revert e; decide
  | fDict _ => exfalso; revert e; decide
theorem ty_of_int {K : PySem.W.Frag} {H : Hp} {i : Int} {t : Value} (h : TyX K H (.int i) t) : t = .type "int" := by
  cases h with
  | base b => cases b; rfl
theorem ty_of_str {K : PySem.W.Frag} {H : Hp} {z : Str} {t : Value} (h : TyX K H (.str z) t) : t = .type "str" := by
  cases h with
  | base b => cases b; rfl
/-- the types of what is tracked stay -/
theorem TyX.same {K : PySem.W.Frag} {H H' : Hp} {x : V} {t : String} (h : TyX K H x (.type t)) (s : Same H H') : TyX K H' x (.type t) := by
  generalize e : Value.type t = u at h
  cases h with
  | base b =>
    cases b with
    | non => exact .base .non
    | bl b => exact .base (.bl b)
    | int i => exact .base (.int i)
    | str z => exact .base (.str z)
    | flt z => exact .base (.flt z)
    | lst h => exact .base (.lst (s _ _ h))
    | frz h => exact .base (.frz (s _ _ h))
    | tup h => exact .base (.tup (s _ _ h))
    | dK h => exact .base (.dK (s _ _ h))
    | dT h => exact .base (.dT (s _ _ h))
    | ins _ _ _ _ _ _ => cases e
  | byt b => exact .byt b
  | set h => exact .set (s _ _ h)
  | kList h c => exact .kList h c
  | kTuple h c => exact .kTuple h c
  | kDict h c => exact .kDict h c
  | fTuple h => exact .fTuple (s _ _ h)
  | fDict h => exact .fDict (s _ _ h)
theorem Typ.same {K : PySem.W.Frag} {H H' : Hp} {x : V} (h : Typ K H x) (s : Same H H') : Typ K H' x := by
  obtain ⟨t, h1, h2⟩ := h
  exact ⟨t, h1.same s, h2⟩
theorem typ_i {K : PySem.W.Frag} {H : Hp} (i : Int) : Typ K H (.int i) := ⟨"int", .base (.int i), by decide⟩
theorem typ_b {K : PySem.W.Frag} {H : Hp} (b : Bool) : Typ K H (.bl b) := ⟨"bool", .base (.bl b), by decide⟩
theorem typ_n {K : PySem.W.Frag} {H : Hp} : Typ K H .non := ⟨"NoneType", .base .non, by decide⟩
theorem typ_s {K : PySem.W.Frag} {H : Hp} (z : Str) : Typ K H (.str z) := ⟨"str", .base (.str z), by decide⟩
theorem typ_l {K : PySem.W.Frag} {H : Hp} {a : Addr} {xs : List V} (h : H a = some (.lst xs)) : Typ K H (.ref a) := ⟨"list", .base (.lst h), by decide⟩
theorem typ_t {K : PySem.W.Frag} {H : Hp} {a : Addr} {xs : List V} (h : H a = some (.tup xs)) : Typ K H (.ref a) := ⟨"tuple", .base (.tup h), by decide⟩
theorem typ_d {K : PySem.W.Frag} {H : Hp} {a : Addr} {xs : List (Key × V)} (h : H a = some (.dK xs)) : Typ K H (.ref a) := ⟨"dict", .base (.dK h), by decide⟩
/-- a whole number within bounds -/
def wIn (x : V) (lo hi : Int) : Bool := match x with
  | .int i => decide (lo ≤ i) && decide (i ≤ hi)
  | _ => false
theorem wIn_int {x : V} {lo hi : Int} (h : wIn x lo hi = true) : ∃ i, x = .int i ∧ lo ≤ i ∧ i ≤ hi := by
  cases x with
  | int i =>
    have h : (decide (lo ≤ i) && decide (i ≤ hi)) = true := h
    rw [Bool.and_eq_true, decide_eq_true_eq, decide_eq_true_eq] at h
    exact ⟨i, rfl, h.1, h.2⟩
  | _ => cases h
/-! ### d.get(k), d a dict of the written part with keys that are texts -/
/-- what the written dict at a gives for each text -/
def KMap (K : PySem.W.Frag) (w : World) (a : Addr) (f : Str → Option Str) : Prop :=
  ∃ es n, K.lookup a = some ⟨.type "dict", none, .dict es n, #[]⟩ ∧ PySem.W.KeysLit w.params es.toList ∧ (a == sysModules) = false ∧ ∀ z, ∃ o, findBy Value.isStrOf es z = o ∧ RelO ((f z).map V.str) o
def tKGet (K : PySem.W.Frag) (w : World) (td ty : TE) : TE := fun σ H Q => td σ H fun x H1 => ∃ a f, x = .ref a ∧ KMap K w a f ∧ ty σ H1 fun y H2 => ∃ z, y = .str z ∧ Q (((f z).map V.str).getD .non) H2
theorem relO_getD {o : Option V} {u : Option Value} (h : RelO o u) : RelV (o.getD .non) (u.getD .none) := by
  cases o with
  | none =>
    cases u with
    | none => rfl
    | some _ => exact h.elim
  | some v =>
    cases u with
    | none => exact h.elim
    | some _ => exact h
theorem pe_kget {X : Cx} {o e : Expr} {apos cpos : Pos} {td ty : TE} (ho : PE X o td) (he : PE X e ty) (m : M1 X o "get" apos e cpos) : PE X (.Call (.Attribute o "get" apos) [e] [] cpos) (tKGet X.K X.w td ty) := by
  refine ⟨fun pins s σ H Q I h => ?_⟩
  refine wpAny_Call_method m.base m.few m.line PySem.F.plainAttrs_dict PySem.F.slot_dict_get PySem.F.type_dict_get (thn (ho.run pins s σ H _ I h) fun u s1 ⟨x, H1, I1, rx, a, f, ex, ⟨es, n, hl, hk, hsys, hf⟩, q1⟩ => ?_)
  subst ex
  obtain rfl : u = Value.ref a := rx
  have found : ∀ {s' : Shared} {H' : Hp}, Inv X pins σ H' s' → s'.heap.get? a = some ⟨.type "dict", none, .dict es n, #[]⟩ := fun I' => I'.kIn a _ hl
  refine ⟨⟨_, found I1, rfl⟩, fun b hb => ?_, ?_⟩
  · cases hb
    exact ⟨_, found I1, rfl⟩
  rw [m.trees]
  refine Calls.callWith_builtin rfl (Calls.evalArgs_plain (Calls.spliced_cons (thn (he.run pins s1 σ H1 _ I1 q1) fun iv s2 ⟨y, H2, I2, ry, z, ey, q2⟩ => Calls.spliced_nil ?_)))
  subst ey
  obtain ⟨t, rfl⟩ := (show ∃ t, iv = Value.str z t from ry)
  obtain ⟨ov, e1, r1⟩ := hf z
  have hm := PySem.W.mapOf_K (prog := X.prog) (w := X.w) I2.kIn hl hk
  refine call_meetsIn PySem.F.slot_dict_get ⟨_, found I2, rfl⟩ PySem.F.entry_dict_get (PySem.F.args_dict_get_2 _ _) (meets_dict_get (strKind X.prog X.w) a (strKind_is X.prog X.w z t) hsys) ⟨_, hm, ?_⟩
  refine ⟨((f z).map V.str).getD .non, H2, I2.tok _, ?_, q2⟩
  show RelV _ ((findBy Value.isStrOf es z).getD .none)
  rw [e1]
  exact relO_getD r1
end L2
namespace NL
open PySem PySem.Spec PyProof.Rows L2
/-- the marks of a word -/
def partsM (z : Str) : Option Str :=
  if z = "set" then some "bn" else if z = "copy" then some "bb" else if z = "add" then some "bbb" else if z = "sub" then some "bbb" else if z = "fetch" then some "bb"
  else if z = "store" then some "bb" else if z = "less" then some "bbp" else if z = "jump" then some "p" else if z = "tell" then some "b" else none
theorem partsM_small {z m : Str} (h : partsM z = some m) : m.length ≤ sizeLine ∧ m.length ≤ 3 := by
  unfold partsM at h
  repeat' split at h
  all_goals (first | (cases h; decide +kernel) | cases h)

theorem parts_find {h0 h1 h2 h3 h4 h5 h6 h7 h8 : Int} {t0 u0 t1 u1 t2 u2 t3 u3 t4 u4 t5 u5 t6 u6 t7 u7 t8 u8 : Nat} (z : Str) : ∃ o, findBy Value.isStrOf (#[⟨h0, .str "set" t0, .str "bn" u0⟩, ⟨h1, .str "copy" t1, .str "bb" u1⟩, ⟨h2, .str "add" t2, .str "bbb" u2⟩, ⟨h3, .str "sub" t3, .str "bbb" u3⟩, ⟨h4, .str "fetch" t4, .str "bb" u4⟩, ⟨h5, .str "store" t5, .str "bb" u5⟩, ⟨h6, .str "less" t6, .str "bbp" u6⟩, ⟨h7, .str "jump" t7, .str "p" u7⟩, ⟨h8, .str "tell" t8, .str "b" u8⟩] : Array DictEntry) z = o ∧ RelO ((partsM z).map V.str) o := by
  refine ⟨_, rfl, ?_⟩
  have e : ∀ (a : Str) (t : Nat), Value.isStrOf z (.str a t) = decide (z = a) := fun a t => by
    show (a == z) = _
    by_cases h : z = a
    · subst h
      simp
    · have : ¬ a = z := fun q => h q.symm
      simp [h, this]
  unfold findBy partsM
  simp only [List.find?_toArray, List.find?_cons, List.find?_nil, e]
  repeat' split
  all_goals (first | exact trivial | (simp_all; done) | (exact ⟨_, rfl⟩) | skip)
def nineW : List Str := ["set", "copy", "add", "sub", "fetch", "store", "less", "jump", "tell"]
def nineM : List Str := ["bn", "bb", "bbb", "bbb", "bb", "bb", "bbp", "p", "b"]
def marksM (z : Str) : Str := (partsM z).getD ""
theorem nine_in {z : Str} : inV (.str z) (nineW.map V.str) = (partsM z).isSome := by
  show (([V.str "set", V.str "copy", V.str "add", V.str "sub", V.str "fetch", V.str "store", V.str "less", V.str "jump", V.str "tell"] : List V).any fun y => eqV y (.str z)) = _
  have e : ∀ a : Str, eqV (.str a) (.str z) = decide (z = a) := fun a => by
    show (a == z) = _
    by_cases h : z = a
    · subst h
      simp
    · have : ¬ a = z := fun q => h q.symm
      simp [h, this]
  simp only [List.any_cons, List.any_nil, e]
  unfold partsM
  repeat' split
  all_goals simp [*]
theorem nine_flat : (nineW.map V.str).all flatV = true := rfl
theorem nine_at {z m : Str} (h : partsM z = some m) : ∃ j : Nat, j < 9 ∧ (nineW.map V.str)[j]? = some (.str z) ∧ (∀ (i : Nat) (z' : V), i < j → (nineW.map V.str)[i]? = some z' → eqV z' (.str z) = false) ∧ (nineM.map V.str)[j]? = some (.str m) := by
  unfold partsM at h
  have chk : ∀ (j : Nat) (z : Str), (∀ i, i < j → ∀ z', (nineW.map V.str)[i]? = some z' → eqV z' (.str z) = false) → ∀ (i : Nat) (z' : V), i < j → (nineW.map V.str)[i]? = some z' → eqV z' (.str z) = false := fun j z f i z' h1 h2 => f i h1 z' h2
  split at h
  · rename_i e; cases h; subst e
    exact ⟨0, by decide, rfl, fun i _ hi => absurd hi (Nat.not_lt_zero _), rfl⟩
  split at h
  · rename_i e; cases h; subst e
    refine ⟨1, by decide, rfl, fun i z' hi hz => ?_, rfl⟩
    have hi : i = 0 := by omega
    subst hi
    cases hz
    decide +kernel
  split at h
  · rename_i e; cases h; subst e
    refine ⟨2, by decide, rfl, fun i z' hi hz => ?_, rfl⟩
    have hi : i = 0 ∨ i = 1 := by omega
    rcases hi with rfl | rfl <;> cases hz <;> decide +kernel
  split at h
  · rename_i e; cases h; subst e
    refine ⟨3, by decide, rfl, fun i z' hi hz => ?_, rfl⟩
    have hi : i = 0 ∨ i = 1 ∨ i = 2 := by omega
    rcases hi with rfl | rfl | rfl <;> cases hz <;> decide +kernel
  split at h
  · rename_i e; cases h; subst e
    refine ⟨4, by decide, rfl, fun i z' hi hz => ?_, rfl⟩
    have hi : i = 0 ∨ i = 1 ∨ i = 2 ∨ i = 3 := by omega
    rcases hi with rfl | rfl | rfl | rfl <;> cases hz <;> decide +kernel
  split at h
  · rename_i e; cases h; subst e
    refine ⟨5, by decide, rfl, fun i z' hi hz => ?_, rfl⟩
    have hi : i = 0 ∨ i = 1 ∨ i = 2 ∨ i = 3 ∨ i = 4 := by omega
    rcases hi with rfl | rfl | rfl | rfl | rfl <;> cases hz <;> decide +kernel
  split at h
  · rename_i e; cases h; subst e
    refine ⟨6, by decide, rfl, fun i z' hi hz => ?_, rfl⟩
    have hi : i = 0 ∨ i = 1 ∨ i = 2 ∨ i = 3 ∨ i = 4 ∨ i = 5 := by omega
    rcases hi with rfl | rfl | rfl | rfl | rfl | rfl <;> cases hz <;> decide +kernel
  split at h
  · rename_i e; cases h; subst e
    refine ⟨7, by decide, rfl, fun i z' hi hz => ?_, rfl⟩
    have hi : i = 0 ∨ i = 1 ∨ i = 2 ∨ i = 3 ∨ i = 4 ∨ i = 5 ∨ i = 6 := by omega
    rcases hi with rfl | rfl | rfl | rfl | rfl | rfl | rfl <;> cases hz <;> decide +kernel
  split at h
  · rename_i e; cases h; subst e
    refine ⟨8, by decide, rfl, fun i z' hi hz => ?_, rfl⟩
    have hi : i = 0 ∨ i = 1 ∨ i = 2 ∨ i = 3 ∨ i = 4 ∨ i = 5 ∨ i = 6 ∨ i = 7 := by omega
    rcases hi with rfl | rfl | rfl | rfl | rfl | rfl | rfl | rfl <;> cases hz <;> decide +kernel
  cases h
def top (i : Nat) : Stmt := PySem.Challenge.pw_nearlines_k02_lines_read.main.body.getD i (.Pass ⟨0, 0, 0, 0⟩)
abbrev s_number_of : Stmt := top 11
abbrev s_read_row : Stmt := top 12
abbrev s__law_cell_at : Stmt := top 14
abbrev s__law_whole : Stmt := top 15
abbrev s__law_mixed : Stmt := top 16
abbrev s__law_number_of : Stmt := top 17
abbrev s__law_due_of : Stmt := top 18
abbrev s__law_line_by : Stmt := top 19
abbrev s__law_sign_by : Stmt := top 20
abbrev s__law_odd_line : Stmt := top 21
abbrev s__law_alone : Stmt := top 22
abbrev s_law : Stmt := top 23
theorem sc_number_of : FnScope ["word", "sign"] ["word"] (defScope s_number_of) := ⟨rfl, rfl, rfl, by decide +kernel, rfl, by decide +kernel, by decide +kernel⟩
theorem sc_read_row : FnScope ["line", "words", "marks", "row", "word"] ["line"] (defScope s_read_row) := ⟨rfl, rfl, rfl, by decide +kernel, rfl, by decide +kernel, by decide +kernel⟩
theorem sc__law_cell_at : FnScope ["_law_script", "_law_k"] ["_law_script", "_law_k"] (defScope s__law_cell_at) := ⟨rfl, rfl, rfl, by decide +kernel, rfl, by decide +kernel, by decide +kernel⟩
theorem sc__law_whole : FnScope ["_law_found"] ["_law_found"] (defScope s__law_whole) := ⟨rfl, rfl, rfl, by decide +kernel, rfl, by decide +kernel, by decide +kernel⟩
theorem sc__law_mixed : FnScope ["_law_cell"] ["_law_cell"] (defScope s__law_mixed) := ⟨rfl, rfl, rfl, by decide +kernel, rfl, by decide +kernel, by decide +kernel⟩
theorem sc__law_number_of : FnScope ["_law_word", "_law_sign"] ["_law_word"] (defScope s__law_number_of) := ⟨rfl, rfl, rfl, by decide +kernel, rfl, by decide +kernel, by decide +kernel⟩
theorem sc__law_due_of : FnScope ["_law_line", "_law_words", "_law_names", "_law_row", "_law_word"] ["_law_line"] (defScope s__law_due_of) := ⟨rfl, rfl, rfl, by decide +kernel, rfl, by decide +kernel, by decide +kernel⟩
theorem sc__law_line_by : FnScope ["_law_script", "_law_names", "_law_first", "_law_line", "_law_many", "_law_k", "_law_cell", "_law_below"] ["_law_script"] (defScope s__law_line_by) := ⟨rfl, rfl, rfl, by decide +kernel, rfl, by decide +kernel, by decide +kernel⟩
theorem sc__law_sign_by : FnScope ["_law_cell", "_law_some"] ["_law_cell"] (defScope s__law_sign_by) := ⟨rfl, rfl, rfl, by decide +kernel, rfl, by decide +kernel, by decide +kernel⟩
theorem sc__law_odd_line : FnScope ["_law_cell", "_law_some"] ["_law_cell"] (defScope s__law_odd_line) := ⟨rfl, rfl, rfl, by decide +kernel, rfl, by decide +kernel, by decide +kernel⟩
theorem sc__law_alone : FnScope ["_law_e", "_law_own", "_law_some"] ["_law_e", "_law_own"] (defScope s__law_alone) := ⟨rfl, rfl, rfl, by decide +kernel, rfl, by decide +kernel, by decide +kernel⟩
theorem sc_law : FnScope ["_law_script", "_law_line", "_law_how", "_law_at", "_law_due", "_law_found", "_law_said", "_law_e", "_law_number"] ["_law_script"] (defScope s_law) := ⟨rfl, rfl, rfl, by decide +kernel, rfl, by decide +kernel, by decide +kernel⟩
/-- where defs and classes stand -/
structure Cs where
  f_number_of : Addr
  d_number_of : FuncData
  f_read_row : Addr
  d_read_row : FuncData
  f__law_cell_at : Addr
  d__law_cell_at : FuncData
  f__law_whole : Addr
  d__law_whole : FuncData
  f__law_mixed : Addr
  d__law_mixed : FuncData
  f__law_number_of : Addr
  d__law_number_of : FuncData
  f__law_due_of : Addr
  d__law_due_of : FuncData
  f__law_line_by : Addr
  d__law_line_by : FuncData
  f__law_sign_by : Addr
  d__law_sign_by : FuncData
  f__law_odd_line : Addr
  d__law_odd_line : FuncData
  f__law_alone : Addr
  d__law_alone : FuncData
  f_law : Addr
  d_law : FuncData
  C_LineError : Addr
  C_BadRow : Addr
  C_BadBoxes : Addr
  C_BadShape : Addr
  C_NoBox : Addr
  C_BadPlan : Addr
  a_PARTS : Addr
/-- what the top has left -/
structure Txt (w : World) (K : PySem.W.Frag) (mg : Str → Option Value) (cs : Cs) : Prop where
  fn_number_of : FnAt K "number_of" "number_of" s_number_of cs.f_number_of cs.d_number_of ["word"]
  gl_number_of : mg "number_of" = some (.ref cs.f_number_of)
  fn_read_row : FnAt K "read_row" "read_row" s_read_row cs.f_read_row cs.d_read_row ["line"]
  gl_read_row : mg "read_row" = some (.ref cs.f_read_row)
  fn__law_cell_at : FnAt K "_law_cell_at" "_law_cell_at" s__law_cell_at cs.f__law_cell_at cs.d__law_cell_at ["_law_script", "_law_k"]
  gl__law_cell_at : mg "_law_cell_at" = some (.ref cs.f__law_cell_at)
  fn__law_whole : FnAt K "_law_whole" "_law_whole" s__law_whole cs.f__law_whole cs.d__law_whole ["_law_found"]
  gl__law_whole : mg "_law_whole" = some (.ref cs.f__law_whole)
  fn__law_mixed : FnAt K "_law_mixed" "_law_mixed" s__law_mixed cs.f__law_mixed cs.d__law_mixed ["_law_cell"]
  gl__law_mixed : mg "_law_mixed" = some (.ref cs.f__law_mixed)
  fn__law_number_of : FnAt K "_law_number_of" "_law_number_of" s__law_number_of cs.f__law_number_of cs.d__law_number_of ["_law_word"]
  gl__law_number_of : mg "_law_number_of" = some (.ref cs.f__law_number_of)
  fn__law_due_of : FnAt K "_law_due_of" "_law_due_of" s__law_due_of cs.f__law_due_of cs.d__law_due_of ["_law_line"]
  gl__law_due_of : mg "_law_due_of" = some (.ref cs.f__law_due_of)
  fn__law_line_by : FnAt K "_law_line_by" "_law_line_by" s__law_line_by cs.f__law_line_by cs.d__law_line_by ["_law_script"]
  gl__law_line_by : mg "_law_line_by" = some (.ref cs.f__law_line_by)
  fn__law_sign_by : FnAt K "_law_sign_by" "_law_sign_by" s__law_sign_by cs.f__law_sign_by cs.d__law_sign_by ["_law_cell"]
  gl__law_sign_by : mg "_law_sign_by" = some (.ref cs.f__law_sign_by)
  fn__law_odd_line : FnAt K "_law_odd_line" "_law_odd_line" s__law_odd_line cs.f__law_odd_line cs.d__law_odd_line ["_law_cell"]
  gl__law_odd_line : mg "_law_odd_line" = some (.ref cs.f__law_odd_line)
  fn__law_alone : FnAt K "_law_alone" "_law_alone" s__law_alone cs.f__law_alone cs.d__law_alone ["_law_e", "_law_own"]
  gl__law_alone : mg "_law_alone" = some (.ref cs.f__law_alone)
  fn_law : FnAt K "law" "law" s_law cs.f_law cs.d_law ["_law_script"]
  gl_law : mg "law" = some (.ref cs.f_law)
  no_len : mg "len" = none
  no_int : mg "int" = none
  no_tuple : mg "tuple" = none
  no_isinstance : mg "isinstance" = none
  no_bool : mg "bool" = none
  no_range : mg "range" = none
  no_str : mg "str" = none
  no_ValueError : mg "ValueError" = none
  gl_PARTS : mg "PARTS" = some (.ref cs.a_PARTS)
  km_PARTS : KMap K w cs.a_PARTS partsM
  gl_FIGURES : ∃ t, mg "FIGURES" = some (.str "0123456789" t)
  gl_MOST_FIGURES : ∃ t, mg "MOST_FIGURES" = some (.int 6 t)
  ex_LineError : ExcAt K mg "LineError" cs.C_LineError
  ex_BadRow : ExcAt K mg "BadRow" cs.C_BadRow
  ex_BadBoxes : ExcAt K mg "BadBoxes" cs.C_BadBoxes
  ex_BadShape : ExcAt K mg "BadShape" cs.C_BadShape
  ex_NoBox : ExcAt K mg "NoBox" cs.C_NoBox
  ex_BadPlan : ExcAt K mg "BadPlan" cs.C_BadPlan
  ec_BadRow : ExcC K cs.C_BadRow
  is_BadRow_LineError : PySem.W.kitOne K (.ref cs.C_BadRow) (.ref cs.C_LineError) = some true
  is_BadRow_BadRow : PySem.W.kitOne K (.ref cs.C_BadRow) (.ref cs.C_BadRow) = some true
  is_BadRow_BadBoxes : PySem.W.kitOne K (.ref cs.C_BadRow) (.ref cs.C_BadBoxes) = some false
  is_BadRow_BadShape : PySem.W.kitOne K (.ref cs.C_BadRow) (.ref cs.C_BadShape) = some false
  is_BadRow_NoBox : PySem.W.kitOne K (.ref cs.C_BadRow) (.ref cs.C_NoBox) = some false
  is_BadRow_BadPlan : PySem.W.kitOne K (.ref cs.C_BadRow) (.ref cs.C_BadPlan) = some false
  iv_BadRow : PySem.W.kitOne K (.ref cs.C_BadRow) (.type "ValueError") = some true
section
variable {P : Program} {w : World} {K : PySem.W.Frag} {mg : Str → Option Value} {base : Heap} {cs : Cs}
/-! ### the law's own helpers -/
def mixed (c : Int) : Int := c * 48271 % 2147483647
def sp__law_mixed (K : PySem.W.Frag) (cs : Cs) : Sp := fun vs H Q _ => ∃ c : Int, vs = [.int c] ∧ Q (.int (mixed c)) H
theorem ok__law_mixed (T : Txt w K mg cs)  : Ok P w K mg base CX0 1 cs.f__law_mixed cs.d__law_mixed ["_law_cell"] (sp__law_mixed K cs) := by
  refine T.fn__law_mixed.ok sc__law_mixed (fun vs H Q E h => ?_) (fun cdv A outer s H vs Q E hr h => ?_)
  · obtain ⟨c, rfl, _⟩ := h
    rfl
  · obtain ⟨c, rfl, k⟩ := h
    refine ⟨_, (pss_one (ps_ret (pe_op op_mod (pe_op op_mul (pv 0) pe_int) pe_int))), ?_⟩
    refine ⟨_, rfl, _, _, rfl, rfl, .inr ⟨by decide, by decide⟩, _, _, rfl, rfl, (by show (0 : Int) < _; decide), k⟩
def sp__law_cell_at (K : PySem.W.Frag) (cs : Cs) : Sp := spCell K
theorem ok__law_cell_at (T : Txt w K mg cs)  : Ok P w K mg base CX0 1 cs.f__law_cell_at cs.d__law_cell_at ["_law_script", "_law_k"] (sp__law_cell_at K cs) := by
  refine T.fn__law_cell_at.ok sc__law_cell_at (fun vs H Q E h => ?_) (fun cdv A outer s H vs Q E hr h => ?_)
  · obtain ⟨l, ns, j, rfl, _⟩ := h
    rfl
  · obtain ⟨l, ns, j, rfl, hs, q⟩ := h
    refine ⟨_, (pss_cons (ps_if (pt_cmpR op_lt (pv 1) (pe_callB call_len_seq (by rfl) T.no_len PySem.boot_len (pa_cons (pv 0) pa_nil)) (nomark _)) (pss_one (ps_ret (pe_ix ix_list (pv 0) (pv 1) (fun _ _ => rfl)))) pss_nil)
      (pss_one (ps_ret pe_int))), ?_⟩
    refine ⟨_, rfl, _, rfl, l, _, rfl, .inl hs, _, _, rfl, rfl, _, rfl, iteD (fun c => ?_) (fun c => ?_)⟩
    · have hj : j < ns.length := by
        rw [List.length_map] at c
        omega
      exact ⟨_, rfl, _, rfl, l, _, _, _, rfl, rfl, hs, atI_cell hj, q⟩
    · have hj : ¬ j < ns.length := by
        rw [List.length_map] at c
        omega
      rw [cell_out hj] at q
      exact q
def sp__law_whole (K : PySem.W.Frag) (cs : Cs) : Sp := fun vs H Q _ => ∃ (x : V) (t : String), vs = [x] ∧ TyX K H x (.type t) ∧ t ∈ tyNames ∧ Q (.bl (t == "int")) H
theorem ok__law_whole (T : Txt w K mg cs)  : Ok P w K mg base CX0 1 cs.f__law_whole cs.d__law_whole ["_law_found"] (sp__law_whole K cs) := by
  refine T.fn__law_whole.ok sc__law_whole (fun vs H Q E h => ?_) (fun cdv A outer s H vs Q E hr h => ?_)
  · obtain ⟨x, t, rfl, _⟩ := h
    rfl
  · obtain ⟨x, t, rfl, ty, ht, q⟩ := h
    refine ⟨_, (pss_one (ps_ret (pe_and (pe_callB call_isi (by rfl) T.no_isinstance boot_isinstance (pa_cons (pv 0) (pa_cons (pe_bltn (v := .ty "int") (by rfl) T.no_int boot_int rfl) pa_nil))) (pe_one (pe_not (pe_callB call_isi (by rfl) T.no_isinstance boot_isinstance (pa_cons (pv 0) (pa_cons (pe_bltn (v := .ty "bool") (by rfl) T.no_bool boot_bool rfl) pa_nil)))))))), ?_⟩
    refine ⟨_, rfl, _, _, _, _, _, rfl, .ty "int", ty, kit_int ht, _, rfl, iteB (fun c => ?_) (fun c => ?_)⟩
    · refine ⟨_, rfl, _, _, _, _, _, rfl, .ty "bool", ty, kit_bool ht, _, rfl, ?_⟩
      have e : (!(t == "bool")) = (t == "int") := by
        simp only [tyNames, List.mem_cons, List.not_mem_nil, or_false] at ht
        rcases ht with rfl | rfl | rfl | rfl | rfl | rfl | rfl <;> first | decide | (exfalso; revert c; decide)
      rw [e]
      exact q
    · have e : (t == "int") = false := by
        cases h : (t == "int") with
        | false => rfl
        | true =>
          rw [h] at c
          cases c
      rw [e] at q
      exact q
/-! ### texts of rows: shown, number_of, read_row -/
theorem len_S (a : List Nat) : (SX.S a).length = a.length := SX.S_len a
def natV (n : Nat) : V := .int (n : Int)
/-- the text of a row -/
def shownM (z : List Nat) (ns : List Nat) : List Nat := _root_.TL.joinL [32] (z :: ns.map _root_.TL.numL)
theorem numL_small {n : Nat} (h : n < 1000000) : (_root_.TL.numL n).length ≤ 6 := _root_.TL.numL_len (by decide) h
theorem log2_small {n : Nat} (h : n < 1000000) : ((n : Int)).natAbs.log2 < 1920 := by
  have : n.log2 < 1920 := by
    by_cases h0 : n = 0
    · subst h0
      decide
    · rw [Nat.log2_lt h0]
      exact Nat.lt_of_lt_of_le h (by decide +kernel)
  exact this
theorem sp_S : (" " : Str) = SX.S [32] := by decide +kernel
theorem joinL_len : ∀ (ws : List (List Nat)), (_root_.TL.joinL [32] ws).length ≤ (ws.map (·.length)).sum + ws.length
  | [] => Nat.le_refl _
  | [w] => by
    show w.length ≤ _
    simp
  | w :: v :: r => by
    have ih := joinL_len (v :: r)
    show (w ++ ([32] ++ _root_.TL.joinL [32] (v :: r))).length ≤ _
    simp only [List.length_append, List.length_cons, List.length_nil, List.map_cons, List.sum_cons] at ih ⊢
    omega
theorem nums_sum {ns : List Nat} (h : ∀ n ∈ ns, n < 1000000) : ((ns.map _root_.TL.numL).map (·.length)).sum ≤ 6 * ns.length := by
  induction ns with
  | nil => exact Nat.le_refl _
  | cons n r ih =>
    have h1 := numL_small (h n List.mem_cons_self)
    have h2 := ih fun m hm => h m (List.mem_cons_of_mem _ hm)
    simp only [List.map_cons, List.sum_cons, List.length_cons]
    omega
theorem S_map_len (ws : List (List Nat)) : ((ws.map SX.S).map (·.length)).sum = (ws.map (·.length)).sum := by rw [SX.lens]
/-- the number that a word of figures writes -/
def numO (a : List Nat) : Option Nat := if (1 ≤ a.length ∧ a.length ≤ 6) ∧ ¬ (a.head? = some 48 ∧ 1 < a.length) ∧ a.all (fun c => decide (48 ≤ c) && decide (c ≤ 57)) = true then some (NumText.digitsVal a) else none
theorem numO_some {a : List Nat} {n : Nat} (h : numO a = some n) : (1 ≤ a.length ∧ a.length ≤ 6) ∧ ¬ (a.head? = some 48 ∧ 1 < a.length) ∧ a.all (fun c => decide (48 ≤ c) && decide (c ≤ 57)) = true ∧ n = NumText.digitsVal a := by
  unfold numO at h
  split at h
  · rename_i hc
    exact ⟨hc.1, hc.2.1, hc.2.2, (Option.some.inj h).symm⟩
  · cases h
def figs : List Nat := [48, 49, 50, 51, 52, 53, 54, 55, 56, 57]
theorem figs_S : (("0123456789" : Str)).cps.toList = figs := by decide +kernel
theorem fig_mem (c : Nat) : decide (c ∈ figs) = (decide (48 ≤ c) && decide (c ≤ 57)) := by
  rw [Bool.eq_iff_iff, decide_eq_true_eq, Bool.and_eq_true, decide_eq_true_eq, decide_eq_true_eq]
  simp only [figs, List.mem_cons, List.not_mem_nil, or_false]
  omega
theorem lit_0 : ("0" : Str) = ⟨#[48]⟩ := by decide +kernel
theorem sign_eq2 (c d : Nat) : ((V.str ⟨#[c]⟩ : V) = V.str ⟨#[d]⟩) ↔ c = d := by
  constructor
  · intro h
    have h1 : (⟨#[c]⟩ : Str) = ⟨#[d]⟩ := V.str.inj h
    have h2 : (#[c] : Array Nat) = #[d] := congrArg Str.cps h1
    simpa using h2
  · intro h
    rw [h]
def sp_number_of (K : PySem.W.Frag) (cs : Cs) : Sp := fun vs H Q E => ∃ a : List Nat, vs = [.str (SX.S a)] ∧ a.length ≤ 1000 ∧
  (∀ n H', numO a = some n → Same H H' → Q (.int (n : Int)) H') ∧ (∀ H', numO a = none → Same H H' → E (.ref cs.C_BadRow) none H')
theorem ok_number_of (T : Txt w K mg cs)  : Ok P w K mg base (L2.CX P w) 1 cs.f_number_of cs.d_number_of ["word"] (sp_number_of K cs) := by
  refine T.fn_number_of.okX sc_number_of (fun vs H Q E h => ?_) (fun cdv A outer s H vs Q E hr h => ?_)
  · obtain ⟨a, rfl, _⟩ := h
    rfl
  · obtain ⟨a, rfl, hl, kQ, kE⟩ := h
    refine ⟨_, (pss_cons (ps_if (pt_jn (PW.pt (pw_or (pt_not (pt_chain op_le op_le pe_int (pe_callB call_len_str (by rfl) T.no_len PySem.boot_len (pa_cons (pv 0) pa_nil)) (pe_glob (v := .int 6) (by rfl) (T.gl_MOST_FIGURES).choose_spec ⟨_, rfl⟩))) (pw_or1 (PW.pt (pw_and (pt_cmpR op_eq (pe_ix ix_str (pv 0) pe_int (fun _ _ => rfl)) pe_str (nomark _)) (pw_and1 (pt_cmpR op_gt (pe_callB call_len_str (by rfl) T.no_len PySem.boot_len (pa_cons (pv 0) pa_nil)) pe_int (nomark _))))))))) (pss_one (ps_raise rfl (takes_of rfl rfl rfl rfl) (pmk_own PySem.F.excBase_ValueError T.ex_BadRow.x T.ex_BadRow.g T.ex_BadRow.k (raises_own T.ex_BadRow.b T.ex_BadRow.t) (by rfl)))) pss_nil)
      (pss_cons (ps_for (passes_of rfl) rfl (pi_str (pv 0)) (pg_name (i := 1) sc_number_of.nd rfl (Or.inl rfl)) (pss_one (ps_if (pt_cmpR op_notIn_sign (pv 1) (pe_glob (v := .str "0123456789") (by rfl) (T.gl_FIGURES).choose_spec ⟨_, rfl⟩) (by rfl)) (pss_one (ps_raise rfl (takes_of rfl rfl rfl rfl) (pmk_own PySem.F.excBase_ValueError T.ex_BadRow.x T.ex_BadRow.g T.ex_BadRow.k (raises_own T.ex_BadRow.b T.ex_BadRow.t) (by rfl)))) pss_nil)))
      (pss_one (ps_ret (pe_callTy call_int_str (by rfl) T.no_int boot_int (pa_cons (pv 0) pa_nil)))))), ?_⟩
    have hz : (SX.S a).length ≤ sizeLine := by rw [len_S]; exact Nat.le_of_lt (sizeL (by omega))
    refine ⟨fun b H' => b = !decide ((1 ≤ a.length ∧ a.length ≤ 6) ∧ ¬ (a.head? = some 48 ∧ 1 < a.length)) ∧ H' = H, ?_, ?_⟩
    · refine ⟨_, rfl, _, rfl, hz, _, _, rfl, rfl, _, rfl, iteD (fun c => ?_) (fun c => ?_)⟩
      · rw [len_S] at c
        refine ⟨_, _, rfl, rfl, _, rfl, iteN (fun c2 => ?_) (fun c2 => ?_)⟩
        · rw [len_S] at c2
          refine ⟨?_, rfl⟩
          rw [decide_eq_false (fun z => c2 (by omega))]
          rfl
        · rw [len_S] at c2
          cases a with
          | nil => exact absurd c (by decide)
          | cons c1 r =>
            refine ⟨_, rfl, _, _, c1, rfl, rfl, hz, at_ofG (j := 0) rfl rfl, rfl, _, rfl, iteD (fun c3 => ?_) (fun c3 => ?_)⟩
            · rw [lit_0, sign_eq2] at c3
              refine ⟨_, rfl, _, rfl, hz, _, _, rfl, rfl, _, rfl, ?_, rfl⟩
              rw [len_S, c3]
              by_cases hh : 1 < (48 :: r).length
              · rw [decide_eq_true (show (1 : Int) < ((48 :: r).length : Nat) by simp only [List.length_cons] at hh ⊢; omega), decide_eq_false (fun z => z.2 ⟨rfl, hh⟩)]
                rfl
              · rw [decide_eq_false (show ¬ (1 : Int) < ((48 :: r).length : Nat) by simp only [List.length_cons] at hh ⊢; omega), decide_eq_true ⟨by simp only [List.length_cons] at c c2 ⊢; omega, fun z => hh z.2⟩]
                rfl
            · rw [lit_0, sign_eq2] at c3
              refine ⟨?_, rfl⟩
              rw [decide_eq_true ⟨by simp only [List.length_cons] at c c2 ⊢; omega, fun z => c3 (Option.some.inj z.1)⟩]
              rfl
      · rw [len_S] at c
        refine ⟨_, rfl, iteT ⟨?_, rfl⟩⟩
        rw [decide_eq_false (fun z => c (by omega))]
        rfl
    rintro b H' ⟨rfl, rfl⟩
    refine iteN (fun c => ?_) (fun c => ?_)
    · refine kE _ ?_ (Same.refl _)
      unfold numO
      exact if_neg fun z => c ⟨z.1, z.2.1⟩
    have e6 : (SX.S a).cps.size = a.length := by simp
    refine ⟨_, rfl, _, rfl, for_it walk_str (fun i σ H2 => ∃ v1, σ = [some (.str (SX.S a)), v1] ∧ H2 = H' ∧ ∀ (j : Nat) (c : Nat), j < i → a[j]? = some c → (decide (48 ≤ c) && decide (c ≤ 57)) = true)
      ⟨none, rfl, rfl, fun j _ hj => absurd hj (Nat.not_lt_zero _)⟩ (fun _ _ _ _ _ => trivial) ?_ ?_⟩
    · rintro i x σ H2 H3 hi ⟨v1, rfl, rfl, hall⟩ ⟨rfl, c1, hc1, rfl⟩
      have hc1' : a[i]? = some c1 := by simpa using hc1
      refine ⟨_, rfl, c1, "0123456789", rfl, rfl, _, rfl, ?_⟩
      rw [figs_S, fig_mem]
      refine iteBN (fun c2 => ?_) (fun c2 => ?_)
      · refine kE _ ?_ (Same.refl _)
        unfold numO
        refine if_neg fun z => ?_
        have := List.all_eq_true.mp z.2.2 c1 (List.mem_of_getElem? hc1')
        rw [c2] at this
        cases this
      · refine ⟨_, rfl, rfl, fun j c' hj hc' => ?_⟩
        by_cases ej : j = i
        · subst ej
          rw [hc1'] at hc'
          cases hc'
          exact c2
        · exact hall j c' (by omega) hc'
    · rintro σ H2 ⟨v1, rfl, rfl, hall⟩
      rw [e6] at hall
      have hd : a.all (fun c => decide (48 ≤ c) && decide (c ≤ 57)) = true := by
        rw [List.all_eq_true]
        intro c1 hm
        obtain ⟨j, hj, e⟩ := List.getElem_of_mem hm
        exact hall j c1 hj (by rw [← e]; exact List.getElem?_eq_getElem hj)
      have hn : numO a = some (NumText.digitsVal a) := by
        unfold numO
        exact if_pos ⟨c.1, c.2, hd⟩
      have hne : a ≠ [] := fun z => by
        rw [z] at c
        exact absurd c.1.1 (by decide)
      exact ⟨_, rfl, _, _, rfl, SX.int_S hd hne (by have := c.1.2; omega), by rw [len_S]; have := c.1.2; omega, kQ _ _ hn (Same.refl _)⟩
/-! read_row -/
theorem spl_c (c : Nat) (acc r : List Nat) : _root_.TL.spl [32] 0 acc (c :: r) = if c = 32 then acc :: _root_.TL.spl [32] 0 [] r else _root_.TL.spl [32] 0 (acc ++ [c]) r := by
  by_cases h : c = 32
  · rw [if_pos h, _root_.TL.spl_hit (by subst h; rfl)]
    rfl
  · rw [if_neg h, _root_.TL.spl_miss (_root_.TL.pre_of_head [] r h)]
theorem spl_ok : ∀ (l acc : List Nat), _root_.TL.spl [32] 0 acc l ≠ [] ∧ (∀ p ∈ _root_.TL.spl [32] 0 acc l, p.length ≤ acc.length + l.length) ∧ (_root_.TL.spl [32] 0 acc l).length ≤ l.length + 1
  | [], acc => by
    rw [_root_.TL.spl_nil]
    refine ⟨by simp, fun p hp => ?_, Nat.le_refl _⟩
    simp only [List.mem_cons, List.not_mem_nil, or_false] at hp
    subst hp
    exact Nat.le_refl _
  | c :: r, acc => by
    rw [spl_c]
    split
    · obtain ⟨h1, h2, h3⟩ := spl_ok r []
      refine ⟨by simp, fun p hp => ?_, ?_⟩
      · rcases List.mem_cons.mp hp with rfl | q
        · omega
        · have := h2 p q
          simp only [List.length_nil, List.length_cons] at this ⊢
          omega
      · simp only [List.length_cons]
        omega
    · obtain ⟨h1, h2, h3⟩ := spl_ok r (acc ++ [c])
      refine ⟨h1, fun p hp => ?_, ?_⟩
      · have := h2 p hp
        simp only [List.length_append, List.length_cons, List.length_nil] at this ⊢
        omega
      · simp only [List.length_cons]
        omega
def numsO : List (List Nat) → Option (List Nat)
  | [] => some []
  | w :: r => match numO w with
    | none => none
    | some n => match numsO r with
      | none => none
      | some ns => some (n :: ns)
theorem numsO_snoc : ∀ {l : List (List Nat)} {ns : List Nat} {w : List Nat} {n : Nat}, numsO l = some ns → numO w = some n → numsO (l ++ [w]) = some (ns ++ [n])
  | [], ns, w, n, h, hw => by
    cases h
    show (match numO w with | none => none | some n => _) = _
    rw [hw]
    rfl
  | v :: r, ns, w, n, h, hw => by
    have h' : (match numO v with | none => none | some n => match numsO r with | none => none | some ns => some (n :: ns)) = some ns := h
    cases hv : numO v with
    | none =>
      rw [hv] at h'
      cases h'
    | some m =>
      rw [hv] at h'
      cases hr : numsO r with
      | none =>
        simp only [hr] at h'
        cases h'
      | some ms =>
        simp only [hr] at h'
        cases h'
        show (match numO v with | none => none | some n => match numsO (r ++ [w]) with | none => none | some ns => some (n :: ns)) = _
        rw [hv, numsO_snoc hr hw]
        rfl
theorem numsO_bad : ∀ {l : List (List Nat)} {w : List Nat}, w ∈ l → numO w = none → numsO l = none
  | [], w, h, _ => by cases h
  | v :: r, w, h, hw => by
    show (match numO v with | none => none | some n => match numsO r with | none => none | some ns => some (n :: ns)) = none
    cases hv : numO v with
    | none => rfl
    | some m =>
      rcases List.mem_cons.mp h with e | e
      · rw [e, hv] at hw
        cases hw
      · simp only [numsO_bad e hw]
theorem numsO_len : ∀ {l : List (List Nat)} {ns : List Nat}, numsO l = some ns → ns.length = l.length
  | [], ns, h => by cases h; rfl
  | v :: r, ns, h => by
    have h' : (match numO v with | none => none | some n => match numsO r with | none => none | some ns => some (n :: ns)) = some ns := h
    cases hv : numO v with
    | none =>
      rw [hv] at h'
      cases h'
    | some m =>
      rw [hv] at h'
      cases hr : numsO r with
      | none =>
        simp only [hr] at h'
        cases h'
      | some ms =>
        simp only [hr] at h'
        cases h'
        simp [numsO_len hr]
/-- the row that a text writes -/
def rowO (l : List Nat) : Option (List Nat × List Nat) := match _root_.TL.spl [32] 0 [] l with
  | [] => none
  | w :: ws => match partsM (SX.S w) with
    | none => none
    | some m => if ws.length = m.length then (match numsO ws with
      | none => none
      | some ns => some (w, ns)) else none
def sp_read_row (K : PySem.W.Frag) (cs : Cs) : Sp := fun vs H Q E => ∃ l : List Nat, vs = [.str (SX.S l)] ∧ l.length ≤ 900 ∧
  (∀ w ns H' p, rowO l = some (w, ns) → Same H H' → H p = none → H' p = some (.tup (.str (SX.S w) :: ns.map natV)) → Q (.ref p) H') ∧ (∀ H', rowO l = none → Same H H' → E (.ref cs.C_BadRow) none H')
theorem ok_read_row (T : Txt w K mg cs) (o_number_of : Ok P w K mg base (L2.CX P w) 1 cs.f_number_of cs.d_number_of ["word"] (sp_number_of K cs)) : Ok P w K mg base (L2.CX P w) 2 cs.f_read_row cs.d_read_row ["line"] (sp_read_row K cs) := by
  refine T.fn_read_row.okX sc_read_row (fun vs H Q E h => ?_) (fun cdv A outer s H vs Q E hr h => ?_)
  · obtain ⟨l, rfl, _⟩ := h
    rfl
  · obtain ⟨l, rfl, hl, kQ, kE⟩ := h
    refine ⟨_, (pss_cons (ps_set (i := 1) sc_read_row.nd rfl (Or.inl rfl) (pe_split (pv 0) pe_str))
      (pss_cons (ps_set (i := 2) sc_read_row.nd rfl (Or.inl rfl) (pe_kget (pe_glob (v := .ref cs.a_PARTS) (by rfl) T.gl_PARTS rfl) (pe_ix ix_list (pv 1) pe_int (fun _ _ => rfl)) ⟨by rfl, by rfl, by rfl, by rfl⟩))
      (pss_cons (ps_if (pt_jn (PW.pt (pw_or (pt_cmpR op_isN (pv 2) pe_non (nomark _)) (pw_or1 (pt_cmpR op_ne (pe_callB call_len_seq (by rfl) T.no_len PySem.boot_len (pa_cons (pv 1) pa_nil)) (pe_op op_add (pe_callB call_len_str (by rfl) T.no_len PySem.boot_len (pa_cons (pv 2) pa_nil)) pe_int) (nomark _)))))) (pss_one (ps_raise rfl (takes_of rfl rfl rfl rfl) (pmk_own PySem.F.excBase_ValueError T.ex_BadRow.x T.ex_BadRow.g T.ex_BadRow.k (raises_own T.ex_BadRow.b T.ex_BadRow.t) (by rfl)))) pss_nil)
      (pss_cons (ps_set (i := 3) sc_read_row.nd rfl (Or.inl rfl) (pe_lst (pa_cons (pe_ix ix_list (pv 1) pe_int (fun _ _ => rfl)) pa_nil)))
      (pss_cons (ps_for (passes_of rfl) rfl (pi_list (pe_slice sl_list (pv 1) (po_some pe_int) po_none)) (pg_name (i := 4) sc_read_row.nd rfl (Or.inl rfl)) (pss_one (ps_expr (pe_bm PySem.F.plainAttrs_list PySem.F.slot_list_append PySem.F.type_list_append mt_append (pv 3) (pa_cons (pe_callO o_number_of hr (by rfl) T.gl_number_of (passes_call (takes_of rfl rfl rfl rfl) fun _ _ _ _ h => h) (pa_cons (pv 4) pa_nil)) pa_nil)))))
      (pss_one (ps_ret (pe_callTy call_tuple_of (by rfl) T.no_tuple boot_tuple (pa_cons (pv 3) pa_nil))))))))), ?_⟩
    refine ⟨_, rfl, ⟨_, rfl⟩, _, _, rfl, rfl, by decide +kernel, ?_, fun p np => ?_⟩
    · rw [len_S]
      exact Nat.le_of_lt (sizeL (by omega))
    have es : Txt.split (SX.S l) " " = (_root_.TL.spl [32] 0 [] l).map SX.S := by
      rw [sp_S]
      exact SX.split_S (by decide) (by decide)
    rw [es]
    have hok := spl_ok l []
    have hrow : rowO l = match _root_.TL.spl [32] 0 [] l with
      | [] => none
      | w :: ws => match partsM (SX.S w) with
        | none => none
        | some m => if ws.length = m.length then (match numsO ws with
          | none => none
          | some ns => some (w, ns)) else none := rfl
    generalize _root_.TL.spl [32] 0 [] l = parts at *
    cases parts with
    | nil => exact absurd rfl hok.1
    | cons w ws =>
    have hrow : rowO l = match partsM (SX.S w) with
        | none => none
        | some m => if ws.length = m.length then (match numsO ws with
          | none => none
          | some ns => some (w, ns)) else none := hrow
    have s1 : Same H (upd H p (.lst (((w :: ws).map SX.S).map V.str))) := Same.new np
    have hp1 : (upd H p (.lst (((w :: ws).map SX.S).map V.str))) p = some (.lst (((w :: ws).map SX.S).map V.str)) := upd_same
    generalize upd H p (.lst (((w :: ws).map SX.S).map V.str)) = H1 at *
    have hat0 : atI (((w :: ws).map SX.S).map V.str) 0 = some (.str (SX.S w)) := at_of (j := 0) rfl rfl
    refine ⟨_, partsM, rfl, T.km_PARTS, _, rfl, p, _, _, _, rfl, rfl, SqL.of hp1, hat0, _, rfl, ?_⟩
    have hwl : ws.length ≤ 900 := by
      have := hok.2.2
      simp only [List.length_cons] at this
      omega
    have hpl : ∀ q ∈ ws, q.length ≤ 1000 := fun q hq => by
      have := hok.2.1 q (List.mem_cons_of_mem _ hq)
      simp only [List.length_nil] at this
      omega
    cases hm : partsM (SX.S w) with
    | none =>
      rw [hm] at hrow
      refine ⟨fun b H2 => b = true ∧ H2 = H1, ⟨_, rfl, rfl, _, rfl, iteT ⟨rfl, rfl⟩⟩, ?_⟩
      rintro b H2 ⟨rfl, rfl⟩
      exact iteT (kE _ hrow s1)
    | some m =>
      rw [hm] at hrow
      have em := partsM_small hm
      have hrow : rowO l = if ws.length = m.length then (match numsO ws with
          | none => none
          | some ns => some (w, ns)) else none := hrow
      refine ⟨fun b H2 => b = !decide (ws.length = m.length) ∧ H2 = H1, ⟨_, rfl, rfl, _, rfl, iteF ?_⟩, ?_⟩
      · refine ⟨_, rfl, p, _, rfl, .inl (SqL.of hp1), _, rfl, m, rfl, by omega, _, _, rfl, rfl, rfl, _, rfl, ?_, rfl⟩
        show (!decide (V.int (((((w :: ws).map SX.S).map V.str).length : Nat) : Int) = V.int ((m.length : Int) + 1))) = _
        congr 1
        apply decide_eq_decide.mpr
        rw [V.int.injEq, List.length_map, List.length_map, List.length_cons]
        omega
      rintro b H2 ⟨rfl, rfl⟩
      refine iteN (fun c => ?_) (fun c => ?_)
      · rw [if_neg c] at hrow
        exact kE _ hrow s1
      rw [if_pos c] at hrow
      -- row = [words[0]]
      refine ⟨_, rfl, p, _, _, _, rfl, rfl, SqL.of hp1, hat0, (by show 1 ≤ sizeLine; decide), fun r nr => ?_⟩
      have nr0 := s1.free nr
      have s2' : Same H2 (upd H2 r (.lst [.str (SX.S w)])) := Same.new nr
      have s2 := s1.trans s2'
      refine ⟨_, rfl, _, rfl, p, _, rfl, SqL.of (s2' _ _ hp1), fun g ng => ?_⟩
      have ecut : cutV (((w :: ws).map SX.S).map V.str) (some 1) none = (ws.map SX.S).map V.str := by rw [cut_one]; rfl
      rw [ecut]
      have s3' : Same (upd H2 r (.lst [.str (SX.S w)])) (upd (upd H2 r (.lst [.str (SX.S w)])) g (.lst ((ws.map SX.S).map V.str))) := Same.new ng
      have s3 := s2.trans s3'
      have hr3 := s3' _ _ (show (upd H2 r (.lst [.str (SX.S w)])) r = some (.lst [.str (SX.S w)]) from upd_same)
      have hg3 : (upd (upd H2 r (.lst [.str (SX.S w)])) g (.lst ((ws.map SX.S).map V.str))) g = some (.lst ((ws.map SX.S).map V.str)) := upd_same
      have hne : g ≠ r := fun e => by
        rw [e, upd_same] at ng
        cases ng
      have hwsl : ((ws.map SX.S).map V.str).length = ws.length := by rw [List.length_map, List.length_map]
      refine ⟨g, rfl, ⟨_, SqL.of hg3⟩, for_list (K := K) (a := g) (xs := (ws.map SX.S).map V.str) (fun i σ H' => ∃ (v4 : Option V) (ns : List Nat), σ = [some (.str (SX.S l)), some (.ref p), some (.str m), some (.ref r), v4] ∧ Same H H' ∧ H' g = some (.lst ((ws.map SX.S).map V.str)) ∧ H' r = some (.lst (.str (SX.S w) :: ns.map natV)) ∧ numsO (ws.take i) = some ns)
        ⟨none, [], rfl, s3, hg3, hr3, rfl⟩ (fun i σ H' _ ⟨_, _, _, _, h, _⟩ => SqL.of h) ?_ ?_⟩
      · rintro i x σ H' hx ⟨v4, ns, rfl, s4, hg4, hr4, hns⟩
        obtain ⟨u, hu, rfl⟩ := of_get_map hx
        obtain ⟨q, hq, rfl⟩ := of_get_mapG hu
        have hi : i < ws.length := (List.getElem?_eq_some_iff.mp hq).1
        have hqm := List.mem_of_getElem? hq
        have hnl := numsO_len hns
        rw [List.length_take] at hnl
        refine ⟨_, rfl, .inl ⟨rfl, _, SqL.of hr4⟩, _, rfl, q, rfl, hpl q hqm, fun n H5 hn s5 => ?_, fun H5 hn s5 => ?_⟩
        · refine ⟨r, _, _, rfl, rfl, s5 _ _ hr4, sizeL (by rw [List.length_cons, List.length_map]; omega), ?_⟩
          refine ⟨_, ns ++ [n], rfl, (s4.trans s5).mut nr0, ?_, ?_, ?_⟩
          · rw [upd_ne hne]
            exact s5 _ _ hg4
          · rw [upd_same, List.map_append]
            rfl
          · rw [List.take_add_one, hq]
            exact numsO_snoc hns hn
        · refine kE _ ?_ (s4.trans s5)
          rw [hrow, numsO_bad hqm hn]
      · rintro σ H' ⟨v4, ns, rfl, s4, hg4, hr4, hns⟩
        rw [hwsl, List.take_length] at hns
        rw [hns] at hrow
        exact ⟨_, rfl, r, _, rfl, .inl ⟨SqL.of hr4, fun o no => kQ w ns _ o hrow (s4.trans (Same.new no)) (s4.free no) upd_same⟩⟩
/-! ### _law_number_of, _law_due_of -/
def numV : Option Nat → V
  | none => .non
  | some n => .int (n : Int)
def sp__law_number_of (K : PySem.W.Frag) (cs : Cs) : Sp := fun vs H Q _ => ∃ a : List Nat, vs = [.str (SX.S a)] ∧ a.length ≤ 1000 ∧ ∀ H', Same H H' → Q (numV (numO a)) H'
theorem ok__law_number_of (T : Txt w K mg cs)  : Ok P w K mg base CX0 1 cs.f__law_number_of cs.d__law_number_of ["_law_word"] (sp__law_number_of K cs) := by
  refine T.fn__law_number_of.ok sc__law_number_of (fun vs H Q E h => ?_) (fun cdv A outer s H vs Q E hr h => ?_)
  · obtain ⟨a, rfl, _⟩ := h
    rfl
  · obtain ⟨a, rfl, hl, kq⟩ := h
    have kQ : ∀ n H', numO a = some n → Same H H' → Q (.int (n : Int)) H' := fun n H' e s => by
      have := kq H' s
      rw [e] at this
      exact this
    have kE : ∀ H', numO a = none → Same H H' → Q .non H' := fun H' e s => by
      have := kq H' s
      rw [e] at this
      exact this
    refine ⟨_, (pss_cons (ps_if (pt_jn (PW.pt (pw_or (pt_not (pt_chain op_le op_le pe_int (pe_callB call_len_str (by rfl) T.no_len PySem.boot_len (pa_cons (pv 0) pa_nil)) pe_int)) (pw_or1 (PW.pt (pw_and (pt_cmpR op_eq (pe_ix ix_str (pv 0) pe_int (fun _ _ => rfl)) pe_str (nomark _)) (pw_and1 (pt_cmpR op_gt (pe_callB call_len_str (by rfl) T.no_len PySem.boot_len (pa_cons (pv 0) pa_nil)) pe_int (nomark _))))))))) (pss_one (ps_ret pe_non)) pss_nil)
      (pss_cons (ps_for PassesOwn.never rfl (pi_str (pv 0)) (pg_name (i := 1) sc__law_number_of.nd rfl (Or.inl rfl)) (pss_one (ps_if (pt_cmpR op_notIn_sign (pv 1) pe_str (by rfl)) (pss_one (ps_ret pe_non)) pss_nil)))
      (pss_one (ps_ret (pe_callTy call_int_str (by rfl) T.no_int boot_int (pa_cons (pv 0) pa_nil)))))), ?_⟩
    have hz : (SX.S a).length ≤ sizeLine := by rw [len_S]; exact Nat.le_of_lt (sizeL (by omega))
    refine ⟨fun b H' => b = !decide ((1 ≤ a.length ∧ a.length ≤ 6) ∧ ¬ (a.head? = some 48 ∧ 1 < a.length)) ∧ H' = H, ?_, ?_⟩
    · refine ⟨_, rfl, _, rfl, hz, _, _, rfl, rfl, _, rfl, iteD (fun c => ?_) (fun c => ?_)⟩
      · rw [len_S] at c
        refine ⟨_, _, rfl, rfl, _, rfl, iteN (fun c2 => ?_) (fun c2 => ?_)⟩
        · rw [len_S] at c2
          refine ⟨?_, rfl⟩
          rw [decide_eq_false (fun z => c2 (by omega))]
          rfl
        · rw [len_S] at c2
          cases a with
          | nil => exact absurd c (by decide)
          | cons c1 r =>
            refine ⟨_, rfl, _, _, c1, rfl, rfl, hz, at_ofG (j := 0) rfl rfl, rfl, _, rfl, iteD (fun c3 => ?_) (fun c3 => ?_)⟩
            · rw [lit_0, sign_eq2] at c3
              refine ⟨_, rfl, _, rfl, hz, _, _, rfl, rfl, _, rfl, ?_, rfl⟩
              rw [len_S, c3]
              by_cases hh : 1 < (48 :: r).length
              · rw [decide_eq_true (show (1 : Int) < ((48 :: r).length : Nat) by simp only [List.length_cons] at hh ⊢; omega), decide_eq_false (fun z => z.2 ⟨rfl, hh⟩)]
                rfl
              · rw [decide_eq_false (show ¬ (1 : Int) < ((48 :: r).length : Nat) by simp only [List.length_cons] at hh ⊢; omega), decide_eq_true ⟨by simp only [List.length_cons] at c c2 ⊢; omega, fun z => hh z.2⟩]
                rfl
            · rw [lit_0, sign_eq2] at c3
              refine ⟨?_, rfl⟩
              rw [decide_eq_true ⟨by simp only [List.length_cons] at c c2 ⊢; omega, fun z => c3 (Option.some.inj z.1)⟩]
              rfl
      · rw [len_S] at c
        refine ⟨_, rfl, iteT ⟨?_, rfl⟩⟩
        rw [decide_eq_false (fun z => c (by omega))]
        rfl
    rintro b H' ⟨rfl, rfl⟩
    refine iteN (fun c => ?_) (fun c => ?_)
    · refine kE _ ?_ (Same.refl _)
      unfold numO
      exact if_neg fun z => c ⟨z.1, z.2.1⟩
    have e6 : (SX.S a).cps.size = a.length := by simp
    refine ⟨_, rfl, _, rfl, for_it walk_str (fun i σ H2 => ∃ v1, σ = [some (.str (SX.S a)), v1] ∧ H2 = H' ∧ ∀ (j : Nat) (c : Nat), j < i → a[j]? = some c → (decide (48 ≤ c) && decide (c ≤ 57)) = true)
      ⟨none, rfl, rfl, fun j _ hj => absurd hj (Nat.not_lt_zero _)⟩ (fun _ _ _ _ _ => trivial) ?_ ?_⟩
    · rintro i x σ H2 H3 hi ⟨v1, rfl, rfl, hall⟩ ⟨rfl, c1, hc1, rfl⟩
      have hc1' : a[i]? = some c1 := by simpa using hc1
      refine ⟨_, rfl, c1, "0123456789", rfl, rfl, _, rfl, ?_⟩
      rw [figs_S, fig_mem]
      refine iteBN (fun c2 => ?_) (fun c2 => ?_)
      · refine kE _ ?_ (Same.refl _)
        unfold numO
        refine if_neg fun z => ?_
        have := List.all_eq_true.mp z.2.2 c1 (List.mem_of_getElem? hc1')
        rw [c2] at this
        cases this
      · refine ⟨_, rfl, rfl, fun j c' hj hc' => ?_⟩
        by_cases ej : j = i
        · subst ej
          rw [hc1'] at hc'
          cases hc'
          exact c2
        · exact hall j c' (by omega) hc'
    · rintro σ H2 ⟨v1, rfl, rfl, hall⟩
      rw [e6] at hall
      have hd : a.all (fun c => decide (48 ≤ c) && decide (c ≤ 57)) = true := by
        rw [List.all_eq_true]
        intro c1 hm
        obtain ⟨j, hj, e⟩ := List.getElem_of_mem hm
        exact hall j c1 hj (by rw [← e]; exact List.getElem?_eq_getElem hj)
      have hn : numO a = some (NumText.digitsVal a) := by
        unfold numO
        exact if_pos ⟨c.1, c.2, hd⟩
      have hne : a ≠ [] := fun z => by
        rw [z] at c
        exact absurd c.1.1 (by decide)
      exact ⟨_, rfl, _, _, rfl, SX.int_S hd hne (by have := c.1.2; omega), by rw [len_S]; have := c.1.2; omega, kQ _ _ hn (Same.refl _)⟩
theorem nine_many {z m : Str} (h : partsM z = some m) : ∃ j : Nat, j < 9 ∧ (nineW.map V.str)[j]? = some (.str z) ∧ (∀ (i : Nat) (z' : V), i < j → (nineW.map V.str)[i]? = some z' → eqV z' (.str z) = false) ∧ [V.int 2, .int 2, .int 3, .int 3, .int 2, .int 2, .int 3, .int 1, .int 1][j]? = some (.int (m.length : Int)) := by
  obtain ⟨j, hj, h1, h2, h3⟩ := nine_at h
  refine ⟨j, hj, h1, h2, ?_⟩
  have : j = 0 ∨ j = 1 ∨ j = 2 ∨ j = 3 ∨ j = 4 ∨ j = 5 ∨ j = 6 ∨ j = 7 ∨ j = 8 := by omega
  have e : ∀ (k : Nat) (t : Str), t.length = k → m = t → some (V.int (k : Int)) = some (.int (m.length : Int)) := fun k t h1 h2 => by rw [h2, h1]
  rcases this with rfl | rfl | rfl | rfl | rfl | rfl | rfl | rfl | rfl
  · exact e 2 "bn" (by decide +kernel) (by cases h3; rfl)
  · exact e 2 "bb" (by decide +kernel) (by cases h3; rfl)
  · exact e 3 "bbb" (by decide +kernel) (by cases h3; rfl)
  · exact e 3 "bbb" (by decide +kernel) (by cases h3; rfl)
  · exact e 2 "bb" (by decide +kernel) (by cases h3; rfl)
  · exact e 2 "bb" (by decide +kernel) (by cases h3; rfl)
  · exact e 3 "bbp" (by decide +kernel) (by cases h3; rfl)
  · exact e 1 "p" (by decide +kernel) (by cases h3; rfl)
  · exact e 1 "b" (by decide +kernel) (by cases h3; rfl)
def sp__law_due_of (K : PySem.W.Frag) (cs : Cs) : Sp := fun vs H Q _ => ∃ l : List Nat, vs = [.str (SX.S l)] ∧ l.length ≤ 900 ∧
  (∀ w ns H' p, rowO l = some (w, ns) → Same H H' → H p = none → H' p = some (.tup (.str (SX.S w) :: ns.map natV)) → Q (.ref p) H') ∧ (∀ H', rowO l = none → Same H H' → Q .non H')
theorem ok__law_due_of (T : Txt w K mg cs) (o__law_number_of : Ok P w K mg base CX0 1 cs.f__law_number_of cs.d__law_number_of ["_law_word"] (sp__law_number_of K cs)) : Ok P w K mg base CX0 2 cs.f__law_due_of cs.d__law_due_of ["_law_line"] (sp__law_due_of K cs) := by
  refine T.fn__law_due_of.ok sc__law_due_of (fun vs H Q E h => ?_) (fun cdv A outer s H vs Q E hr h => ?_)
  · obtain ⟨l, rfl, _⟩ := h
    rfl
  · obtain ⟨l, rfl, hl, kQ, kE⟩ := h
    refine ⟨_, (pss_cons (ps_set (i := 1) sc__law_due_of.nd rfl (Or.inl rfl) (pe_split (pv 0) pe_str))
      (pss_cons (ps_set (i := 2) sc__law_due_of.nd rfl (Or.inl rfl) (pe_lst (pa_cons pe_str (pa_cons pe_str (pa_cons pe_str (pa_cons pe_str (pa_cons pe_str (pa_cons pe_str (pa_cons pe_str (pa_cons pe_str (pa_cons pe_str pa_nil)))))))))))
      (pss_cons (ps_if (pt_jn (PW.pt (pw_or (pt_cmpR op_notIn_seq (pe_ix ix_list (pv 1) pe_int (fun _ _ => rfl)) (pv 2) (by rfl)) (pw_or1 (pt_cmpR op_ne (pe_callB call_len_seq (by rfl) T.no_len PySem.boot_len (pa_cons (pv 1) pa_nil)) (pe_op op_add pe_int (pe_ix ix_list (pe_lst (pa_cons pe_int (pa_cons pe_int (pa_cons pe_int (pa_cons pe_int (pa_cons pe_int (pa_cons pe_int (pa_cons pe_int (pa_cons pe_int (pa_cons pe_int pa_nil)))))))))) (pe_bm PySem.F.plainAttrs_list PySem.F.slot_list_index PySem.F.type_list_index mt_index (pv 2) (pa_cons (pe_ix ix_list (pv 1) pe_int (fun _ _ => rfl)) pa_nil)) (fun _ _ => rfl))) (nomark _)))))) (pss_one (ps_ret pe_non)) pss_nil)
      (pss_cons (ps_set (i := 3) sc__law_due_of.nd rfl (Or.inl rfl) (pe_lst (pa_cons (pe_ix ix_list (pv 1) pe_int (fun _ _ => rfl)) pa_nil)))
      (pss_cons (ps_for PassesOwn.never rfl (pi_list (pe_slice sl_list (pv 1) (po_some pe_int) po_none)) (pg_name (i := 4) sc__law_due_of.nd rfl (Or.inl rfl)) (pss_cons (ps_if (pt_cmpR op_isN (pe_callO o__law_number_of hr (by rfl) T.gl__law_number_of pass0 (pa_cons (pv 4) pa_nil)) pe_non (nomark _)) (pss_one (ps_ret pe_non)) pss_nil)
      (pss_one (ps_expr (pe_bm PySem.F.plainAttrs_list PySem.F.slot_list_append PySem.F.type_list_append mt_append (pv 3) (pa_cons (pe_callO o__law_number_of hr (by rfl) T.gl__law_number_of pass0 (pa_cons (pv 4) pa_nil)) pa_nil))))))
      (pss_one (ps_ret (pe_callTy call_tuple_of (by rfl) T.no_tuple boot_tuple (pa_cons (pv 3) pa_nil))))))))), ?_⟩
    refine ⟨_, rfl, ⟨_, rfl⟩, _, _, rfl, rfl, by decide +kernel, ?_, fun p np => ?_⟩
    · rw [len_S]
      exact Nat.le_of_lt (sizeL (by omega))
    have es : Txt.split (SX.S l) " " = (_root_.TL.spl [32] 0 [] l).map SX.S := by
      rw [sp_S]
      exact SX.split_S (by decide) (by decide)
    rw [es]
    have hok := spl_ok l []
    have hrow : rowO l = match _root_.TL.spl [32] 0 [] l with
      | [] => none
      | w :: ws => match partsM (SX.S w) with
        | none => none
        | some m => if ws.length = m.length then (match numsO ws with
          | none => none
          | some ns => some (w, ns)) else none := rfl
    generalize _root_.TL.spl [32] 0 [] l = parts at *
    cases parts with
    | nil => exact absurd rfl hok.1
    | cons w ws =>
    have hrow : rowO l = match partsM (SX.S w) with
        | none => none
        | some m => if ws.length = m.length then (match numsO ws with
          | none => none
          | some ns => some (w, ns)) else none := hrow
    have s1 : Same H (upd H p (.lst (((w :: ws).map SX.S).map V.str))) := Same.new np
    have hp1 : (upd H p (.lst (((w :: ws).map SX.S).map V.str))) p = some (.lst (((w :: ws).map SX.S).map V.str)) := upd_same
    generalize upd H p (.lst (((w :: ws).map SX.S).map V.str)) = H1 at *
    have hat0 : atI (((w :: ws).map SX.S).map V.str) 0 = some (.str (SX.S w)) := at_of (j := 0) rfl rfl
    have hwl : ws.length ≤ 900 := by
      have := hok.2.2
      simp only [List.length_cons] at this
      omega
    have hpl : ∀ q ∈ ws, q.length ≤ 1000 := fun q hq => by
      have := hok.2.1 q (List.mem_cons_of_mem _ hq)
      simp only [List.length_nil] at this
      omega
    refine ⟨(by show 9 ≤ sizeLine; decide), fun n nn => ?_⟩
    have s2' : Same H1 (upd H1 n (.lst (nineW.map V.str))) := Same.new nn
    have s2 := s1.trans s2'
    have hp2 := s2' _ _ hp1
    have hn2 : (upd H1 n (.lst (nineW.map V.str))) n = some (.lst (nineW.map V.str)) := upd_same
    refine ⟨fun b H3 => Same (upd H1 n (.lst (nineW.map V.str))) H3 ∧ b = (match partsM (SX.S w) with | none => true | some m => !decide (ws.length = m.length)), ?_, ?_⟩
    · refine ⟨_, rfl, p, _, _, _, rfl, rfl, SqL.of hp2, hat0, _, rfl, n, _, rfl, .inl (SqL.of hn2), rfl, nine_flat, _, rfl, iteB (fun c => ?_) (fun c => ?_)⟩
      · have c2 : (!inV (.str (SX.S w)) (nineW.map V.str)) = true := c
        rw [nine_in] at c2
        cases h : partsM (SX.S w) with
        | none => exact ⟨Same.refl _, rfl⟩
        | some m =>
          rw [h] at c2
          cases c2
      · have c2 : (!inV (.str (SX.S w)) (nineW.map V.str)) = false := c
        rw [nine_in] at c2
        cases h : partsM (SX.S w) with
        | none =>
          rw [h] at c2
          cases c2
        | some m =>
          obtain ⟨j, hj, h1, h2, h3⟩ := nine_many h
          have ez : eqV (.str (SX.S w)) (.str (SX.S w)) = true := by
            show (SX.S w == SX.S w) = true
            simp
          refine ⟨_, rfl, p, _, rfl, .inl (SqL.of hp2), (by show 9 ≤ sizeLine; decide), fun l2 hl2 => ?_⟩
          have s3 : Same (upd H1 n (.lst (nineW.map V.str))) (upd (upd H1 n (.lst (nineW.map V.str))) l2 (.lst [V.int 2, .int 2, .int 3, .int 3, .int 2, .int 2, .int 3, .int 1, .int 1])) := Same.new hl2
          refine ⟨_, rfl, .inl ⟨rfl, _, SqL.of (s3 _ _ hn2)⟩, _, rfl, p, _, _, _, rfl, rfl, SqL.of (s3 _ _ hp2), hat0, n, _, _, j, _, rfl, rfl, SqL.of (s3 _ _ hn2), rfl, nine_flat, h1, ez, h2, ?_⟩
          refine ⟨l2, _, _, _, rfl, rfl, SqL.of upd_same, atI_nat h3, _, _, rfl, rfl, rfl, _, rfl, s3, ?_⟩
          congr 1
          apply decide_eq_decide.mpr
          rw [V.int.injEq, List.length_map, List.length_map, List.length_cons]
          omega
    rintro b H3 ⟨s3', rfl⟩
    have s3 := s2.trans s3'
    have hp3 := s3' _ _ hp2
    cases hm : partsM (SX.S w) with
    | none =>
      rw [hm] at hrow
      exact iteT (kE _ hrow s3)
    | some m =>
      rw [hm] at hrow
      have hrow : rowO l = if ws.length = m.length then (match numsO ws with
          | none => none
          | some ns => some (w, ns)) else none := hrow
      refine iteN (fun c => ?_) (fun c => ?_)
      · rw [if_neg c] at hrow
        exact kE _ hrow s3
      rw [if_pos c] at hrow
      refine ⟨_, rfl, p, _, _, _, rfl, rfl, SqL.of hp3, hat0, (by show 1 ≤ sizeLine; decide), fun r nr => ?_⟩
      have nr0 := s3.free nr
      have t1 : Same H3 (upd H3 r (.lst [.str (SX.S w)])) := Same.new nr
      refine ⟨_, rfl, _, rfl, p, _, rfl, SqL.of (t1 _ _ hp3), fun g ng => ?_⟩
      have ecut : cutV (((w :: ws).map SX.S).map V.str) (some 1) none = (ws.map SX.S).map V.str := by rw [cut_one]; rfl
      rw [ecut]
      have t2 : Same (upd H3 r (.lst [.str (SX.S w)])) (upd (upd H3 r (.lst [.str (SX.S w)])) g (.lst ((ws.map SX.S).map V.str))) := Same.new ng
      have s4 := (s3.trans t1).trans t2
      have hr3 := t2 _ _ (show (upd H3 r (.lst [.str (SX.S w)])) r = some (.lst [.str (SX.S w)]) from upd_same)
      have hg3 : (upd (upd H3 r (.lst [.str (SX.S w)])) g (.lst ((ws.map SX.S).map V.str))) g = some (.lst ((ws.map SX.S).map V.str)) := upd_same
      have hne : g ≠ r := fun e => by
        rw [e, upd_same] at ng
        cases ng
      have hwsl : ((ws.map SX.S).map V.str).length = ws.length := by rw [List.length_map, List.length_map]
      refine ⟨g, rfl, ⟨_, SqL.of hg3⟩, for_list (K := K) (a := g) (xs := (ws.map SX.S).map V.str) (fun i σ H' => ∃ (v4 : Option V) (ns : List Nat), σ = [some (.str (SX.S l)), some (.ref p), some (.ref n), some (.ref r), v4] ∧ Same H H' ∧ H' g = some (.lst ((ws.map SX.S).map V.str)) ∧ H' r = some (.lst (.str (SX.S w) :: ns.map natV)) ∧ numsO (ws.take i) = some ns)
        ⟨none, [], rfl, s4, hg3, hr3, rfl⟩ (fun i σ H' _ ⟨_, _, _, _, h, _⟩ => SqL.of h) ?_ ?_⟩
      · rintro i x σ H' hx ⟨v4, ns, rfl, s5, hg5, hr5, hns⟩
        obtain ⟨u, hu, rfl⟩ := of_get_map hx
        obtain ⟨q, hq, rfl⟩ := of_get_mapG hu
        have hi : i < ws.length := (List.getElem?_eq_some_iff.mp hq).1
        have hqm := List.mem_of_getElem? hq
        have hnl := numsO_len hns
        rw [List.length_take] at hnl
        refine ⟨_, rfl, q, rfl, hpl q hqm, fun H6 s6 => ?_⟩
        cases hn : numO q with
        | none =>
          refine ⟨rfl, _, rfl, iteT ?_⟩
          refine kE _ ?_ (s5.trans s6)
          rw [hrow, numsO_bad hqm hn]
        | some n1 =>
          refine ⟨rfl, _, rfl, iteF ?_⟩
          refine ⟨_, rfl, .inl ⟨rfl, _, SqL.of (s6 _ _ hr5)⟩, _, rfl, q, rfl, hpl q hqm, fun H7 s7 => ?_⟩
          rw [hn]
          refine ⟨r, _, _, rfl, rfl, (s6.trans s7) _ _ hr5, sizeL (by rw [List.length_cons, List.length_map]; omega), ?_⟩
          refine ⟨_, ns ++ [n1], rfl, (s5.trans (s6.trans s7)).mut nr0, ?_, ?_, ?_⟩
          · rw [upd_ne hne]
            exact (s6.trans s7) _ _ hg5
          · rw [upd_same, List.map_append]
            rfl
          · rw [List.take_add_one, hq]
            exact numsO_snoc hns hn
      · rintro σ H' ⟨v4, ns, rfl, s5, hg5, hr5, hns⟩
        rw [hwsl, List.take_length] at hns
        rw [hns] at hrow
        exact ⟨_, rfl, r, _, rfl, .inl ⟨SqL.of hr5, fun o no => kQ w ns _ o hrow (s5.trans (Same.new no)) (s5.free no) upd_same⟩⟩
/-! ### the lines drawn -/
end
section
variable {X : Cx}
/-- a text nought times, or once -/
def rRepS : R2 := fun x y H Q => ∃ (z : Str) (b : Bool), x = .str z ∧ y = .int (if b then 1 else 0) ∧ z.length ≤ 1000 ∧ Q (.str (if b then z else SX.S [])) H
theorem op_repS : OpR X (binaryOp .Mult) rRepS := by
  intro pins s σ H x y v u Q I rx ry h
  obtain ⟨z, b, rfl, rfl, hz, q⟩ := h
  obtain ⟨t, rfl⟩ := rx
  obtain ⟨t', rfl⟩ := ry
  cases b with
  | false =>
    exact PySem.P.mul_str_none (by decide) (by decide) ⟨.str (SX.S []), H, I.tok _, ⟨_, rfl⟩, q⟩
  | true =>
    refine PySem.P.mul_str (by decide) (fun _ e => by cases e) (fun _ e => by cases e) ?_
    exact ⟨.str z, H, I, ⟨_, rfl⟩, q⟩
end
section
variable {P : Program} {w : World} {K : PySem.W.Frag} {mg : Str → Option Value} {base : Heap} {cs : Cs}
def signs1 : Str := " 0123456789 !\"#$&'()*+,-./:;<=>?@ABCDEFGHIJKLMNOPQRSTUVWXYZ[\\]^_`"
def signs2 : Str := "abcdefghijklmnopqrstuvwxyz{|}~\n\t"
def sp__law_sign_by (K : PySem.W.Frag) (cs : Cs) : Sp := fun vs H Q _ => ∃ c : Int, vs = [.int c] ∧ ∀ (d : Nat) H', Same H H' → Q (.str (SX.S [d])) H'
theorem ok__law_sign_by (T : Txt w K mg cs)  : Ok P w K mg base CX0 1 cs.f__law_sign_by cs.d__law_sign_by ["_law_cell"] (sp__law_sign_by K cs) := by
  refine T.fn__law_sign_by.ok sc__law_sign_by (fun vs H Q E h => ?_) (fun cdv A outer s H vs Q E hr h => ?_)
  · obtain ⟨c, rfl, _⟩ := h
    rfl
  · obtain ⟨c, rfl, q⟩ := h
    refine ⟨_, (pss_cons (ps_set (i := 1) sc__law_sign_by.nd rfl (Or.inl rfl) pe_str)
      (pss_cons (ps_set (i := 1) sc__law_sign_by.nd rfl (Or.inl rfl) (pe_op op_add_str (pv 1) pe_str))
      (pss_one (ps_ret (pe_ix ix_str (pv 1) (pe_op op_mod (pv 0) pe_int) (fun _ _ => rfl)))))), ?_⟩
    obtain ⟨d, hd⟩ : ∃ d, atI (signs1 ++ signs2).cps.toList (c % 97) = some d := by
      have h0 := Int.emod_nonneg c (show (97 : Int) ≠ 0 by decide)
      have h1 := Int.emod_lt_of_pos c (show (0 : Int) < 97 by decide)
      have hl : (signs1 ++ signs2).cps.toList.length = 97 := by decide +kernel
      exact ⟨(signs1 ++ signs2).cps.toList[(c % 97).toNat]'(by rw [hl]; omega), at_ofG (j := (c % 97).toNat) (by omega) (List.getElem?_eq_getElem _)⟩
    refine ⟨_, rfl, signs1, signs2, rfl, rfl, by decide +kernel, ?_⟩
    exact ⟨_, rfl, _, rfl, _, _, rfl, rfl, (by show (0 : Int) < _; decide), signs1 ++ signs2, _, d, rfl, rfl, by decide +kernel, hd, q d _ (Same.refl _)⟩
def odd1 : List Str := ["", " ", "tell", "tell ", "tell  1", " tell 1", "tell 1 ", "TELL 1", "tell +1"]
def odd2 : List Str := ["tell 1_0", "tell 1\t", "tell -0", "tell 1\n"]
def sp__law_odd_line (K : PySem.W.Frag) (cs : Cs) : Sp := fun vs H Q _ => ∃ c : Int, vs = [.int c] ∧ ∀ (l : List Nat) H', Same H H' → l.length ≤ 10 → Q (.str (SX.S l)) H'
theorem ok__law_odd_line (T : Txt w K mg cs)  : Ok P w K mg base CX0 1 cs.f__law_odd_line cs.d__law_odd_line ["_law_cell"] (sp__law_odd_line K cs) := by
  refine T.fn__law_odd_line.ok sc__law_odd_line (fun vs H Q E h => ?_) (fun cdv A outer s H vs Q E hr h => ?_)
  · obtain ⟨c, rfl, _⟩ := h
    rfl
  · obtain ⟨c, rfl, q⟩ := h
    refine ⟨_, (pss_cons (ps_set (i := 1) sc__law_odd_line.nd rfl (Or.inl rfl) (pe_lst (pa_cons pe_str (pa_cons pe_str (pa_cons pe_str (pa_cons pe_str (pa_cons pe_str (pa_cons pe_str (pa_cons pe_str (pa_cons pe_str (pa_cons pe_str pa_nil)))))))))))
      (pss_cons (ps_set (i := 1) sc__law_odd_line.nd rfl (Or.inl rfl) (pe_op op_cat (pv 1) (pe_lst (pa_cons pe_str (pa_cons pe_str (pa_cons pe_str (pa_cons pe_str pa_nil)))))))
      (pss_one (ps_ret (pe_ix ix_list (pv 1) (pe_op op_mod (pv 0) pe_int) (fun _ _ => rfl)))))), ?_⟩
    refine ⟨(by show 9 ≤ sizeLine; decide), fun l1 n1 => ⟨_, rfl, (by show 4 ≤ sizeLine; decide), fun l2 n2 => ?_⟩⟩
    have s1 : Same H (upd H l1 (.lst (odd1.map V.str))) := Same.new n1
    have s2' : Same (upd H l1 (.lst (odd1.map V.str))) (upd (upd H l1 (.lst (odd1.map V.str))) l2 (.lst (odd2.map V.str))) := Same.new n2
    have hl1 := s2' _ _ (show (upd H l1 (.lst (odd1.map V.str))) l1 = some (.lst (odd1.map V.str)) from upd_same)
    refine ⟨l1, l2, _, _, rfl, rfl, hl1, upd_same, by decide, fun l3 n3 => ?_⟩
    have h0 := Int.emod_nonneg c (show (13 : Int) ≠ 0 by decide)
    have h1 := Int.emod_lt_of_pos c (show (0 : Int) < 13 by decide)
    obtain ⟨x, hx⟩ : ∃ x, (odd1 ++ odd2)[(c % 13).toNat]? = some x := ⟨(odd1 ++ odd2)[(c % 13).toNat]'(by show _ < 13; omega), List.getElem?_eq_getElem _⟩
    have hxl : (_root_.TL.tl x).length ≤ 10 := by
      have : (odd1 ++ odd2).all (fun x => decide ((_root_.TL.tl x).length ≤ 10)) = true := by decide +kernel
      exact of_decide_eq_true (List.all_eq_true.mp this x (List.mem_of_getElem? hx))
    have hx' : atI (odd1.map V.str ++ odd2.map V.str) (c % 13) = some (V.str x) := by
      rw [← List.map_append]
      exact at_of (j := (c % 13).toNat) (by omega) (nl_get_map (f := V.str) hx)
    refine ⟨_, rfl, _, rfl, _, _, rfl, rfl, (by show (0 : Int) < _; decide), l3, _, _, _, rfl, rfl, SqL.of upd_same, hx', ?_⟩
    have := q (_root_.TL.tl x) _ ((s1.trans s2').trans (Same.new (o := .lst (odd1.map V.str ++ odd2.map V.str)) n3)) hxl
    rw [SX.S_tl] at this
    exact this
def namesW : List Str := ["set", "copy", "add", "sub", "fetch", "store", "less", "jump", "tell", "Set", "move", ""]
def sp__law_line_by (K : PySem.W.Frag) (cs : Cs) : Sp := fun vs H Q _ => ∃ (a : Addr) (ns : List Int), vs = [.ref a] ∧ SqL K H a (ns.map V.int) ∧ ns.length ≤ 63 ∧ ∀ (l : List Nat) H', Same H H' → l.length ≤ 100 → Q (.str (SX.S l)) H'
theorem ok__law_line_by (T : Txt w K mg cs) (o__law_cell_at : Ok P w K mg base CX0 1 cs.f__law_cell_at cs.d__law_cell_at ["_law_script", "_law_k"] (sp__law_cell_at K cs)) (o__law_mixed : Ok P w K mg base CX0 1 cs.f__law_mixed cs.d__law_mixed ["_law_cell"] (sp__law_mixed K cs)) : Ok P w K mg base CX0 2 cs.f__law_line_by cs.d__law_line_by ["_law_script"] (sp__law_line_by K cs) := by
  refine T.fn__law_line_by.ok sc__law_line_by (fun vs H Q E h => ?_) (fun cdv A outer s H vs Q E hr h => ?_)
  · obtain ⟨a, ns, rfl, _⟩ := h
    rfl
  · obtain ⟨a, ns, rfl, hS, hl, q⟩ := h
    refine ⟨_, (pss_cons (ps_set (i := 1) sc__law_line_by.nd rfl (Or.inl rfl) (pe_lst (pa_cons pe_str (pa_cons pe_str (pa_cons pe_str (pa_cons pe_str (pa_cons pe_str (pa_cons pe_str (pa_cons pe_str (pa_cons pe_str (pa_cons pe_str (pa_cons pe_str (pa_cons pe_str (pa_cons pe_str pa_nil))))))))))))))
      (pss_cons (ps_set (i := 2) sc__law_line_by.nd rfl (Or.inl rfl) (pe_callO o__law_cell_at hr (by rfl) T.gl__law_cell_at pass0 (pa_cons (pv 0) (pa_cons pe_int pa_nil))))
      (pss_cons (ps_set (i := 3) sc__law_line_by.nd rfl (Or.inl rfl) (pe_ix ix_list (pv 1) (pe_op op_mod (pv 2) pe_int) (fun _ _ => rfl)))
      (pss_cons (ps_set (i := 4) sc__law_line_by.nd rfl (Or.inl rfl) (pe_ix ix_list (pe_lst (pa_cons pe_int (pa_cons pe_int (pa_cons pe_int (pa_cons pe_int (pa_cons pe_int (pa_cons pe_int (pa_cons pe_int (pa_cons pe_int (pa_cons pe_int (pa_cons pe_int (pa_cons pe_int (pa_cons pe_int pa_nil))))))))))))) (pe_op op_mod (pv 2) pe_int) (fun _ _ => rfl)))
      (pss_cutS (ps_if (pt_cmpR op_eq (pe_op op_mod (pe_op op_fdiv (pv 2) pe_int) pe_int) pe_int (nomark _)) (pss_one (ps_set (i := 4) sc__law_line_by.nd rfl (Or.inl rfl) (pe_op op_mod (pe_op op_fdiv (pv 2) pe_int) pe_int))) pss_nil)
      (pss_cons (ps_for PassesOwn.never rfl (pi_range1 (by rfl) T.no_range (pa_cons (pv 4) pa_nil)) (pg_name (i := 5) sc__law_line_by.nd rfl (Or.inl rfl)) (pss_cons (ps_set (i := 6) sc__law_line_by.nd rfl (Or.inl rfl) (pe_callO o__law_cell_at hr (by rfl) T.gl__law_cell_at pass0 (pa_cons (pv 0) (pa_cons (pe_op op_add pe_int (pv 5)) pa_nil))))
      (pss_cons (ps_set (i := 7) sc__law_line_by.nd rfl (Or.inl rfl) (pe_ix ix_list (pe_lst (pa_cons pe_int (pa_cons pe_int (pa_cons pe_int (pa_cons pe_int (pa_cons pe_int (pa_cons pe_int (pa_cons pe_int (pa_cons pe_int pa_nil))))))))) (pe_op op_mod (pv 6) pe_int) (fun _ _ => rfl)))
      (pss_one (ps_set (i := 3) sc__law_line_by.nd rfl (Or.inl rfl) (pe_op op_add_str (pe_op op_add_str (pe_op op_add_str (pv 3) pe_str) (pe_op op_repS pe_str (pe_callTy call_int1 (by rfl) T.no_int boot_int (pa_cons (pe_cmpR op_eq (pe_op op_mod (pe_op op_fdiv (pv 6) pe_int) pe_int) pe_int (nomark _)) pa_nil)))) (pe_callTy call_str_int (by rfl) T.no_str boot_str (pa_cons (pe_op op_mod (pe_callO o__law_mixed hr (by rfl) T.gl__law_mixed pass0 (pa_cons (pv 6) pa_nil)) (pv 7)) pa_nil))))))))
      (pss_one (ps_ret (pv 3))))))))), ?_⟩
    refine ⟨(by show 12 ≤ sizeLine; decide), fun l1 n1 => ?_⟩
    have s1 : Same H (upd H l1 (.lst (namesW.map V.str))) := Same.new n1
    have hl1 : (upd H l1 (.lst (namesW.map V.str))) l1 = some (.lst (namesW.map V.str)) := upd_same
    refine ⟨_, rfl, a, ns, 0, rfl, s1.seq hS, ?_⟩
    have h0 := Int.emod_nonneg (cellOf ns 0) (show (12 : Int) ≠ 0 by decide)
    have h1 := Int.emod_lt_of_pos (cellOf ns 0) (show (0 : Int) < 12 by decide)
    obtain ⟨x, hx⟩ : ∃ x, namesW[(cellOf ns 0 % 12).toNat]? = some x := ⟨namesW[(cellOf ns 0 % 12).toNat]'(by show _ < 12; omega), List.getElem?_eq_getElem _⟩
    have hxl : (_root_.TL.tl x).length ≤ 10 := by
      have : namesW.all (fun x => decide ((_root_.TL.tl x).length ≤ 10)) = true := by decide +kernel
      exact of_decide_eq_true (List.all_eq_true.mp this x (List.mem_of_getElem? hx))
    have hx' : atI (namesW.map V.str) (cellOf ns 0 % 12) = some (V.str x) := at_of (j := (cellOf ns 0 % 12).toNat) (by omega) (nl_get_map (f := V.str) hx)
    refine ⟨_, rfl, _, rfl, _, _, rfl, rfl, (by show (0 : Int) < _; decide), l1, _, _, _, rfl, rfl, SqL.of hl1, hx', (by show 12 ≤ sizeLine; decide), fun l2 n2 => ?_⟩
    have s2' : Same (upd H l1 (.lst (namesW.map V.str))) (upd (upd H l1 (.lst (namesW.map V.str))) l2 (.lst (([2, 2, 3, 3, 2, 2, 3, 1, 1, 2, 2, 0] : List Int).map V.int))) := Same.new n2
    have s2 := s1.trans s2'
    obtain ⟨mn, hmn, hmn0, hmn4⟩ : ∃ mn : Int, atI (([2, 2, 3, 3, 2, 2, 3, 1, 1, 2, 2, 0] : List Int).map V.int) (cellOf ns 0 % 12) = some (.int mn) ∧ 0 ≤ mn ∧ mn ≤ 4 := by
      have : cellOf ns 0 % 12 = 0 ∨ cellOf ns 0 % 12 = 1 ∨ cellOf ns 0 % 12 = 2 ∨ cellOf ns 0 % 12 = 3 ∨ cellOf ns 0 % 12 = 4 ∨ cellOf ns 0 % 12 = 5 ∨ cellOf ns 0 % 12 = 6 ∨ cellOf ns 0 % 12 = 7 ∨ cellOf ns 0 % 12 = 8 ∨ cellOf ns 0 % 12 = 9 ∨ cellOf ns 0 % 12 = 10 ∨ cellOf ns 0 % 12 = 11 := by omega
      rcases this with e | e | e | e | e | e | e | e | e | e | e | e <;> rw [e] <;> exact ⟨_, rfl, by decide, by decide⟩
    refine ⟨_, rfl, _, _, rfl, rfl, (by show (0 : Int) < _; decide), l2, _, _, _, rfl, rfl, SqL.of upd_same, hmn, ?_⟩
    refine ⟨fun σ' H3 => ∃ many : Int, σ' = [some (.ref a), some (.ref l1), some (.int (cellOf ns 0)), some (.str x), some (.int many), none, none, none] ∧ H3 = (upd (upd H l1 (.lst (namesW.map V.str))) l2 (.lst (([2, 2, 3, 3, 2, 2, 3, 1, 1, 2, 2, 0] : List Int).map V.int))) ∧ 0 ≤ many ∧ many ≤ 4, ?_, ?_⟩
    · refine ⟨_, rfl, _, _, rfl, rfl, ⟨by decide, by decide⟩, _, _, rfl, rfl, (by show (0 : Int) < _; decide), rfl, _, rfl, iteD (fun c => ?_) (fun c => ?_)⟩
      · refine ⟨_, rfl, _, _, rfl, rfl, ⟨by decide, by decide⟩, _, _, rfl, rfl, (by show (0 : Int) < _; decide), ?_⟩
        exact ⟨_, rfl, rfl, by omega, by omega⟩
      · exact ⟨mn, rfl, rfl, hmn0, hmn4⟩
    rintro σ' H3 ⟨many, rfl, rfl, hm0, hm4⟩
    refine ⟨_, rfl, many, rfl, by omega, by omega, ?_⟩
    refine for_range (lo := 0) (n := many.toNat) (fun i σ H4 => ∃ (v5 v6 v7 : Option V) (l : List Nat), σ = [some (.ref a), some (.ref l1), some (.int (cellOf ns 0)), some (.str (SX.S l)), some (.int many), v5, v6, v7] ∧ Same H H4 ∧ l.length ≤ 10 + 10 * i) ⟨none, none, none, _root_.TL.tl x, by rw [SX.S_tl], s2, by omega⟩ ?_ ?_
    · rintro i σ H4 hi ⟨v5, v6, v7, l, rfl, s4, hll⟩
      have hi4 : i < 4 := by omega
      refine ⟨_, rfl, _, rfl, _, _, rfl, rfl, a, ns, 1 + i, congrArg (fun z => [V.ref a, V.int z]) (show (1 : Int) + (0 + (i : Int)) = ((1 + i : Nat) : Int) by omega), s4.seq hS, ?_⟩
      refine ⟨(by show 8 ≤ sizeLine; decide), fun l5 n5 => ?_⟩
      have s5' : Same H4 (upd H4 l5 (.lst (([10, 100, 1000, 10000, 100000, 1000000, 10000000, 100000000] : List Int).map V.int))) := Same.new n5
      have s5 := s4.trans s5'
      obtain ⟨bl, hbl, hb0, hb1⟩ : ∃ bl : Int, atI (([10, 100, 1000, 10000, 100000, 1000000, 10000000, 100000000] : List Int).map V.int) (cellOf ns (1 + i) % 8) = some (.int bl) ∧ 0 < bl ∧ bl ≤ 100000000 := by
        have h0 := Int.emod_nonneg (cellOf ns (1 + i)) (show (8 : Int) ≠ 0 by decide)
        have h1 := Int.emod_lt_of_pos (cellOf ns (1 + i)) (show (0 : Int) < 8 by decide)
        have : cellOf ns (1 + i) % 8 = 0 ∨ cellOf ns (1 + i) % 8 = 1 ∨ cellOf ns (1 + i) % 8 = 2 ∨ cellOf ns (1 + i) % 8 = 3 ∨ cellOf ns (1 + i) % 8 = 4 ∨ cellOf ns (1 + i) % 8 = 5 ∨ cellOf ns (1 + i) % 8 = 6 ∨ cellOf ns (1 + i) % 8 = 7 := by omega
        rcases this with e | e | e | e | e | e | e | e <;> rw [e] <;> exact ⟨_, rfl, by decide, by decide⟩
      refine ⟨_, rfl, _, _, rfl, rfl, (by show (0 : Int) < _; decide), l5, _, _, _, rfl, rfl, SqL.of upd_same, hbl, ?_⟩
      -- line + ' ' + '0' * int(..) + str(..)
      have hsp : (" " : Str).length = 1 := by decide +kernel
      have h00 : ("0" : Str) = SX.S [48] := by decide +kernel
      obtain ⟨nv, hnv⟩ : ∃ nv : Nat, mixed (cellOf ns (1 + i)) % bl = (nv : Int) := ⟨(mixed (cellOf ns (1 + i)) % bl).toNat, by have := Int.emod_nonneg (mixed (cellOf ns (1 + i))) (show bl ≠ 0 by omega); omega⟩
      have hnlt : nv < 100000000 := by
        have := Int.emod_lt_of_pos (mixed (cellOf ns (1 + i))) hb0
        omega
      have hnl : (_root_.TL.numL nv).length ≤ 8 := _root_.TL.numL_len (by decide) hnlt
      have hlog : ((nv : Int)).natAbs.log2 < 1920 := by
        have : nv.log2 < 1920 := by
          by_cases h0 : nv = 0
          · subst h0
            decide
          · rw [Nat.log2_lt h0]
            exact Nat.lt_of_lt_of_le hnlt (by decide +kernel)
        exact this
      refine ⟨_, rfl, SX.S l, " ", rfl, rfl, ?_, ?_⟩
      · rw [len_S, hsp]
        exact Nat.le_of_lt (sizeL (by omega))
      rw [sp_S, SX.S_cat]
      refine ⟨_, rfl, _, _, rfl, rfl, ⟨by decide, by decide⟩, _, _, rfl, rfl, (by show (0 : Int) < _; decide), rfl, .inr ⟨_, rfl, "0", _, rfl, rfl, by decide +kernel, ?_⟩⟩
      generalize decide (V.int (cellOf ns (1 + i) / 8 % 6) = V.int 3) = b0
      obtain ⟨l2, hl2, hl2e⟩ : ∃ l2 : List Nat, l2.length ≤ 1 ∧ (if b0 = true then ("0" : Str) else SX.S []) = SX.S l2 := by
        cases b0 with
        | true => exact ⟨[48], Nat.le_refl _, h00⟩
        | false => exact ⟨[], by decide, rfl⟩
      rw [hl2e]
      refine ⟨_, _, rfl, rfl, ?_, ?_⟩
      · rw [len_S, len_S]
        refine Nat.le_of_lt (sizeL ?_)
        simp only [List.length_append, List.length_cons, List.length_nil]
        omega
      rw [SX.S_cat]
      refine ⟨_, rfl, cellOf ns (1 + i), rfl, _, rfl, _, _, rfl, rfl, hb0, (nv : Int), congrArg (fun z => [V.int z]) hnv, hlog, ?_⟩
      rw [SX.num_S]
      refine ⟨_, _, rfl, rfl, ?_, ?_⟩
      · rw [len_S, len_S]
        refine Nat.le_of_lt (sizeL ?_)
        simp only [List.length_append, List.length_cons, List.length_nil]
        omega
      rw [SX.S_cat]
      refine ⟨_, _, _, _, rfl, s5, ?_⟩
      simp only [List.length_append, List.length_cons, List.length_nil]
      omega
    · rintro σ H4 ⟨v5, v6, v7, l, rfl, s4, hll⟩
      exact ⟨_, rfl, q l _ s4 (by omega)⟩
/-! ### _law_alone: of the five refusals the error is just the one that is asked for -/
/-- which of the five a class is, by the truth values of the five questions -/
structure OneOf (K : PySem.W.Frag) (cs : Cs) (D : Addr) (b0 b1 b2 b3 b4 : Bool) : Prop where
  c : ExcC K D
  h0 : PySem.W.kitOne K (.ref D) (.ref cs.C_BadRow) = some b0
  h1 : PySem.W.kitOne K (.ref D) (.ref cs.C_BadBoxes) = some b1
  h2 : PySem.W.kitOne K (.ref D) (.ref cs.C_BadShape) = some b2
  h3 : PySem.W.kitOne K (.ref D) (.ref cs.C_NoBox) = some b3
  h4 : PySem.W.kitOne K (.ref D) (.ref cs.C_BadPlan) = some b4
  h5 : PySem.W.kitOne K (.ref D) (.ref cs.C_LineError) = some true
  h6 : PySem.W.kitOne K (.ref D) (.type "ValueError") = some true
def sp__law_alone (K : PySem.W.Frag) (cs : Cs) (a D : Addr) : Sp := fun vs H Q _ => ∃ (own : Nat) (b0 b1 b2 b3 b4 : Bool), vs = [.ref a, .int (own : Int)] ∧ OneOf K cs D b0 b1 b2 b3 b4 ∧ [b0, b1, b2, b3, b4].count true = 1 ∧ [b0, b1, b2, b3, b4][own]? = some true ∧
  ∀ H', Same H H' → Q (.bl true) H'
theorem ok__law_alone (T : Txt w K mg cs)  : OkP P w K mg base 1 cs.f__law_alone cs.d__law_alone ["_law_e", "_law_own"] (sp__law_alone K cs) := by
  refine T.fn__law_alone.okP sc__law_alone (fun a D vs H Q E h => ?_) (fun cdv A outer s H vs Q E p D hr hz hf h => ?_)
  · obtain ⟨own, b0, b1, b2, b3, b4, rfl, _⟩ := h
    rfl
  · obtain ⟨own, b0, b1, b2, b3, b4, rfl, O, hc, ho, k⟩ := h
    have hC := O.c
    refine ⟨_, (pss_cons (ps_set (i := 2) sc__law_alone.nd rfl (Or.inl rfl) (pe_lst (pa_cons (pe_callB (call_isP hC List.mem_cons_self hz hf) (by rfl) T.no_isinstance boot_isinstance (pa_cons (pv 0) (pa_cons (pe_glob (v := .ref cs.C_BadRow) (by rfl) T.ex_BadRow.g rfl) pa_nil))) (pa_cons (pe_callB (call_isP hC List.mem_cons_self hz hf) (by rfl) T.no_isinstance boot_isinstance (pa_cons (pv 0) (pa_cons (pe_glob (v := .ref cs.C_BadBoxes) (by rfl) T.ex_BadBoxes.g rfl) pa_nil))) (pa_cons (pe_callB (call_isP hC List.mem_cons_self hz hf) (by rfl) T.no_isinstance boot_isinstance (pa_cons (pv 0) (pa_cons (pe_glob (v := .ref cs.C_BadShape) (by rfl) T.ex_BadShape.g rfl) pa_nil))) (pa_cons (pe_callB (call_isP hC List.mem_cons_self hz hf) (by rfl) T.no_isinstance boot_isinstance (pa_cons (pv 0) (pa_cons (pe_glob (v := .ref cs.C_NoBox) (by rfl) T.ex_NoBox.g rfl) pa_nil))) pa_nil))))))
      (pss_cons (ps_expr (pe_bm PySem.F.plainAttrs_list PySem.F.slot_list_append PySem.F.type_list_append mt_append (pv 2) (pa_cons (pe_callB (call_isP hC List.mem_cons_self hz hf) (by rfl) T.no_isinstance boot_isinstance (pa_cons (pv 0) (pa_cons (pe_glob (v := .ref cs.C_BadPlan) (by rfl) T.ex_BadPlan.g rfl) pa_nil))) pa_nil)))
      (pss_one (ps_ret (pe_and (pe_cmpR op_eq (pe_bm PySem.F.plainAttrs_list PySem.F.slot_list_count PySem.F.type_list_count mt_countT (pv 2) (pa_cons pe_bl pa_nil)) pe_int (nomark _)) (pe_and (pe_ix ix_list (pv 2) (pv 1) (fun _ _ => rfl)) (pe_and (pe_callB (call_isP hC List.mem_cons_self hz hf) (by rfl) T.no_isinstance boot_isinstance (pa_cons (pv 0) (pa_cons (pe_glob (v := .ref cs.C_LineError) (by rfl) T.ex_LineError.g rfl) pa_nil))) (pe_one (pe_callB (call_isP hC List.mem_cons_self hz hf) (by rfl) T.no_isinstance boot_isinstance (pa_cons (pv 0) (pa_cons (pe_bltn (v := .ty "ValueError") (by rfl) T.no_ValueError (by decide +kernel) rfl) pa_nil))))))))))), ?_⟩
    refine ⟨_, rfl, _, _, _, rfl, (fun _ r => r), O.h0, _, rfl, _, _, _, rfl, (fun _ r => r), O.h1, _, rfl, _, _, _, rfl, (fun _ r => r), O.h2, _, rfl, _, _, _, rfl, (fun _ r => r), O.h3, (by show 4 ≤ sizeLine; decide), fun l hl => ?_⟩
    refine ⟨_, rfl, .inl ⟨rfl, _, SqL.of upd_same⟩, _, rfl, _, _, _, rfl, (fun _ r => r), O.h4, l, _, _, rfl, rfl, upd_same, (by show 4 < sizeLine; decide), ?_⟩
    have s1 : Same H (upd (upd H l (.lst [.bl b0, .bl b1, .bl b2, .bl b3])) l (.lst [.bl b0, .bl b1, .bl b2, .bl b3, .bl b4])) := (Same.new hl).mut hl
    refine ⟨_, rfl, .inl ⟨rfl, _, SqL.of upd_same⟩, l, [b0, b1, b2, b3, b4], rfl, rfl, SqL.of upd_same, rfl, _, rfl, ?_⟩
    rw [hc]
    refine iteT ⟨_, rfl, _, rfl, l, _, _, _, rfl, rfl, SqL.of upd_same, atI_nat (nl_get_map (f := V.bl) (xs := [b0, b1, b2, b3, b4]) ho), _, rfl, iteT ?_⟩
    exact ⟨_, rfl, _, _, _, rfl, (fun _ r => r), O.h5, _, rfl, iteT ⟨_, rfl, _, _, _, rfl, (fun _ r => r), O.h6, k _ s1⟩⟩
/-! ### the law -/
theorem rowO_word {l w : List Nat} {ns : List Nat} (h : rowO l = some (w, ns)) : (∃ m, partsM (SX.S w) = some m ∧ ns.length = m.length) := by
  unfold rowO at h
  split at h
  · cases h
  · rename_i w' ws e
    split at h
    · cases h
    · rename_i m hm
      split at h
      · rename_i hl
        split at h
        · cases h
        · rename_i ns' hn
          cases h
          exact ⟨m, hm, by rw [numsO_len hn, hl]⟩
      · cases h
theorem parts_strOk {z m : Str} (h : partsM z = some m) : PyData.strOk z = true := by
  unfold partsM at h
  repeat' split at h
  all_goals (first | (rename_i e; subst e; decide +kernel) | cases h)
def natD (n : Nat) : PyData := .int (n : Int)
def rowD (w : List Nat) (ns : List Nat) : PyData := .tuple (.str (SX.S w) :: ns.map natD)
theorem rowD_sh {w ns : List Nat} (h : PyData.strOk (SX.S w) = true) : Sh 1 (rowD w ns) := sh_tup fun d hd => by
  rcases List.mem_cons.mp hd with rfl | q
  · exact sh_str h
  · obtain ⟨n, _, rfl⟩ := List.mem_map.mp q
    exact sh_int _
theorem natV_dp {K : PySem.W.Frag} {H : Hp} : ∀ ns : List Nat, DpAll K H (ns.map natV) (ns.map natD)
  | [] => .nil
  | n :: r => .cons (.int _) (natV_dp r)
theorem rowD_dp {K : PySem.W.Frag} {H : Hp} {p : Addr} {w ns : List Nat} (h : H p = some (.tup (.str (SX.S w) :: ns.map natV))) : Dp K H (.ref p) (rowD w ns) := .tup (SqT.of h) (.cons (.str _) (natV_dp ns))
def sp_law (K : PySem.W.Frag) (cs : Cs) : Sp := fun vs H Q _ => ∃ (a : Addr) (ns : List Int), vs = [.ref a] ∧ SqL K H a (ns.map V.int) ∧ ns.length ≤ 63 ∧ ∀ H', Q (.bl true) H'
theorem ok_law (T : Txt w K mg cs) (o__law_line_by : Ok P w K mg base CX0 2 cs.f__law_line_by cs.d__law_line_by ["_law_script"] (sp__law_line_by K cs)) (o__law_cell_at : Ok P w K mg base CX0 1 cs.f__law_cell_at cs.d__law_cell_at ["_law_script", "_law_k"] (sp__law_cell_at K cs)) (o__law_due_of : Ok P w K mg base CX0 2 cs.f__law_due_of cs.d__law_due_of ["_law_line"] (sp__law_due_of K cs)) (o__law_odd_line : Ok P w K mg base CX0 1 cs.f__law_odd_line cs.d__law_odd_line ["_law_cell"] (sp__law_odd_line K cs)) (o_read_row : Ok P w K mg base (L2.CX P w) 2 cs.f_read_row cs.d_read_row ["line"] (sp_read_row K cs)) (o__law_sign_by : Ok P w K mg base CX0 1 cs.f__law_sign_by cs.d__law_sign_by ["_law_cell"] (sp__law_sign_by K cs)) (o__law_alone : OkP P w K mg base 1 cs.f__law_alone cs.d__law_alone ["_law_e", "_law_own"] (sp__law_alone K cs)) (o__law_whole : Ok P w K mg base CX0 1 cs.f__law_whole cs.d__law_whole ["_law_found"] (sp__law_whole K cs)) : Ok P w K mg base CX0 3 cs.f_law cs.d_law ["_law_script"] (sp_law K cs) := by
  refine T.fn_law.ok sc_law (fun vs H Q E h => ?_) (fun cdv A outer s H vs Q E hr h => ?_)
  · obtain ⟨a, ns, rfl, _⟩ := h
    rfl
  · obtain ⟨a, ns, rfl, hS, hl, q⟩ := h
    have hu := hu_of hr
    refine ⟨_, (pss_cons (ps_set (i := 1) sc_law.nd rfl (Or.inl rfl) (pe_callO o__law_line_by hr (by rfl) T.gl__law_line_by pass0 (pa_cons (pv 0) pa_nil)))
      (pss_cons (ps_set (i := 2) sc_law.nd rfl (Or.inl rfl) (pe_callO o__law_cell_at (hr.mono (by decide)) (by rfl) T.gl__law_cell_at pass0 (pa_cons (pv 0) (pa_cons pe_int pa_nil))))
      (pss_cons (ps_set (i := 3) sc_law.nd rfl (Or.inl rfl) (pe_op op_mod (pe_op op_fdiv (pv 2) pe_int) (pe_op op_add (pe_callB call_len_str (by rfl) T.no_len PySem.boot_len (pa_cons (pv 1) pa_nil)) pe_int)))
      (pss_cutS (ps_if (pt_cmpR op_lt (pe_op op_mod (pv 2) pe_int) pe_int (nomark _)) (pss_one (ps_set (i := 1) sc_law.nd rfl (Or.inl rfl) (pe_op op_add_str (pe_op op_add_str (pe_slice sl_str (pv 1) po_none (po_some (pv 3))) (pe_callO o__law_sign_by (hr.mono (by decide)) (by rfl) T.gl__law_sign_by pass0 (pa_cons (pe_callO o__law_cell_at (hr.mono (by decide)) (by rfl) T.gl__law_cell_at pass0 (pa_cons (pv 0) (pa_cons pe_int pa_nil))) pa_nil))) (pe_slice sl_str (pv 1) (po_some (pv 3)) po_none)))) (pss_one (ps_if (pt_cmpR op_eq (pe_op op_mod (pv 2) pe_int) pe_int (nomark _)) (pss_one (ps_set (i := 1) sc_law.nd rfl (Or.inl rfl) (pe_op op_add_str (pe_slice sl_str (pv 1) po_none (po_some (pv 3))) (pe_slice sl_str (pv 1) (po_some (pe_op op_add (pv 3) pe_int)) po_none)))) pss_nil)))
      (pss_cutS (ps_if (pt_cmpR op_eq (pe_op op_mod (pv 2) pe_int) pe_int (nomark _)) (pss_one (ps_set (i := 1) sc_law.nd rfl (Or.inl rfl) (pe_callO o__law_odd_line (hr.mono (by decide)) (by rfl) T.gl__law_odd_line pass0 (pa_cons (pe_op op_fdiv (pv 2) pe_int) pa_nil)))) pss_nil)
      (pss_cons (ps_set (i := 4) sc_law.nd rfl (Or.inl rfl) (pe_callO o__law_due_of hr (by rfl) T.gl__law_due_of pass0 (pa_cons (pv 1) pa_nil)))
      (pss_cons (ps_set (i := 5) sc_law.nd rfl (Or.inl rfl) pe_non)
      (pss_cons (ps_set (i := 6) sc_law.nd rfl (Or.inl rfl) pe_str)
      (pss_cutS (ps_try_as (i := 7) rfl rfl sc_law.nd rfl rfl ⟨by rfl, by decide, Or.inl T.ex_BadRow.g⟩ takes0 (fun W pn xe tk _ => (pss_one (ps_set (i := 5) sc_law.nd rfl (Or.inl rfl) (pe_callSO o_read_row hr (by rfl) T.gl_read_row (fun σ => passAt tk σ) (pa_cons (pv 1) pa_nil)))))
      (fun a oe cls d pn hz hf => (pss_cons (ps_set (i := 6) sc_law.nd rfl (Or.inl rfl) pe_str)
      (pss_one (ps_if (pt_not (pt_val (pe_callP o__law_alone (roomP hr (by decide)) List.mem_cons_self hz hf (by rfl) T.gl__law_alone (pa_cons (pv 7) (pa_cons pe_int pa_nil))))) (pss_one (ps_ret pe_bl)) pss_nil)))))
      (pss_cons (ps_if (pt_cmpR op_isN (pv 4) pe_non (nomark _)) (pss_one (ps_ret (pe_cmpR op_eq (pv 6) pe_str (nomark _)))) pss_nil)
      (pss_cons (ps_if (pt_jn (PW.pt (pw_or (pt_cmpR op_ne (pv 6) pe_str (nomark _)) (pw_or (pt_not (pt_val (pe_callB call_isi (by rfl) T.no_isinstance boot_isinstance (pa_cons (pv 5) (pa_cons (pe_bltn (v := .ty "tuple") (by rfl) T.no_tuple boot_tuple rfl) pa_nil))))) (pw_or (pt_cmpR op_ne (pe_callB call_len_seq (by rfl) T.no_len PySem.boot_len (pa_cons (pv 5) pa_nil)) (pe_callB call_len_seq (by rfl) T.no_len PySem.boot_len (pa_cons (pv 4) pa_nil)) (nomark _)) (pw_or1 (pt_not (pt_val (pe_callB call_isi (by rfl) T.no_isinstance boot_isinstance (pa_cons (pe_ix ix_tup (pv 5) pe_int (fun _ _ => rfl)) (pa_cons (pe_bltn (v := .ty "str") (by rfl) T.no_str boot_str rfl) pa_nil))))))))))) (pss_one (ps_ret pe_bl)) pss_nil)
      (pss_one (ps_ret (pe_and (pe_cmpR (op_eqD hr.units) (pv 5) (pv 4) (nomark _)) (pe_one (pe_cmpR (op_eqD hr.units) (pe_lc (own := [("_law_number", 8)]) (g := gName 8) rfl sc_law.nd (pi_tup (pe_slice sl_tup (pv 5) (po_some pe_int) po_none)) (blkOk_by (N := ["_law_script", "_law_line", "_law_how", "_law_at", "_law_due", "_law_found", "_law_said", "_law_e", "_law_number"]) (sc := defScope s_law) (by decide +kernel)) (fun _ _ _ _ _ => pg_name (i := 8) sc_law.nd rfl (Or.inl rfl)) (fun _ _ _ _ _ => pts_one (pt_not (pt_val (pe_callO o__law_whole (hr.mono (by decide)) (by rfl) T.gl__law_whole pass0 (pa_cons (pv 8) pa_nil))))) (fun _ _ _ _ _ => (pv 8))) (pe_lst pa_nil) (nomark _))))))))))))))))), ?_⟩
    refine ⟨_, rfl, a, ns, rfl, hS, hl, fun l0 H1 s1 hl0 => ?_⟩
    refine ⟨_, rfl, a, ns, 5, rfl, s1.seq hS, ?_⟩
    refine ⟨_, rfl, _, _, rfl, rfl, ⟨by decide, by decide⟩, _, rfl, _, rfl, ?_, _, _, rfl, rfl, _, _, rfl, rfl, (by omega), ?_⟩
    · rw [len_S]
      exact Nat.le_of_lt (sizeL (by omega))
    rw [len_S]
    have lapp : ∀ x y : Str, (x ++ y).length = x.length + y.length := fun x y => by
      rw [_root_.TL.len_tl, _root_.TL.len_tl, _root_.TL.len_tl, _root_.TL.tl_append, List.length_append]
    have hz : (SX.S l0).length ≤ 100 := by rw [len_S]; exact hl0
    have hz' : (SX.S l0).length ≤ sizeLine := Nat.le_of_lt (sizeL (by omega))
    refine ⟨fun σ' H2 => ∃ x : Str, σ' = [some (.ref a), some (.str x), some (.int (cellOf ns 5)), some (.int (cellOf ns 5 / 16 % ((l0.length : Int) + 1))), none, none, none, none, none] ∧ Same H H2 ∧ x.length ≤ 300, ?_, ?_⟩
    · refine ⟨_, rfl, _, _, rfl, rfl, (by show (0 : Int) < _; decide), _, _, rfl, rfl, _, rfl, iteD (fun c => ?_) (fun c => ?_)⟩
      · have l1 := cutS_length (SX.S l0) none (some (cellOf ns 5 / 16 % ((l0.length : Int) + 1)))
        have l2 := cutS_length (SX.S l0) (some (cellOf ns 5 / 16 % ((l0.length : Int) + 1))) none
        refine ⟨_, rfl, _, rfl, _, rfl, SX.S l0, rfl, hz', _, rfl, a, ns, 6, rfl, s1.seq hS, _, rfl, fun d H2 s2 => ?_⟩
        have ld : (SX.S [d]).length = 1 := by rw [len_S]; rfl
        refine ⟨_, _, rfl, rfl, Nat.le_of_lt (sizeL (by omega)), ?_⟩
        refine ⟨_, rfl, _, rfl, _, rfl, SX.S l0, rfl, hz', ?_⟩
        refine ⟨_, _, rfl, rfl, Nat.le_of_lt (sizeL (by rw [lapp]; omega)), ?_⟩
        refine ⟨_, rfl, s1.trans s2, ?_⟩
        rw [lapp, lapp]
        omega
      · refine ⟨_, rfl, _, _, rfl, rfl, (by show (0 : Int) < _; decide), rfl, _, rfl, iteD (fun c => ?_) (fun c => ?_)⟩
        · have l1 := cutS_length (SX.S l0) none (some (cellOf ns 5 / 16 % ((l0.length : Int) + 1)))
          have l2 := cutS_length (SX.S l0) (some ((cellOf ns 5 / 16 % ((l0.length : Int) + 1)) + 1)) none
          refine ⟨_, rfl, _, rfl, _, rfl, SX.S l0, rfl, hz', _, rfl, _, rfl, _, _, rfl, rfl, _, rfl, SX.S l0, rfl, hz', ?_⟩
          refine ⟨_, _, rfl, rfl, Nat.le_of_lt (sizeL (by omega)), ?_⟩
          refine ⟨_, rfl, s1, ?_⟩
          rw [lapp]
          omega
        · exact ⟨SX.S l0, rfl, s1, by omega⟩
    rintro σ' H2 ⟨x1, rfl, s2, hx1⟩
    refine ⟨fun σ' H3 => ∃ x : List Nat, σ' = [some (.ref a), some (.str (SX.S x)), some (.int (cellOf ns 5)), some (.int (cellOf ns 5 / 16 % ((l0.length : Int) + 1))), none, none, none, none, none] ∧ Same H H3 ∧ x.length ≤ 300, ?_, ?_⟩
    · refine ⟨_, rfl, _, _, rfl, rfl, (by show (0 : Int) < _; decide), rfl, _, rfl, iteD (fun c => ?_) (fun c => ?_)⟩
      · refine ⟨_, rfl, _, _, rfl, rfl, ⟨by decide, by decide⟩, _, rfl, fun l H3 s3 hl3 => ?_⟩
        exact ⟨l, rfl, s2.trans s3, by omega⟩
      · exact ⟨_root_.TL.tl x1, by rw [SX.S_tl], s2, by rw [← _root_.TL.len_tl]; exact hx1⟩
    rintro σ' H3 ⟨l, rfl, s3, hll⟩
    cases hrow : rowO l with
    | none =>
      refine ⟨_, rfl, l, rfl, by omega, fun w ms H4 p hr4 => (by rw [hrow] at hr4; cases hr4), fun H4 _ s4 => ?_⟩
      refine ⟨fun σ' H5 => ∃ v5 v7, σ' = [some (.ref a), some (.str (SX.S l)), some (.int (cellOf ns 5)), some (.int (cellOf ns 5 / 16 % ((l0.length : Int) + 1))), some .non, v5, some (.str "refused"), v7, none], ?_, ?_⟩
      · refine ⟨_, rfl, l, rfl, by omega, fun w ms H5 p hr5 => (by rw [hrow] at hr5; cases hr5), fun H5 _ s5 => ?_⟩
        refine ⟨true, T.ex_BadRow.te, fun _ e he => ?_, fun z => nomatch z⟩
        refine ⟨_, rfl, _, rfl, rfl, 0, true, false, false, false, false, rfl, ⟨T.ec_BadRow, T.is_BadRow_BadRow, T.is_BadRow_BadBoxes, T.is_BadRow_BadShape, T.is_BadRow_NoBox, T.is_BadRow_BadPlan, T.is_BadRow_LineError, T.iv_BadRow⟩, rfl, rfl, fun H12 s12 => ?_⟩
        refine ⟨_, rfl, iteF ?_⟩
        exact ⟨_, _, rfl⟩
      rintro σ' H5 ⟨v5, v7, rfl⟩
      refine ⟨_, rfl, rfl, _, rfl, iteT ?_⟩
      exact ⟨_, rfl, rfl, by simpa using q H5⟩
    | some wn =>
      obtain ⟨w, ms⟩ := wn
      obtain ⟨m, hm, hml⟩ := rowO_word hrow
      have hok := parts_strOk hm
      have hm3 := partsM_small hm
      refine ⟨_, rfl, l, rfl, by omega, fun w' ms' H4 p hr4 s4 np hp => ?_, fun H4 hr4 _ => (by rw [hrow] at hr4; cases hr4)⟩
      rw [hrow] at hr4
      cases hr4
      refine ⟨fun σ' H5 => ∃ p2, σ' = [some (.ref a), some (.str (SX.S l)), some (.int (cellOf ns 5)), some (.int (cellOf ns 5 / 16 % ((l0.length : Int) + 1))), some (.ref p), some (.ref p2), some (.str ""), none, none] ∧ H5 p = some (.tup (.str (SX.S w) :: ms.map natV)) ∧ H5 p2 = some (.tup (.str (SX.S w) :: ms.map natV)), ?_, ?_⟩
      · refine ⟨_, rfl, l, rfl, by omega, fun w' ms' H5 p5 hr5 s5 np5 hp5 => ?_, fun H5 hr5 _ => (by rw [hrow] at hr5; cases hr5)⟩
        rw [hrow] at hr5
        cases hr5
        exact ⟨p5, rfl, s5 _ _ hp, hp5⟩
      rintro σ' H5 ⟨p2, rfl, hp5, hp2⟩
      refine ⟨_, rfl, rfl, _, rfl, iteF ?_⟩
      refine ⟨fun b H6 => b = false ∧ H6 = H5, ?_, ?_⟩
      · refine ⟨_, rfl, rfl, _, rfl, iteN (fun c => absurd rfl c) (fun _ => ?_)⟩
        refine ⟨_, rfl, _, _, _, _, _, rfl, .ty "tuple", .base (.tup hp2), kit_ty (r := true) (by decide +kernel), _, rfl, iteF ?_⟩
        refine ⟨_, rfl, p2, _, rfl, .inr (SqT.of hp2), _, rfl, p, _, rfl, .inr (SqT.of hp5), rfl, _, rfl, iteN (fun c => absurd rfl c) (fun _ => ?_)⟩
        exact ⟨_, rfl, p2, _, _, _, rfl, rfl, SqT.of hp2, at_of (j := 0) rfl rfl, _, _, _, _, _, rfl, .ty "str", .base (.str _), kit_ty (r := true) (by decide +kernel), _, rfl, rfl, rfl⟩
      rintro b H6 ⟨rfl, rfl⟩
      refine iteF ?_
      refine ⟨_, rfl, _, rfl, _, _, rowD_dp hp2, rowD_dp hp5, (rowD_sh hok).shaped (by decide), (rowD_sh hok).shaped (by decide), _, rfl, ?_⟩
      rw [eqv_self (rowD_sh hok)]
      refine iteT ?_
      refine ⟨_, rfl, _, rfl, p2, _, rfl, SqT.of hp2, ?_, fun g ng => ?_⟩
      · rintro ⟨h1, _⟩
        rw [show HT.sIx (V.str (SX.S w) :: ms.map natV).length 0 (some 1) = min 1 (V.str (SX.S w) :: ms.map natV).length from HT.sIx_nat _ 0 1] at h1
        rw [List.length_cons] at h1
        omega
      rw [cut_one]
      have hg : (upd H6 g (.tup (List.drop 1 (V.str (SX.S w) :: ms.map natV)))) g = some (.tup (ms.map natV)) := upd_same
      generalize upd H6 g (.tup (List.drop 1 (V.str (SX.S w) :: ms.map natV))) = H7 at *
      refine ⟨g, rfl, ⟨_, SqT.of hg⟩, fun D nD => lc_tup (xs := ms.map natV) (fun i H' => Same H7 H' ∧ H' D = some (.lst [])) ⟨Same.new nD, upd_same⟩ (fun i H' _ h => SqT.of (h.1 _ _ hg)) ?_ ?_⟩
      · rintro i x H' hx ⟨s8, hD⟩
        obtain ⟨n, hni, rfl⟩ := of_get_map hx
        refine ⟨rfl, _, rfl, natV n, "int", rfl, .base (.int _), by decide, _, rfl, iteF ?_⟩
        exact ⟨s8, hD⟩
      rintro H8 ⟨s8, hD⟩
      refine ⟨(by show 0 ≤ sizeLine; decide), fun l9 n9 => ?_⟩
      have s9 : Same H8 (upd H8 l9 (.lst [])) := Same.new n9
      refine ⟨_, _, .lst (SqL.of (s9 _ _ hD)) .nil, .lst (SqL.of upd_same) .nil, (by decide), (by decide), ?_⟩
      exact q _
def spEnd (K : PySem.W.Frag) : Sp := fun vs H Q _ => ∃ (a : Addr) (ns : List Int), vs = [.ref a] ∧ SqL K H a (ns.map V.int) ∧ ns.length ≤ 63 ∧ ∀ H', Q (.bl true) H'
theorem spEnd_law {K : PySem.W.Frag} (cs : Cs) {vs : List V} {H : Hp} {Q : VK} {E : XK} (h : spEnd K vs H Q E) : sp_law K cs vs H Q E := h
end
theorem all_mk {l : PySem.W.OpenLaw} {w : World} {K : PySem.W.Frag} {h : Heap} {mg : Str → Option Value} {fa : Addr} (X : K.In h) (G : h.Ns mainGlobals mg) (hfa : mg "law" = some (.ref fa))
    {f_number_of f_read_row f__law_cell_at f__law_whole f__law_mixed f__law_number_of f__law_due_of f__law_line_by f__law_sign_by f__law_odd_line f__law_alone f_law a_PARTS C_LineError C_BadRow C_BadBoxes C_BadShape C_NoBox C_BadPlan : Addr}
    {od_number_of an_number_of od_read_row an_read_row od__law_cell_at an__law_cell_at od__law_whole an__law_whole od__law_mixed an__law_mixed od__law_number_of an__law_number_of od__law_due_of an__law_due_of od__law_line_by an__law_line_by od__law_sign_by an__law_sign_by od__law_odd_line an__law_odd_line od__law_alone an__law_alone od_law an_law : Option Addr} {sl_number_of sl_read_row sl__law_cell_at sl__law_whole sl__law_mixed sl__law_number_of sl__law_due_of sl__law_line_by sl__law_sign_by sl__law_odd_line sl__law_alone sl_law : Array (Option Value)} {oc_number_of kV_number_of dc_number_of pm_number_of cd_number_of ct_number_of oc_read_row kV_read_row dc_read_row pm_read_row cd_read_row ct_read_row oc__law_cell_at kV__law_cell_at dc__law_cell_at pm__law_cell_at cd__law_cell_at ct__law_cell_at oc__law_whole kV__law_whole dc__law_whole pm__law_whole cd__law_whole ct__law_whole oc__law_mixed kV__law_mixed dc__law_mixed pm__law_mixed cd__law_mixed ct__law_mixed oc__law_number_of kV__law_number_of dc__law_number_of pm__law_number_of cd__law_number_of ct__law_number_of oc__law_due_of kV__law_due_of dc__law_due_of pm__law_due_of cd__law_due_of ct__law_due_of oc__law_line_by kV__law_line_by dc__law_line_by pm__law_line_by cd__law_line_by ct__law_line_by oc__law_sign_by kV__law_sign_by dc__law_sign_by pm__law_sign_by cd__law_sign_by ct__law_sign_by oc__law_odd_line kV__law_odd_line dc__law_odd_line pm__law_odd_line cd__law_odd_line ct__law_odd_line oc__law_alone kV__law_alone dc__law_alone pm__law_alone cd__law_alone ct__law_alone oc_law kV_law dc_law pm_law cd_law ct_law : Value}
    {es_PARTS : Array DictEntry} {en_PARTS : Nat}
    (a_number_of : PySem.W.nsIn K mainGlobals "number_of" = some (some (.ref f_number_of)))
    (l_number_of : K.lookup f_number_of = some ⟨oc_number_of, od_number_of, .func (PySem.W.fnOf "number_of" "number_of" (defArgs s_number_of) (defBody s_number_of) (defScope s_number_of) .none kV_number_of dc_number_of pm_number_of an_number_of cd_number_of ct_number_of), sl_number_of⟩)
    (c_number_of : PySem.W.codeIn K cd_number_of "number_of" = true)
    (k_number_of : PySem.W.keepIn K (.ref f_number_of) = true)
    (a_read_row : PySem.W.nsIn K mainGlobals "read_row" = some (some (.ref f_read_row)))
    (l_read_row : K.lookup f_read_row = some ⟨oc_read_row, od_read_row, .func (PySem.W.fnOf "read_row" "read_row" (defArgs s_read_row) (defBody s_read_row) (defScope s_read_row) .none kV_read_row dc_read_row pm_read_row an_read_row cd_read_row ct_read_row), sl_read_row⟩)
    (c_read_row : PySem.W.codeIn K cd_read_row "read_row" = true)
    (k_read_row : PySem.W.keepIn K (.ref f_read_row) = true)
    (a__law_cell_at : PySem.W.nsIn K mainGlobals "_law_cell_at" = some (some (.ref f__law_cell_at)))
    (l__law_cell_at : K.lookup f__law_cell_at = some ⟨oc__law_cell_at, od__law_cell_at, .func (PySem.W.fnOf "_law_cell_at" "_law_cell_at" (defArgs s__law_cell_at) (defBody s__law_cell_at) (defScope s__law_cell_at) .none kV__law_cell_at dc__law_cell_at pm__law_cell_at an__law_cell_at cd__law_cell_at ct__law_cell_at), sl__law_cell_at⟩)
    (c__law_cell_at : PySem.W.codeIn K cd__law_cell_at "_law_cell_at" = true)
    (k__law_cell_at : PySem.W.keepIn K (.ref f__law_cell_at) = true)
    (a__law_whole : PySem.W.nsIn K mainGlobals "_law_whole" = some (some (.ref f__law_whole)))
    (l__law_whole : K.lookup f__law_whole = some ⟨oc__law_whole, od__law_whole, .func (PySem.W.fnOf "_law_whole" "_law_whole" (defArgs s__law_whole) (defBody s__law_whole) (defScope s__law_whole) .none kV__law_whole dc__law_whole pm__law_whole an__law_whole cd__law_whole ct__law_whole), sl__law_whole⟩)
    (c__law_whole : PySem.W.codeIn K cd__law_whole "_law_whole" = true)
    (k__law_whole : PySem.W.keepIn K (.ref f__law_whole) = true)
    (a__law_mixed : PySem.W.nsIn K mainGlobals "_law_mixed" = some (some (.ref f__law_mixed)))
    (l__law_mixed : K.lookup f__law_mixed = some ⟨oc__law_mixed, od__law_mixed, .func (PySem.W.fnOf "_law_mixed" "_law_mixed" (defArgs s__law_mixed) (defBody s__law_mixed) (defScope s__law_mixed) .none kV__law_mixed dc__law_mixed pm__law_mixed an__law_mixed cd__law_mixed ct__law_mixed), sl__law_mixed⟩)
    (c__law_mixed : PySem.W.codeIn K cd__law_mixed "_law_mixed" = true)
    (k__law_mixed : PySem.W.keepIn K (.ref f__law_mixed) = true)
    (a__law_number_of : PySem.W.nsIn K mainGlobals "_law_number_of" = some (some (.ref f__law_number_of)))
    (l__law_number_of : K.lookup f__law_number_of = some ⟨oc__law_number_of, od__law_number_of, .func (PySem.W.fnOf "_law_number_of" "_law_number_of" (defArgs s__law_number_of) (defBody s__law_number_of) (defScope s__law_number_of) .none kV__law_number_of dc__law_number_of pm__law_number_of an__law_number_of cd__law_number_of ct__law_number_of), sl__law_number_of⟩)
    (c__law_number_of : PySem.W.codeIn K cd__law_number_of "_law_number_of" = true)
    (k__law_number_of : PySem.W.keepIn K (.ref f__law_number_of) = true)
    (a__law_due_of : PySem.W.nsIn K mainGlobals "_law_due_of" = some (some (.ref f__law_due_of)))
    (l__law_due_of : K.lookup f__law_due_of = some ⟨oc__law_due_of, od__law_due_of, .func (PySem.W.fnOf "_law_due_of" "_law_due_of" (defArgs s__law_due_of) (defBody s__law_due_of) (defScope s__law_due_of) .none kV__law_due_of dc__law_due_of pm__law_due_of an__law_due_of cd__law_due_of ct__law_due_of), sl__law_due_of⟩)
    (c__law_due_of : PySem.W.codeIn K cd__law_due_of "_law_due_of" = true)
    (k__law_due_of : PySem.W.keepIn K (.ref f__law_due_of) = true)
    (a__law_line_by : PySem.W.nsIn K mainGlobals "_law_line_by" = some (some (.ref f__law_line_by)))
    (l__law_line_by : K.lookup f__law_line_by = some ⟨oc__law_line_by, od__law_line_by, .func (PySem.W.fnOf "_law_line_by" "_law_line_by" (defArgs s__law_line_by) (defBody s__law_line_by) (defScope s__law_line_by) .none kV__law_line_by dc__law_line_by pm__law_line_by an__law_line_by cd__law_line_by ct__law_line_by), sl__law_line_by⟩)
    (c__law_line_by : PySem.W.codeIn K cd__law_line_by "_law_line_by" = true)
    (k__law_line_by : PySem.W.keepIn K (.ref f__law_line_by) = true)
    (a__law_sign_by : PySem.W.nsIn K mainGlobals "_law_sign_by" = some (some (.ref f__law_sign_by)))
    (l__law_sign_by : K.lookup f__law_sign_by = some ⟨oc__law_sign_by, od__law_sign_by, .func (PySem.W.fnOf "_law_sign_by" "_law_sign_by" (defArgs s__law_sign_by) (defBody s__law_sign_by) (defScope s__law_sign_by) .none kV__law_sign_by dc__law_sign_by pm__law_sign_by an__law_sign_by cd__law_sign_by ct__law_sign_by), sl__law_sign_by⟩)
    (c__law_sign_by : PySem.W.codeIn K cd__law_sign_by "_law_sign_by" = true)
    (k__law_sign_by : PySem.W.keepIn K (.ref f__law_sign_by) = true)
    (a__law_odd_line : PySem.W.nsIn K mainGlobals "_law_odd_line" = some (some (.ref f__law_odd_line)))
    (l__law_odd_line : K.lookup f__law_odd_line = some ⟨oc__law_odd_line, od__law_odd_line, .func (PySem.W.fnOf "_law_odd_line" "_law_odd_line" (defArgs s__law_odd_line) (defBody s__law_odd_line) (defScope s__law_odd_line) .none kV__law_odd_line dc__law_odd_line pm__law_odd_line an__law_odd_line cd__law_odd_line ct__law_odd_line), sl__law_odd_line⟩)
    (c__law_odd_line : PySem.W.codeIn K cd__law_odd_line "_law_odd_line" = true)
    (k__law_odd_line : PySem.W.keepIn K (.ref f__law_odd_line) = true)
    (a__law_alone : PySem.W.nsIn K mainGlobals "_law_alone" = some (some (.ref f__law_alone)))
    (l__law_alone : K.lookup f__law_alone = some ⟨oc__law_alone, od__law_alone, .func (PySem.W.fnOf "_law_alone" "_law_alone" (defArgs s__law_alone) (defBody s__law_alone) (defScope s__law_alone) .none kV__law_alone dc__law_alone pm__law_alone an__law_alone cd__law_alone ct__law_alone), sl__law_alone⟩)
    (c__law_alone : PySem.W.codeIn K cd__law_alone "_law_alone" = true)
    (k__law_alone : PySem.W.keepIn K (.ref f__law_alone) = true)
    (a_law : PySem.W.nsIn K mainGlobals "law" = some (some (.ref f_law)))
    (l_law : K.lookup f_law = some ⟨oc_law, od_law, .func (PySem.W.fnOf "law" "law" (defArgs s_law) (defBody s_law) (defScope s_law) .none kV_law dc_law pm_law an_law cd_law ct_law), sl_law⟩)
    (c_law : PySem.W.codeIn K cd_law "law" = true)
    (k_law : PySem.W.keepIn K (.ref f_law) = true)
    (z_len : PySem.W.nsIn K mainGlobals "len" = some none)
    (z_int : PySem.W.nsIn K mainGlobals "int" = some none)
    (z_tuple : PySem.W.nsIn K mainGlobals "tuple" = some none)
    (z_isinstance : PySem.W.nsIn K mainGlobals "isinstance" = some none)
    (z_bool : PySem.W.nsIn K mainGlobals "bool" = some none)
    (z_range : PySem.W.nsIn K mainGlobals "range" = some none)
    (z_str : PySem.W.nsIn K mainGlobals "str" = some none)
    (z_ValueError : PySem.W.nsIn K mainGlobals "ValueError" = some none)
    (v_PARTS : PySem.W.nsIn K mainGlobals "PARTS" = some (some (.ref a_PARTS)))
    (vl_PARTS : K.lookup a_PARTS = some ⟨.type "dict", none, .dict es_PARTS en_PARTS, #[]⟩)
    (vk_PARTS : PySem.W.KeysLit w.params es_PARTS.toList)
    (vs_PARTS : (a_PARTS == sysModules) = false)
    (vf_PARTS : ∀ z, ∃ o, findBy Value.isStrOf es_PARTS z = o ∧ RelO ((partsM z).map V.str) o)
    (v_FIGURES : ∃ t, PySem.W.nsIn K mainGlobals "FIGURES" = some (some (.str "0123456789" t)))
    (v_MOST_FIGURES : ∃ t, PySem.W.nsIn K mainGlobals "MOST_FIGURES" = some (some (.int 6 t)))
    (g_LineError : PySem.W.nsIn K mainGlobals "LineError" = some (some (.ref C_LineError)))
    (xx_LineError : PySem.W.excIn K C_LineError [.type "ValueError", .type "Exception", .type "BaseException", .type "object"] "ValueError.__new__" = true)
    (xk_LineError : PySem.W.keepIn K (.ref C_LineError) = true)
    (xb_LineError : PySem.W.subIn K (.ref C_LineError) (.type "BaseException") = some true)
    (xt_LineError : PySem.W.typeIn K (.ref C_LineError) = some (.type "type"))
    (xi_LineError : PySem.W.isClsIn K C_LineError = true)
    (xs_LineError : PySem.W.subIn K (.ref C_LineError) (.ref C_LineError) = some true)
    (g_BadRow : PySem.W.nsIn K mainGlobals "BadRow" = some (some (.ref C_BadRow)))
    (xx_BadRow : PySem.W.excIn K C_BadRow [.type "ValueError", .type "Exception", .type "BaseException", .type "object"] "ValueError.__new__" = true)
    (xk_BadRow : PySem.W.keepIn K (.ref C_BadRow) = true)
    (xb_BadRow : PySem.W.subIn K (.ref C_BadRow) (.type "BaseException") = some true)
    (xt_BadRow : PySem.W.typeIn K (.ref C_BadRow) = some (.type "type"))
    (xi_BadRow : PySem.W.isClsIn K C_BadRow = true)
    (xs_BadRow : PySem.W.subIn K (.ref C_BadRow) (.ref C_BadRow) = some true)
    (g_BadBoxes : PySem.W.nsIn K mainGlobals "BadBoxes" = some (some (.ref C_BadBoxes)))
    (xx_BadBoxes : PySem.W.excIn K C_BadBoxes [.type "ValueError", .type "Exception", .type "BaseException", .type "object"] "ValueError.__new__" = true)
    (xk_BadBoxes : PySem.W.keepIn K (.ref C_BadBoxes) = true)
    (xb_BadBoxes : PySem.W.subIn K (.ref C_BadBoxes) (.type "BaseException") = some true)
    (xt_BadBoxes : PySem.W.typeIn K (.ref C_BadBoxes) = some (.type "type"))
    (xi_BadBoxes : PySem.W.isClsIn K C_BadBoxes = true)
    (xs_BadBoxes : PySem.W.subIn K (.ref C_BadBoxes) (.ref C_BadBoxes) = some true)
    (g_BadShape : PySem.W.nsIn K mainGlobals "BadShape" = some (some (.ref C_BadShape)))
    (xx_BadShape : PySem.W.excIn K C_BadShape [.type "ValueError", .type "Exception", .type "BaseException", .type "object"] "ValueError.__new__" = true)
    (xk_BadShape : PySem.W.keepIn K (.ref C_BadShape) = true)
    (xb_BadShape : PySem.W.subIn K (.ref C_BadShape) (.type "BaseException") = some true)
    (xt_BadShape : PySem.W.typeIn K (.ref C_BadShape) = some (.type "type"))
    (xi_BadShape : PySem.W.isClsIn K C_BadShape = true)
    (xs_BadShape : PySem.W.subIn K (.ref C_BadShape) (.ref C_BadShape) = some true)
    (g_NoBox : PySem.W.nsIn K mainGlobals "NoBox" = some (some (.ref C_NoBox)))
    (xx_NoBox : PySem.W.excIn K C_NoBox [.type "ValueError", .type "Exception", .type "BaseException", .type "object"] "ValueError.__new__" = true)
    (xk_NoBox : PySem.W.keepIn K (.ref C_NoBox) = true)
    (xb_NoBox : PySem.W.subIn K (.ref C_NoBox) (.type "BaseException") = some true)
    (xt_NoBox : PySem.W.typeIn K (.ref C_NoBox) = some (.type "type"))
    (xi_NoBox : PySem.W.isClsIn K C_NoBox = true)
    (xs_NoBox : PySem.W.subIn K (.ref C_NoBox) (.ref C_NoBox) = some true)
    (g_BadPlan : PySem.W.nsIn K mainGlobals "BadPlan" = some (some (.ref C_BadPlan)))
    (xx_BadPlan : PySem.W.excIn K C_BadPlan [.type "ValueError", .type "Exception", .type "BaseException", .type "object"] "ValueError.__new__" = true)
    (xk_BadPlan : PySem.W.keepIn K (.ref C_BadPlan) = true)
    (xb_BadPlan : PySem.W.subIn K (.ref C_BadPlan) (.type "BaseException") = some true)
    (xt_BadPlan : PySem.W.typeIn K (.ref C_BadPlan) = some (.type "type"))
    (xi_BadPlan : PySem.W.isClsIn K C_BadPlan = true)
    (xs_BadPlan : PySem.W.subIn K (.ref C_BadPlan) (.ref C_BadPlan) = some true)
    (ehg_BadRow : PySem.W.findIn K (.ref C_BadRow) "__getattribute__" = some (some (.builtin "BaseException.__getattribute__")))
    (ehk_BadRow : PySem.W.findIn K (.ref C_BadRow) "__getattr__" = some none)
    (ehd_BadRow : PySem.W.hasDictIn K C_BadRow = true)
    (eha_BadRow : PySem.W.findIn K (.ref C_BadRow) "__class__" = some (some (.builtin "object.__class__")))
    (ehm_BadRow : PySem.W.mroIn K C_BadRow (.type "object") = some true)
    (e_hn : PySem.W.specialIn K (.builtin "object.__class__") "__get__" = some (some (.builtin "getset_descriptor.__get__")))
    (e_ht : PySem.W.takesIn K (.builtin "object.__class__") = some true)
    (u_BadRow_LineError : PySem.W.subIn K (.ref C_BadRow) (.ref C_LineError) = some true)
    (u_BadRow_BadRow : PySem.W.subIn K (.ref C_BadRow) (.ref C_BadRow) = some true)
    (u_BadRow_BadBoxes : PySem.W.subIn K (.ref C_BadRow) (.ref C_BadBoxes) = some false)
    (u_BadRow_BadShape : PySem.W.subIn K (.ref C_BadRow) (.ref C_BadShape) = some false)
    (u_BadRow_NoBox : PySem.W.subIn K (.ref C_BadRow) (.ref C_NoBox) = some false)
    (u_BadRow_BadPlan : PySem.W.subIn K (.ref C_BadRow) (.ref C_BadPlan) = some false)
    (uv_BadRow : PySem.W.subIn K (.ref C_BadRow) (.type "ValueError") = some true)
    : ∃ (cs : Cs) (fd : FuncData), (∀ (s : Shared) (v : Value), BindsTo s fd ⟨[v], []⟩ [("_law_script", v)]) ∧ ∀ base : Heap, K.In base → base.Ns mainGlobals mg → FnOk l.prog w K mg base CX0 3 fa fd ["_law_script"] (sp_law K cs) := by
  have e : f_law = fa := Value.ref.inj (Option.some.inj ((PySem.W.mg_of X G a_law).symm.trans hfa))
  obtain ⟨cs, hcs⟩ : ∃ cs : Cs, cs = { f_number_of := f_number_of, d_number_of := (PySem.W.fnOf "number_of" "number_of" (defArgs s_number_of) (defBody s_number_of) (defScope s_number_of) .none kV_number_of dc_number_of pm_number_of an_number_of cd_number_of ct_number_of), f_read_row := f_read_row, d_read_row := (PySem.W.fnOf "read_row" "read_row" (defArgs s_read_row) (defBody s_read_row) (defScope s_read_row) .none kV_read_row dc_read_row pm_read_row an_read_row cd_read_row ct_read_row), f__law_cell_at := f__law_cell_at, d__law_cell_at := (PySem.W.fnOf "_law_cell_at" "_law_cell_at" (defArgs s__law_cell_at) (defBody s__law_cell_at) (defScope s__law_cell_at) .none kV__law_cell_at dc__law_cell_at pm__law_cell_at an__law_cell_at cd__law_cell_at ct__law_cell_at), f__law_whole := f__law_whole, d__law_whole := (PySem.W.fnOf "_law_whole" "_law_whole" (defArgs s__law_whole) (defBody s__law_whole) (defScope s__law_whole) .none kV__law_whole dc__law_whole pm__law_whole an__law_whole cd__law_whole ct__law_whole), f__law_mixed := f__law_mixed, d__law_mixed := (PySem.W.fnOf "_law_mixed" "_law_mixed" (defArgs s__law_mixed) (defBody s__law_mixed) (defScope s__law_mixed) .none kV__law_mixed dc__law_mixed pm__law_mixed an__law_mixed cd__law_mixed ct__law_mixed), f__law_number_of := f__law_number_of, d__law_number_of := (PySem.W.fnOf "_law_number_of" "_law_number_of" (defArgs s__law_number_of) (defBody s__law_number_of) (defScope s__law_number_of) .none kV__law_number_of dc__law_number_of pm__law_number_of an__law_number_of cd__law_number_of ct__law_number_of), f__law_due_of := f__law_due_of, d__law_due_of := (PySem.W.fnOf "_law_due_of" "_law_due_of" (defArgs s__law_due_of) (defBody s__law_due_of) (defScope s__law_due_of) .none kV__law_due_of dc__law_due_of pm__law_due_of an__law_due_of cd__law_due_of ct__law_due_of), f__law_line_by := f__law_line_by, d__law_line_by := (PySem.W.fnOf "_law_line_by" "_law_line_by" (defArgs s__law_line_by) (defBody s__law_line_by) (defScope s__law_line_by) .none kV__law_line_by dc__law_line_by pm__law_line_by an__law_line_by cd__law_line_by ct__law_line_by), f__law_sign_by := f__law_sign_by, d__law_sign_by := (PySem.W.fnOf "_law_sign_by" "_law_sign_by" (defArgs s__law_sign_by) (defBody s__law_sign_by) (defScope s__law_sign_by) .none kV__law_sign_by dc__law_sign_by pm__law_sign_by an__law_sign_by cd__law_sign_by ct__law_sign_by), f__law_odd_line := f__law_odd_line, d__law_odd_line := (PySem.W.fnOf "_law_odd_line" "_law_odd_line" (defArgs s__law_odd_line) (defBody s__law_odd_line) (defScope s__law_odd_line) .none kV__law_odd_line dc__law_odd_line pm__law_odd_line an__law_odd_line cd__law_odd_line ct__law_odd_line), f__law_alone := f__law_alone, d__law_alone := (PySem.W.fnOf "_law_alone" "_law_alone" (defArgs s__law_alone) (defBody s__law_alone) (defScope s__law_alone) .none kV__law_alone dc__law_alone pm__law_alone an__law_alone cd__law_alone ct__law_alone), f_law := f_law, d_law := (PySem.W.fnOf "law" "law" (defArgs s_law) (defBody s_law) (defScope s_law) .none kV_law dc_law pm_law an_law cd_law ct_law), a_PARTS := a_PARTS, C_LineError := C_LineError, C_BadRow := C_BadRow, C_BadBoxes := C_BadBoxes, C_BadShape := C_BadShape, C_NoBox := C_NoBox, C_BadPlan := C_BadPlan } := ⟨_, rfl⟩
  have T : Txt w K mg cs := by
    rw [hcs]
    exact { fn_number_of := ⟨fun_mk (st := s_number_of) l_number_of c_number_of k_number_of, (fun_mk (st := s_number_of) l_number_of c_number_of k_number_of).binds (ps := ["word"]) fun _ _ _ _ _ _ us hl => match us, hl with | [_], _ => rfl⟩, gl_number_of := PySem.W.mg_of X G a_number_of, fn_read_row := ⟨fun_mk (st := s_read_row) l_read_row c_read_row k_read_row, (fun_mk (st := s_read_row) l_read_row c_read_row k_read_row).binds (ps := ["line"]) fun _ _ _ _ _ _ us hl => match us, hl with | [_], _ => rfl⟩, gl_read_row := PySem.W.mg_of X G a_read_row, fn__law_cell_at := ⟨fun_mk (st := s__law_cell_at) l__law_cell_at c__law_cell_at k__law_cell_at, (fun_mk (st := s__law_cell_at) l__law_cell_at c__law_cell_at k__law_cell_at).binds (ps := ["_law_script", "_law_k"]) fun _ _ _ _ _ _ us hl => match us, hl with | [_, _], _ => rfl⟩, gl__law_cell_at := PySem.W.mg_of X G a__law_cell_at, fn__law_whole := ⟨fun_mk (st := s__law_whole) l__law_whole c__law_whole k__law_whole, (fun_mk (st := s__law_whole) l__law_whole c__law_whole k__law_whole).binds (ps := ["_law_found"]) fun _ _ _ _ _ _ us hl => match us, hl with | [_], _ => rfl⟩, gl__law_whole := PySem.W.mg_of X G a__law_whole, fn__law_mixed := ⟨fun_mk (st := s__law_mixed) l__law_mixed c__law_mixed k__law_mixed, (fun_mk (st := s__law_mixed) l__law_mixed c__law_mixed k__law_mixed).binds (ps := ["_law_cell"]) fun _ _ _ _ _ _ us hl => match us, hl with | [_], _ => rfl⟩, gl__law_mixed := PySem.W.mg_of X G a__law_mixed, fn__law_number_of := ⟨fun_mk (st := s__law_number_of) l__law_number_of c__law_number_of k__law_number_of, (fun_mk (st := s__law_number_of) l__law_number_of c__law_number_of k__law_number_of).binds (ps := ["_law_word"]) fun _ _ _ _ _ _ us hl => match us, hl with | [_], _ => rfl⟩, gl__law_number_of := PySem.W.mg_of X G a__law_number_of, fn__law_due_of := ⟨fun_mk (st := s__law_due_of) l__law_due_of c__law_due_of k__law_due_of, (fun_mk (st := s__law_due_of) l__law_due_of c__law_due_of k__law_due_of).binds (ps := ["_law_line"]) fun _ _ _ _ _ _ us hl => match us, hl with | [_], _ => rfl⟩, gl__law_due_of := PySem.W.mg_of X G a__law_due_of, fn__law_line_by := ⟨fun_mk (st := s__law_line_by) l__law_line_by c__law_line_by k__law_line_by, (fun_mk (st := s__law_line_by) l__law_line_by c__law_line_by k__law_line_by).binds (ps := ["_law_script"]) fun _ _ _ _ _ _ us hl => match us, hl with | [_], _ => rfl⟩, gl__law_line_by := PySem.W.mg_of X G a__law_line_by, fn__law_sign_by := ⟨fun_mk (st := s__law_sign_by) l__law_sign_by c__law_sign_by k__law_sign_by, (fun_mk (st := s__law_sign_by) l__law_sign_by c__law_sign_by k__law_sign_by).binds (ps := ["_law_cell"]) fun _ _ _ _ _ _ us hl => match us, hl with | [_], _ => rfl⟩, gl__law_sign_by := PySem.W.mg_of X G a__law_sign_by, fn__law_odd_line := ⟨fun_mk (st := s__law_odd_line) l__law_odd_line c__law_odd_line k__law_odd_line, (fun_mk (st := s__law_odd_line) l__law_odd_line c__law_odd_line k__law_odd_line).binds (ps := ["_law_cell"]) fun _ _ _ _ _ _ us hl => match us, hl with | [_], _ => rfl⟩, gl__law_odd_line := PySem.W.mg_of X G a__law_odd_line, fn__law_alone := ⟨fun_mk (st := s__law_alone) l__law_alone c__law_alone k__law_alone, (fun_mk (st := s__law_alone) l__law_alone c__law_alone k__law_alone).binds (ps := ["_law_e", "_law_own"]) fun _ _ _ _ _ _ us hl => match us, hl with | [_, _], _ => rfl⟩, gl__law_alone := PySem.W.mg_of X G a__law_alone, fn_law := ⟨fun_mk (st := s_law) l_law c_law k_law, (fun_mk (st := s_law) l_law c_law k_law).binds (ps := ["_law_script"]) fun _ _ _ _ _ _ us hl => match us, hl with | [_], _ => rfl⟩, gl_law := PySem.W.mg_of X G a_law, no_len := PySem.W.mg_none_of X G z_len, no_int := PySem.W.mg_none_of X G z_int, no_tuple := PySem.W.mg_none_of X G z_tuple, no_isinstance := PySem.W.mg_none_of X G z_isinstance, no_bool := PySem.W.mg_none_of X G z_bool, no_range := PySem.W.mg_none_of X G z_range, no_str := PySem.W.mg_none_of X G z_str, no_ValueError := PySem.W.mg_none_of X G z_ValueError, gl_PARTS := PySem.W.mg_of X G v_PARTS, km_PARTS := ⟨es_PARTS, en_PARTS, vl_PARTS, vk_PARTS, vs_PARTS, vf_PARTS⟩, gl_FIGURES := (by obtain ⟨t, e⟩ := v_FIGURES; exact ⟨t, PySem.W.mg_of X G e⟩), gl_MOST_FIGURES := (by obtain ⟨t, e⟩ := v_MOST_FIGURES; exact ⟨t, PySem.W.mg_of X G e⟩), ex_LineError := ⟨PySem.W.mg_of X G g_LineError, xx_LineError, xk_LineError, xb_LineError, xt_LineError, xi_LineError, xs_LineError⟩, ex_BadRow := ⟨PySem.W.mg_of X G g_BadRow, xx_BadRow, xk_BadRow, xb_BadRow, xt_BadRow, xi_BadRow, xs_BadRow⟩, ex_BadBoxes := ⟨PySem.W.mg_of X G g_BadBoxes, xx_BadBoxes, xk_BadBoxes, xb_BadBoxes, xt_BadBoxes, xi_BadBoxes, xs_BadBoxes⟩, ex_BadShape := ⟨PySem.W.mg_of X G g_BadShape, xx_BadShape, xk_BadShape, xb_BadShape, xt_BadShape, xi_BadShape, xs_BadShape⟩, ex_NoBox := ⟨PySem.W.mg_of X G g_NoBox, xx_NoBox, xk_NoBox, xb_NoBox, xt_NoBox, xi_NoBox, xs_NoBox⟩, ex_BadPlan := ⟨PySem.W.mg_of X G g_BadPlan, xx_BadPlan, xk_BadPlan, xb_BadPlan, xt_BadPlan, xi_BadPlan, xs_BadPlan⟩, ec_BadRow := ⟨ehg_BadRow, ehk_BadRow, xb_BadRow, ehd_BadRow, eha_BadRow, e_hn, e_ht, ehm_BadRow⟩, is_BadRow_LineError := kit_own xi_LineError xt_LineError xs_LineError u_BadRow_LineError, is_BadRow_BadRow := kit_own xi_BadRow xt_BadRow xs_BadRow u_BadRow_BadRow, is_BadRow_BadBoxes := kit_own xi_BadBoxes xt_BadBoxes xs_BadBoxes u_BadRow_BadBoxes, is_BadRow_BadShape := kit_own xi_BadShape xt_BadShape xs_BadShape u_BadRow_BadShape, is_BadRow_NoBox := kit_own xi_NoBox xt_NoBox xs_NoBox u_BadRow_NoBox, is_BadRow_BadPlan := kit_own xi_BadPlan xt_BadPlan xs_BadPlan u_BadRow_BadPlan, iv_BadRow := kit_val uv_BadRow }
  refine ⟨cs, cs.d_law, ?_, fun base KB GB => ?_⟩
  · rw [hcs]
    exact fun s v => .of_eq rfl
  have o__law_cell_at := ok__law_cell_at (P := l.prog) (w := w) (base := base) T 
  have o__law_mixed := ok__law_mixed (P := l.prog) (w := w) (base := base) T 
  have o__law_line_by := ok__law_line_by (P := l.prog) (w := w) (base := base) T o__law_cell_at o__law_mixed
  have o__law_number_of := ok__law_number_of (P := l.prog) (w := w) (base := base) T 
  have o__law_due_of := ok__law_due_of (P := l.prog) (w := w) (base := base) T o__law_number_of
  have o__law_odd_line := ok__law_odd_line (P := l.prog) (w := w) (base := base) T 
  have o_number_of := ok_number_of (P := l.prog) (w := w) (base := base) T 
  have o_read_row := ok_read_row (P := l.prog) (w := w) (base := base) T o_number_of
  have o__law_sign_by := ok__law_sign_by (P := l.prog) (w := w) (base := base) T 
  have o__law_alone := ok__law_alone (P := l.prog) (w := w) (base := base) T 
  have o__law_whole := ok__law_whole (P := l.prog) (w := w) (base := base) T 
  have o_law := ok_law (P := l.prog) (w := w) (base := base) T o__law_line_by o__law_cell_at o__law_due_of o__law_odd_line o_read_row o__law_sign_by o__law_alone o__law_whole
  have ef : cs.f_law = fa := by
    rw [hcs]
    exact e
  rw [← ef]
  exact o_law.ok
theorem walk {l : PySem.W.OpenLaw} {q : Program} {loose : List Str} {XP : (Str → Option Value) → Heap → Prop} {YP : World → Heap → Prop} {d : DefRec} {K : Params → PySem.W.Frag} (hn : l.most = some 63) (hdf : d.params.defaults = [])
    (hY : ∀ (w : World) (h : Heap), YP w h → (K w.params).In h)
    (F : ∀ (w : World) (mg : Str → Option Value) (fa : Addr) (h : Heap), (K w.params).In h → h.Ns mainGlobals mg → mg d.name = some (.ref fa) →
      ∃ (cs : Cs) (fd : FuncData), (∀ (s : Shared) (u : Value), BindsTo s fd ⟨[u], []⟩ [("_law_script", u)]) ∧ ∀ base : Heap, (K w.params).In base → base.Ns mainGlobals mg → FnOk l.prog w (K w.params) mg base CX0 3 fa fd ["_law_script"] (sp_law (K w.params) cs)) :
    PySem.W.WalkO q loose XP YP l.row.toRowW d [] (fun f vs => PySem.call f vs) :=
  L2.walk_of (n := 63) (k := 3) (x := "_law_script") (CX := fun _ => CX0) (sp := fun w => spEnd (K w.params)) hn (by decide) hdf ⟨rfl, by decide, by decide⟩ hY (fun w mg fa h KX G hm => by
    obtain ⟨cs, fd, B, O⟩ := F w mg fa h KX G hm
    exact ⟨fd, B, fun base KB GB => (O base KB GB).imp fun vs H Q E z => spEnd_law cs z⟩) (fun _ _ a ns hl _ hS => ⟨a, ns, rfl, hS, hl, fun _ => rfl⟩) fun _ _ _ _ _ z => z
end NL
open PySem PySem.W PyProof.Rows
set_option maxRecDepth 100000 in
set_option maxHeartbeats 0 in
theorem PySem.Challenge.cw_nearlines_k02_lines_read_holds : PySem.Challenge.rw_nearlines_k02_lines_read.Holds := by
  w_on; o_law; k_head; (case hw => w_witness2)
  k_fill
  refine NL.walk (l := PySem.Challenge.rw_nearlines_k02_lines_read) rfl rfl (fun w h Y => PySem.W.kIn_of Y) ?F
  case F =>
    intro w mg fa h KX G hmg
    refine' NL.all_mk KX G hmg ?a_number_of ?l_number_of ?c_number_of ?k_number_of ?a_read_row ?l_read_row ?c_read_row ?k_read_row ?a__law_cell_at ?l__law_cell_at ?c__law_cell_at ?k__law_cell_at ?a__law_whole ?l__law_whole ?c__law_whole ?k__law_whole ?a__law_mixed ?l__law_mixed ?c__law_mixed ?k__law_mixed ?a__law_number_of ?l__law_number_of ?c__law_number_of ?k__law_number_of ?a__law_due_of ?l__law_due_of ?c__law_due_of ?k__law_due_of ?a__law_line_by ?l__law_line_by ?c__law_line_by ?k__law_line_by ?a__law_sign_by ?l__law_sign_by ?c__law_sign_by ?k__law_sign_by ?a__law_odd_line ?l__law_odd_line ?c__law_odd_line ?k__law_odd_line ?a__law_alone ?l__law_alone ?c__law_alone ?k__law_alone ?a_law ?l_law ?c_law ?k_law ?z_len ?z_int ?z_tuple ?z_isinstance ?z_bool ?z_range ?z_str ?z_ValueError ?v_PARTS ?vl_PARTS ?vk_PARTS ?vs_PARTS ?vf_PARTS ?v_FIGURES ?v_MOST_FIGURES ?g_LineError ?xx_LineError ?xk_LineError ?xb_LineError ?xt_LineError ?xi_LineError ?xs_LineError ?g_BadRow ?xx_BadRow ?xk_BadRow ?xb_BadRow ?xt_BadRow ?xi_BadRow ?xs_BadRow ?g_BadBoxes ?xx_BadBoxes ?xk_BadBoxes ?xb_BadBoxes ?xt_BadBoxes ?xi_BadBoxes ?xs_BadBoxes ?g_BadShape ?xx_BadShape ?xk_BadShape ?xb_BadShape ?xt_BadShape ?xi_BadShape ?xs_BadShape ?g_NoBox ?xx_NoBox ?xk_NoBox ?xb_NoBox ?xt_NoBox ?xi_NoBox ?xs_NoBox ?g_BadPlan ?xx_BadPlan ?xk_BadPlan ?xb_BadPlan ?xt_BadPlan ?xi_BadPlan ?xs_BadPlan ?ehg_BadRow ?ehk_BadRow ?ehd_BadRow ?eha_BadRow ?ehm_BadRow ?e_hn ?e_ht ?u_BadRow_LineError ?u_BadRow_BadRow ?u_BadRow_BadBoxes ?u_BadRow_BadShape ?u_BadRow_NoBox ?u_BadRow_BadPlan ?uv_BadRow
    (case a_number_of => k_is)
    (case l_number_of => k_is)
    (case c_number_of => k_is)
    (case k_number_of => k_is)
    (case a_read_row => k_is)
    (case l_read_row => k_is)
    (case c_read_row => k_is)
    (case k_read_row => k_is)
    (case a__law_cell_at => k_is)
    (case l__law_cell_at => k_is)
    (case c__law_cell_at => k_is)
    (case k__law_cell_at => k_is)
    (case a__law_whole => k_is)
    (case l__law_whole => k_is)
    (case c__law_whole => k_is)
    (case k__law_whole => k_is)
    (case a__law_mixed => k_is)
    (case l__law_mixed => k_is)
    (case c__law_mixed => k_is)
    (case k__law_mixed => k_is)
    (case a__law_number_of => k_is)
    (case l__law_number_of => k_is)
    (case c__law_number_of => k_is)
    (case k__law_number_of => k_is)
    (case a__law_due_of => k_is)
    (case l__law_due_of => k_is)
    (case c__law_due_of => k_is)
    (case k__law_due_of => k_is)
    (case a__law_line_by => k_is)
    (case l__law_line_by => k_is)
    (case c__law_line_by => k_is)
    (case k__law_line_by => k_is)
    (case a__law_sign_by => k_is)
    (case l__law_sign_by => k_is)
    (case c__law_sign_by => k_is)
    (case k__law_sign_by => k_is)
    (case a__law_odd_line => k_is)
    (case l__law_odd_line => k_is)
    (case c__law_odd_line => k_is)
    (case k__law_odd_line => k_is)
    (case a__law_alone => k_is)
    (case l__law_alone => k_is)
    (case c__law_alone => k_is)
    (case k__law_alone => k_is)
    (case a_law => k_is)
    (case l_law => k_is)
    (case c_law => k_is)
    (case k_law => k_is)
    (case z_len => k_is)
    (case z_int => k_is)
    (case z_tuple => k_is)
    (case z_isinstance => k_is)
    (case z_bool => k_is)
    (case z_range => k_is)
    (case z_str => k_is)
    (case z_ValueError => k_is)
    (case v_PARTS => k_is)
    (case vl_PARTS => k_is)
    (case vk_PARTS => exact ⟨⟨_, _, rfl, rfl⟩, ⟨_, _, rfl, rfl⟩, ⟨_, _, rfl, rfl⟩, ⟨_, _, rfl, rfl⟩, ⟨_, _, rfl, rfl⟩, ⟨_, _, rfl, rfl⟩, ⟨_, _, rfl, rfl⟩, ⟨_, _, rfl, rfl⟩, ⟨_, _, rfl, rfl⟩, trivial⟩)
    (case vs_PARTS => rfl)
    (case vf_PARTS => exact fun z => NL.parts_find z)
    (case v_FIGURES => exact ⟨_, by k_is⟩)
    (case v_MOST_FIGURES => exact ⟨_, by k_is⟩)
    (case g_LineError => k_is)
    (case xx_LineError => k_exc)
    (case xk_LineError => k_is)
    (case xb_LineError => k_is)
    (case xt_LineError => k_is)
    (case xi_LineError => k_is)
    (case xs_LineError => first | k_is | rfl)
    (case g_BadRow => k_is)
    (case xx_BadRow => k_exc)
    (case xk_BadRow => k_is)
    (case xb_BadRow => k_is)
    (case xt_BadRow => k_is)
    (case xi_BadRow => k_is)
    (case xs_BadRow => first | k_is | rfl)
    (case g_BadBoxes => k_is)
    (case xx_BadBoxes => k_exc)
    (case xk_BadBoxes => k_is)
    (case xb_BadBoxes => k_is)
    (case xt_BadBoxes => k_is)
    (case xi_BadBoxes => k_is)
    (case xs_BadBoxes => first | k_is | rfl)
    (case g_BadShape => k_is)
    (case xx_BadShape => k_exc)
    (case xk_BadShape => k_is)
    (case xb_BadShape => k_is)
    (case xt_BadShape => k_is)
    (case xi_BadShape => k_is)
    (case xs_BadShape => first | k_is | rfl)
    (case g_NoBox => k_is)
    (case xx_NoBox => k_exc)
    (case xk_NoBox => k_is)
    (case xb_NoBox => k_is)
    (case xt_NoBox => k_is)
    (case xi_NoBox => k_is)
    (case xs_NoBox => first | k_is | rfl)
    (case g_BadPlan => k_is)
    (case xx_BadPlan => k_exc)
    (case xk_BadPlan => k_is)
    (case xb_BadPlan => k_is)
    (case xt_BadPlan => k_is)
    (case xi_BadPlan => k_is)
    (case xs_BadPlan => first | k_is | rfl)
    (case ehg_BadRow => k_is)
    (case ehk_BadRow => k_is)
    (case ehd_BadRow => k_is)
    (case eha_BadRow => k_is)
    (case ehm_BadRow => k_is)
    (case e_hn => k_is)
    (case e_ht => k_is)
    (case u_BadRow_LineError => first | k_is | rfl)
    (case u_BadRow_BadRow => first | k_is | rfl)
    (case u_BadRow_BadBoxes => first | k_is | rfl)
    (case u_BadRow_BadShape => first | k_is | rfl)
    (case u_BadRow_NoBox => first | k_is | rfl)
    (case u_BadRow_BadPlan => first | k_is | rfl)
    (case uv_BadRow => k_is)
#print axioms PySem.Challenge.cw_nearlines_k02_lines_read_holds
