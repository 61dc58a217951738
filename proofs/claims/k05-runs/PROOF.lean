import PyProof.Rows.All
import Wide.All
import OpenK.AllK
import Wide.FinOn
import HandS.ForMost
import HandS.IsInst
import HandS.Deep
import HandS.LawCells
import HandS.ForExc
import HandS.ExcIs
import HandS.HotCalls
import HandS.SetFor
import HandS.More
import HandS.Replace
import HandS.Walk
import HandS.WordsDict
import PySem.Challenge.RW_nearlines_k05_runs
set_option Elab.async false
set_option linter.all false
set_option maxRecDepth 100000
set_option maxHeartbeats 4000000
namespace L2
open PySem PySem.Spec PyProof.Rows
/-! ## common to all laws: a def of the text with its place, its promise, its call -/
/-- the def at f is the one that stands in the text at st, its parameters are ps -/
structure FnAt (K : PySem.W.Frag) (x qual : Str) (st : Stmt) (f : Addr) (fd : FuncData) (ps : List Str) : Prop where
  fn : Fun K x qual st f fd
  bd : Binds K fd ps []
/-- the def at f keeps the promise sp -/
structure Ok (P : Program) (w : World) (K : PySem.W.Frag) (mg : Str → Option Value) (base : Heap) (cx : CXT) (k : Nat) (f : Addr) (fd : FuncData) (ps : List Str) (sp : Sp) : Prop where
  ok : FnOk P w K mg base cx k f fd ps sp
  bd : Binds K fd ps []
  kp : PySem.W.keepIn K (.ref f) = true
theorem Ok.imp {P : Program} {w : World} {K : PySem.W.Frag} {mg : Str → Option Value} {base : Heap} {cx : CXT} {k : Nat} {f : Addr} {fd : FuncData} {ps : List Str} {sp sp' : Sp} (o : Ok P w K mg base cx k f fd ps sp)
    (h : ∀ vs H Q E, sp' vs H Q E → sp vs H Q E) : Ok P w K mg base cx k f fd ps sp' := ⟨o.ok.imp h, o.bd, o.kp⟩
section
variable {P : Program} {w : World} {K : PySem.W.Frag} {mg : Str → Option Value} {base : Heap} {x qual : Str} {st : Stmt} {f : Addr} {fd : FuncData} {ps N : List Str} {k : Nat} {sp : Sp}
theorem FnAt.ok (F : FnAt K x qual st f fd ps) (S : FnScope N ps (defScope st)) (len : ∀ vs H Q E, sp vs H Q E → vs.length = ps.length)
    (body : ∀ (cdv : Value) (A : Around) (outer : List Env) (s : Shared) (H : Hp) (vs : List V) (Q : VK) (E : XK), Room k (A.deeper (envOfC qual (defScope st) s.heap.objs.size f cdv)) → sp vs H Q E →
      ∃ t, PSs (cxOf CX0 P w K mg base N qual (defScope st) f cdv A outer s H E).nox (defBody st) t ∧ t { nx := fun _ H' => Q .non H', rt := Q } (start N vs) H) : Ok P w K mg base CX0 (k + 1) f fd ps sp := ⟨F.fn.ok S len body, F.bd, F.fn.kp⟩
theorem FnAt.okX (F : FnAt K x qual st f fd ps) (S : FnScope N ps (defScope st)) (len : ∀ vs H Q E, sp vs H Q E → vs.length = ps.length)
    (body : ∀ (cdv : Value) (A : Around) (outer : List Env) (s : Shared) (H : Hp) (vs : List V) (Q : VK) (E : XK), Room k (A.deeper (envOfC qual (defScope st) s.heap.objs.size f cdv)) → sp vs H Q E →
      ∃ t, PSs (cxOf (L2.CX P w) P w K mg base N qual (defScope st) f cdv A outer s H E) (defBody st) t ∧ t { nx := fun _ H' => Q .non H', rt := Q } (start N vs) H) : Ok P w K mg base (L2.CX P w) (k + 1) f fd ps sp := ⟨F.fn.okX S len body, F.bd, F.fn.kp⟩
end
section
variable {X : Cx} {cx : CXT} {k : Nat} {f : Addr} {fd : FuncData} {ps : List Str} {sp : Sp} {E : XK} {x m : Str} {p pos apos : Pos} {e o : Expr} {es : List Expr} {ta : TE} {t : TA}
/-- f(..) -/
def tCallO (sp : Sp) (E : XK) (t : TA) : TE := fun σ H Q => t σ H fun vs H1 => sp vs H1 Q E
theorem tCallO_eq {sp : Sp} {E : XK} {t : TA} : tCall sp [] E t = tCallO sp E t := by
  funext σ H Q
  show t σ H (fun vs H1 => sp (vs ++ []) H1 Q E) = t σ H fun vs H1 => sp vs H1 Q E
  simp only [List.append_nil]
theorem pe_callO (O : Ok X.prog X.w X.K X.mg X.base cx k f fd ps sp) (hr : Room k X.A) (hg : Gl X x) (hm : X.mg x = some (.ref f)) (hx : Passes cx X E) (ha : PA X (e :: es) t)
    (hdb : (x == ("__debug__" : Str)) = false := by decide) (he : starEach (e :: es) X.env = (false, eval e X.env) :: starEach es X.env := by rfl) (hpl : (backTo pos (starEach es X.env)).any (·.1) = false := by rfl) :
    PE X (.Call (.Name x p) (e :: es) [] pos) (tCallO sp E t) := by
  obtain ⟨F, B, kp⟩ := O
  rw [← tCallO_eq]
  exact pe_call F hr hg hm kp B .nil hx ha hdb he hpl
/-- o.m(..) -/
def tMethO (C : Addr) (m : Str) (sp : Sp) (E : XK) (ta : TE) (t : TA) : TE := fun σ H Q => ta σ H fun x H1 => ∃ a dx fs, x = .ref a ∧ H1 a = some (.ins C dx fs) ∧ fs.lookup m = none ∧ t σ H1 fun vs H2 => sp (x :: vs) H2 Q E
theorem tMethO_eq {C : Addr} {m : Str} {sp : Sp} {E : XK} {ta : TE} {t : TA} : tMeth C m sp [] E ta t = tMethO C m sp E ta t := by
  funext σ H Q
  unfold tMeth tMethO
  simp only [List.append_nil]
theorem pe_methO {C : Addr} {pl : Sem Bool} (O : Ok X.prog X.w X.K X.mg X.base cx k f fd ps sp) (c : Cls X.K C) (hm : Meth X.K C m f) (hr : Room k X.A) (hx : Passes cx X E) (he : PE X o ta) (ha : PA X (e :: es) t)
    (hst : starEach (e :: es) X.env = (false, eval e X.env) :: starEach es X.env := by rfl) (hpl : (backTo pos (starEach es X.env)).any (·.1) = false := by rfl)
    (ht : eval (.Call (.Attribute o m apos) (e :: es) [] pos) X.env = (do
      let ov ← eval o X.env
      standAt apos.atName
      let (f, first) ← holding [ov] (getMethod ov m pl)
      callWith pos f first (backTo pos (starEach (e :: es) X.env)) (backToKw pos (keywordEach [] X.env))) := by rfl) :
    PE X (.Call (.Attribute o m apos) (e :: es) [] pos) (tMethO C m sp E ta t) := by
  obtain ⟨F, B, kp⟩ := O
  rw [← tMethO_eq]
  exact pe_meth he c hm F hr B .nil hx ha hst hpl ht
theorem pe_methO0 {C : Addr} {pl : Sem Bool} (O : Ok X.prog X.w X.K X.mg X.base cx k f fd ps sp) (c : Cls X.K C) (hm : Meth X.K C m f) (hr : Room k X.A) (hx : Passes cx X E) (he : PE X o ta)
    (ht : eval (.Call (.Attribute o m apos) [] [] pos) X.env = (do
      let ov ← eval o X.env
      standAt apos.atName
      let (f, first) ← holding [ov] (getMethod ov m pl)
      callWith pos f first (backTo pos (starEach [] X.env)) (backToKw pos (keywordEach [] X.env))) := by rfl) :
    PE X (.Call (.Attribute o m apos) [] [] pos) (tMethO C m sp E ta tNil) := by
  obtain ⟨F, B, kp⟩ := O
  rw [← tMethO_eq]
  exact pe_meth0 he c hm F hr B .nil hx ht
end
/-! ### tests, heaps -/
theorem iteD {c A B : Prop} [Decidable c] (h1 : c → A) (h2 : ¬ c → B) : if decide c = true then A else B := by
  by_cases h : c
  · rw [decide_eq_true h]
    exact iteT (h1 h)
  · rw [decide_eq_false h]
    exact iteF (h2 h)
theorem iteN {c A B : Prop} [Decidable c] (h1 : ¬ c → A) (h2 : c → B) : if (!decide c) = true then A else B := by
  by_cases h : c
  · rw [decide_eq_true h]
    exact iteF (h2 h)
  · rw [decide_eq_false h]
    exact iteT (h1 h)
theorem iteB {b : Bool} {A B : Prop} (h1 : b = true → A) (h2 : b = false → B) : if b = true then A else B := by
  cases b with
  | true => exact iteT (h1 rfl)
  | false => exact iteF (h2 rfl)
theorem iteBN {b : Bool} {A B : Prop} (h1 : b = false → A) (h2 : b = true → B) : if (!b) = true then A else B := by
  cases b with
  | true => exact iteF (h2 rfl)
  | false => exact iteT (h1 rfl)
theorem Same.new {H : Hp} {p : Addr} {o : HO} (h : H p = none) : Same H (upd H p o) := fun b x e => by
  rw [upd_ne (ne_of_none e h)]
  exact e
/-- what H does not know may change -/
theorem Same.mut {H H' : Hp} {p : Addr} {o : HO} (s : Same H H') (h : H p = none) : Same H (upd H' p o) := fun b x e => by
  rw [upd_ne (ne_of_none e h)]
  exact s b x e
theorem Same.seqT {K : PySem.W.Frag} {H H' : Hp} {a : Addr} {xs : List V} (e : Same H H') (h : SqT K H a xs) : SqT K H' a xs := by
  rcases h with (h | ⟨o, h⟩) | h
  · exact .inl (.inl (e _ _ h))
  · exact .inl (.inr ⟨o, e _ _ h⟩)
  · exact .inr h
/-- the list at l is not the tuple at a -/
theorem SqT.but {K : PySem.W.Frag} {H : Hp} {a l : Addr} {xs ys : List V} {o : HO} (h : SqT K H a xs) (hl : H l = some (.lst ys)) : SqT K (upd H l o) a xs := by
  rcases h with (h | ⟨u, h⟩) | h
  · exact .inl (.inl (by rw [upd_ne (ne_of h hl (by intro z; cases z))]; exact h))
  · exact .inl (.inr ⟨u, by rw [upd_ne (ne_of h hl (by intro z; cases z))]; exact h⟩)
  · exact .inr h
/-! ### ways joined: a word between a part and what follows -/
section
variable {X : Cx}
def tJoinE (t : TE) : TE := fun σ H Q => ∃ R : VK, t σ H R ∧ ∀ v H1, R v H1 → Q v H1
theorem pe_jn {e : Expr} {t : TE} (h : PE X e t) : PE X e (tJoinE t) := by
  refine ⟨fun pins s σ H Q I hq => ?_⟩
  obtain ⟨R, h1, h2⟩ := hq
  refine thn (h.run pins s σ H R I h1) fun u s1 hh => ?_
  obtain ⟨v, H1, I1, r, q⟩ := hh
  exact ⟨v, H1, I1, r, h2 v H1 q⟩
def tJoinT (t : TT) : TT := fun σ H Q => ∃ R : Bool → Hp → Prop, t σ H R ∧ ∀ b H1, R b H1 → Q b H1
theorem pt_jn {e : Expr} {t : TT} (h : PT X e t) : PT X e (tJoinT t) := by
  refine ⟨fun pins s σ H Q I hq => ?_⟩
  obtain ⟨R, h1, h2⟩ := hq
  refine thn (h.run pins s σ H R I h1) fun b s1 hh => ?_
  obtain ⟨H1, I1, q⟩ := hh
  exact ⟨H1, I1, h2 b H1 q⟩
def tCutS (t u : TS) : TS := fun D σ H => ∃ Mid : St → Hp → Prop, t { D with nx := Mid } σ H ∧ ∀ σ' H', Mid σ' H' → u D σ' H'
theorem pss_cutS {st : Stmt} {rest : List Stmt} {t u : TS} (h1 : PS X st t) (h2 : PSs X rest u) : PSs X (st :: rest) (tCutS t u) := by
  refine ⟨fun pins s σ H D I h => ?_⟩
  obtain ⟨Mid, hm, hu⟩ := h
  refine wpAny_execs_cons (thn (h1.run pins s σ H { D with nx := Mid } I hm) fun f s1 q => ?_)
  cases f with
  | next =>
    obtain ⟨σ1, H1, I1, q1⟩ := q
    exact h2.run pins s1 σ1 H1 D I1 (hu σ1 H1 q1)
  | ret v => exact q
  | brk => exact q
  | cont => exact q
end
/-! ### rules within a comprehension: the written part named -/
section
variable {X : Cx} {K : PySem.W.Frag}
theorem ix_tupK (h : X.K = K) : IxR X (rIxT K) := by subst h; exact ix_tup
theorem ix_listK (h : X.K = K) : IxR X (rIxL K) := by subst h; exact ix_list
theorem ix_seqK (h : X.K = K) : IxR X (rIx K) := by subst h; exact ix_seq
theorem op_in_seqK (h : X.K = K) : OpR X (compareOp .In) (rIn K false) := by subst h; exact op_in_seq
theorem op_notIn_seqK (h : X.K = K) : OpR X (compareOp .NotIn) (rIn K true) := by subst h; exact op_notIn_seq
def rLenQ (K : PySem.W.Frag) : List V → Hp → VK → Prop := fun xs H Q => ∃ p ys, xs = [.ref p] ∧ (SqL K H p ys ∨ SqT K H p ys) ∧ Q (.int ys.length) H
theorem call_len_seqK (h : X.K = K) : CallR X (.builtin "len") (rLenQ K) := by subst h; exact call_len_seq
theorem sl_listK (h : X.K = K) : SlR X (rSlL K) := by subst h; exact sl_list
theorem call_isiK' (h : X.K = K) : CallR X (.builtin "isinstance") (rIsi K) := by subst h; exact call_isi
end
theorem SqL.but {K : PySem.W.Frag} {H : Hp} {a l : Addr} {xs ys : List V} {o : HO} (h : SqL K H a xs) (hl : H l = some (.lst ys)) (n : a ≠ l) : SqL K (upd H l o) a xs := by
  rcases h with (h | ⟨u, h⟩) | h
  · exact .inl (.inl (by rw [upd_ne n]; exact h))
  · exact .inl (.inr ⟨u, by rw [upd_ne n]; exact h⟩)
  · exact .inr h
end L2
namespace L2
open PySem PySem.Spec PyProof.Rows
/-! ### lists of ints, of ints and None, by values -/
def optV : Option Int → V
  | none => .non
  | some i => .int i
theorem optV_flat (o : Option Int) : flatV (optV o) = true := by cases o <;> rfl
theorem flat_ints (xs : List Int) : (xs.map V.int).all flatV = true := by
  induction xs with
  | nil => rfl
  | cons x r ih => exact ih
theorem flat_opts (xs : List (Option Int)) : (xs.map optV).all flatV = true := by
  induction xs with
  | nil => rfl
  | cons x r ih =>
    show (flatV (optV x) && (r.map optV).all flatV) = true
    rw [ih, optV_flat]
    rfl
theorem inV_ints (x : Int) (xs : List Int) : inV (.int x) (xs.map V.int) = decide (x ∈ xs) := by
  induction xs with
  | nil => rfl
  | cons y r ih =>
    show (y == x || inV (.int x) (r.map V.int)) = decide (x ∈ y :: r)
    rw [ih]
    by_cases h : y = x
    · subst h
      simp
    · have h' : ¬ x = y := fun z => h z.symm
      simp [h, h']
theorem inV_non_ints (xs : List Int) : inV .non (xs.map V.int) = false := by
  induction xs with
  | nil => rfl
  | cons y r ih =>
    show (false || inV .non (r.map V.int)) = false
    rw [ih]
    rfl
theorem nl_get_map {α : Type} {f : α → V} {xs : List α} {i : Nat} {x : α} (h : xs[i]? = some x) : (xs.map f)[i]? = some (f x) := by
  rw [List.getElem?_map, h]
  rfl
theorem of_get_map {α : Type} {f : α → V} {xs : List α} {i : Nat} {v : V} (h : (xs.map f)[i]? = some v) : ∃ x, xs[i]? = some x ∧ v = f x := by
  rw [List.getElem?_map] at h
  cases e : xs[i]? with
  | none =>
    rw [e] at h
    cases h
  | some x =>
    rw [e] at h
    exact ⟨x, rfl, (Option.some.inj h).symm⟩
theorem of_get_mapG {α β : Type} {f : α → β} {xs : List α} {i : Nat} {v : β} (h : (xs.map f)[i]? = some v) : ∃ x, xs[i]? = some x ∧ v = f x := by
  rw [List.getElem?_map] at h
  cases e : xs[i]? with
  | none =>
    rw [e] at h
    cases h
  | some x =>
    rw [e] at h
    exact ⟨x, rfl, (Option.some.inj h).symm⟩
theorem idx_get {x : Int} {xs : List Int} (h : x ∈ xs) : xs[xs.idxOf x]? = some x := by
  have hl : xs.idxOf x < xs.length := List.idxOf_lt_length_of_mem h
  rw [List.getElem?_eq_getElem hl, List.getElem_idxOf hl]
theorem idx_first {x y : Int} : ∀ {xs : List Int} {m : Nat}, m < xs.idxOf x → xs[m]? = some y → (y == x) = false
  | [], m, h, _ => by simp at h
  | z :: r, m, h, hm => by
    rw [List.idxOf_cons] at h
    by_cases e : z = x
    · subst e
      simp at h
    · have e' : (z == x) = false := by simpa using e
      rw [e'] at h
      cases m with
      | zero =>
        have q : z = y := Option.some.inj hm
        rw [← q]
        exact e'
      | succ m => exact idx_first (xs := r) (m := m) (by simp only [cond_false] at h; omega) hm
theorem eqV_int (x : Int) : eqV (.int x) (.int x) = true := by
  show (x == x) = true
  simp
theorem idx_none {x : Int} {xs : List Int} (m : Nat) (z : V) (hm : m < xs.idxOf x) (hz : (xs.map V.int)[m]? = some z) : eqV z (.int x) = false := by
  obtain ⟨y, hy, rfl⟩ := of_get_map hz
  exact idx_first hm hy
theorem ix_nat {n j : Nat} (hj : j < n) : ixN n (j : Int) = some j := by
  unfold ixN
  rw [if_pos (by omega), if_pos (by omega)]
  simp
theorem pop_seq {j n : Nat} (h : j < n) : seqIndex? (j : Int) n = some j := (ixN_seq (ix_nat h)).1
theorem erase_map {α : Type} {f : α → V} : ∀ (xs : List α) (j : Nat), (xs.map f).eraseIdx j = (xs.eraseIdx j).map f
  | [], j => by cases j <;> rfl
  | x :: r, 0 => rfl
  | x :: r, j + 1 => congrArg (f x :: ·) (erase_map r j)
theorem snoc_map {α : Type} (f : α → V) (xs : List α) (x : α) : xs.map f ++ [f x] = (xs ++ [x]).map f := by
  rw [List.map_append]
  rfl
theorem fold_take {α β : Type} (f : β → α → β) (s : β) {xs : List α} {i : Nat} {x : α} (h : xs[i]? = some x) : (xs.take (i + 1)).foldl f s = f ((xs.take i).foldl f s) x := by
  rw [List.take_add_one, h, List.foldl_append]
  rfl
theorem fold_all {α β : Type} (f : β → α → β) (s : β) {xs : List α} : (xs.take xs.length).foldl f s = xs.foldl f s := by rw [List.take_length]
theorem sizeL {n : Nat} (h : n < 1000000) : n < sizeLine := Nat.lt_of_lt_of_le h (by decide)
/-! ### touches -/
def kindS (b : Bool) : Str := if b then "write" else "read"
/-- a touch: whether it writes, its box -/
abbrev Tch := Bool × Int
def TouchAt (K : PySem.W.Frag) (H : Hp) (v : V) (t : Tch) : Prop := ∃ a, v = .ref a ∧ SqT K H a [.str (kindS t.1), .int t.2]
/-- at a a list of the touches ts -/
structure TL (K : PySem.W.Frag) (H : Hp) (xs : List V) (ts : List Tch) : Prop where
  len : xs.length = ts.length
  at_ : ∀ (i : Nat) (t : Tch), ts[i]? = some t → ∃ v, xs[i]? = some v ∧ TouchAt K H v t
theorem TouchAt.same {K : PySem.W.Frag} {H H' : Hp} {v : V} {t : Tch} (h : TouchAt K H v t) (s : Same H H') : TouchAt K H' v t := by
  obtain ⟨a, e, q⟩ := h
  exact ⟨a, e, s.seqT q⟩
theorem TL.same {K : PySem.W.Frag} {H H' : Hp} {xs : List V} {ts : List Tch} (h : TL K H xs ts) (s : Same H H') : TL K H' xs ts :=
  ⟨h.len, fun i t e => let ⟨v, e1, q⟩ := h.at_ i t e; ⟨v, e1, q.same s⟩⟩
theorem TouchAt.but {K : PySem.W.Frag} {H : Hp} {v : V} {t : Tch} {l : Addr} {ys : List V} {o : HO} (h : TouchAt K H v t) (hl : H l = some (.lst ys)) : TouchAt K (upd H l o) v t := by
  obtain ⟨a, e, q⟩ := h
  exact ⟨a, e, q.but hl⟩
theorem TL.but {K : PySem.W.Frag} {H : Hp} {xs : List V} {ts : List Tch} {l : Addr} {ys : List V} {o : HO} (h : TL K H xs ts) (hl : H l = some (.lst ys)) : TL K (upd H l o) xs ts :=
  ⟨h.len, fun i t e => let ⟨v, e1, q⟩ := h.at_ i t e; ⟨v, e1, q.but hl⟩⟩
theorem TL.nil {K : PySem.W.Frag} {H : Hp} : TL K H [] [] := ⟨rfl, fun i t e => by simp at e⟩
theorem TL.snoc {K : PySem.W.Frag} {H : Hp} {xs : List V} {ts : List Tch} {v : V} {t : Tch} (h : TL K H xs ts) (q : TouchAt K H v t) : TL K H (xs ++ [v]) (ts ++ [t]) := by
  refine ⟨by rw [List.length_append, List.length_append, h.len]; rfl, fun i u e => ?_⟩
  by_cases hi : i < ts.length
  · rw [List.getElem?_append_left hi] at e
    obtain ⟨x, e1, q1⟩ := h.at_ i u e
    exact ⟨x, by rw [List.getElem?_append_left (by rw [h.len]; exact hi)]; exact e1, q1⟩
  · have hlt := (List.getElem?_eq_some_iff.mp e).1
    rw [List.length_append] at hlt
    have hi2 : i = ts.length := by
      simp only [List.length_cons, List.length_nil] at hlt
      omega
    subst hi2
    rw [List.getElem?_append_right (Nat.le_refl _), Nat.sub_self] at e
    have et : t = u := Option.some.inj e
    subst et
    refine ⟨v, ?_, q⟩
    rw [← h.len, List.getElem?_append_right (Nat.le_refl _), Nat.sub_self]
    rfl
theorem TL.of {K : PySem.W.Frag} {H : Hp} {xs : List V} {ts : List Tch} (h : TL K H xs ts) {i : Nat} {v : V} (hv : xs[i]? = some v) : ∃ t, ts[i]? = some t ∧ TouchAt K H v t := by
  have hlt := (List.getElem?_eq_some_iff.mp hv).1
  rw [h.len] at hlt
  obtain ⟨v', e1, q⟩ := h.at_ i ts[i] (List.getElem?_eq_getElem hlt)
  rw [hv] at e1
  have ev : v = v' := Option.some.inj e1
  exact ⟨ts[i], List.getElem?_eq_getElem hlt, by rw [ev]; exact q⟩
theorem at_getD {xs : List Int} {i : Int} (h0 : 0 ≤ i) (h1 : i < xs.length) : atI (xs.map V.int) i = some (.int (xs.getD i.toNat 0)) := by
  obtain ⟨j, rfl⟩ : ∃ j : Nat, i = (j : Int) := ⟨i.toNat, by omega⟩
  have hj : j < xs.length := by omega
  refine atI_nat ?_
  rw [List.getElem?_map, Int.toNat_natCast, List.getD_eq_getElem?_getD, List.getElem?_eq_getElem hj]
  rfl
theorem mod_at {xs : List Int} (c : Int) (n : Nat) (hn : n = xs.length) (h0 : 0 < n) : atI (xs.map V.int) (c % (n : Int)) = some (.int (xs.getD (c % (n : Int)).toNat 0)) :=
  at_getD (Int.emod_nonneg _ (by omega)) (by have := Int.emod_lt_of_pos c (show 0 < (n : Int) by omega); omega)
theorem kind_at (c : Int) : atI [V.str "read", V.str "write"] (c % 2) = some (V.str (kindS (c % 2 == 1))) := by
  have h : c % 2 = 0 ∨ c % 2 = 1 := by omega
  rcases h with h | h <;> rw [h] <;> rfl
theorem int_getD {lines : List Int} {k : Nat} (h : k < lines.length) : (lines.map V.int)[k]? = some (.int (lines.getD k 0)) := by
  rw [List.getElem?_map, List.getD_eq_getElem?_getD, List.getElem?_eq_getElem h]
  rfl
theorem mod2 (c : Int) : c % 2 = 0 ∨ c % 2 = 1 := by omega
theorem mod4 (c : Int) : c % 4 = 0 ∨ c % 4 = 1 ∨ c % 4 = 2 ∨ c % 4 = 3 := by omega
theorem filter_erase {x : Int} : ∀ {l : List Int}, l.Nodup → x ∈ l → l.filter (fun z => !decide (z = x)) = l.eraseIdx (l.idxOf x)
  | [], _, h => by simp at h
  | y :: r, nd, h => by
    obtain ⟨h1, h2⟩ := List.nodup_cons.mp nd
    by_cases e : y = x
    · subst e
      have e2 : (y :: r).idxOf y = 0 := by simp
      rw [e2, List.filter_cons, if_neg (by simp)]
      show _ = r
      rw [List.filter_eq_self]
      intro z hz
      have : ¬ z = y := fun q => h1 (by rw [← q]; exact hz)
      simp [this]
    · have h3 : x ∈ r := by
        rcases List.mem_cons.mp h with q | q
        · exact absurd q.symm e
        · exact q
      have e2 : (y :: r).idxOf x = r.idxOf x + 1 := by
        rw [List.idxOf_cons]
        have e' : (y == x) = false := by simpa using e
        rw [e']
        rfl
      rw [e2, List.filter_cons, if_pos (by simp [e]), filter_erase h2 h3]
      rfl
theorem at_ofG {α : Type} {xs : List α} {z : Int} {j : Nat} {v : α} (e : z = (j : Int)) (h : xs[j]? = some v) : atI xs z = some v := by
  rw [e]
  exact atI_nat h
theorem nodup_map_inj {α β : Type} {f : α → β} : ∀ {l : List α}, (l.map f).Nodup → ∀ {x y : α}, x ∈ l → y ∈ l → f x = f y → x = y
  | [], _, _, _, h, _, _ => by cases h
  | a :: r, nd, x, y, hx, hy, e => by
    rw [List.map_cons, List.nodup_cons] at nd
    rcases List.mem_cons.mp hx with h1 | h1 <;> rcases List.mem_cons.mp hy with h2 | h2
    · rw [h1, h2]
    · rw [h1] at e
      exact absurd (by rw [e]; exact List.mem_map_of_mem h2) nd.1
    · rw [h2] at e
      exact absurd (by rw [← e]; exact List.mem_map_of_mem h1) nd.1
    · exact nodup_map_inj nd.2 h1 h2 e
theorem sub_len : ∀ {l m : List Int}, l.Nodup → (∀ x ∈ l, x ∈ m) → l.length ≤ m.length
  | [], _, _, _ => Nat.zero_le _
  | x :: r, m, nd, h => by
    obtain ⟨h1, h2⟩ := List.nodup_cons.mp nd
    have hx := h x List.mem_cons_self
    have ih := sub_len (m := m.erase x) h2 fun y hy => (List.mem_erase_of_ne (fun q => h1 (by rw [← q]; exact hy))).mpr (h y (List.mem_cons_of_mem _ hy))
    have := List.length_erase_of_mem hx
    have hp : 0 < m.length := List.length_pos_of_mem hx
    rw [List.length_cons]
    omega
end L2
namespace L2
open PySem PySem.Spec PyProof.Rows
/-! ### data at any depth, for == -/
def Sh (n : Nat) (d : PyData) : Prop := PyData.canLay0 d = true ∧ PyData.depth d ≤ n
theorem Sh.shaped {n : Nat} {d : PyData} (h : Sh n d) (hn : n ≤ 64) : SeqAt.shaped d = true := by
  unfold SeqAt.shaped
  rw [h.1, decide_eq_true (Nat.le_trans h.2 hn)]
  rfl
theorem sh_all {n : Nat} : ∀ {ds : List PyData}, (∀ d ∈ ds, Sh n d) → PyData.canLayAll0 ds = true ∧ PyData.depthAll ds ≤ n
  | [], _ => ⟨rfl, Nat.zero_le _⟩
  | d :: r, h => by
    obtain ⟨h1, h2⟩ := h d List.mem_cons_self
    obtain ⟨h3, h4⟩ := sh_all (ds := r) fun e he => h e (List.mem_cons_of_mem _ he)
    refine ⟨?_, ?_⟩
    · show (PyData.canLay0 d && PyData.canLayAll0 r) = true
      rw [h1, h3]
      rfl
    · show max (PyData.depth d) (PyData.depthAll r) ≤ n
      omega
theorem sh_list {n : Nat} {ds : List PyData} (h : ∀ d ∈ ds, Sh n d) : Sh (n + 1) (.list ds) := ⟨(sh_all h).1, Nat.succ_le_succ (sh_all h).2⟩
theorem sh_tup {n : Nat} {ds : List PyData} (h : ∀ d ∈ ds, Sh n d) : Sh (n + 1) (.tuple ds) := ⟨(sh_all h).1, Nat.succ_le_succ (sh_all h).2⟩
theorem sh_int {n : Nat} (i : Int) : Sh n (.int i) := ⟨rfl, Nat.zero_le _⟩
theorem sh_non {n : Nat} : Sh n .none := ⟨rfl, Nat.zero_le _⟩
theorem sh_bool {n : Nat} (b : Bool) : Sh n (.bool b) := ⟨rfl, Nat.zero_le _⟩
theorem sh_str {n : Nat} {x : Str} (h : PyData.strOk x = true) : Sh n (.str x) := ⟨h, Nat.zero_le _⟩
theorem dpAll_of {K : PySem.W.Frag} {H : Hp} : ∀ {xs : List V} {ds : List PyData}, xs.length = ds.length → (∀ (i : Nat) v d, xs[i]? = some v → ds[i]? = some d → Dp K H v d) → DpAll K H xs ds
  | [], [], _, _ => .nil
  | [], _ :: _, h, _ => by simp at h
  | _ :: _, [], h, _ => by simp at h
  | x :: r, d :: s, h, q => .cons (q 0 x d rfl rfl) (dpAll_of (by simpa using h) fun i v e h1 h2 => q (i + 1) v e h1 h2)
theorem eqv_self {n : Nat} {d : PyData} (h : Sh n d) : PyData.eqv d d = true := SeqAt.eqv_refl d h.1
/-! ### touches as data -/
def touchD (t : Tch) : PyData := .tuple [.str (kindS t.1), .int t.2]
theorem touch_sh (t : Tch) : Sh 1 (touchD t) := sh_tup fun d hd => by
  simp only [List.mem_cons, List.not_mem_nil, or_false] at hd
  rcases hd with rfl | rfl
  · have q : ∀ b, PyData.strOk (kindS b) = true := by
      intro b
      cases b <;> decide +kernel
    exact sh_str (q _)
  · exact sh_int _
theorem touches_sh (ts : List Tch) : Sh 2 (.list (ts.map touchD)) := sh_list fun d hd => by
  obtain ⟨t, _, rfl⟩ := List.mem_map.mp hd
  exact touch_sh t
theorem TouchAt.dp {K : PySem.W.Frag} {H : Hp} {v : V} {t : Tch} (h : TouchAt K H v t) : Dp K H v (touchD t) := by
  obtain ⟨a, rfl, q⟩ := h
  exact .tup q (.cons (.str _) (.cons (.int _) .nil))
theorem TL.dp {K : PySem.W.Frag} {H : Hp} {a : Addr} {xs : List V} {ts : List Tch} (h : TL K H xs ts) (q : SqL K H a xs) : Dp K H (.ref a) (.list (ts.map touchD)) := by
  refine .lst q (dpAll_of (by rw [h.len, List.length_map]) fun i v d hv hd => ?_)
  obtain ⟨t, ht, qt⟩ := h.of hv
  rw [List.getElem?_map, ht] at hd
  have e : touchD t = d := Option.some.inj hd
  rw [← e]
  exact qt.dp
theorem cut_one (xs : List V) : cutV xs (some 1) none = xs.drop 1 := by
  unfold cutV
  rw [show HT.sIx xs.length 0 (some 1) = min 1 xs.length from HT.sIx_nat xs.length 0 1, HT.sIx_none]
  cases xs with
  | nil => rfl
  | cons x r =>
    rw [show min 1 (x :: r).length = 1 by
      rw [List.length_cons]
      omega]
    show (List.take ((x :: r).length - 1) r) = r
    rw [List.length_cons, Nat.add_sub_cancel]
    exact List.take_length
theorem cut_from (xs : List V) (k : Nat) : cutV xs (some (k : Int)) none = xs.drop k := by
  unfold cutV
  rw [show HT.sIx xs.length 0 (some (k : Int)) = min k xs.length from HT.sIx_nat xs.length 0 k, HT.sIx_none]
  by_cases h : k ≤ xs.length
  · rw [Nat.min_eq_left h]
    exact List.take_of_length_le (by rw [List.length_drop]; exact Nat.le_refl _)
  · rw [Nat.min_eq_right (by omega), Nat.sub_self, List.drop_eq_nil_of_le (Nat.le_refl _), List.drop_eq_nil_of_le (show xs.length ≤ k by omega)]
    rfl
end L2
namespace L2
open PySem PySem.Spec PyProof.Rows
mutual
theorem dp_same {K : PySem.W.Frag} {H H' : Hp} (s : Same H H') : ∀ (d : PyData) (v : V), Dp K H v d → Dp K H' v d
  | .none, _, h => by cases h; exact .non
  | .bool b, _, h => by cases h; exact .bl b
  | .int i, _, h => by cases h; exact .int i
  | .str x, _, h => by cases h; exact .str x
  | .list ds, _, h => by
    cases h with
    | lst q a => exact .lst (s.seq q) (dpAll_same s ds _ a)
  | .tuple ds, _, h => by
    cases h with
    | tup q a => exact .tup (s.seqT q) (dpAll_same s ds _ a)
  | .dict _, _, h => by cases h
theorem dpAll_same {K : PySem.W.Frag} {H H' : Hp} (s : Same H H') : ∀ (ds : List PyData) (vs : List V), DpAll K H vs ds → DpAll K H' vs ds
  | [], _, h => by cases h; exact .nil
  | d :: ds, _, h => by
    cases h with
    | cons a b => exact .cons (dp_same s d _ a) (dpAll_same s ds _ b)
end
end L2
namespace L2
open PySem PySem.Spec PyProof.Rows
/-! ### own classes of errors -/
/-- the class x of errors stands at C -/
structure ExcAt (K : PySem.W.Frag) (mg : Str → Option Value) (x : Str) (C : Addr) : Prop where
  g : mg x = some (.ref C)
  x : PySem.W.excIn K C [.type "ValueError", .type "Exception", .type "BaseException", .type "object"] "ValueError.__new__" = true
  k : PySem.W.keepIn K (.ref C) = true
  b : PySem.W.subIn K (.ref C) (.type "BaseException") = some true
  t : PySem.W.typeIn K (.ref C) = some (.type "type")
  i : PySem.W.isClsIn K C = true
  s : PySem.W.subIn K (.ref C) (.ref C) = some true
/-- what one class is to another: an instance of D asked for C -/
theorem kit_own {K : PySem.W.Frag} {D C : Addr} {v : Bool} (hi : PySem.W.isClsIn K C = true) (ht : PySem.W.typeIn K (.ref C) = some (.type "type")) (hs : PySem.W.subIn K (.ref C) (.ref C) = some true) (h : PySem.W.subIn K (.ref D) (.ref C) = some v) :
    PySem.W.kitOne K (.ref D) (.ref C) = some v := by
  by_cases e : D = C
  · subst e
    have ev : v = true := Option.some.inj (h.symm.trans hs)
    subst ev
    show (if (Value.ref D == Value.ref D) = true then some true else _) = _
    rw [if_pos (beq_self_eq_true _)]
  · have n : ¬ (Value.ref D == Value.ref C) = true := fun z => e (Value.ref.inj (beq_iff_eq.mp z))
    show (if (Value.ref D == Value.ref C) = true then some true else PySem.W.kitCls K (.ref D) (.ref C)) = _
    rw [if_neg n]
    show (if ((PySem.W.clsIn K C).isSome && PySem.W.typeIn K (.ref C) == some (.type "type")) = true then PySem.W.subIn K (.ref D) (.ref C) else none) = _
    have hi' : (PySem.W.clsIn K C).isSome = true := hi
    rw [hi', ht, if_pos (by simp)]
    exact h
theorem kit_val {K : PySem.W.Frag} {D : Addr} {v : Bool} (h : PySem.W.subIn K (.ref D) (.type "ValueError") = some v) : PySem.W.kitOne K (.ref D) (.type "ValueError") = some v := by
  have n : ¬ (Value.ref D == Value.type "ValueError") = true := fun z => nomatch (beq_iff_eq.mp z)
  show (if (Value.ref D == Value.type "ValueError") = true then some true else PySem.W.kitCls K (.ref D) (.type "ValueError")) = _
  rw [if_neg n]
  show (if PySem.W.kitMeta "ValueError" = true then PySem.W.subIn K (.ref D) (.type "ValueError") else none) = _
  rw [if_pos (by decide +kernel)]
  exact h
/-- an except clause of the own class C -/
theorem exm_own {K : PySem.W.Frag} {C : Addr} {cls : Value} {v : Bool} (hb : PySem.W.subIn K (.ref C) (.type "BaseException") = some true) (hi : PySem.W.isClsIn K C = true) (ht : PySem.W.typeIn K (.ref C) = some (.type "type")) (h : PySem.W.subIn K cls (.ref C) = some v) :
    PySem.W.exmOne K cls (.ref C) = some v := by
  have e1 : (PySem.W.subIn K (.ref C) (.type "BaseException") == some true) = true := by rw [hb] <;> rfl
  have e2 : ((PySem.W.clsIn K C).isSome && PySem.W.typeIn K (.ref C) == some (.type "type")) = true := by
    have hi' : (PySem.W.clsIn K C).isSome = true := hi
    rw [hi', ht] <;> rfl
  show (if (PySem.W.subIn K (.ref C) (.type "BaseException") == some true) = true then (if ((PySem.W.clsIn K C).isSome && PySem.W.typeIn K (.ref C) == some (.type "type")) = true then PySem.W.subIn K cls (.ref C) else none) else none) = some v
  rw [if_pos e1, if_pos e2]
  exact h
theorem ExcAt.te {K : PySem.W.Frag} {mg : Str → Option Value} {x : Str} {C : Addr} (e : ExcAt K mg x C) : PySem.W.exmOne K (.ref C) (.ref C) = some true := exm_own e.b e.i e.t e.s
theorem ExcAt.self {K : PySem.W.Frag} {mg : Str → Option Value} {x : Str} {C : Addr} (e : ExcAt K mg x C) {D : Addr} {v : Bool} (h : PySem.W.subIn K (.ref D) (.ref C) = some v) : PySem.W.kitOne K (.ref D) (.ref C) = some v := kit_own e.i e.t e.s h

/-! ### a def that is handed the error that is being handled: p, its place and what stands there -/
/-- what such a def promises -/
structure OkP (P : Program) (w : World) (K : PySem.W.Frag) (mg : Str → Option Value) (base : Heap) (k : Nat) (f : Addr) (fd : FuncData) (ps : List Str) (sp : Addr → Addr → Sp) : Prop where
  len : ∀ a D vs H Q E, sp a D vs H Q E → vs.length = ps.length
  kp : PySem.W.keepIn K (.ref f) = true
  bd : Binds K fd ps []
  run : ∀ (A : Around) (outer : List Env) (s : Shared) (H : Hp) (args : Args) (us : List Value) (vs : List V) (Q : VK) (E : XK) (p : Addr × Obj) (D : Addr), L2H.RoomH k A → L2H.PinOk outer H s p → Zc (.ref D) none p.2 → (∃ vs, p.2.data = .fields vs) → Env0 P w K mg base A outer s H → BindsTo s fd args (ps.zip us) → Vals vs us →
    sp p.1 D vs H Q E → codeAny (model P w) A (.call (.ref f) args) (CR CX0 outer P w H s Q E) s
section
variable {P : Program} {w : World} {K : PySem.W.Frag} {mg : Str → Option Value} {base : Heap} {x qual : Str} {st : Stmt} {f : Addr} {fd : FuncData} {ps N : List Str} {k : Nat} {sp : Addr → Addr → Sp}
theorem FnAt.okP (F : FnAt K x qual st f fd ps) (S : FnScope N ps (defScope st)) (len : ∀ a D vs H Q E, sp a D vs H Q E → vs.length = ps.length)
    (body : ∀ (cdv : Value) (A : Around) (outer : List Env) (s : Shared) (H : Hp) (vs : List V) (Q : VK) (E : XK) (p : Addr × Obj) (D : Addr), L2H.RoomH k (A.deeper (envOfC qual (defScope st) s.heap.objs.size f cdv)) → Zc (.ref D) none p.2 → (∃ vs, p.2.data = .fields vs) → sp p.1 D vs H Q E →
      ∃ t, PSs (L2H.cxH CX0 P w K mg base N qual (defScope st) f cdv A outer s H E p) (defBody st) t ∧ t { nx := fun _ H' => Q .non H', rt := Q } (start N vs) H) : OkP P w K mg base (k + 1) f fd ps sp := by
  obtain ⟨G, B⟩ := F
  refine ⟨len, G.kp, B, fun A outer s H args us vs Q E p D room pin hz hf e0 bt rv hsp => ?_⟩
  obtain ⟨oc, od, kV, doc, pm, an, cdv, ct, osl, rfl, found, code⟩ := G.ex
  have inK : K.In s.heap := e0.mod.kin.keeps fun b o e => (e0.bs b o e).1
  have lim : s.heap.NoLimit := e0.mod.nolimit.keeps fun b o e => (e0.bs b o e).1
  have kinds : ∀ y ∈ ps.zip us, (defScope st).names.lookup y.1 = some .local ∨ ((defScope st).names.lookup y.1 = some .cell ∧ ((cellsFrom (s.heap.objs.size + 1) (defScope st).names []).lookup y.1).isSome = true) := by
    rintro ⟨n, v⟩ hy
    rcases S.par n (List.of_mem_zip hy).1 with z | z
    · exact Or.inl z
    · exact Or.inr ⟨z, PySem.W.cellsFrom_some _ _ _ (Or.inl z)⟩
  refine codeAny_call_function room.depth (inK _ _ found) rfl S.co S.gen rfl (PySem.W.codeRec_of inK code) (bt _ _ _ _ ?_)
  refine wpAny_newFunctionEnv_cells S.kind kinds fun env henv s1 made => ?_
  subst henv
  refine ⟨lim.keeps made.toInCall.keep, codeAny_func ?_⟩
  obtain ⟨t, derived, reading⟩ := body cdv A outer s H vs Q E p D (room.deeper _) hz hf hsp
  have I : Inv (L2H.cxH CX0 P w K mg base N qual (defScope st) f cdv A outer s H E p) [] (start N vs) H s1 := L2H.inv_startH S pin e0 (len _ _ _ _ _ _ hsp) rv made
  refine wpAny_mono (derived.run [] s1 (start N vs) H _ I reading) (fun fl s2 hs => ?_) fun e s2 hs => hs
  cases fl with
  | ret u =>
    obtain ⟨v, σ2, H2, J, r2, q2⟩ := hs
    exact ⟨v, H2, J.os, J.bare, J.base, J.hok, r2, q2⟩
  | next =>
    obtain ⟨σ2, H2, J, q2⟩ := hs
    exact ⟨V.non, H2, J.os, J.bare, J.base, J.hok, rfl, q2⟩
  | brk =>
    obtain ⟨_, _, _, q2⟩ := hs
    exact q2.elim
  | cont =>
    obtain ⟨_, _, _, q2⟩ := hs
    exact q2.elim
end
section
variable {X : Cx} {k : Nat} {f : Addr} {fd : FuncData} {ps : List Str} {sp : Addr → Addr → Sp} {x : Str} {q pos : Pos} {e : Expr} {es : List Expr} {t : TA}
/-- f(e, ..) where the error at a, of the class cls, is being handled -/
def tCallP (a : Addr) (cls : Value) (d : Option Addr) (sp : Addr → Addr → Sp) (t : TA) : TE := fun σ H Q => t σ H fun vs H1 => ∃ D, cls = .ref D ∧ d = none ∧ sp a D vs H1 Q E0
theorem pe_callP {a : Addr} {oe : Obj} {cls : Value} {d : Option Addr} (O : OkP X.prog X.w X.K X.mg X.base k f fd ps sp) (hr : L2H.RoomH k X.A) (hp : (a, oe) ∈ X.pn) (hz : Zc cls d oe) (hf : ∃ vs, oe.data = .fields vs) (hg : Gl X x) (hm : X.mg x = some (.ref f)) (ha : PA X (e :: es) t)
    (hdb : (x == ("__debug__" : Str)) = false := by decide) (he : starEach (e :: es) X.env = (false, eval e X.env) :: starEach es X.env := by rfl) (hpl : (backTo pos (starEach es X.env)).any (·.1) = false := by rfl) :
    PE X (.Call (.Name x q) (e :: es) [] pos) (tCallP a cls d sp t) := by
  refine ⟨fun pins s σ H Q I h => ?_⟩
  refine wpAny_Call_Name_kw (ld_glob I hg hm ?_ hdb)
  refine PySem.W.callWith_K (h₀ := X.base) I.ok.mod.kin O.kp (thn (ha.run pos pins s σ H _ I h) fun us s1 ⟨vs, H1, I1, rv, D, ec, ed, hsp⟩ => ⟨I1.kIn, ?_⟩) he hpl
  subst ec ed
  have hl : us.length = ps.length := rv.length.symm.trans (O.len _ _ _ _ _ _ hsp)
  have bt := O.bd s1 us I1.kIn (by rw [List.append_nil]; exact hl)
  rw [List.append_nil] at bt
  have at_ := I1.pin (a, oe) (List.mem_append_left _ hp)
  have pin : L2H.PinOk X.stack H1 s1 (a, oe) := ⟨at_.1, at_.2.1, fun hm => (List.mem_cons.mp (I1.stkSub a hm)).elim at_.2.2.1 at_.2.2.2.1, at_.2.2.2.2⟩
  refine wpAny_call (codeAny_mono (O.run X.A X.stack s1 H1 ⟨us, []⟩ us vs Q E0 (a, oe) D hr pin hz hf I1.env0 bt rv hsp) fun r s2 hq => ?_)
  cases r with
  | error e => exact hq.elim
  | ok fl =>
    cases fl with
    | ret u => exact I1.after hq
    | next => exact hq.elim
    | brk => exact hq.elim
    | cont => exact hq.elim
/-- isinstance(e, c), e the error at a that is pinned -/
theorem call_isP {X : Cx} {a D : Addr} {oe : Obj} (C : ExcC X.K D) (hp : (a, oe) ∈ X.pn) (hz : Zc (.ref D) none oe) (hf : ∃ vs, oe.data = .fields vs) : CallR X (.builtin "isinstance") (rIsE X.K D a) := by
  intro pins s σ H xs us Q I r h
  obtain ⟨c, cv, b, rfl, hcv, hk, q⟩ := h
  obtain ⟨u1, u2, rfl, r1, r2⟩ := vals2 r
  cases (show u1 = Value.ref a from r1)
  have ec := hcv _ r2
  subst ec
  obtain ⟨found, _⟩ := I.pin (a, oe) (List.mem_append_left _ hp)
  obtain ⟨vs, hv⟩ := hf
  have J : PySem.W.InstAt s.heap a oe D none := by
    obtain ⟨oc, od, oda, osl⟩ := oe
    obtain ⟨h1, h2⟩ := hz
    simp only at h1 h2 hv
    subst h1 h2 hv
    exact ⟨found, rfl, rfl, trivial⟩
  exact PySem.W.kia_one (PySem.W.handS_kitx_exc C.hg C.hk C.hs C.hd C.ha C.hn C.ht C.hm) I.kIn J hk (fun z => nomatch z) fun tk => ⟨.bl b, H, I.kept (t' := tk) fun _ _ z => z, rfl, q⟩
/-! ### xs.count(True), xs a list of truth values -/
def eqTrue (v : Value) : Bool := match v with
  | .bool b => b
  | _ => false
def rCntT (K : PySem.W.Frag) : V → List V → Hp → VK → Prop := fun x xs H Q => ∃ (p : Addr) (bs : List Bool), x = .ref p ∧ xs = [.bl true] ∧ SqL K H p (bs.map V.bl) ∧ Q (.int (bs.count true : Nat)) H
theorem eqTrue_count : ∀ {bs : List Bool} {us : List Value}, Vals (bs.map V.bl) us → us.countP eqTrue = bs.count true
  | [], [], _ => rfl
  | b :: r, u :: us, .cons h t => by
    cases (show u = Value.bool b from h)
    rw [List.countP_cons, List.count_cons, eqTrue_count t]
    cases b <;> rfl
theorem mt_countT : MtR X "list.count" (rCntT X.K) := by
  intro pins s σ H x xs v us Q I rx rxs h
  obtain ⟨p, bs, rfl, rfl, hs, q⟩ := h
  cases rx
  obtain ⟨u, rfl, ru⟩ := rxs.one
  cases (show u = Value.bool true from ru)
  obtain ⟨its, rv, ⟨⟨cls, dd, data, sl⟩, n, found, hc, hdn, hd⟩, hlen⟩ := I.list hs
  simp only at hc hd
  subst hc hd
  have each : ∀ (bs : List Bool) (us : List Value), Vals (bs.map V.bl) us → ∀ y ∈ us, SeqAt.EqAt X.A.in1.in1 s y (.bool true) (eqTrue y) ∧ ∃ b, y = .bool b := by
    intro bs
    induction bs with
    | nil =>
      intro us h y hy
      cases h
      cases hy
    | cons b r ih =>
      intro us h y hy
      cases h with
      | cons h1 h2 =>
        rcases List.mem_cons.mp hy with e | e
        · cases (show _ = Value.bool b from h1)
          subst e
          have z := eqAt_V (A := X.A.in1.in1) (s := s) (y := .bl b) (x := .bl true) (u := .bool b) (v := .bool true) rfl rfl rfl rfl
          refine ⟨?_, b, rfl⟩
          have e2 : eqV (.bl b) (.bl true) = eqTrue (.bool b) := by cases b <;> rfl
          rw [← e2]
          exact z
        · exact ih _ h2 y e
  have each' : ∀ (A : Around), ∀ y ∈ its, SeqAt.EqAt A s y (.bool true) (eqTrue y) := by
    intro A y hy
    obtain ⟨_, b, rfl⟩ := each bs its rv y hy
    have e2 : eqV (.bl b) (.bl true) = eqTrue (.bool b) := by cases b <;> rfl
    rw [← e2]
    exact eqAt_V (A := A) (s := s) (y := .bl b) (x := .bl true) (u := .bool b) (v := .bool true) rfl rfl rfl rfl
  refine call_meets PySem.F.slot_list_count ⟨_, found, rfl⟩ PySem.F.entry_list_count (PySem.F.args_list_count_2 _ _)
    (SeqAt.list_countAt p its.toArray n dd sl (.bool true) eqTrue) ⟨found, fun y hy => each' _ y (by simpa using hy), ?_⟩
  have ec : its.toArray.toList.countP eqTrue = bs.count true := eqTrue_count rv
  refine ⟨.int (bs.count true : Nat), H, I.tok _, ⟨s.toks, ?_⟩, q⟩
  show Value.int ((its.toArray.toList.countP eqTrue : Nat) : Int) s.toks = Value.int ((bs.count true : Nat) : Int) s.toks
  rw [ec]
end
theorem roomP {j k : Nat} {A : Around} {a : Option Value} (hr : Room k A) (h : j ≤ k) : L2H.RoomH j (A.mark a) := ⟨(hr.mono h).dp, (hr.mono h).un⟩
/-! ### calls in the body of a try -/
section
variable {X : Cx} {cx : CXT} {k : Nat} {f : Addr} {fd : FuncData} {ps : List Str} {sp : Sp} {E : St → XK} {x m : Str} {p pos apos : Pos} {e o : Expr} {es : List Expr} {ta : TE} {t : TA}
theorem pe_callSO (O : Ok X.prog X.w X.K X.mg X.base cx k f fd ps sp) (hr : Room k X.A) (hg : Gl X x) (hm : X.mg x = some (.ref f)) (hx : ∀ σ, PassesAt cx X σ (E σ)) (ha : PA X (e :: es) t)
    (hdb : (x == ("__debug__" : Str)) = false := by decide) (he : starEach (e :: es) X.env = (false, eval e X.env) :: starEach es X.env := by rfl) (hpl : (backTo pos (starEach es X.env)).any (·.1) = false := by rfl) :
    PE X (.Call (.Name x p) (e :: es) [] pos) (tCallS sp E t) := pe_callS O.ok hr hg hm O.kp O.bd hx ha hdb he hpl
def tMethSO (C : Addr) (m : Str) (sp : Sp) (E : St → XK) (ta : TE) (t : TA) : TE := fun σ H Q => ta σ H fun x H1 => ∃ a dx fs, x = .ref a ∧ H1 a = some (.ins C dx fs) ∧ fs.lookup m = none ∧ t σ H1 fun vs H2 => sp (x :: vs) H2 Q (E σ)
theorem pe_methSO {C : Addr} {pl : Sem Bool} (O : Ok X.prog X.w X.K X.mg X.base cx k f fd ps sp) (c : Cls X.K C) (hm : Meth X.K C m f) (hr : Room k X.A) (hx : ∀ σ, PassesAt cx X σ (E σ)) (he : PE X o ta) (ha : PA X (e :: es) t)
    (hst : starEach (e :: es) X.env = (false, eval e X.env) :: starEach es X.env := by rfl) (hpl : (backTo pos (starEach es X.env)).any (·.1) = false := by rfl)
    (ht : eval (.Call (.Attribute o m apos) (e :: es) [] pos) X.env = (do
      let ov ← eval o X.env
      standAt apos.atName
      let (f, first) ← holding [ov] (getMethod ov m pl)
      callWith pos f first (backTo pos (starEach (e :: es) X.env)) (backToKw pos (keywordEach [] X.env))) := by rfl) :
    PE X (.Call (.Attribute o m apos) (e :: es) [] pos) (tMethSO C m sp E ta t) := by
  refine ⟨fun pins s σ H Q I h => ?_⟩
  refine PySem.W.methodCall_KW (pl := pl) (thn (he.run pins s σ H _ I h) fun u s1 ⟨y, H1, I1, ry, a, dx, fs, ey, ea, l, q⟩ => ?_) ht
  subst ey
  obtain rfl : u = Value.ref a := ry
  refine getmeth_ok I1 ea c hm l ?_
  refine PySem.W.callWith_K (first := [.ref a]) (h₀ := X.base) I.ok.mod.kin hm.kp (thn (ha.run pos pins s1 σ H1 _ I1 q) fun us s2 ⟨vs, H2, I2, rv, q2⟩ => ⟨I2.kIn, ?_⟩) hst hpl
  exact run_fnS (us := .ref a :: us) (vs := .ref a :: vs) O.ok hr O.bd (hx σ) I2 (.cons rfl rv) q2
end
/-! ### an object made -/
section
variable {X : Cx} {cx : CXT} {k : Nat} {f C : Addr} {fd : FuncData} {ps : List Str} {sp : Sp} {E : XK} {x : Str} {p pos : Pos} {e : Expr} {es : List Expr} {t : TA}
def tMakeO (C : Addr) (sp : Sp) (E : XK) (t : TA) : TE := fun σ H Q => t σ H fun vs H1 => ∀ x dx, H1 x = none → H1 dx = none → dx ≠ x → sp (.ref x :: vs) (upd (upd H1 dx (.own x)) x (.ins C dx [])) (fun v H2 => v = .non ∧ Q (.ref x) H2) E
theorem tMakeO_eq {C : Addr} {sp : Sp} {E : XK} {t : TA} : tMake C sp [] E t = tMakeO C sp E t := by
  funext σ H Q
  unfold tMake tMakeO
  simp only [List.append_nil]
theorem pe_makeO (O : Ok X.prog X.w X.K X.mg X.base cx k f fd ps sp) (M : Mk X.K C f) (hr : Room (k + 1) X.A) (hg : Gl X x) (hm : X.mg x = some (.ref C)) (hx : Passes cx X E) (ha : PA X (e :: es) t)
    (hdb : (x == ("__debug__" : Str)) = false := by decide) (he : starEach (e :: es) X.env = (false, eval e X.env) :: starEach es X.env := by rfl) (hpl : (backTo pos (starEach es X.env)).any (·.1) = false := by rfl) :
    PE X (.Call (.Name x p) (e :: es) [] pos) (tMakeO C sp E t) := by
  obtain ⟨F, B, kp⟩ := O
  rw [← tMakeO_eq]
  exact pe_make M F hr hg hm B .nil hx ha hdb he hpl
end
end L2
namespace L2
open PySem PySem.Spec PyProof.Rows
/-! ### things of any kind: their built-in type -/
def tyNames : List String := ["int", "bool", "NoneType", "str", "list", "tuple", "dict"]
theorem ty_cases {t : String} (h : t ∈ tyNames) : t = "int" ∨ t = "bool" ∨ t = "NoneType" ∨ t = "str" ∨ t = "list" ∨ t = "tuple" ∨ t = "dict" := by
  simpa [tyNames] using h
theorem kit_int {K : PySem.W.Frag} {t : String} (h : t ∈ tyNames) : PySem.W.kitOne K (.type t) (.type "int") = some (t == "int" || t == "bool") := by
  rcases ty_cases h with rfl | rfl | rfl | rfl | rfl | rfl | rfl <;> exact kit_ty (by decide +kernel)
theorem kit_bool {K : PySem.W.Frag} {t : String} (h : t ∈ tyNames) : PySem.W.kitOne K (.type t) (.type "bool") = some (t == "bool") := by
  rcases ty_cases h with rfl | rfl | rfl | rfl | rfl | rfl | rfl <;> exact kit_ty (by decide +kernel)
theorem kit_str {K : PySem.W.Frag} {t : String} (h : t ∈ tyNames) : PySem.W.kitOne K (.type t) (.type "str") = some (t == "str") := by
  rcases ty_cases h with rfl | rfl | rfl | rfl | rfl | rfl | rfl <;> exact kit_ty (by decide +kernel)
theorem kit_tup {K : PySem.W.Frag} {t : String} (h : t ∈ tyNames) : PySem.W.kitOne K (.type t) (.type "tuple") = some (t == "tuple") := by
  rcases ty_cases h with rfl | rfl | rfl | rfl | rfl | rfl | rfl <;> exact kit_ty (by decide +kernel)
/-- x is a thing of one of these types -/
def Typ (K : PySem.W.Frag) (H : Hp) (x : V) : Prop := ∃ t, TyX K H x (.type t) ∧ t ∈ tyNames
theorem typ_int {K : PySem.W.Frag} {H : Hp} {x : V} (h : TyX K H x (.type "int")) : ∃ i, x = .int i := by
  generalize e : Value.type "int" = t at h
  cases h with
  | base b => cases b <;> first | exact ⟨_, rfl⟩ | (exfalso; revert e; decide) | (cases e)
  | byt _ => exfalso; revert e; decide
  | set _ => exfalso; revert e; decide
  | kList _ _ => exfalso; revert e; decide
  | kTuple _ _ => exfalso; revert e; decide
  | kDict _ _ => exfalso; revert e; decide
  | fTuple _ => exfalso; revert e; decide
  | fDict _ => exfalso; revert e; decide
theorem typ_str {K : PySem.W.Frag} {H : Hp} {x : V} (h : TyX K H x (.type "str")) : ∃ i, x = .str i := by
  generalize e : Value.type "str" = t at h
  cases h with
  | base b => cases b <;> first | exact ⟨_, rfl⟩ | (exfalso; revert e; decide) | (cases e)
  | byt _ => exfalso; revert e; decide
  | set _ => exfalso; revert e; decide
  | kList _ _ => exfalso; revert e; decide
  | kTuple _ _ => exfalso; revert e; decide
  | kDict _ _ => exfalso; revert e; decide
  | fTuple _ => exfalso; revert e; decide
  | fDict _ => exfalso; revert e; decide
theorem ty_of_int {K : PySem.W.Frag} {H : Hp} {i : Int} {t : Value} (h : TyX K H (.int i) t) : t = .type "int" := by
  cases h with
  | base b => cases b; rfl
theorem ty_of_str {K : PySem.W.Frag} {H : Hp} {z : Str} {t : Value} (h : TyX K H (.str z) t) : t = .type "str" := by
  cases h with
  | base b => cases b; rfl
/-- the types of what is tracked stay -/
theorem TyX.same {K : PySem.W.Frag} {H H' : Hp} {x : V} {t : String} (h : TyX K H x (.type t)) (s : Same H H') : TyX K H' x (.type t) := by
  generalize e : Value.type t = u at h
  cases h with
  | base b =>
    cases b with
    | non => exact .base .non
    | bl b => exact .base (.bl b)
    | int i => exact .base (.int i)
    | str z => exact .base (.str z)
    | flt z => exact .base (.flt z)
    | lst h => exact .base (.lst (s _ _ h))
    | frz h => exact .base (.frz (s _ _ h))
    | tup h => exact .base (.tup (s _ _ h))
    | dK h => exact .base (.dK (s _ _ h))
    | dT h => exact .base (.dT (s _ _ h))
    | ins _ _ _ _ _ _ => cases e
  | byt b => exact .byt b
  | set h => exact .set (s _ _ h)
  | kList h c => exact .kList h c
  | kTuple h c => exact .kTuple h c
  | kDict h c => exact .kDict h c
  | fTuple h => exact .fTuple (s _ _ h)
  | fDict h => exact .fDict (s _ _ h)
/-- .. even where an object changes -/
theorem TyX.but {K : PySem.W.Frag} {H : Hp} {x : V} {t : String} {p C dx : Addr} {fs : List (Str × V)} {o : HO} (h : TyX K H x (.type t)) (hp : H p = some (.ins C dx fs)) : TyX K (upd H p o) x (.type t) := by
  have s : ∀ {b : Addr} {u : HO}, H b = some u → (∀ C dx fs, u ≠ .ins C dx fs) → upd H p o b = some u := fun {b u} e n => by
    rw [upd_ne (ne_of e hp (n C dx fs))]
    exact e
  generalize e : Value.type t = u at h
  cases h with
  | base b =>
    cases b with
    | non => exact .base .non
    | bl b => exact .base (.bl b)
    | int i => exact .base (.int i)
    | str z => exact .base (.str z)
    | flt z => exact .base (.flt z)
    | lst h => exact .base (.lst (s h (by intro _ _ _ z; cases z)))
    | frz h => exact .base (.frz (s h (by intro _ _ _ z; cases z)))
    | tup h => exact .base (.tup (s h (by intro _ _ _ z; cases z)))
    | dK h => exact .base (.dK (s h (by intro _ _ _ z; cases z)))
    | dT h => exact .base (.dT (s h (by intro _ _ _ z; cases z)))
    | ins _ _ _ _ _ _ => cases e
  | byt b => exact .byt b
  | set h => exact .set (s h (by intro _ _ _ z; cases z))
  | kList h c => exact .kList h c
  | kTuple h c => exact .kTuple h c
  | kDict h c => exact .kDict h c
  | fTuple h => exact .fTuple (s h (by intro _ _ _ z; cases z))
  | fDict h => exact .fDict (s h (by intro _ _ _ z; cases z))
theorem Typ.same {K : PySem.W.Frag} {H H' : Hp} {x : V} (h : Typ K H x) (s : Same H H') : Typ K H' x := by
  obtain ⟨t, h1, h2⟩ := h
  exact ⟨t, h1.same s, h2⟩
theorem Typ.but {K : PySem.W.Frag} {H : Hp} {x : V} {p C dx : Addr} {fs : List (Str × V)} {o : HO} (h : Typ K H x) (hp : H p = some (.ins C dx fs)) : Typ K (upd H p o) x := by
  obtain ⟨t, h1, h2⟩ := h
  exact ⟨t, h1.but hp, h2⟩
theorem typ_i {K : PySem.W.Frag} {H : Hp} (i : Int) : Typ K H (.int i) := ⟨"int", .base (.int i), by decide⟩
theorem typ_b {K : PySem.W.Frag} {H : Hp} (b : Bool) : Typ K H (.bl b) := ⟨"bool", .base (.bl b), by decide⟩
theorem typ_n {K : PySem.W.Frag} {H : Hp} : Typ K H .non := ⟨"NoneType", .base .non, by decide⟩
theorem typ_s {K : PySem.W.Frag} {H : Hp} (z : Str) : Typ K H (.str z) := ⟨"str", .base (.str z), by decide⟩
theorem typ_l {K : PySem.W.Frag} {H : Hp} {a : Addr} {xs : List V} (h : H a = some (.lst xs)) : Typ K H (.ref a) := ⟨"list", .base (.lst h), by decide⟩
theorem typ_t {K : PySem.W.Frag} {H : Hp} {a : Addr} {xs : List V} (h : H a = some (.tup xs)) : Typ K H (.ref a) := ⟨"tuple", .base (.tup h), by decide⟩
theorem typ_d {K : PySem.W.Frag} {H : Hp} {a : Addr} {xs : List (Key × V)} (h : H a = some (.dK xs)) : Typ K H (.ref a) := ⟨"dict", .base (.dK h), by decide⟩
/-- a whole number within bounds -/
def wIn (x : V) (lo hi : Int) : Bool := match x with
  | .int i => decide (lo ≤ i) && decide (i ≤ hi)
  | _ => false
theorem wIn_int {x : V} {lo hi : Int} (h : wIn x lo hi = true) : ∃ i, x = .int i ∧ lo ≤ i ∧ i ≤ hi := by
  cases x with
  | int i =>
    have h : (decide (lo ≤ i) && decide (i ≤ hi)) = true := h
    rw [Bool.and_eq_true, decide_eq_true_eq, decide_eq_true_eq] at h
    exact ⟨i, rfl, h.1, h.2⟩
  | _ => cases h
/-! ### d.get(k), d a dict of the written part with keys that are texts -/
/-- what the written dict at a gives for each text -/
def KMap (K : PySem.W.Frag) (w : World) (a : Addr) (f : Str → Option Str) : Prop :=
  ∃ es n, K.lookup a = some ⟨.type "dict", none, .dict es n, #[]⟩ ∧ PySem.W.KeysLit w.params es.toList ∧ (a == sysModules) = false ∧ ∀ z, ∃ o, findBy Value.isStrOf es z = o ∧ RelO ((f z).map V.str) o
def tKGet (K : PySem.W.Frag) (w : World) (td ty : TE) : TE := fun σ H Q => td σ H fun x H1 => ∃ a f, x = .ref a ∧ KMap K w a f ∧ ty σ H1 fun y H2 => ∃ z, y = .str z ∧ Q (((f z).map V.str).getD .non) H2
theorem relO_getD {o : Option V} {u : Option Value} (h : RelO o u) : RelV (o.getD .non) (u.getD .none) := by
  cases o with
  | none =>
    cases u with
    | none => rfl
    | some _ => exact h.elim
  | some v =>
    cases u with
    | none => exact h.elim
    | some _ => exact h
theorem pe_kget {X : Cx} {o e : Expr} {apos cpos : Pos} {td ty : TE} (ho : PE X o td) (he : PE X e ty) (m : M1 X o "get" apos e cpos) : PE X (.Call (.Attribute o "get" apos) [e] [] cpos) (tKGet X.K X.w td ty) := by
  refine ⟨fun pins s σ H Q I h => ?_⟩
  refine wpAny_Call_method m.base m.few m.line PySem.F.plainAttrs_dict PySem.F.slot_dict_get PySem.F.type_dict_get (thn (ho.run pins s σ H _ I h) fun u s1 ⟨x, H1, I1, rx, a, f, ex, ⟨es, n, hl, hk, hsys, hf⟩, q1⟩ => ?_)
  subst ex
  obtain rfl : u = Value.ref a := rx
  have found : ∀ {s' : Shared} {H' : Hp}, Inv X pins σ H' s' → s'.heap.get? a = some ⟨.type "dict", none, .dict es n, #[]⟩ := fun I' => I'.kIn a _ hl
  refine ⟨⟨_, found I1, rfl⟩, fun b hb => ?_, ?_⟩
  · cases hb
    exact ⟨_, found I1, rfl⟩
  rw [m.trees]
  refine Calls.callWith_builtin rfl (Calls.evalArgs_plain (Calls.spliced_cons (thn (he.run pins s1 σ H1 _ I1 q1) fun iv s2 ⟨y, H2, I2, ry, z, ey, q2⟩ => Calls.spliced_nil ?_)))
  subst ey
  obtain ⟨t, rfl⟩ := (show ∃ t, iv = Value.str z t from ry)
  obtain ⟨ov, e1, r1⟩ := hf z
  have hm := PySem.W.mapOf_K (prog := X.prog) (w := X.w) I2.kIn hl hk
  refine call_meetsIn PySem.F.slot_dict_get ⟨_, found I2, rfl⟩ PySem.F.entry_dict_get (PySem.F.args_dict_get_2 _ _) (meets_dict_get (strKind X.prog X.w) a (strKind_is X.prog X.w z t) hsys) ⟨_, hm, ?_⟩
  refine ⟨((f z).map V.str).getD .non, H2, I2.tok _, ?_, q2⟩
  show RelV _ ((findBy Value.isStrOf es z).getD .none)
  rw [e1]
  exact relO_getD r1
end L2
namespace NL
open PySem PySem.Spec PyProof.Rows L2
/-- the marks of a word -/
def partsM (z : Str) : Option Str :=
  if z = "set" then some "bn" else if z = "copy" then some "bb" else if z = "add" then some "bbb" else if z = "sub" then some "bbb" else if z = "fetch" then some "bb"
  else if z = "store" then some "bb" else if z = "less" then some "bbp" else if z = "jump" then some "p" else if z = "tell" then some "b" else none
theorem partsM_small {z m : Str} (h : partsM z = some m) : m.length ≤ sizeLine ∧ m.length ≤ 3 := by
  unfold partsM at h
  repeat' split at h
  all_goals (first | (cases h; decide +kernel) | cases h)

theorem parts_find {h0 h1 h2 h3 h4 h5 h6 h7 h8 : Int} {t0 u0 t1 u1 t2 u2 t3 u3 t4 u4 t5 u5 t6 u6 t7 u7 t8 u8 : Nat} (z : Str) : ∃ o, findBy Value.isStrOf (#[⟨h0, .str "set" t0, .str "bn" u0⟩, ⟨h1, .str "copy" t1, .str "bb" u1⟩, ⟨h2, .str "add" t2, .str "bbb" u2⟩, ⟨h3, .str "sub" t3, .str "bbb" u3⟩, ⟨h4, .str "fetch" t4, .str "bb" u4⟩, ⟨h5, .str "store" t5, .str "bb" u5⟩, ⟨h6, .str "less" t6, .str "bbp" u6⟩, ⟨h7, .str "jump" t7, .str "p" u7⟩, ⟨h8, .str "tell" t8, .str "b" u8⟩] : Array DictEntry) z = o ∧ RelO ((partsM z).map V.str) o := by
  refine ⟨_, rfl, ?_⟩
  have e : ∀ (a : Str) (t : Nat), Value.isStrOf z (.str a t) = decide (z = a) := fun a t => by
    show (a == z) = _
    by_cases h : z = a
    · subst h
      simp
    · have : ¬ a = z := fun q => h q.symm
      simp [h, this]
  unfold findBy partsM
  simp only [List.find?_toArray, List.find?_cons, List.find?_nil, e]
  repeat' split
  all_goals (first | exact trivial | (simp_all; done) | (exact ⟨_, rfl⟩) | skip)
def nineW : List Str := ["set", "copy", "add", "sub", "fetch", "store", "less", "jump", "tell"]
def nineM : List Str := ["bn", "bb", "bbb", "bbb", "bb", "bb", "bbp", "p", "b"]
def marksM (z : Str) : Str := (partsM z).getD ""
theorem nine_in {z : Str} : inV (.str z) (nineW.map V.str) = (partsM z).isSome := by
  show (([V.str "set", V.str "copy", V.str "add", V.str "sub", V.str "fetch", V.str "store", V.str "less", V.str "jump", V.str "tell"] : List V).any fun y => eqV y (.str z)) = _
  have e : ∀ a : Str, eqV (.str a) (.str z) = decide (z = a) := fun a => by
    show (a == z) = _
    by_cases h : z = a
    · subst h
      simp
    · have : ¬ a = z := fun q => h q.symm
      simp [h, this]
  simp only [List.any_cons, List.any_nil, e]
  unfold partsM
  repeat' split
  all_goals simp [*]
theorem nine_flat : (nineW.map V.str).all flatV = true := rfl
theorem nine_at {z m : Str} (h : partsM z = some m) : ∃ j : Nat, j < 9 ∧ (nineW.map V.str)[j]? = some (.str z) ∧ (∀ (i : Nat) (z' : V), i < j → (nineW.map V.str)[i]? = some z' → eqV z' (.str z) = false) ∧ (nineM.map V.str)[j]? = some (.str m) := by
  unfold partsM at h
  have chk : ∀ (j : Nat) (z : Str), (∀ i, i < j → ∀ z', (nineW.map V.str)[i]? = some z' → eqV z' (.str z) = false) → ∀ (i : Nat) (z' : V), i < j → (nineW.map V.str)[i]? = some z' → eqV z' (.str z) = false := fun j z f i z' h1 h2 => f i h1 z' h2
  split at h
  · rename_i e; cases h; subst e
    exact ⟨0, by decide, rfl, fun i _ hi => absurd hi (Nat.not_lt_zero _), rfl⟩
  split at h
  · rename_i e; cases h; subst e
    refine ⟨1, by decide, rfl, fun i z' hi hz => ?_, rfl⟩
    have hi : i = 0 := by omega
    subst hi
    cases hz
    decide +kernel
  split at h
  · rename_i e; cases h; subst e
    refine ⟨2, by decide, rfl, fun i z' hi hz => ?_, rfl⟩
    have hi : i = 0 ∨ i = 1 := by omega
    rcases hi with rfl | rfl <;> cases hz <;> decide +kernel
  split at h
  · rename_i e; cases h; subst e
    refine ⟨3, by decide, rfl, fun i z' hi hz => ?_, rfl⟩
    have hi : i = 0 ∨ i = 1 ∨ i = 2 := by omega
    rcases hi with rfl | rfl | rfl <;> cases hz <;> decide +kernel
  split at h
  · rename_i e; cases h; subst e
    refine ⟨4, by decide, rfl, fun i z' hi hz => ?_, rfl⟩
    have hi : i = 0 ∨ i = 1 ∨ i = 2 ∨ i = 3 := by omega
    rcases hi with rfl | rfl | rfl | rfl <;> cases hz <;> decide +kernel
  split at h
  · rename_i e; cases h; subst e
    refine ⟨5, by decide, rfl, fun i z' hi hz => ?_, rfl⟩
    have hi : i = 0 ∨ i = 1 ∨ i = 2 ∨ i = 3 ∨ i = 4 := by omega
    rcases hi with rfl | rfl | rfl | rfl | rfl <;> cases hz <;> decide +kernel
  split at h
  · rename_i e; cases h; subst e
    refine ⟨6, by decide, rfl, fun i z' hi hz => ?_, rfl⟩
    have hi : i = 0 ∨ i = 1 ∨ i = 2 ∨ i = 3 ∨ i = 4 ∨ i = 5 := by omega
    rcases hi with rfl | rfl | rfl | rfl | rfl | rfl <;> cases hz <;> decide +kernel
  split at h
  · rename_i e; cases h; subst e
    refine ⟨7, by decide, rfl, fun i z' hi hz => ?_, rfl⟩
    have hi : i = 0 ∨ i = 1 ∨ i = 2 ∨ i = 3 ∨ i = 4 ∨ i = 5 ∨ i = 6 := by omega
    rcases hi with rfl | rfl | rfl | rfl | rfl | rfl | rfl <;> cases hz <;> decide +kernel
  split at h
  · rename_i e; cases h; subst e
    refine ⟨8, by decide, rfl, fun i z' hi hz => ?_, rfl⟩
    have hi : i = 0 ∨ i = 1 ∨ i = 2 ∨ i = 3 ∨ i = 4 ∨ i = 5 ∨ i = 6 ∨ i = 7 := by omega
    rcases hi with rfl | rfl | rfl | rfl | rfl | rfl | rfl | rfl <;> cases hz <;> decide +kernel
  cases h
def top (i : Nat) : Stmt := PySem.Challenge.pw_nearlines_k05_runs.main.body.getD i (.Pass ⟨0, 0, 0, 0⟩)
abbrev s_within : Stmt := top 8
abbrev s_part_fits : Stmt := top 9
abbrev s_fits : Stmt := top 10
abbrev s_checked : Stmt := top 11
abbrev s_checked_boxes : Stmt := top 12
abbrev s_Plain___init__ : Stmt := inClass (top 15) 0
abbrev s_Plain_look : Stmt := inClass (top 15) 1
abbrev s_Plain_put : Stmt := inClass (top 15) 2
abbrev s_reckoned : Stmt := top 16
abbrev s_moved : Stmt := top 17
abbrev s_goes_on : Stmt := top 18
abbrev s_gone : Stmt := top 19
abbrev s_run : Stmt := top 20
abbrev s__law_cell_at : Stmt := top 22
abbrev s__law_mixed : Stmt := top 23
abbrev s__law_number_by : Stmt := top 24
abbrev s__law_size_by : Stmt := top 25
abbrev s__law_row_by : Stmt := top 26
abbrev s__law_reads : Stmt := top 27
abbrev s__law_writes : Stmt := top 28
abbrev s__law_run_by : Stmt := top 29
abbrev s__law_loop_by : Stmt := top 30
abbrev s_law : Stmt := top 31
theorem sc_within : FnScope ["number", "low", "high"] ["number", "low", "high"] (defScope s_within) := ⟨rfl, rfl, rfl, by decide +kernel, rfl, by decide +kernel, by decide +kernel⟩
theorem sc_part_fits : FnScope ["mark", "number", "size", "count"] ["mark", "number", "size", "count"] (defScope s_part_fits) := ⟨rfl, rfl, rfl, by decide +kernel, rfl, by decide +kernel, by decide +kernel⟩
theorem sc_fits : FnScope ["row", "size", "count", "marks", "at"] ["row", "size", "count"] (defScope s_fits) := ⟨rfl, rfl, rfl, by decide +kernel, rfl, by decide +kernel, by decide +kernel⟩
theorem sc_checked : FnScope ["rows", "size", "row"] ["rows", "size"] (defScope s_checked) := ⟨rfl, rfl, rfl, by decide +kernel, rfl, by decide +kernel, by decide +kernel⟩
theorem sc_checked_boxes : FnScope ["boxes", "number"] ["boxes"] (defScope s_checked_boxes) := ⟨rfl, rfl, rfl, by decide +kernel, rfl, by decide +kernel, by decide +kernel⟩
theorem sc_Plain___init__ : FnScope ["self", "boxes"] ["self", "boxes"] (defScope s_Plain___init__) := ⟨rfl, rfl, rfl, by decide +kernel, rfl, by decide +kernel, by decide +kernel⟩
theorem sc_Plain_look : FnScope ["self", "box"] ["self", "box"] (defScope s_Plain_look) := ⟨rfl, rfl, rfl, by decide +kernel, rfl, by decide +kernel, by decide +kernel⟩
theorem sc_Plain_put : FnScope ["self", "box", "number"] ["self", "box", "number"] (defScope s_Plain_put) := ⟨rfl, rfl, rfl, by decide +kernel, rfl, by decide +kernel, by decide +kernel⟩
theorem sc_reckoned : FnScope ["row", "holder", "one", "other"] ["row", "holder"] (defScope s_reckoned) := ⟨rfl, rfl, rfl, by decide +kernel, rfl, by decide +kernel, by decide +kernel⟩
theorem sc_moved : FnScope ["row", "holder", "size", "number", "at"] ["row", "holder", "size"] (defScope s_moved) := ⟨rfl, rfl, rfl, by decide +kernel, rfl, by decide +kernel, by decide +kernel⟩
theorem sc_goes_on : FnScope ["row", "place", "holder", "one", "other"] ["row", "place", "holder"] (defScope s_goes_on) := ⟨rfl, rfl, rfl, by decide +kernel, rfl, by decide +kernel, by decide +kernel⟩
theorem sc_gone : FnScope ["rows", "holder", "size", "steps", "told", "place", "row"] ["rows", "holder", "size", "steps"] (defScope s_gone) := ⟨rfl, rfl, rfl, by decide +kernel, rfl, by decide +kernel, by decide +kernel⟩
theorem sc_run : FnScope ["rows", "boxes", "steps", "held", "program", "holder", "ended"] ["rows", "boxes", "steps"] (defScope s_run) := ⟨rfl, rfl, rfl, by decide +kernel, rfl, by decide +kernel, by decide +kernel⟩
theorem sc__law_cell_at : FnScope ["_law_script", "_law_k"] ["_law_script", "_law_k"] (defScope s__law_cell_at) := ⟨rfl, rfl, rfl, by decide +kernel, rfl, by decide +kernel, by decide +kernel⟩
theorem sc__law_mixed : FnScope ["_law_cell"] ["_law_cell"] (defScope s__law_mixed) := ⟨rfl, rfl, rfl, by decide +kernel, rfl, by decide +kernel, by decide +kernel⟩
theorem sc__law_number_by : FnScope ["_law_cell"] ["_law_cell"] (defScope s__law_number_by) := ⟨rfl, rfl, rfl, by decide +kernel, rfl, by decide +kernel, by decide +kernel⟩
theorem sc__law_size_by : FnScope ["_law_cell"] ["_law_cell"] (defScope s__law_size_by) := ⟨rfl, rfl, rfl, by decide +kernel, rfl, by decide +kernel, by decide +kernel⟩
theorem sc__law_row_by : FnScope ["_law_cell", "_law_size", "_law_count", "_law_rest", "_law_word", "_law_one", "_law_two", "_law_three", "_law_place"] ["_law_cell", "_law_size", "_law_count"] (defScope s__law_row_by) := ⟨rfl, rfl, rfl, by decide +kernel, rfl, by decide +kernel, by decide +kernel⟩
theorem sc__law_reads : FnScope ["_law_row", "_law_held"] ["_law_row", "_law_held"] (defScope s__law_reads) := ⟨rfl, rfl, rfl, by decide +kernel, rfl, by decide +kernel, by decide +kernel⟩
theorem sc__law_writes : FnScope ["_law_row", "_law_held"] ["_law_row", "_law_held"] (defScope s__law_writes) := ⟨rfl, rfl, rfl, by decide +kernel, rfl, by decide +kernel, by decide +kernel⟩
theorem sc__law_run_by : FnScope ["_law_rows", "_law_boxes", "_law_steps", "_law_held", "_law_told", "_law_seen", "_law_place", "_law_row", "_law_written", "_law_box", "_law_pair"] ["_law_rows", "_law_boxes", "_law_steps"] (defScope s__law_run_by) := ⟨rfl, rfl, rfl, by decide +kernel, rfl, by decide +kernel, by decide +kernel⟩
theorem sc__law_loop_by : FnScope ["_law_cell", "_law_step", "_law_boxes"] ["_law_cell"] (defScope s__law_loop_by) := ⟨rfl, rfl, rfl, by decide +kernel, rfl, by decide +kernel, by decide +kernel⟩
theorem sc_law : FnScope ["_law_script", "_law_size", "_law_boxes", "_law_rows", "_law_steps", "_law_loop", "_law_due", "_law_given", "_law_program", "_law_found", "_law_k", "_law_cell"] ["_law_script"] (defScope s_law) := ⟨rfl, rfl, rfl, by decide +kernel, rfl, by decide +kernel, by decide +kernel⟩
/-- where defs and classes stand -/
structure Cs where
  f_within : Addr
  d_within : FuncData
  f_part_fits : Addr
  d_part_fits : FuncData
  f_fits : Addr
  d_fits : FuncData
  f_checked : Addr
  d_checked : FuncData
  f_checked_boxes : Addr
  d_checked_boxes : FuncData
  f_Plain___init__ : Addr
  d_Plain___init__ : FuncData
  f_Plain_look : Addr
  d_Plain_look : FuncData
  f_Plain_put : Addr
  d_Plain_put : FuncData
  f_reckoned : Addr
  d_reckoned : FuncData
  f_moved : Addr
  d_moved : FuncData
  f_goes_on : Addr
  d_goes_on : FuncData
  f_gone : Addr
  d_gone : FuncData
  f_run : Addr
  d_run : FuncData
  f__law_cell_at : Addr
  d__law_cell_at : FuncData
  f__law_mixed : Addr
  d__law_mixed : FuncData
  f__law_number_by : Addr
  d__law_number_by : FuncData
  f__law_size_by : Addr
  d__law_size_by : FuncData
  f__law_row_by : Addr
  d__law_row_by : FuncData
  f__law_reads : Addr
  d__law_reads : FuncData
  f__law_writes : Addr
  d__law_writes : FuncData
  f__law_run_by : Addr
  d__law_run_by : FuncData
  f__law_loop_by : Addr
  d__law_loop_by : FuncData
  f_law : Addr
  d_law : FuncData
  C_LineError : Addr
  C_BadRow : Addr
  C_BadBoxes : Addr
  C_Plain : Addr
  a_PARTS : Addr
/-- what the top has left -/
structure Txt (w : World) (K : PySem.W.Frag) (mg : Str → Option Value) (cs : Cs) : Prop where
  fn_within : FnAt K "within" "within" s_within cs.f_within cs.d_within ["number", "low", "high"]
  gl_within : mg "within" = some (.ref cs.f_within)
  fn_part_fits : FnAt K "part_fits" "part_fits" s_part_fits cs.f_part_fits cs.d_part_fits ["mark", "number", "size", "count"]
  gl_part_fits : mg "part_fits" = some (.ref cs.f_part_fits)
  fn_fits : FnAt K "fits" "fits" s_fits cs.f_fits cs.d_fits ["row", "size", "count"]
  gl_fits : mg "fits" = some (.ref cs.f_fits)
  fn_checked : FnAt K "checked" "checked" s_checked cs.f_checked cs.d_checked ["rows", "size"]
  gl_checked : mg "checked" = some (.ref cs.f_checked)
  fn_checked_boxes : FnAt K "checked_boxes" "checked_boxes" s_checked_boxes cs.f_checked_boxes cs.d_checked_boxes ["boxes"]
  gl_checked_boxes : mg "checked_boxes" = some (.ref cs.f_checked_boxes)
  fn_Plain___init__ : FnAt K "__init__" "Plain.__init__" s_Plain___init__ cs.f_Plain___init__ cs.d_Plain___init__ ["self", "boxes"]
  fn_Plain_look : FnAt K "look" "Plain.look" s_Plain_look cs.f_Plain_look cs.d_Plain_look ["self", "box"]
  fn_Plain_put : FnAt K "put" "Plain.put" s_Plain_put cs.f_Plain_put cs.d_Plain_put ["self", "box", "number"]
  fn_reckoned : FnAt K "reckoned" "reckoned" s_reckoned cs.f_reckoned cs.d_reckoned ["row", "holder"]
  gl_reckoned : mg "reckoned" = some (.ref cs.f_reckoned)
  fn_moved : FnAt K "moved" "moved" s_moved cs.f_moved cs.d_moved ["row", "holder", "size"]
  gl_moved : mg "moved" = some (.ref cs.f_moved)
  fn_goes_on : FnAt K "goes_on" "goes_on" s_goes_on cs.f_goes_on cs.d_goes_on ["row", "place", "holder"]
  gl_goes_on : mg "goes_on" = some (.ref cs.f_goes_on)
  fn_gone : FnAt K "gone" "gone" s_gone cs.f_gone cs.d_gone ["rows", "holder", "size", "steps"]
  gl_gone : mg "gone" = some (.ref cs.f_gone)
  fn_run : FnAt K "run" "run" s_run cs.f_run cs.d_run ["rows", "boxes", "steps"]
  gl_run : mg "run" = some (.ref cs.f_run)
  fn__law_cell_at : FnAt K "_law_cell_at" "_law_cell_at" s__law_cell_at cs.f__law_cell_at cs.d__law_cell_at ["_law_script", "_law_k"]
  gl__law_cell_at : mg "_law_cell_at" = some (.ref cs.f__law_cell_at)
  fn__law_mixed : FnAt K "_law_mixed" "_law_mixed" s__law_mixed cs.f__law_mixed cs.d__law_mixed ["_law_cell"]
  gl__law_mixed : mg "_law_mixed" = some (.ref cs.f__law_mixed)
  fn__law_number_by : FnAt K "_law_number_by" "_law_number_by" s__law_number_by cs.f__law_number_by cs.d__law_number_by ["_law_cell"]
  gl__law_number_by : mg "_law_number_by" = some (.ref cs.f__law_number_by)
  fn__law_size_by : FnAt K "_law_size_by" "_law_size_by" s__law_size_by cs.f__law_size_by cs.d__law_size_by ["_law_cell"]
  gl__law_size_by : mg "_law_size_by" = some (.ref cs.f__law_size_by)
  fn__law_row_by : FnAt K "_law_row_by" "_law_row_by" s__law_row_by cs.f__law_row_by cs.d__law_row_by ["_law_cell", "_law_size", "_law_count"]
  gl__law_row_by : mg "_law_row_by" = some (.ref cs.f__law_row_by)
  fn__law_reads : FnAt K "_law_reads" "_law_reads" s__law_reads cs.f__law_reads cs.d__law_reads ["_law_row", "_law_held"]
  gl__law_reads : mg "_law_reads" = some (.ref cs.f__law_reads)
  fn__law_writes : FnAt K "_law_writes" "_law_writes" s__law_writes cs.f__law_writes cs.d__law_writes ["_law_row", "_law_held"]
  gl__law_writes : mg "_law_writes" = some (.ref cs.f__law_writes)
  fn__law_run_by : FnAt K "_law_run_by" "_law_run_by" s__law_run_by cs.f__law_run_by cs.d__law_run_by ["_law_rows", "_law_boxes", "_law_steps"]
  gl__law_run_by : mg "_law_run_by" = some (.ref cs.f__law_run_by)
  fn__law_loop_by : FnAt K "_law_loop_by" "_law_loop_by" s__law_loop_by cs.f__law_loop_by cs.d__law_loop_by ["_law_cell"]
  gl__law_loop_by : mg "_law_loop_by" = some (.ref cs.f__law_loop_by)
  fn_law : FnAt K "law" "law" s_law cs.f_law cs.d_law ["_law_script"]
  gl_law : mg "law" = some (.ref cs.f_law)
  no_isinstance : mg "isinstance" = none
  no_int : mg "int" = none
  no_bool : mg "bool" = none
  no_tuple : mg "tuple" = none
  no_len : mg "len" = none
  no_str : mg "str" = none
  no_range : mg "range" = none
  no_list : mg "list" = none
  gl_GREATEST : ∃ t, mg "GREATEST" = some (.int 999999 t)
  gl_MOST : ∃ t, mg "MOST" = some (.int 200 t)
  gl_PARTS : mg "PARTS" = some (.ref cs.a_PARTS)
  km_PARTS : KMap K w cs.a_PARTS partsM
  gl_MODULUS : ∃ t, mg "MODULUS" = some (.int 1000000 t)
  ex_LineError : ExcAt K mg "LineError" cs.C_LineError
  ex_BadRow : ExcAt K mg "BadRow" cs.C_BadRow
  ex_BadBoxes : ExcAt K mg "BadBoxes" cs.C_BadBoxes
  gl_Plain : mg "Plain" = some (.ref cs.C_Plain)
  cl_Plain : Cls K cs.C_Plain
  mk_Plain : Mk K cs.C_Plain cs.f_Plain___init__
  me_Plain_look : Meth K cs.C_Plain "look" cs.f_Plain_look
  me_Plain_put : Meth K cs.C_Plain "put" cs.f_Plain_put
  na_Plain_boxes : NoAttr K cs.C_Plain "boxes"
  na_Plain_touches : NoAttr K cs.C_Plain "touches"
section
variable {P : Program} {w : World} {K : PySem.W.Frag} {mg : Str → Option Value} {base : Heap} {cs : Cs}
/-! ### within, part_fits, fits, checked, checked_boxes -/
def sp_within (K : PySem.W.Frag) (cs : Cs) : Sp := fun vs H Q _ => ∃ (x : V) (lo hi : Int), vs = [x, .int lo, .int hi] ∧ Typ K H x ∧ Q (.bl (wIn x lo hi)) H
theorem wIn_not {K : PySem.W.Frag} {H : Hp} {x : V} {t : String} (h : TyX K H x (.type t)) (ht : t ≠ "int") (lo hi : Int) : wIn x lo hi = false := by
  cases x with
  | int i => exact absurd (Value.type.inj (ty_of_int h)) ht
  | _ => rfl
theorem ok_within (T : Txt w K mg cs)  : Ok P w K mg base CX0 1 cs.f_within cs.d_within ["number", "low", "high"] (sp_within K cs) := by
  refine T.fn_within.ok sc_within (fun vs H Q E h => ?_) (fun cdv A outer s H vs Q E hr h => ?_)
  · obtain ⟨x, lo, hi, rfl, _⟩ := h
    rfl
  · obtain ⟨x, lo, hi, rfl, ⟨t, ty, ht⟩, q⟩ := h
    refine ⟨_, (pss_one (ps_ret (pe_and (pe_callB call_isi (by rfl) T.no_isinstance boot_isinstance (pa_cons (pv 0) (pa_cons (pe_bltn (v := .ty "int") (by rfl) T.no_int boot_int rfl) pa_nil))) (pe_and (pe_not (pe_callB call_isi (by rfl) T.no_isinstance boot_isinstance (pa_cons (pv 0) (pa_cons (pe_bltn (v := .ty "bool") (by rfl) T.no_bool boot_bool rfl) pa_nil)))) (pe_one (pe_chain op_le op_le (pv 1) (pv 0) (pv 2))))))), ?_⟩
    refine ⟨_, rfl, _, _, _, _, _, rfl, .ty "int", ty, kit_int ht, _, rfl, iteB (fun c => ?_) (fun c => ?_)⟩
    · refine ⟨_, rfl, _, _, _, _, _, rfl, .ty "bool", ty, kit_bool ht, _, rfl, _, rfl, iteBN (fun c2 => ?_) (fun c2 => ?_)⟩
      · have e : t = "int" := by
          rcases ty_cases ht with rfl | rfl | rfl | rfl | rfl | rfl | rfl <;> first | rfl | (exfalso; revert c; decide) | (exfalso; revert c2; decide)
        subst e
        obtain ⟨i, rfl⟩ := typ_int ty
        refine ⟨_, rfl, _, rfl, _, _, rfl, rfl, _, rfl, iteD (fun c3 => ?_) (fun c3 => ?_)⟩
        · refine ⟨_, rfl, _, _, rfl, rfl, ?_⟩
          have e : wIn (.int i) lo hi = decide (i ≤ hi) := by
            show (decide (lo ≤ i) && decide (i ≤ hi)) = _
            rw [decide_eq_true c3, Bool.true_and]
          rw [e] at q
          exact q
        · have e : wIn (.int i) lo hi = false := by
            show (decide (lo ≤ i) && decide (i ≤ hi)) = _
            rw [decide_eq_false c3, Bool.false_and]
          rw [e] at q
          exact q
      · have e : t ≠ "int" := fun e => by
          subst e
          revert c2
          decide
        rw [wIn_not ty e] at q
        exact q
    · have e : t ≠ "int" := fun e => by
        subst e
        revert c
        decide
      rw [wIn_not ty e] at q
      exact q
/-- one part of a row: its mark, as a sign -/
def partB (c : Nat) (x : V) (size count : Int) : Bool := if c = 98 then wIn x 0 (size - 1) else if c = 110 then wIn x 0 999999 else wIn x 0 count
def sp_part_fits (K : PySem.W.Frag) (cs : Cs) : Sp := fun vs H Q _ => ∃ (c : Nat) (x : V) (size count : Int), vs = [.str ⟨#[c]⟩, x, .int size, .int count] ∧ Typ K H x ∧ Q (.bl (partB c x size count)) H
theorem sign_eq (c d : Nat) : ((V.str ⟨#[c]⟩ : V) = V.str ⟨#[d]⟩) ↔ c = d := by
  constructor
  · intro h
    have h1 : (⟨#[c]⟩ : Str) = ⟨#[d]⟩ := V.str.inj h
    have h2 : (#[c] : Array Nat) = #[d] := congrArg Str.cps h1
    simpa using h2
  · intro h
    rw [h]
theorem lit_b : ("b" : Str) = ⟨#[98]⟩ := by decide +kernel
theorem lit_n : ("n" : Str) = ⟨#[110]⟩ := by decide +kernel
theorem ok_part_fits (T : Txt w K mg cs) (o_within : Ok P w K mg base CX0 1 cs.f_within cs.d_within ["number", "low", "high"] (sp_within K cs)) : Ok P w K mg base CX0 2 cs.f_part_fits cs.d_part_fits ["mark", "number", "size", "count"] (sp_part_fits K cs) := by
  refine T.fn_part_fits.ok sc_part_fits (fun vs H Q E h => ?_) (fun cdv A outer s H vs Q E hr h => ?_)
  · obtain ⟨c, x, size, count, rfl, _⟩ := h
    rfl
  · obtain ⟨c, x, size, count, rfl, ty, q⟩ := h
    refine ⟨_, (pss_cons (ps_if (pt_cmpR op_eq (pv 0) pe_str (nomark _)) (pss_one (ps_ret (pe_callO o_within hr (by rfl) T.gl_within pass0 (pa_cons (pv 1) (pa_cons pe_int (pa_cons (pe_op op_sub (pv 2) pe_int) pa_nil)))))) pss_nil)
      (pss_cons (ps_if (pt_cmpR op_eq (pv 0) pe_str (nomark _)) (pss_one (ps_ret (pe_callO o_within hr (by rfl) T.gl_within pass0 (pa_cons (pv 1) (pa_cons pe_int (pa_cons (pe_glob (v := .int 999999) (by rfl) (T.gl_GREATEST).choose_spec ⟨_, rfl⟩) pa_nil)))))) pss_nil)
      (pss_one (ps_ret (pe_callO o_within hr (by rfl) T.gl_within pass0 (pa_cons (pv 1) (pa_cons pe_int (pa_cons (pv 3) pa_nil)))))))), ?_⟩
    have e1 : (V.str ⟨#[c]⟩ = V.str ("b" : Str)) ↔ c = 98 := by rw [lit_b]; exact sign_eq _ _
    have e2 : (V.str ⟨#[c]⟩ = V.str ("n" : Str)) ↔ c = 110 := by rw [lit_n]; exact sign_eq _ _
    refine ⟨_, rfl, rfl, _, rfl, iteD (fun c1 => ?_) (fun c1 => ?_)⟩
    · refine ⟨_, rfl, _, rfl, _, _, rfl, rfl, x, 0, size - 1, rfl, ty, ?_⟩
      unfold partB at q
      rw [if_pos (e1.mp c1)] at q
      exact q
    · refine ⟨_, rfl, rfl, _, rfl, iteD (fun c2 => ?_) (fun c2 => ?_)⟩
      · refine ⟨_, rfl, x, 0, 999999, rfl, ty, ?_⟩
        unfold partB at q
        rw [if_neg (fun z => c1 (e1.mpr z)), if_pos (e2.mp c2)] at q
        exact q
      · refine ⟨_, rfl, _, rfl, x, 0, count, rfl, ty, ?_⟩
        unfold partB at q
        rw [if_neg (fun z => c1 (e1.mpr z)), if_neg (fun z => c2 (e2.mpr z))] at q
        exact q
/-- a thing that may be a row: its items, if it is a tuple -/
def Thing (K : PySem.W.Frag) (H : Hp) (x : V) : Option (List V) → Prop
  | none => ∃ t, TyX K H x (.type t) ∧ t ∈ tyNames ∧ t ≠ "tuple"
  | some xs => ∃ a, x = .ref a ∧ H a = some (.tup xs) ∧ (∀ v ∈ xs, Typ K H v) ∧ xs.length ≤ 1000
theorem Thing.same {K : PySem.W.Frag} {H H' : Hp} {x : V} {o : Option (List V)} (h : Thing K H x o) (s : Same H H') : Thing K H' x o := by
  cases o with
  | none =>
    obtain ⟨t, h1, h2, h3⟩ := h
    exact ⟨t, h1.same s, h2, h3⟩
  | some xs =>
    obtain ⟨a, h1, h2, h3, h4⟩ := h
    exact ⟨a, h1, s _ _ h2, fun v hv => (h3 v hv).same s, h4⟩
/-- whether the items fit the marks -/
def partsFit (size count : Int) : List Nat → List V → Bool
  | [], [] => true
  | c :: cs, x :: xs => partB c x size count && partsFit size count cs xs
  | _, _ => false
def fitsV (size count : Int) : List V → Bool
  | .str z :: xs => match partsM z with
    | none => false
    | some m => partsFit size count m.cps.toList xs
  | _ => false
def fitsO (size count : Int) : Option (List V) → Bool
  | none => false
  | some xs => fitsV size count xs
theorem partsFit_len {size count : Int} : ∀ {cs : List Nat} {xs : List V}, cs.length ≠ xs.length → partsFit size count cs xs = false
  | [], [], h => absurd rfl h
  | [], _ :: _, _ => rfl
  | _ :: _, [], _ => rfl
  | c :: cs, x :: xs, h => by
    have ih := partsFit_len (size := size) (count := count) (cs := cs) (xs := xs) (fun e => h (by simp [e]))
    show (partB c x size count && partsFit size count cs xs) = false
    rw [ih, Bool.and_false]
theorem partsFit_at {size count : Int} : ∀ {cs : List Nat} {xs : List V} {i : Nat} {c : Nat} {x : V}, cs[i]? = some c → xs[i]? = some x → partB c x size count = false → partsFit size count cs xs = false
  | [], _, _, _, _, h, _, _ => by simp at h
  | _ :: _, [], _, _, _, _, h, _ => by simp at h
  | c :: cs, x :: xs, 0, c', x', h1, h2, h3 => by
    have e1 : c = c' := Option.some.inj h1
    have e2 : x = x' := Option.some.inj h2
    subst e1 e2
    show (partB c x size count && _) = false
    rw [h3, Bool.false_and]
  | c :: cs, x :: xs, i + 1, c', x', h1, h2, h3 => by
    show (_ && partsFit size count cs xs) = false
    rw [partsFit_at (i := i) h1 h2 h3, Bool.and_false]
theorem partsFit_all {size count : Int} : ∀ {cs : List Nat} {xs : List V}, cs.length = xs.length → (∀ (i : Nat) (c : Nat) (x : V), cs[i]? = some c → xs[i]? = some x → partB c x size count = true) → partsFit size count cs xs = true
  | [], [], _, _ => rfl
  | [], _ :: _, h, _ => by simp at h
  | _ :: _, [], h, _ => by simp at h
  | c :: cs, x :: xs, h, q => by
    show (partB c x size count && partsFit size count cs xs) = true
    rw [q 0 c x rfl rfl, partsFit_all (by simpa using h) fun i c' x' h1 h2 => q (i + 1) c' x' h1 h2]
    rfl
def sp_fits (K : PySem.W.Frag) (cs : Cs) : Sp := fun vs H Q _ => ∃ (x : V) (o : Option (List V)) (size count : Int), vs = [x, .int size, .int count] ∧ Thing K H x o ∧ ∀ H', Same H H' → Q (.bl (fitsO size count o)) H'
theorem ok_fits (T : Txt w K mg cs) (o_part_fits : Ok P w K mg base CX0 2 cs.f_part_fits cs.d_part_fits ["mark", "number", "size", "count"] (sp_part_fits K cs)) : Ok P w K mg base CX0 3 cs.f_fits cs.d_fits ["row", "size", "count"] (sp_fits K cs) := by
  refine T.fn_fits.ok sc_fits (fun vs H Q E h => ?_) (fun cdv A outer s H vs Q E hr h => ?_)
  · obtain ⟨x, o, size, count, rfl, _⟩ := h
    rfl
  · obtain ⟨x, o, size, count, rfl, hx, q⟩ := h
    refine ⟨_, (pss_cons (ps_if (pt_jn (PW.pt (pw_or (pt_not (pt_val (pe_callB call_isi (by rfl) T.no_isinstance boot_isinstance (pa_cons (pv 0) (pa_cons (pe_bltn (v := .ty "tuple") (by rfl) T.no_tuple boot_tuple rfl) pa_nil))))) (pw_or (pt_cmpR op_eq (pe_callB call_len_seq (by rfl) T.no_len PySem.boot_len (pa_cons (pv 0) pa_nil)) pe_int (nomark _)) (pw_or1 (pt_not (pt_val (pe_callB call_isi (by rfl) T.no_isinstance boot_isinstance (pa_cons (pe_ix ix_tup (pv 0) pe_int (fun _ _ => rfl)) (pa_cons (pe_bltn (v := .ty "str") (by rfl) T.no_str boot_str rfl) pa_nil)))))))))) (pss_one (ps_ret pe_bl)) pss_nil)
      (pss_cons (ps_set (i := 3) sc_fits.nd rfl (Or.inl rfl) (pe_kget (pe_glob (v := .ref cs.a_PARTS) (by rfl) T.gl_PARTS rfl) (pe_ix ix_tup (pv 0) pe_int (fun _ _ => rfl)) ⟨by rfl, by rfl, by rfl, by rfl⟩))
      (pss_cons (ps_if (pt_jn (PW.pt (pw_or (pt_cmpR op_isN (pv 3) pe_non (nomark _)) (pw_or1 (pt_cmpR op_ne (pe_callB call_len_seq (by rfl) T.no_len PySem.boot_len (pa_cons (pv 0) pa_nil)) (pe_op op_add (pe_callB call_len_str (by rfl) T.no_len PySem.boot_len (pa_cons (pv 3) pa_nil)) pe_int) (nomark _)))))) (pss_one (ps_ret pe_bl)) pss_nil)
      (pss_cons (ps_for PassesOwn.never rfl (pi_range1 (by rfl) T.no_range (pa_cons (pe_callB call_len_str (by rfl) T.no_len PySem.boot_len (pa_cons (pv 3) pa_nil)) pa_nil)) (pg_name (i := 4) sc_fits.nd rfl (Or.inl rfl)) (pss_one (ps_if (pt_not (pt_val (pe_callO o_part_fits hr (by rfl) T.gl_part_fits pass0 (pa_cons (pe_ix ix_str (pv 3) (pv 4) (fun _ _ => rfl)) (pa_cons (pe_ix ix_tup (pv 0) (pe_op op_add (pv 4) pe_int) (fun _ _ => rfl)) (pa_cons (pv 1) (pa_cons (pv 2) pa_nil))))))) (pss_one (ps_ret pe_bl)) pss_nil)))
      (pss_one (ps_ret pe_bl)))))), ?_⟩
    cases o with
    | none =>
      obtain ⟨t, ty, ht, hn⟩ := hx
      refine ⟨fun b H' => b = true ∧ H' = H, ?_, ?_⟩
      · refine ⟨_, rfl, _, _, _, _, _, rfl, .ty "tuple", ty, kit_tup ht, _, rfl, iteBN (fun _ => ⟨rfl, rfl⟩) (fun c => absurd (by simpa using c) hn)⟩
      · rintro b H' ⟨rfl, rfl⟩
        exact iteT (q _ (Same.refl _))
    | some xs =>
      obtain ⟨a, rfl, ha, hty, hl⟩ := hx
      have hT : SqT K H a xs := SqT.of ha
      cases xs with
      | nil =>
        refine ⟨fun b H' => b = true ∧ H' = H, ?_, ?_⟩
        · refine ⟨_, rfl, _, _, _, _, _, rfl, .ty "tuple", .base (.tup ha), kit_ty (r := true) (by decide +kernel), _, rfl, iteF ?_⟩
          exact ⟨_, rfl, a, _, rfl, .inr hT, rfl, _, rfl, iteT ⟨rfl, rfl⟩⟩
        · rintro b H' ⟨rfl, rfl⟩
          exact iteT (q _ (Same.refl _))
      | cons v r =>
        obtain ⟨t, ty, ht⟩ := hty v List.mem_cons_self
        have hne : ¬ (V.int (((v :: r).length : Nat) : Int) = V.int 0) := fun z => by
          have := V.int.inj z
          simp only [List.length_cons] at this
          omega
        refine ⟨fun b H' => b = !(t == "str") ∧ H' = H, ?_, ?_⟩
        · refine ⟨_, rfl, _, _, _, _, _, rfl, .ty "tuple", .base (.tup ha), kit_ty (r := true) (by decide +kernel), _, rfl, iteF ?_⟩
          refine ⟨_, rfl, a, _, rfl, .inr hT, rfl, _, rfl, iteD (fun c => absurd c hne) (fun _ => ?_)⟩
          exact ⟨_, rfl, a, _, _, _, rfl, rfl, hT, at_of (j := 0) rfl rfl, _, _, _, _, _, rfl, .ty "str", ty, kit_str ht, _, rfl, rfl, rfl⟩
        rintro b H' ⟨rfl, rfl⟩
        refine iteBN (fun c => ?_) (fun c => ?_)
        · have e : fitsO size count (some (v :: r)) = false := by
            cases v with
            | str z =>
              have := Value.type.inj (ty_of_str ty)
              rw [this] at c
              exact absurd c (by decide)
            | _ => rfl
          rw [e] at q
          exact q _ (Same.refl _)
        have e : t = "str" := by simpa using c
        subst e
        obtain ⟨z, rfl⟩ := typ_str ty
        -- marks = PARTS.get(row[0])
        refine ⟨_, partsM, rfl, T.km_PARTS, _, rfl, a, _, _, _, rfl, rfl, hT, at_of (j := 0) rfl rfl, z, rfl, ?_⟩
        cases hm : partsM z with
        | none =>
          have e : fitsO size count (some (V.str z :: r)) = false := by
            show (match partsM z with | none => false | some m => partsFit size count m.cps.toList r) = false
            rw [hm]
          rw [e] at q
          refine ⟨fun b H2 => b = true ∧ H2 = H', ⟨_, rfl, rfl, _, rfl, iteT ⟨rfl, rfl⟩⟩, ?_⟩
          rintro b H2 ⟨rfl, rfl⟩
          exact iteT (q _ (Same.refl _))
        | some m =>
          have em := partsM_small hm
          have e : fitsO size count (some (V.str z :: r)) = partsFit size count m.cps.toList r := by
            show (match partsM z with | none => false | some m => partsFit size count m.cps.toList r) = _
            rw [hm]
          rw [e] at q
          have eml : m.length = m.cps.toList.length := by simp [Str.length]
          refine ⟨fun b H2 => b = !decide (m.cps.toList.length = r.length) ∧ H2 = H', ⟨_, rfl, rfl, _, rfl, iteF ?_⟩, ?_⟩
          · refine ⟨_, rfl, a, _, rfl, .inr hT, _, rfl, m, rfl, by omega, _, _, rfl, rfl, rfl, _, rfl, ?_, rfl⟩
            show (!decide (V.int (((V.str z :: r).length : Nat) : Int) = V.int ((m.length : Int) + 1))) = _
            congr 1
            apply decide_eq_decide.mpr
            rw [V.int.injEq, List.length_cons, eml]
            omega
          rintro b H2 ⟨rfl, rfl⟩
          refine iteN (fun c => ?_) (fun c => ?_)
          · rw [partsFit_len c] at q
            exact q _ (Same.refl _)
          -- for at in range(len(marks))
          refine ⟨_, rfl, m, rfl, by omega, (m.length : Int), rfl, by omega, by omega, ?_⟩
          have e0 : ((m.length : Int)).toNat = m.cps.toList.length := by rw [eml]; rfl
          rw [e0]
          refine for_range (lo := 0) (n := m.cps.toList.length) (fun i σ H3 => ∃ v4, σ = [some (.ref a), some (.int size), some (.int count), some (.str m), v4] ∧ H3 = H2 ∧ ∀ (j : Nat) (c : Nat) (x : V), j < i → m.cps.toList[j]? = some c → r[j]? = some x → partB c x size count = true) ⟨none, rfl, rfl, fun j _ _ hj => absurd hj (Nat.not_lt_zero _)⟩ ?_ ?_
          · rintro i σ H3 hi ⟨v4, rfl, rfl, hall⟩
            have hzi : (0 : Int) + (i : Int) = ((i : Nat) : Int) := Int.zero_add _
            obtain ⟨c1, hc1⟩ : ∃ c1, m.cps.toList[i]? = some c1 := ⟨m.cps.toList[i], List.getElem?_eq_getElem hi⟩
            obtain ⟨x, hx⟩ : ∃ x, r[i]? = some x := ⟨r[i]'(by omega), List.getElem?_eq_getElem _⟩
            have hx1 : (V.str z :: r)[i + 1]? = some x := hx
            refine ⟨_, rfl, _, rfl, m, _, c1, rfl, rfl, by omega, at_ofG hzi hc1, _, rfl, _, rfl, _, _, rfl, rfl, a, _, _, _, rfl, rfl, hT, at_of (j := i + 1) (by rw [Int.zero_add]; rfl) hx1, _, rfl, _, rfl, c1, x, size, count, rfl, hty x (List.mem_cons_of_mem _ (List.mem_of_getElem? hx)), _, rfl, iteBN (fun c2 => ?_) (fun c2 => ?_)⟩
            · rw [partsFit_at hc1 hx c2] at q
              exact q _ (Same.refl _)
            · refine ⟨_, rfl, rfl, fun j c' x' hj h1 h2 => ?_⟩
              by_cases ej : j = i
              · subst ej
                rw [hc1] at h1
                rw [hx] at h2
                cases h1
                cases h2
                exact c2
              · exact hall j c' x' (by omega) h1 h2
          · rintro σ H3 ⟨v4, rfl, rfl, hall⟩
            rw [partsFit_all c fun i c' x' h1 h2 => hall i c' x' ((List.getElem?_eq_some_iff.mp h1).1) h1 h2] at q
            exact q _ (Same.refl _)
/-! ### checked -/
/-- the things of a program -/
structure Things (K : PySem.W.Frag) (H : Hp) (ys : List V) (os : List (Option (List V))) : Prop where
  len : ys.length = os.length
  at_ : ∀ (i : Nat) (y : V) (o : Option (List V)), ys[i]? = some y → os[i]? = some o → Thing K H y o
theorem Things.same {K : PySem.W.Frag} {H H' : Hp} {ys : List V} {os : List (Option (List V))} (h : Things K H ys os) (s : Same H H') : Things K H' ys os := ⟨h.len, fun i y o h1 h2 => (h.at_ i y o h1 h2).same s⟩
def goodRows (size : Int) (os : List (Option (List V))) : Bool := decide (os.length ≤ 200) && os.all (fitsO size (os.length : Int))
def sp_checked (K : PySem.W.Frag) (cs : Cs) : Sp := fun vs H Q E => ∃ (a : Addr) (ys : List V) (os : List (Option (List V))) (size : Int), vs = [.ref a, .int size] ∧ SqL K H a ys ∧ Things K H ys os ∧ ys.length ≤ 1000 ∧
  (∀ H' p, goodRows size os = true → Same H H' → H p = none → H' p = some (.lst ys) → Q (.ref p) H') ∧ (∀ H', goodRows size os = false → Same H H' → E (.ref cs.C_BadRow) none H')
theorem ok_checked (T : Txt w K mg cs) (o_fits : Ok P w K mg base CX0 3 cs.f_fits cs.d_fits ["row", "size", "count"] (sp_fits K cs)) : Ok P w K mg base (L2.CX P w) 4 cs.f_checked cs.d_checked ["rows", "size"] (sp_checked K cs) := by
  refine T.fn_checked.okX sc_checked (fun vs H Q E h => ?_) (fun cdv A outer s H vs Q E hr h => ?_)
  · obtain ⟨a, ys, os, size, rfl, _⟩ := h
    rfl
  · obtain ⟨a, ys, os, size, rfl, hS, hT, hl, kQ, kE⟩ := h
    refine ⟨_, (pss_cons (ps_if (pt_cmpR op_gt (pe_callB call_len_seq (by rfl) T.no_len PySem.boot_len (pa_cons (pv 0) pa_nil)) (pe_glob (v := .int 200) (by rfl) (T.gl_MOST).choose_spec ⟨_, rfl⟩) (nomark _)) (pss_one (ps_raise rfl (takes_of rfl rfl rfl rfl) (pmk_own PySem.F.excBase_ValueError T.ex_BadRow.x T.ex_BadRow.g T.ex_BadRow.k (raises_own T.ex_BadRow.b T.ex_BadRow.t) (by rfl)))) pss_nil)
      (pss_cons (ps_for (passes_of rfl) rfl (pi_list (pv 0)) (pg_name (i := 2) sc_checked.nd rfl (Or.inl rfl)) (pss_one (ps_if (pt_not (pt_val (pe_callO o_fits hr (by rfl) T.gl_fits pass0 (pa_cons (pv 2) (pa_cons (pv 1) (pa_cons (pe_callB call_len_seq (by rfl) T.no_len PySem.boot_len (pa_cons (pv 0) pa_nil)) pa_nil)))))) (pss_one (ps_raise rfl (takes_of rfl rfl rfl rfl) (pmk_own PySem.F.excBase_ValueError T.ex_BadRow.x T.ex_BadRow.g T.ex_BadRow.k (raises_own T.ex_BadRow.b T.ex_BadRow.t) (by rfl)))) pss_nil)))
      (pss_one (ps_ret (pe_callTy call_list_of (by rfl) T.no_list boot_list (pa_cons (pv 0) pa_nil)))))), ?_⟩
    have hlen := hT.len
    refine ⟨_, rfl, a, _, rfl, .inl hS, _, _, rfl, rfl, _, rfl, iteD (fun c => ?_) (fun c => ?_)⟩
    · refine kE H ?_ (Same.refl _)
      unfold goodRows
      rw [decide_eq_false (by omega), Bool.false_and]
    have hle : os.length ≤ 200 := by omega
    have bad : ∀ (i : Nat) (o : Option (List V)), os[i]? = some o → fitsO size (os.length : Int) o = false → goodRows size os = false := fun i o ho hf => by
      unfold goodRows
      have : os.all (fitsO size (os.length : Int)) = false := by
        rw [← Bool.not_eq_true, List.all_eq_true]
        intro z
        have := z o (List.mem_of_getElem? ho)
        rw [hf] at this
        cases this
      rw [this, Bool.and_false]
    refine ⟨_, rfl, a, rfl, ⟨_, hS⟩, for_list (K := K) (a := a) (xs := ys) (fun i σ H' => ∃ v2, σ = [some (.ref a), some (.int size), v2] ∧ Same H H' ∧ ∀ (j : Nat) (o : Option (List V)), j < i → os[j]? = some o → fitsO size (os.length : Int) o = true)
      ⟨none, rfl, Same.refl _, fun j _ hj => absurd hj (Nat.not_lt_zero _)⟩ (fun i σ H' _ ⟨_, _, s1, _⟩ => s1.seq hS) ?_ ?_⟩
    · rintro i y σ H' hy ⟨v2, rfl, s1, hall⟩
      obtain ⟨o, ho⟩ : ∃ o, os[i]? = some o := ⟨os[i]'(by have := (List.getElem?_eq_some_iff.mp hy).1; omega), List.getElem?_eq_getElem _⟩
      have hth := (hT.at_ i y o hy ho).same s1
      refine ⟨_, rfl, _, rfl, _, rfl, a, _, rfl, .inl (s1.seq hS), y, o, size, (os.length : Int), by rw [hlen], hth, fun H2 s2 => ⟨_, rfl, iteBN (fun c2 => ?_) (fun c2 => ?_)⟩⟩
      · exact kE H2 (bad i o ho c2) (s1.trans s2)
      · refine ⟨_, rfl, s1.trans s2, fun j o' hj ho' => ?_⟩
        by_cases ej : j = i
        · subst ej
          rw [ho] at ho'
          cases ho'
          exact c2
        · exact hall j o' (by omega) ho'
    · rintro σ H' ⟨v2, rfl, s1, hall⟩
      refine ⟨_, rfl, a, _, rfl, .inl (s1.seq hS), fun p hp => ?_⟩
      refine kQ _ p ?_ (s1.trans (Same.new hp)) (s1.free hp) upd_same
      unfold goodRows
      rw [decide_eq_true hle, Bool.true_and, List.all_eq_true]
      intro o ho
      obtain ⟨j, hj, e⟩ := List.getElem_of_mem ho
      exact hall j o (by omega) (by rw [← e]; exact List.getElem?_eq_getElem hj)
/-! ### checked_boxes -/
def goodBoxes (ys : List V) : Bool := decide (1 ≤ ys.length ∧ ys.length ≤ 200) && ys.all fun y => wIn y 0 999999
def sp_checked_boxes (K : PySem.W.Frag) (cs : Cs) : Sp := fun vs H Q E => ∃ (a : Addr) (ys : List V), vs = [.ref a] ∧ SqL K H a ys ∧ (∀ y ∈ ys, Typ K H y) ∧ ys.length ≤ 1000 ∧
  (∀ H' p, goodBoxes ys = true → Same H H' → H p = none → H' p = some (.lst ys) → Q (.ref p) H') ∧ (∀ H', goodBoxes ys = false → Same H H' → E (.ref cs.C_BadBoxes) none H')
theorem ok_checked_boxes (T : Txt w K mg cs) (o_within : Ok P w K mg base CX0 1 cs.f_within cs.d_within ["number", "low", "high"] (sp_within K cs)) : Ok P w K mg base (L2.CX P w) 2 cs.f_checked_boxes cs.d_checked_boxes ["boxes"] (sp_checked_boxes K cs) := by
  refine T.fn_checked_boxes.okX sc_checked_boxes (fun vs H Q E h => ?_) (fun cdv A outer s H vs Q E hr h => ?_)
  · obtain ⟨a, ys, rfl, _⟩ := h
    rfl
  · obtain ⟨a, ys, rfl, hS, hT, hl, kQ, kE⟩ := h
    refine ⟨_, (pss_cons (ps_if (pt_jn (pt_not (pt_chain op_le op_le pe_int (pe_callB call_len_seq (by rfl) T.no_len PySem.boot_len (pa_cons (pv 0) pa_nil)) (pe_glob (v := .int 200) (by rfl) (T.gl_MOST).choose_spec ⟨_, rfl⟩)))) (pss_one (ps_raise rfl (takes_of rfl rfl rfl rfl) (pmk_own PySem.F.excBase_ValueError T.ex_BadBoxes.x T.ex_BadBoxes.g T.ex_BadBoxes.k (raises_own T.ex_BadBoxes.b T.ex_BadBoxes.t) (by rfl)))) pss_nil)
      (pss_cons (ps_for (passes_of rfl) rfl (pi_list (pv 0)) (pg_name (i := 1) sc_checked_boxes.nd rfl (Or.inl rfl)) (pss_one (ps_if (pt_not (pt_val (pe_callO o_within hr (by rfl) T.gl_within pass0 (pa_cons (pv 1) (pa_cons pe_int (pa_cons (pe_glob (v := .int 999999) (by rfl) (T.gl_GREATEST).choose_spec ⟨_, rfl⟩) pa_nil)))))) (pss_one (ps_raise rfl (takes_of rfl rfl rfl rfl) (pmk_own PySem.F.excBase_ValueError T.ex_BadBoxes.x T.ex_BadBoxes.g T.ex_BadBoxes.k (raises_own T.ex_BadBoxes.b T.ex_BadBoxes.t) (by rfl)))) pss_nil)))
      (pss_one (ps_ret (pe_callTy call_list_of (by rfl) T.no_list boot_list (pa_cons (pv 0) pa_nil)))))), ?_⟩
    refine ⟨fun b H' => b = !decide (1 ≤ ys.length ∧ ys.length ≤ 200) ∧ H' = H, ?_, ?_⟩
    · refine ⟨_, rfl, a, _, rfl, .inl hS, _, _, rfl, rfl, _, rfl, iteD (fun c => ?_) (fun c => ?_)⟩
      · have c' : 1 ≤ ys.length := by omega
        refine ⟨_, _, rfl, rfl, _, rfl, ?_, rfl⟩
        congr 1
        apply decide_eq_decide.mpr
        omega
      · refine ⟨_, rfl, ?_, rfl⟩
        rw [decide_eq_false (fun z => c (by omega))]
    rintro b H' ⟨rfl, rfl⟩
    refine iteN (fun c => ?_) (fun c => ?_)
    · refine kE _ ?_ (Same.refl _)
      unfold goodBoxes
      rw [decide_eq_false c, Bool.false_and]
    have bad : ∀ y ∈ ys, wIn y 0 999999 = false → goodBoxes ys = false := fun y hy hf => by
      unfold goodBoxes
      have : (ys.all fun y => wIn y 0 999999) = false := by
        rw [← Bool.not_eq_true, List.all_eq_true]
        intro z
        have := z y hy
        rw [hf] at this
        cases this
      rw [this, Bool.and_false]
    refine ⟨_, rfl, a, rfl, ⟨_, hS⟩, for_list (K := K) (a := a) (xs := ys) (fun i σ H2 => ∃ v1, σ = [some (.ref a), v1] ∧ H2 = H' ∧ ∀ (j : Nat) (y : V), j < i → ys[j]? = some y → wIn y 0 999999 = true)
      ⟨none, rfl, rfl, fun j _ hj => absurd hj (Nat.not_lt_zero _)⟩ (fun i σ H2 _ ⟨_, _, e, _⟩ => by rw [e]; exact hS) ?_ ?_⟩
    · rintro i y σ H2 hy ⟨v1, rfl, rfl, hall⟩
      have hm := List.mem_of_getElem? hy
      refine ⟨_, rfl, y, 0, 999999, rfl, hT y hm, _, rfl, iteBN (fun c2 => ?_) (fun c2 => ?_)⟩
      · exact kE _ (bad y hm c2) (Same.refl _)
      · refine ⟨_, rfl, rfl, fun j y' hj hy' => ?_⟩
        by_cases ej : j = i
        · subst ej
          rw [hy] at hy'
          cases hy'
          exact c2
        · exact hall j y' (by omega) hy'
    · rintro σ H2 ⟨v1, rfl, rfl, hall⟩
      refine ⟨_, rfl, a, _, rfl, .inl hS, fun p hp => ?_⟩
      refine kQ _ p ?_ (Same.new hp) hp upd_same
      unfold goodBoxes
      rw [decide_eq_true c, Bool.true_and, List.all_eq_true]
      intro y hy
      obtain ⟨j, hj, e⟩ := List.getElem_of_mem hy
      exact hall j y hj (by rw [← e]; exact List.getElem?_eq_getElem hj)
/-- what others know stays -/
def Bey (F : List Addr) (H : Hp) (F' : List Addr) (H' : Hp) : Prop := ∀ G : Hp, Same G H → (∀ b ∈ F, G b = none) → Same G H' ∧ ∀ b ∈ F', G b = none
theorem Bey.refl {F : List Addr} {H : Hp} : Bey F H F H := fun G s f => ⟨s, f⟩
theorem Bey.trans {F F' F'' : List Addr} {H H' H'' : Hp} (a : Bey F H F' H') (b : Bey F' H' F'' H'') : Bey F H F'' H'' := fun G s f => let ⟨s', f'⟩ := a G s f; b G s' f'
theorem Bey.same {F : List Addr} {H H' : Hp} (s : Same H H') : Bey F H F H' := fun G g f => ⟨g.trans s, f⟩
/-- an own place changes -/
theorem Bey.own {F : List Addr} {H : Hp} {a : Addr} {o : HO} (h : a ∈ F) : Bey F H F (upd H a o) := fun G g f => ⟨g.mut (f a h), f⟩
/-- a new own place -/
theorem Bey.new {F : List Addr} {H : Hp} {a : Addr} {o : HO} (h : H a = none) : Bey F H (F ++ [a]) (upd H a o) := fun G g f => ⟨g.mut (g.free h), fun b hb => by
  rcases List.mem_append.mp hb with z | z
  · exact f b z
  · simp only [List.mem_cons, List.not_mem_nil, or_false] at z
    rw [z]
    exact g.free h⟩
theorem Bey.sub {F F' F'' : List Addr} {H H' : Hp} (a : Bey F H F' H') (h : ∀ b ∈ F'', b ∈ F') : Bey F H F'' H' := fun G g f => let ⟨s', f'⟩ := a G g f; ⟨s', fun b hb => f' b (h b hb)⟩
/-! ### what the law knows beside a holder -/
structure Part (G H : Hp) (F : List Addr) : Prop where
  same : Same G H
  free : ∀ b ∈ F, G b = none
theorem Part.bey {G H H' : Hp} {F F' : List Addr} (p : Part G H F) (b : Bey F H F' H') : Part G H' F' := let ⟨s, f⟩ := b G p.same p.free; ⟨s, f⟩
theorem Part.keep {G H H' : Hp} {F : List Addr} (p : Part G H F) (s : Same H H') : Part G H' F := ⟨p.same.trans s, p.free⟩
theorem Part.new {G H H' : Hp} {F : List Addr} (p : Part G H F) {a : Addr} {o : HO} (s : Same H H') (n : H a = none) (e : H' a = some o) (d : ∀ b ∈ F, H b ≠ none) : Part (upd G a o) H' F := by
  refine ⟨fun b x hb => ?_, fun b hb => ?_⟩
  · by_cases q : b = a
    · subst q
      rw [upd_same] at hb
      rw [← hb]
      exact e
    · rw [upd_ne q] at hb
      exact s _ _ (p.same _ _ hb)
  · rw [upd_ne (fun q => d b hb (by rw [q]; exact n))]
    exact p.free b hb
theorem Part.mut {G H : Hp} {F : List Addr} (p : Part G H F) {a : Addr} {o o' : HO} (h : G a = some o') : Part (upd G a o) (upd H a o) F ∧ a ∉ F := by
  have hn : a ∉ F := fun z => by
    rw [p.free a z] at h
    cases h
  refine ⟨⟨fun b x hb => ?_, fun b hb => ?_⟩, hn⟩
  · by_cases q : b = a
    · subst q
      rw [upd_same] at hb ⊢
      exact hb
    · rw [upd_ne q] at hb ⊢
      exact p.same _ _ hb
  · rw [upd_ne (fun q => hn (by rw [← q]; exact hb))]
    exact p.free b hb
/-! ### rows, the machine -/
inductive Rw where
  | set (b n : Int)
  | copy (b c : Int)
  | add (b c d : Int)
  | sub (b c d : Int)
  | fetch (b c : Int)
  | store (b c : Int)
  | less (b c p : Int)
  | jump (p : Int)
  | tell (b : Int)
def Rw.vs : Rw → List V
  | .set b n => [.str "set", .int b, .int n]
  | .copy b c => [.str "copy", .int b, .int c]
  | .add b c d => [.str "add", .int b, .int c, .int d]
  | .sub b c d => [.str "sub", .int b, .int c, .int d]
  | .fetch b c => [.str "fetch", .int b, .int c]
  | .store b c => [.str "store", .int b, .int c]
  | .less b c p => [.str "less", .int b, .int c, .int p]
  | .jump p => [.str "jump", .int p]
  | .tell b => [.str "tell", .int b]
/-- i is a box -/
def Bx (size i : Int) : Prop := 0 ≤ i ∧ i < size
def Pl (count p : Int) : Prop := 0 ≤ p ∧ p ≤ count
def Rw.Fit (size count : Int) : Rw → Prop
  | .set b n => Bx size b ∧ Pl 999999 n
  | .copy b c => Bx size b ∧ Bx size c
  | .add b c d => Bx size b ∧ Bx size c ∧ Bx size d
  | .sub b c d => Bx size b ∧ Bx size c ∧ Bx size d
  | .fetch b c => Bx size b ∧ Bx size c
  | .store b c => Bx size b ∧ Bx size c
  | .less b c p => Bx size b ∧ Bx size c ∧ Pl count p
  | .jump p => Pl count p
  | .tell b => Bx size b
structure MS where
  bx : List Int
  log : List Tch
  told : List Int
  place : Int
def rd (bx : List Int) (i : Int) : Int := bx.getD i.toNat 0
def wrt (bx : List Int) (i n : Int) : List Int := bx.set i.toNat n
/-- the boxes behind a row -/
def Rw.bx' (size : Int) (bx : List Int) : Rw → List Int
  | .set b n => wrt bx b n
  | .copy b c => wrt bx b (rd bx c)
  | .add b c d => wrt bx b ((rd bx c + rd bx d) % 1000000)
  | .sub b c d => wrt bx b ((rd bx c - rd bx d) % 1000000)
  | .fetch b c => wrt bx b (rd bx (rd bx c % size))
  | .store b c => wrt bx (rd bx b % size) (rd bx c)
  | _ => bx
/-- the touches of a row -/
def Rw.tch (size : Int) (bx : List Int) : Rw → List Tch
  | .set b _ => [(true, b)]
  | .copy b c => [(false, c), (true, b)]
  | .add b c d => [(false, c), (false, d), (true, b)]
  | .sub b c d => [(false, c), (false, d), (true, b)]
  | .fetch b c => [(false, c), (false, rd bx c % size), (true, b)]
  | .store b c => [(false, b), (false, c), (true, rd bx b % size)]
  | .less b c _ => [(false, b), (false, c)]
  | .jump _ => []
  | .tell b => [(false, b)]
def Rw.out (bx : List Int) : Rw → List Int
  | .tell b => [rd bx b]
  | _ => []
def Rw.nxt (bx : List Int) (place : Int) : Rw → Int
  | .jump p => p
  | .less b c p => if rd bx b < rd bx c then p else place + 1
  | _ => place + 1
def Rw.step (size : Int) (m : MS) (r : Rw) : MS := ⟨r.bx' size m.bx, m.log ++ r.tch size m.bx, m.told ++ r.out m.bx, r.nxt m.bx m.place⟩
def goM (rs : List Rw) (size : Int) : Nat → MS → MS
  | 0, m => m
  | k + 1, m => match rs[m.place.toNat]? with
    | some r => goM rs size k (r.step size m)
    | none => m
def endS (rs : List Rw) (m : MS) : Str := if m.place < (rs.length : Int) then "steps" else "over"
theorem wrt_len (bx : List Int) (i n : Int) : (wrt bx i n).length = bx.length := List.length_set
theorem bx_len (size : Int) (bx : List Int) (r : Rw) : (r.bx' size bx).length = bx.length := by
  cases r <;> first | rfl | exact wrt_len _ _ _
theorem rd_at {bx : List Int} {i : Int} (h : Bx (bx.length : Int) i) : atI (bx.map V.int) i = some (.int (rd bx i)) := at_getD h.1 h.2
/-- the touches ahead of going on, and those in it -/
def Rw.pre (size : Int) (bx : List Int) : Rw → List Tch
  | .less _ _ _ => []
  | r => r.tch size bx
def Rw.g : Rw → List Tch
  | .less b c _ => [(false, b), (false, c)]
  | _ => []
theorem pre_g (size : Int) (bx : List Int) (r : Rw) : r.pre size bx ++ r.g = r.tch size bx := by
  cases r <;> first | rfl | exact List.append_nil _
theorem nxt_bx (size : Int) (bx : List Int) (r : Rw) (place : Int) : r.nxt (r.bx' size bx) place = r.nxt bx place := by
  cases r <;> rfl
theorem nxt_ok {size count : Int} {r : Rw} (hf : r.Fit size count) (bx : List Int) {place : Int} (h0 : 0 ≤ place) (h1 : place < count) : 0 ≤ r.nxt bx place ∧ r.nxt bx place ≤ count := by
  cases r with
  | jump p => exact hf
  | less b c p =>
    show 0 ≤ (if rd bx b < rd bx c then p else place + 1) ∧ (if rd bx b < rd bx c then p else place + 1) ≤ count
    by_cases q : rd bx b < rd bx c
    · rw [if_pos q]
      exact hf.2.2
    · rw [if_neg q]
      omega
  | _ => exact ⟨by show 0 ≤ place + 1; omega, by show place + 1 ≤ count; omega⟩
theorem out_len (bx : List Int) (r : Rw) : (r.out bx).length ≤ 1 := by
  cases r <;> first | exact Nat.zero_le _ | exact Nat.le_refl _
theorem tch_len (size : Int) (bx : List Int) (r : Rw) : (r.tch size bx).length ≤ 3 := by
  cases r <;> simp [Rw.tch]
/-- rows that fit -/
theorem lit_p : ("p" : Str) = ⟨#[112]⟩ := by decide +kernel
theorem wIn_iff {x : V} {lo hi : Int} (h : wIn x lo hi = true) : ∃ i, x = .int i ∧ lo ≤ i ∧ i ≤ hi := by
  obtain ⟨i, e, a, b⟩ := wIn_int h
  exact ⟨i, e, a, b⟩
theorem wIn_of {i lo hi : Int} (h : lo ≤ i ∧ i ≤ hi) : wIn (.int i) lo hi = true := by
  show (decide (lo ≤ i) && decide (i ≤ hi)) = true
  rw [decide_eq_true h.1, decide_eq_true h.2]
  rfl
theorem pf_b {size count : Int} {cs : List Nat} {xs : List V} (h : partsFit size count (98 :: cs) xs = true) : ∃ i r, xs = .int i :: r ∧ Bx size i ∧ partsFit size count cs r = true := by
  cases xs with
  | nil => cases h
  | cons x r =>
    have h' : (partB 98 x size count && partsFit size count cs r) = true := h
    rw [Bool.and_eq_true] at h'
    obtain ⟨i, e, a, b⟩ := wIn_iff (show wIn x 0 (size - 1) = true from h'.1)
    exact ⟨i, r, by rw [e], ⟨a, by omega⟩, h'.2⟩
theorem pf_n {size count : Int} {cs : List Nat} {xs : List V} (h : partsFit size count (110 :: cs) xs = true) : ∃ i r, xs = .int i :: r ∧ Pl 999999 i ∧ partsFit size count cs r = true := by
  cases xs with
  | nil => cases h
  | cons x r =>
    have h' : (partB 110 x size count && partsFit size count cs r) = true := h
    rw [Bool.and_eq_true] at h'
    obtain ⟨i, e, a, b⟩ := wIn_iff (show wIn x 0 999999 = true from h'.1)
    exact ⟨i, r, by rw [e], ⟨a, by omega⟩, h'.2⟩
theorem pf_p {size count : Int} {cs : List Nat} {xs : List V} (h : partsFit size count (112 :: cs) xs = true) : ∃ i r, xs = .int i :: r ∧ Pl count i ∧ partsFit size count cs r = true := by
  cases xs with
  | nil => cases h
  | cons x r =>
    have h' : (partB 112 x size count && partsFit size count cs r) = true := h
    rw [Bool.and_eq_true] at h'
    obtain ⟨i, e, a, b⟩ := wIn_iff (show wIn x 0 count = true from h'.1)
    exact ⟨i, r, by rw [e], ⟨a, by omega⟩, h'.2⟩
theorem pf_nil {size count : Int} {xs : List V} (h : partsFit size count [] xs = true) : xs = [] := by
  cases xs with
  | nil => rfl
  | cons x r => cases h
theorem m_bn : ("bn" : Str).cps.toList = [98, 110] := by decide +kernel
theorem m_bb : ("bb" : Str).cps.toList = [98, 98] := by decide +kernel
theorem m_bbb : ("bbb" : Str).cps.toList = [98, 98, 98] := by decide +kernel
theorem m_bbp : ("bbp" : Str).cps.toList = [98, 98, 112] := by decide +kernel
theorem m_p : ("p" : Str).cps.toList = [112] := by decide +kernel
theorem m_b : ("b" : Str).cps.toList = [98] := by decide +kernel
theorem fits_row {size count : Int} {xs : List V} (h : fitsV size count xs = true) : ∃ r : Rw, xs = r.vs ∧ r.Fit size count := by
  cases xs with
  | nil => cases h
  | cons v xs =>
    cases v with
    | str z =>
      have h' : (match partsM z with
        | none => false
        | some m => partsFit size count m.cps.toList xs) = true := h
      unfold partsM at h'
      by_cases e1 : z = "set"
      · rw [if_pos e1] at h'
        have h' : partsFit size count ("bn" : Str).cps.toList xs = true := h'
        rw [m_bn] at h'
        obtain ⟨b, r, rfl, f1, h'⟩ := pf_b h'
        obtain ⟨n, r, rfl, f2, h'⟩ := pf_n h'
        cases pf_nil h'
        exact ⟨.set b n, by rw [e1]; rfl, f1, f2⟩
      rw [if_neg e1] at h'
      by_cases e2 : z = "copy"
      · rw [if_pos e2] at h'
        have h' : partsFit size count ("bb" : Str).cps.toList xs = true := h'
        rw [m_bb] at h'
        obtain ⟨b, r, rfl, f1, h'⟩ := pf_b h'
        obtain ⟨n, r, rfl, f2, h'⟩ := pf_b h'
        cases pf_nil h'
        exact ⟨.copy b n, by rw [e2]; rfl, f1, f2⟩
      rw [if_neg e2] at h'
      by_cases e3 : z = "add"
      · rw [if_pos e3] at h'
        have h' : partsFit size count ("bbb" : Str).cps.toList xs = true := h'
        rw [m_bbb] at h'
        obtain ⟨b, r, rfl, f1, h'⟩ := pf_b h'
        obtain ⟨c, r, rfl, f2, h'⟩ := pf_b h'
        obtain ⟨d, r, rfl, f3, h'⟩ := pf_b h'
        cases pf_nil h'
        exact ⟨.add b c d, by rw [e3]; rfl, f1, f2, f3⟩
      rw [if_neg e3] at h'
      by_cases e4 : z = "sub"
      · rw [if_pos e4] at h'
        have h' : partsFit size count ("bbb" : Str).cps.toList xs = true := h'
        rw [m_bbb] at h'
        obtain ⟨b, r, rfl, f1, h'⟩ := pf_b h'
        obtain ⟨c, r, rfl, f2, h'⟩ := pf_b h'
        obtain ⟨d, r, rfl, f3, h'⟩ := pf_b h'
        cases pf_nil h'
        exact ⟨.sub b c d, by rw [e4]; rfl, f1, f2, f3⟩
      rw [if_neg e4] at h'
      by_cases e5 : z = "fetch"
      · rw [if_pos e5] at h'
        have h' : partsFit size count ("bb" : Str).cps.toList xs = true := h'
        rw [m_bb] at h'
        obtain ⟨b, r, rfl, f1, h'⟩ := pf_b h'
        obtain ⟨n, r, rfl, f2, h'⟩ := pf_b h'
        cases pf_nil h'
        exact ⟨.fetch b n, by rw [e5]; rfl, f1, f2⟩
      rw [if_neg e5] at h'
      by_cases e6 : z = "store"
      · rw [if_pos e6] at h'
        have h' : partsFit size count ("bb" : Str).cps.toList xs = true := h'
        rw [m_bb] at h'
        obtain ⟨b, r, rfl, f1, h'⟩ := pf_b h'
        obtain ⟨n, r, rfl, f2, h'⟩ := pf_b h'
        cases pf_nil h'
        exact ⟨.store b n, by rw [e6]; rfl, f1, f2⟩
      rw [if_neg e6] at h'
      by_cases e7 : z = "less"
      · rw [if_pos e7] at h'
        have h' : partsFit size count ("bbp" : Str).cps.toList xs = true := h'
        rw [m_bbp] at h'
        obtain ⟨b, r, rfl, f1, h'⟩ := pf_b h'
        obtain ⟨c, r, rfl, f2, h'⟩ := pf_b h'
        obtain ⟨d, r, rfl, f3, h'⟩ := pf_p h'
        cases pf_nil h'
        exact ⟨.less b c d, by rw [e7]; rfl, f1, f2, f3⟩
      rw [if_neg e7] at h'
      by_cases e8 : z = "jump"
      · rw [if_pos e8] at h'
        have h' : partsFit size count ("p" : Str).cps.toList xs = true := h'
        rw [m_p] at h'
        obtain ⟨b, r, rfl, f1, h'⟩ := pf_p h'
        cases pf_nil h'
        exact ⟨.jump b, by rw [e8]; rfl, f1⟩
      rw [if_neg e8] at h'
      by_cases e9 : z = "tell"
      · rw [if_pos e9] at h'
        have h' : partsFit size count ("b" : Str).cps.toList xs = true := h'
        rw [m_b] at h'
        obtain ⟨b, r, rfl, f1, h'⟩ := pf_b h'
        cases pf_nil h'
        exact ⟨.tell b, by rw [e9]; rfl, f1⟩
      rw [if_neg e9] at h'
      cases h'
    | _ => cases h
theorem fb {size count i : Int} {cs : List Nat} {r : List V} (h : Bx size i) (q : partsFit size count cs r = true) : partsFit size count (98 :: cs) (.int i :: r) = true := by
  show (wIn (.int i) 0 (size - 1) && partsFit size count cs r) = true
  rw [wIn_of ⟨h.1, by have := h.2; omega⟩, q]
  rfl
theorem fn {size count i : Int} {cs : List Nat} {r : List V} (h : Pl 999999 i) (q : partsFit size count cs r = true) : partsFit size count (110 :: cs) (.int i :: r) = true := by
  show (wIn (.int i) 0 999999 && partsFit size count cs r) = true
  rw [wIn_of h, q]
  rfl
theorem fp {size count i : Int} {cs : List Nat} {r : List V} (h : Pl count i) (q : partsFit size count cs r = true) : partsFit size count (112 :: cs) (.int i :: r) = true := by
  show (wIn (.int i) 0 count && partsFit size count cs r) = true
  rw [wIn_of h, q]
  rfl
theorem parts_of {size count : Int} {z m : Str} {cs : List Nat} {xs : List V} (h : partsM z = some m) (hm : m.cps.toList = cs) (q : partsFit size count cs xs = true) : fitsV size count (.str z :: xs) = true := by
  show (match partsM z with
    | none => false
    | some m => partsFit size count m.cps.toList xs) = true
  rw [h]
  show partsFit size count m.cps.toList xs = true
  rw [hm]
  exact q
theorem row_fits {size count : Int} {r : Rw} (h : r.Fit size count) : fitsV size count r.vs = true := by
  cases r with
  | set b n => exact parts_of (m := "bn") (by decide +kernel) m_bn (fb h.1 (fn h.2 rfl))
  | copy b c => exact parts_of (m := "bb") (by decide +kernel) m_bb (fb h.1 (fb h.2 rfl))
  | add b c d => exact parts_of (m := "bbb") (by decide +kernel) m_bbb (fb h.1 (fb h.2.1 (fb h.2.2 rfl)))
  | sub b c d => exact parts_of (m := "bbb") (by decide +kernel) m_bbb (fb h.1 (fb h.2.1 (fb h.2.2 rfl)))
  | fetch b c => exact parts_of (m := "bb") (by decide +kernel) m_bb (fb h.1 (fb h.2 rfl))
  | store b c => exact parts_of (m := "bb") (by decide +kernel) m_bb (fb h.1 (fb h.2 rfl))
  | less b c p => exact parts_of (m := "bbp") (by decide +kernel) m_bbp (fb h.1 (fb h.2.1 (fp h.2.2 rfl)))
  | jump p => exact parts_of (m := "p") (by decide +kernel) m_p (fp h rfl)
  | tell b => exact parts_of (m := "b") (by decide +kernel) m_b (fb h rfl)
/-- at the items of a list the rows rs -/
structure RL (H : Hp) (ys : List V) (rs : List Rw) : Prop where
  len : ys.length = rs.length
  at_ : ∀ (i : Nat) (r : Rw), rs[i]? = some r → ∃ a, ys[i]? = some (.ref a) ∧ H a = some (.tup r.vs)
theorem RL.same {H H' : Hp} {ys : List V} {rs : List Rw} (h : RL H ys rs) (s : Same H H') : RL H' ys rs := ⟨h.len, fun i r e => let ⟨a, e1, q⟩ := h.at_ i r e; ⟨a, e1, s _ _ q⟩⟩
theorem RL.but {H : Hp} {ys : List V} {rs : List Rw} {l : Addr} {zs : List V} {o : HO} (h : RL H ys rs) (hl : H l = some (.lst zs)) : RL (upd H l o) ys rs := ⟨h.len, fun i r e => let ⟨a, e1, q⟩ := h.at_ i r e; ⟨a, e1, by rw [upd_ne (ne_of q hl (by intro z; cases z))]; exact q⟩⟩
theorem RL.nil {H : Hp} : RL H [] [] := ⟨rfl, fun i r e => by simp at e⟩
theorem RL.snoc {H : Hp} {ys : List V} {rs : List Rw} {a : Addr} {r : Rw} (h : RL H ys rs) (q : H a = some (.tup r.vs)) : RL H (ys ++ [.ref a]) (rs ++ [r]) := by
  refine ⟨by rw [List.length_append, List.length_append, h.len]; rfl, fun i u e => ?_⟩
  by_cases hi : i < rs.length
  · rw [List.getElem?_append_left hi] at e
    obtain ⟨x, e1, q1⟩ := h.at_ i u e
    exact ⟨x, by rw [List.getElem?_append_left (by rw [h.len]; exact hi)]; exact e1, q1⟩
  · have hlt := (List.getElem?_eq_some_iff.mp e).1
    rw [List.length_append] at hlt
    have hi2 : i = rs.length := by
      simp only [List.length_cons, List.length_nil] at hlt
      omega
    subst hi2
    rw [List.getElem?_append_right (Nat.le_refl _), Nat.sub_self] at e
    have et : r = u := Option.some.inj e
    subst et
    refine ⟨a, ?_, q⟩
    rw [← h.len, List.getElem?_append_right (Nat.le_refl _), Nat.sub_self]
    rfl
def rowO (r : Rw) : Option (List V) := some r.vs
theorem vs_typ {K : PySem.W.Frag} {H : Hp} (r : Rw) : ∀ v ∈ r.vs, Typ K H v := by
  intro v hv
  cases r <;> (simp only [Rw.vs, List.mem_cons, List.not_mem_nil, or_false] at hv) <;> (repeat' (rcases hv with rfl | hv)) <;> first | exact typ_s _ | exact typ_i _ | (subst hv; exact typ_i _) | skip
theorem vs_len (r : Rw) : r.vs.length ≤ 4 := by
  cases r <;> simp [Rw.vs]
theorem RL.things {K : PySem.W.Frag} {H : Hp} {ys : List V} {rs : List Rw} (h : RL H ys rs) : Things K H ys (rs.map rowO) := by
  refine ⟨by rw [h.len, List.length_map], fun i y o e1 e2 => ?_⟩
  obtain ⟨r, hr, rfl⟩ := of_get_mapG e2
  obtain ⟨a, e3, q⟩ := h.at_ i r hr
  rw [e1] at e3
  cases e3
  exact ⟨a, rfl, q, vs_typ r, by have := vs_len r; omega⟩
theorem good_rows {size : Int} {rs : List Rw} (hl : rs.length ≤ 200) (h : ∀ r ∈ rs, r.Fit size (rs.length : Int)) : goodRows size (rs.map rowO) = true := by
  unfold goodRows
  rw [List.length_map, decide_eq_true hl, Bool.true_and, List.all_eq_true]
  intro o ho
  obtain ⟨r, hr, rfl⟩ := List.mem_map.mp ho
  exact row_fits (h r hr)
/-- good rows are rows -/
theorem rows_good {size : Int} {os : List (Option (List V))} (h : goodRows size os = true) : ∃ rs : List Rw, os = rs.map rowO ∧ rs.length ≤ 200 ∧ ∀ r ∈ rs, r.Fit size (rs.length : Int) := by
  unfold goodRows at h
  rw [Bool.and_eq_true] at h
  have hl : os.length ≤ 200 := of_decide_eq_true h.1
  have main : ∀ (c : Int) (os : List (Option (List V))), os.all (fitsO size c) = true → ∃ rs : List Rw, os = rs.map rowO ∧ ∀ r ∈ rs, r.Fit size c := by
    intro c os
    induction os with
    | nil => exact fun _ => ⟨[], rfl, fun r hr => by cases hr⟩
    | cons o t ih =>
      intro h
      rw [List.all_cons, Bool.and_eq_true] at h
      obtain ⟨rs, e, f⟩ := ih h.2
      cases o with
      | none => exact nomatch (show false = true from h.1)
      | some xs =>
        obtain ⟨r, er, fr⟩ := fits_row (show fitsV size c xs = true from h.1)
        exact ⟨r :: rs, by rw [e, er]; rfl, fun z hz => (List.mem_cons.mp hz).elim (fun q => by rw [q]; exact fr) (f z)⟩
  obtain ⟨rs, e, f⟩ := main _ os h.2
  have el : os.length = rs.length := by rw [e, List.length_map]
  exact ⟨rs, e, by omega, by rw [← el]; exact f⟩
theorem Things.rows {K : PySem.W.Frag} {H : Hp} {ys : List V} {rs : List Rw} (h : Things K H ys (rs.map rowO)) : RL H ys rs := by
  have hl : ys.length = rs.length := by rw [h.len, List.length_map]
  refine ⟨hl, fun i r e => ?_⟩
  have hi := (List.getElem?_eq_some_iff.mp e).1
  obtain ⟨a, e1, e2, _⟩ := h.at_ i ys[i] (rowO r) (List.getElem?_eq_getElem (by omega)) (by rw [List.getElem?_map, e]; rfl)
  exact ⟨a, by rw [List.getElem?_eq_getElem (by omega), e1], e2⟩
/-! ### Plain -/
def plFs (ba ta : Addr) : List (Str × V) := [("boxes", .ref ba), ("touches", .ref ta)]
theorem lk_boxes {ba ta : Addr} : (plFs ba ta).lookup ("boxes" : Str) = some (.ref ba) := by rfl
theorem lk_touches {ba ta : Addr} : (plFs ba ta).lookup ("touches" : Str) = some (.ref ta) := by rfl
structure PlainX (cs : Cs) (K : PySem.W.Frag) (H : Hp) (p : Addr) (bx : List Int) (log : List Tch) (dx ba ta : Addr) (xs : List V) : Prop where
  n1 : p ≠ ba
  n2 : p ≠ ta
  n3 : ba ≠ ta
  h1 : H p = some (.ins cs.C_Plain dx (plFs ba ta))
  h2 : H ba = some (.lst (bx.map V.int))
  h3 : H ta = some (.lst xs)
  tl : TL K H xs log
def PlainAt (cs : Cs) (K : PySem.W.Frag) (H : Hp) (p : Addr) (bx : List Int) (log : List Tch) (F : List Addr) : Prop := ∃ dx ba ta xs, F = [p, ba, ta] ∧ PlainX cs K H p bx log dx ba ta xs
theorem PlainAt.same {cs : Cs} {K : PySem.W.Frag} {H H' : Hp} {p : Addr} {bx : List Int} {log : List Tch} {F : List Addr} (h : PlainAt cs K H p bx log F) (s : Same H H') : PlainAt cs K H' p bx log F := by
  obtain ⟨dx, ba, ta, xs, e, X⟩ := h
  exact ⟨dx, ba, ta, xs, e, X.n1, X.n2, X.n3, s _ _ X.h1, s _ _ X.h2, s _ _ X.h3, X.tl.same s⟩
theorem PlainAt.but {cs : Cs} {K : PySem.W.Frag} {H : Hp} {p : Addr} {bx : List Int} {log : List Tch} {F : List Addr} (h : PlainAt cs K H p bx log F) {D : Addr} {ys : List V} {o : HO} (n : D ∉ F) (hl : H D = some (.lst ys)) : PlainAt cs K (upd H D o) p bx log F := by
  obtain ⟨dx, ba, ta, xs, e, X⟩ := h
  rw [e] at n
  simp only [List.mem_cons, List.not_mem_nil, or_false, not_or] at n
  exact ⟨dx, ba, ta, xs, e, X.n1, X.n2, X.n3, by rw [upd_ne (fun z => n.1 z.symm)]; exact X.h1, by rw [upd_ne (fun z => n.2.1 z.symm)]; exact X.h2, by rw [upd_ne (fun z => n.2.2 z.symm)]; exact X.h3, X.tl.but hl⟩
theorem PlainAt.dom {cs : Cs} {K : PySem.W.Frag} {H : Hp} {p : Addr} {bx : List Int} {log : List Tch} {F : List Addr} (h : PlainAt cs K H p bx log F) : ∀ b ∈ F, H b ≠ none := by
  obtain ⟨dx, ba, ta, xs, e, X⟩ := h
  intro b hb z
  rw [e] at hb
  simp only [List.mem_cons, List.not_mem_nil, or_false] at hb
  rcases hb with rfl | rfl | rfl
  · rw [X.h1] at z; cases z
  · rw [X.h2] at z; cases z
  · rw [X.h3] at z; cases z
def sp_Plain___init__ (K : PySem.W.Frag) (cs : Cs) : Sp := fun vs H Q _ => ∃ (p dx b : Addr) (bx : List Int), vs = [.ref p, .ref b] ∧ H p = some (.ins cs.C_Plain dx []) ∧ SqL K H b (bx.map V.int) ∧
  ∀ H' F', PlainAt cs K H' p bx [] F' → Bey [p] H F' H' → Q .non H'
theorem ok_Plain___init__ (T : Txt w K mg cs)  : Ok P w K mg base CX0 1 cs.f_Plain___init__ cs.d_Plain___init__ ["self", "boxes"] (sp_Plain___init__ K cs) := by
  refine T.fn_Plain___init__.ok sc_Plain___init__ (fun vs H Q E h => ?_) (fun cdv A outer s H vs Q E hr h => ?_)
  · obtain ⟨p, dx, b, bx, rfl, _⟩ := h
    rfl
  · obtain ⟨p, dx, b, bx, rfl, hp, hS, q⟩ := h
    refine ⟨_, (pss_cons (ps_fld (pv 0) (pe_callTy call_list_of (by rfl) T.no_list boot_list (pa_cons (pv 1) pa_nil)) rfl)
      (pss_one (ps_fld (pv 0) (pe_lst pa_nil) rfl))), ?_⟩
    refine ⟨_, rfl, b, _, rfl, .inl hS, fun ba nba => ?_⟩
    have n1 : p ≠ ba := ne_of_none hp nba
    have s1 : Same H (upd H ba (.lst (bx.map V.int))) := Same.new nba
    refine ⟨_, rfl, p, cs.C_Plain, dx, [], rfl, s1 _ _ hp, T.cl_Plain, T.na_Plain_boxes, (by decide), ?_⟩
    refine ⟨Nat.zero_le _, fun ta nta => ?_⟩
    have n2 : p ≠ ta := ne_of_none upd_same nta
    have n3 : ba ≠ ta := ne_of_none (by rw [upd_ne n1.symm]; exact upd_same) nta
    refine ⟨_, rfl, p, cs.C_Plain, dx, _, rfl, (by rw [upd_ne n2]; exact upd_same), T.cl_Plain, T.na_Plain_touches, (by show 1 < 1000; decide), ?_⟩
    refine q _ [p, ba, ta] ⟨dx, ba, ta, [], rfl, n1, n2, n3, upd_same, ?_, ?_, TL.nil⟩ ?_
    · simp only [upd_ne n1.symm, upd_ne n3]
      exact upd_same
    · simp only [upd_ne n2.symm]
      exact upd_same
    · intro G g f
      have fp : G p = none := f p (by simp)
      have fb : G ba = none := g.free nba
      have ft : G ta = none := ((g.trans s1).mut fp).free nta
      refine ⟨((((g.trans s1).mut fp).mut ft)).mut fp, fun b hb => ?_⟩
      simp only [List.mem_cons, List.not_mem_nil, or_false] at hb
      rcases hb with rfl | rfl | rfl
      · exact fp
      · exact fb
      · exact ft
def sp_Plain_look (K : PySem.W.Frag) (cs : Cs) : Sp := fun vs H Q _ => ∃ (p : Addr) (i : Int) (bx : List Int) (log : List Tch) (F : List Addr), vs = [.ref p, .int i] ∧ PlainAt cs K H p bx log F ∧ Bx (bx.length : Int) i ∧ log.length < 100000 ∧
  ∀ H' F', PlainAt cs K H' p bx (log ++ [(false, i)]) F' → Bey F H F' H' → Q (.int (rd bx i)) H'
/-- a touch more -/
theorem PlainX.touch {cs : Cs} {K : PySem.W.Frag} {H : Hp} {p : Addr} {bx : List Int} {log : List Tch} {dx ba ta : Addr} {xs : List V} (X : PlainX cs K H p bx log dx ba ta xs) {t : Addr} (w : Bool) (i : Int) (nt : H t = none) :
    PlainX cs K (upd (upd H t (.tup [.str (kindS w), .int i])) ta (.lst (xs ++ [.ref t]))) p bx (log ++ [(w, i)]) dx ba ta (xs ++ [.ref t]) ∧ Bey [p, ba, ta] H [p, ba, ta] (upd (upd H t (.tup [.str (kindS w), .int i])) ta (.lst (xs ++ [.ref t]))) := by
  have s1 : Same H (upd H t (.tup [.str (kindS w), .int i])) := Same.new nt
  have h3 := s1 _ _ X.h3
  refine ⟨⟨X.n1, X.n2, X.n3, ?_, ?_, upd_same, ?_⟩, (Bey.same s1).trans (Bey.own (by simp))⟩
  · rw [upd_ne X.n2]
    exact s1 _ _ X.h1
  · rw [upd_ne X.n3]
    exact s1 _ _ X.h2
  · exact ((X.tl.same s1).but h3).snoc ⟨t, rfl, (SqT.of upd_same).but h3⟩
theorem ok_Plain_look (T : Txt w K mg cs)  : Ok P w K mg base CX0 1 cs.f_Plain_look cs.d_Plain_look ["self", "box"] (sp_Plain_look K cs) := by
  refine T.fn_Plain_look.ok sc_Plain_look (fun vs H Q E h => ?_) (fun cdv A outer s H vs Q E hr h => ?_)
  · obtain ⟨p, i, bx, log, F, rfl, _⟩ := h
    rfl
  · obtain ⟨p, i, bx, log, F, rfl, ⟨dx, ba, ta, xs, rfl, X⟩, hi, hl, q⟩ := h
    refine ⟨_, (pss_cons (ps_expr (pe_bm PySem.F.plainAttrs_list PySem.F.slot_list_append PySem.F.type_list_append mt_append (pe_fld (pv 0) rfl) (pa_cons (pe_tup (pa_cons pe_str (pa_cons (pv 1) pa_nil))) pa_nil)))
      (pss_one (ps_ret (pe_ix ix_list (pe_fld (pv 0) rfl) (pv 1) (fun _ _ => rfl))))), ?_⟩
    have hxl := X.tl.len
    refine ⟨_, rfl, p, cs.C_Plain, dx, _, _, rfl, X.h1, T.cl_Plain, T.na_Plain_touches, lk_touches, .inl ⟨rfl, _, SqL.of X.h3⟩, _, rfl, (by show 2 ≤ sizeLine; decide), fun t nt => ?_⟩
    have s1 : Same H (upd H t (.tup [.str "read", .int i])) := Same.new nt
    refine ⟨ta, _, _, rfl, rfl, s1 _ _ X.h3, sizeL (by omega), ?_⟩
    obtain ⟨X2, b2⟩ := X.touch false i nt
    exact ⟨_, rfl, p, cs.C_Plain, dx, _, _, rfl, X2.h1, T.cl_Plain, T.na_Plain_boxes, lk_boxes, _, rfl, ba, _, _, _, rfl, rfl, SqL.of X2.h2, rd_at hi, q _ _ ⟨dx, ba, ta, _, rfl, X2⟩ b2⟩
def sp_Plain_put (K : PySem.W.Frag) (cs : Cs) : Sp := fun vs H Q _ => ∃ (p : Addr) (i n : Int) (bx : List Int) (log : List Tch) (F : List Addr), vs = [.ref p, .int i, .int n] ∧ PlainAt cs K H p bx log F ∧ Bx (bx.length : Int) i ∧ log.length < 100000 ∧
  ∀ H' F', PlainAt cs K H' p (wrt bx i n) (log ++ [(true, i)]) F' → Bey F H F' H' → Q .non H'
theorem ok_Plain_put (T : Txt w K mg cs)  : Ok P w K mg base CX0 1 cs.f_Plain_put cs.d_Plain_put ["self", "box", "number"] (sp_Plain_put K cs) := by
  refine T.fn_Plain_put.ok sc_Plain_put (fun vs H Q E h => ?_) (fun cdv A outer s H vs Q E hr h => ?_)
  · obtain ⟨p, i, n, bx, log, F, rfl, _⟩ := h
    rfl
  · obtain ⟨p, i, n, bx, log, F, rfl, ⟨dx, ba, ta, xs, rfl, X⟩, hi, hl, q⟩ := h
    refine ⟨_, (pss_cons (ps_expr (pe_bm PySem.F.plainAttrs_list PySem.F.slot_list_append PySem.F.type_list_append mt_append (pe_fld (pv 0) rfl) (pa_cons (pe_tup (pa_cons pe_str (pa_cons (pv 1) pa_nil))) pa_nil)))
      (pss_one (ps_asg (pv 2) (pg_sub (pe_fld (pv 0) rfl) (pv 1) set_list)))), ?_⟩
    have hxl := X.tl.len
    refine ⟨_, rfl, p, cs.C_Plain, dx, _, _, rfl, X.h1, T.cl_Plain, T.na_Plain_touches, lk_touches, .inl ⟨rfl, _, SqL.of X.h3⟩, _, rfl, (by show 2 ≤ sizeLine; decide), fun t nt => ?_⟩
    have s1 : Same H (upd H t (.tup [.str "write", .int i])) := Same.new nt
    refine ⟨ta, _, _, rfl, rfl, s1 _ _ X.h3, sizeL (by omega), ?_⟩
    obtain ⟨X2, b2⟩ := X.touch true i nt
    have hix : ixN (bx.map V.int).length i = some i.toNat := by
      have := ix_nat (n := (bx.map V.int).length) (j := i.toNat) (by rw [List.length_map]; have := hi.1; have := hi.2; omega)
      rwa [Int.toNat_of_nonneg hi.1] at this
    refine ⟨_, rfl, _, rfl, p, cs.C_Plain, dx, _, _, rfl, X2.h1, T.cl_Plain, T.na_Plain_boxes, lk_boxes, _, rfl, ba, _, _, i.toNat, rfl, rfl, X2.h2, hix, ?_⟩
    rw [← List.map_set]
    refine q _ [p, ba, ta] ⟨dx, ba, ta, _, rfl, X2.n1, X2.n2, X2.n3, ?_, upd_same, ?_, X2.tl.but X2.h2⟩ (b2.trans (Bey.own (by simp)))
    · rw [upd_ne X2.n1]
      exact X2.h1
    · rw [upd_ne X2.n3.symm]
      exact X2.h3
/-! ### the holder of a run: Plain alone -/
abbrev Kd := Unit
def kdP : Kd := ()
def clsOf (cs : Cs) (_ : Kd) : Addr := cs.C_Plain
def Hold (cs : Cs) (K : PySem.W.Frag) (_ : Kd) (H : Hp) (p : Addr) (bx : List Int) (log : List Tch) (F : List Addr) : Prop := PlainAt cs K H p bx log F
section
variable {kd : Kd} {H H' : Hp} {p : Addr} {bx : List Int} {log : List Tch} {F : List Addr}
theorem Hold.same (h : Hold cs K kd H p bx log F) (s : Same H H') : Hold cs K kd H' p bx log F := PlainAt.same h s
theorem Hold.but (h : Hold cs K kd H p bx log F) {D : Addr} {ys : List V} {o : HO} (n : D ∉ F) (hl : H D = some (.lst ys)) : Hold cs K kd (upd H D o) p bx log F := PlainAt.but h n hl
theorem Hold.dom (h : Hold cs K kd H p bx log F) : ∀ b ∈ F, H b ≠ none := PlainAt.dom h
theorem Hold.ins (h : Hold cs K kd H p bx log F) : ∃ dx fs, H p = some (.ins (clsOf cs kd) dx fs) ∧ fs.lookup ("look" : Str) = none ∧ fs.lookup ("put" : Str) = none := by
  obtain ⟨dx, ba, ta, xs, e, X⟩ := h
  exact ⟨dx, _, X.h1, rfl, rfl⟩
end
def spHLook (K : PySem.W.Frag) (cs : Cs) (kd : Kd) : Sp := fun vs H Q _ => ∃ (p : Addr) (i : Int) (bx : List Int) (log : List Tch) (F : List Addr), vs = [.ref p, .int i] ∧ Hold cs K kd H p bx log F ∧ Bx (bx.length : Int) i ∧ log.length < 100000 ∧
  ∀ H' F', Hold cs K kd H' p bx (log ++ [(false, i)]) F' → Bey F H F' H' → Q (.int (rd bx i)) H'
def spHPut (K : PySem.W.Frag) (cs : Cs) (kd : Kd) : Sp := fun vs H Q _ => ∃ (p : Addr) (i n : Int) (bx : List Int) (log : List Tch) (F : List Addr), vs = [.ref p, .int i, .int n] ∧ Hold cs K kd H p bx log F ∧ Bx (bx.length : Int) i ∧ log.length < 100000 ∧
  ∀ H' F', Hold cs K kd H' p (wrt bx i n) (log ++ [(true, i)]) F' → Bey F H F' H' → Q .non H'
section
variable {X : Cx} {k : Nat} {p pos apos : Pos} {e o : Expr} {es : List Expr} {ta : TE} {t : TA}
theorem pe_look {cs : Cs} (kd : Kd) {pl : Sem Bool} (OP : Ok X.prog X.w X.K X.mg X.base CX0 k cs.f_Plain_look cs.d_Plain_look ["self", "box"] (sp_Plain_look X.K cs)) (c : Cls X.K cs.C_Plain) (hm : Meth X.K cs.C_Plain "look" cs.f_Plain_look) (hr : Room k X.A) (he : PE X o ta) (ha : PA X (e :: es) t)
    (hst : starEach (e :: es) X.env = (false, eval e X.env) :: starEach es X.env := by rfl) (hpl : (backTo pos (starEach es X.env)).any (·.1) = false := by rfl)
    (ht : eval (.Call (.Attribute o "look" apos) (e :: es) [] pos) X.env = (do
      let ov ← eval o X.env
      standAt apos.atName
      let (f, first) ← holding [ov] (getMethod ov "look" pl)
      callWith pos f first (backTo pos (starEach (e :: es) X.env)) (backToKw pos (keywordEach [] X.env))) := by rfl) :
    PE X (.Call (.Attribute o "look" apos) (e :: es) [] pos) (tMethO (clsOf cs kd) "look" (spHLook X.K cs kd) E0 ta t) :=
  pe_methO (OP.imp fun vs H Q E h => h) c hm hr pass0 he ha hst hpl ht
theorem pe_put {cs : Cs} (kd : Kd) {pl : Sem Bool} (OP : Ok X.prog X.w X.K X.mg X.base CX0 k cs.f_Plain_put cs.d_Plain_put ["self", "box", "number"] (sp_Plain_put X.K cs)) (c : Cls X.K cs.C_Plain) (hm : Meth X.K cs.C_Plain "put" cs.f_Plain_put) (hr : Room k X.A) (he : PE X o ta) (ha : PA X (e :: es) t)
    (hst : starEach (e :: es) X.env = (false, eval e X.env) :: starEach es X.env := by rfl) (hpl : (backTo pos (starEach es X.env)).any (·.1) = false := by rfl)
    (ht : eval (.Call (.Attribute o "put" apos) (e :: es) [] pos) X.env = (do
      let ov ← eval o X.env
      standAt apos.atName
      let (f, first) ← holding [ov] (getMethod ov "put" pl)
      callWith pos f first (backTo pos (starEach (e :: es) X.env)) (backToKw pos (keywordEach [] X.env))) := by rfl) :
    PE X (.Call (.Attribute o "put" apos) (e :: es) [] pos) (tMethO (clsOf cs kd) "put" (spHPut X.K cs kd) E0 ta t) :=
  pe_methO (OP.imp fun vs H Q E h => h) c hm hr pass0 he ha hst hpl ht
end
/-! ### reckoned, moved, goes_on -/
theorem log_le {l m : List Tch} {n k j : Nat} (h : l.length < n) (hm : m.length ≤ j) (e : n + j ≤ k := by decide) : (l ++ m).length < k := by
  rw [List.length_append]
  omega
def sp_reckoned (K : PySem.W.Frag) (cs : Cs) : Sp := fun vs H Q _ => ∃ (kd : Kd) (p b : Addr) (r : Rw) (bx : List Int) (log : List Tch) (F : List Addr) (G : Hp) (count : Int), vs = [.ref b, .ref p] ∧ Part G H F ∧ G b = some (.tup r.vs) ∧ Hold cs K kd H p bx log F ∧ r.Fit (bx.length : Int) count ∧ log.length < 90000 ∧
  ((∃ b c d, r = .add b c d) ∨ ∃ b c d, r = .sub b c d) ∧ ∀ H' F', Hold cs K kd H' p (r.bx' (bx.length : Int) bx) (log ++ r.pre (bx.length : Int) bx) F' → Bey F H F' H' → Q .non H'
theorem ok_reckoned (T : Txt w K mg cs) (o_Plain_look : Ok P w K mg base CX0 1 cs.f_Plain_look cs.d_Plain_look ["self", "box"] (sp_Plain_look K cs)) (o_Plain_put : Ok P w K mg base CX0 1 cs.f_Plain_put cs.d_Plain_put ["self", "box", "number"] (sp_Plain_put K cs)) : Ok P w K mg base CX0 2 cs.f_reckoned cs.d_reckoned ["row", "holder"] (sp_reckoned K cs) := by
  refine T.fn_reckoned.ok sc_reckoned (fun vs H Q E h => ?_) (fun cdv A outer s H vs Q E hr h => ?_)
  · obtain ⟨kd, p, b, r, bx, log, F, G, count, rfl, _⟩ := h
    rfl
  · obtain ⟨kd, p, b, r, bx, log, F, G, count, rfl, P0, hb, hH, hf, hl, hr2, q⟩ := h
    refine ⟨_, (pss_cons (ps_set (i := 2) sc_reckoned.nd rfl (Or.inl rfl) (pe_look kd o_Plain_look T.cl_Plain T.me_Plain_look hr (pv 1) (pa_cons (pe_ix ix_tup (pv 0) pe_int (fun _ _ => rfl)) pa_nil)))
      (pss_cons (ps_set (i := 3) sc_reckoned.nd rfl (Or.inl rfl) (pe_look kd o_Plain_look T.cl_Plain T.me_Plain_look hr (pv 1) (pa_cons (pe_ix ix_tup (pv 0) pe_int (fun _ _ => rfl)) pa_nil)))
      (pss_one (ps_if (pt_cmpR op_eq (pe_ix ix_tup (pv 0) pe_int (fun _ _ => rfl)) pe_str (nomark _)) (pss_one (ps_expr (pe_put kd o_Plain_put T.cl_Plain T.me_Plain_put hr (pv 1) (pa_cons (pe_ix ix_tup (pv 0) pe_int (fun _ _ => rfl)) (pa_cons (pe_op op_mod (pe_op op_add (pv 2) (pv 3)) (pe_glob (v := .int 1000000) (by rfl) (T.gl_MODULUS).choose_spec ⟨_, rfl⟩)) pa_nil))))) (pss_one (ps_expr (pe_put kd o_Plain_put T.cl_Plain T.me_Plain_put hr (pv 1) (pa_cons (pe_ix ix_tup (pv 0) pe_int (fun _ _ => rfl)) (pa_cons (pe_op op_mod (pe_op op_sub (pv 2) (pv 3)) (pe_glob (v := .int 1000000) (by rfl) (T.gl_MODULUS).choose_spec ⟨_, rfl⟩)) pa_nil))))))))), ?_⟩
    obtain ⟨dx, fs, hp, f1, f2⟩ := hH.ins
    rcases hr2 with ⟨b1, c, d, rfl⟩ | ⟨b1, c, d, rfl⟩
    · obtain ⟨hf1, hf2, hf3⟩ := hf
      refine ⟨_, rfl, p, dx, fs, rfl, hp, f1, _, rfl, b, _, _, _, rfl, rfl, SqT.of (P0.same _ _ hb), (by rfl), p, c, bx, log, F, rfl, hH, hf2, by omega, fun H1 F1 h1 b1' => ?_⟩
      have P1 := P0.bey b1'
      obtain ⟨dx1, fs1, hp1, f11, f21⟩ := h1.ins
      refine ⟨_, rfl, p, dx1, fs1, rfl, hp1, f11, _, rfl, b, _, _, _, rfl, rfl, SqT.of (P1.same _ _ hb), (by rfl), p, d, bx, _, F1, rfl, h1, hf3, log_le hl (Nat.le_refl 1), fun H2 F2 h2 b2 => ?_⟩
      have P2 := P1.bey b2
      obtain ⟨dx2, fs2, hp2, f12, f22⟩ := h2.ins
      refine ⟨_, rfl, b, _, _, _, rfl, rfl, SqT.of (P2.same _ _ hb), (by rfl), rfl, _, rfl, iteD (fun _ => ?_) (fun z => absurd rfl z)⟩
      refine ⟨_, rfl, p, dx2, fs2, rfl, hp2, f22, _, rfl, b, _, _, _, rfl, rfl, SqT.of (P2.same _ _ hb), (by rfl), _, rfl, _, rfl, _, _, rfl, rfl, _, _, rfl, rfl, (by show (0 : Int) < _; decide), p, b1, _, bx, _, F2, rfl, h2, hf1, log_le (log_le hl (Nat.le_refl 1) (k := 90001)) (Nat.le_refl 1), fun H3 F3 h3 b3 => ?_⟩
      rw [List.append_assoc, List.append_assoc] at h3
      exact q _ _ h3 ((b1'.trans b2).trans b3)
    · obtain ⟨hf1, hf2, hf3⟩ := hf
      refine ⟨_, rfl, p, dx, fs, rfl, hp, f1, _, rfl, b, _, _, _, rfl, rfl, SqT.of (P0.same _ _ hb), (by rfl), p, c, bx, log, F, rfl, hH, hf2, by omega, fun H1 F1 h1 b1' => ?_⟩
      have P1 := P0.bey b1'
      obtain ⟨dx1, fs1, hp1, f11, f21⟩ := h1.ins
      refine ⟨_, rfl, p, dx1, fs1, rfl, hp1, f11, _, rfl, b, _, _, _, rfl, rfl, SqT.of (P1.same _ _ hb), (by rfl), p, d, bx, _, F1, rfl, h1, hf3, log_le hl (Nat.le_refl 1), fun H2 F2 h2 b2 => ?_⟩
      have P2 := P1.bey b2
      obtain ⟨dx2, fs2, hp2, f12, f22⟩ := h2.ins
      refine ⟨_, rfl, b, _, _, _, rfl, rfl, SqT.of (P2.same _ _ hb), (by rfl), rfl, _, rfl, iteD (fun z => absurd (V.str.inj z) (by decide +kernel)) (fun _ => ?_)⟩
      refine ⟨_, rfl, p, dx2, fs2, rfl, hp2, f22, _, rfl, b, _, _, _, rfl, rfl, SqT.of (P2.same _ _ hb), (by rfl), _, rfl, _, rfl, _, _, rfl, rfl, _, _, rfl, rfl, (by show (0 : Int) < _; decide), p, b1, _, bx, _, F2, rfl, h2, hf1, log_le (log_le hl (Nat.le_refl 1) (k := 90001)) (Nat.le_refl 1), fun H3 F3 h3 b3 => ?_⟩
      rw [List.append_assoc, List.append_assoc] at h3
      exact q _ _ h3 ((b1'.trans b2).trans b3)
theorem bx_mod {size : Int} (h : 0 < size) (z : Int) : Bx size (z % size) := ⟨Int.emod_nonneg _ (by omega), Int.emod_lt_of_pos _ h⟩
def sp_moved (K : PySem.W.Frag) (cs : Cs) : Sp := fun vs H Q _ => ∃ (kd : Kd) (p b : Addr) (r : Rw) (bx : List Int) (log : List Tch) (F : List Addr) (G : Hp) (count : Int), vs = [.ref b, .ref p, .int (bx.length : Int)] ∧ Part G H F ∧ G b = some (.tup r.vs) ∧ Hold cs K kd H p bx log F ∧ r.Fit (bx.length : Int) count ∧ log.length < 90000 ∧ 0 < bx.length ∧
  ((∃ b c, r = .copy b c) ∨ (∃ b c, r = .fetch b c) ∨ ∃ b c, r = .store b c) ∧ ∀ H' F', Hold cs K kd H' p (r.bx' (bx.length : Int) bx) (log ++ r.pre (bx.length : Int) bx) F' → Bey F H F' H' → Q .non H'
theorem ok_moved (T : Txt w K mg cs) (o_Plain_look : Ok P w K mg base CX0 1 cs.f_Plain_look cs.d_Plain_look ["self", "box"] (sp_Plain_look K cs)) (o_Plain_put : Ok P w K mg base CX0 1 cs.f_Plain_put cs.d_Plain_put ["self", "box", "number"] (sp_Plain_put K cs)) : Ok P w K mg base CX0 2 cs.f_moved cs.d_moved ["row", "holder", "size"] (sp_moved K cs) := by
  refine T.fn_moved.ok sc_moved (fun vs H Q E h => ?_) (fun cdv A outer s H vs Q E hr h => ?_)
  · obtain ⟨kd, p, b, r, bx, log, F, G, count, rfl, _⟩ := h
    rfl
  · obtain ⟨kd, p, b, r, bx, log, F, G, count, rfl, P0, hb, hH, hf, hl, hsz, hr2, q⟩ := h
    refine ⟨_, (pss_one (ps_if (pt_cmpR op_eq (pe_ix ix_tup (pv 0) pe_int (fun _ _ => rfl)) pe_str (nomark _)) (pss_cons (ps_set (i := 3) sc_moved.nd rfl (Or.inl rfl) (pe_look kd o_Plain_look T.cl_Plain T.me_Plain_look hr (pv 1) (pa_cons (pe_ix ix_tup (pv 0) pe_int (fun _ _ => rfl)) pa_nil)))
      (pss_one (ps_expr (pe_put kd o_Plain_put T.cl_Plain T.me_Plain_put hr (pv 1) (pa_cons (pe_ix ix_tup (pv 0) pe_int (fun _ _ => rfl)) (pa_cons (pv 3) pa_nil)))))) (pss_one (ps_if (pt_cmpR op_eq (pe_ix ix_tup (pv 0) pe_int (fun _ _ => rfl)) pe_str (nomark _)) (pss_cons (ps_set (i := 4) sc_moved.nd rfl (Or.inl rfl) (pe_look kd o_Plain_look T.cl_Plain T.me_Plain_look hr (pv 1) (pa_cons (pe_ix ix_tup (pv 0) pe_int (fun _ _ => rfl)) pa_nil)))
      (pss_cons (ps_set (i := 3) sc_moved.nd rfl (Or.inl rfl) (pe_look kd o_Plain_look T.cl_Plain T.me_Plain_look hr (pv 1) (pa_cons (pe_op op_mod (pv 4) (pv 2)) pa_nil)))
      (pss_one (ps_expr (pe_put kd o_Plain_put T.cl_Plain T.me_Plain_put hr (pv 1) (pa_cons (pe_ix ix_tup (pv 0) pe_int (fun _ _ => rfl)) (pa_cons (pv 3) pa_nil))))))) (pss_cons (ps_set (i := 4) sc_moved.nd rfl (Or.inl rfl) (pe_look kd o_Plain_look T.cl_Plain T.me_Plain_look hr (pv 1) (pa_cons (pe_ix ix_tup (pv 0) pe_int (fun _ _ => rfl)) pa_nil)))
      (pss_cons (ps_set (i := 3) sc_moved.nd rfl (Or.inl rfl) (pe_look kd o_Plain_look T.cl_Plain T.me_Plain_look hr (pv 1) (pa_cons (pe_ix ix_tup (pv 0) pe_int (fun _ _ => rfl)) pa_nil)))
      (pss_one (ps_expr (pe_put kd o_Plain_put T.cl_Plain T.me_Plain_put hr (pv 1) (pa_cons (pe_op op_mod (pv 4) (pv 2)) (pa_cons (pv 3) pa_nil))))))))))), ?_⟩
    obtain ⟨dx, fs, hp, f1, f2⟩ := hH.ins
    have hs0 : 0 < (bx.length : Int) := by omega
    rcases hr2 with ⟨b1, c, rfl⟩ | ⟨b1, c, rfl⟩ | ⟨b1, c, rfl⟩
    · obtain ⟨hf1, hf2⟩ := hf
      refine ⟨_, rfl, b, _, _, _, rfl, rfl, SqT.of (P0.same _ _ hb), (by rfl), rfl, _, rfl, iteD (fun _ => ?_) (fun z => absurd rfl z)⟩
      refine ⟨_, rfl, p, dx, fs, rfl, hp, f1, _, rfl, b, _, _, _, rfl, rfl, SqT.of (P0.same _ _ hb), (by rfl), p, c, bx, log, F, rfl, hH, hf2, by omega, fun H1 F1 h1 b1' => ?_⟩
      have P1 := P0.bey b1'
      obtain ⟨dx1, fs1, hp1, f11, f21⟩ := h1.ins
      refine ⟨_, rfl, p, dx1, fs1, rfl, hp1, f21, _, rfl, b, _, _, _, rfl, rfl, SqT.of (P1.same _ _ hb), (by rfl), _, rfl, p, b1, _, bx, _, F1, rfl, h1, hf1, log_le hl (Nat.le_refl 1), fun H3 F3 h3 b3 => ?_⟩
      rw [List.append_assoc] at h3
      exact q _ _ h3 (b1'.trans b3)
    · obtain ⟨hf1, hf2⟩ := hf
      refine ⟨_, rfl, b, _, _, _, rfl, rfl, SqT.of (P0.same _ _ hb), (by rfl), rfl, _, rfl, iteD (fun z => absurd (V.str.inj z) (by decide +kernel)) (fun _ => ?_)⟩
      refine ⟨_, rfl, b, _, _, _, rfl, rfl, SqT.of (P0.same _ _ hb), (by rfl), rfl, _, rfl, iteD (fun _ => ?_) (fun z => absurd rfl z)⟩
      refine ⟨_, rfl, p, dx, fs, rfl, hp, f1, _, rfl, b, _, _, _, rfl, rfl, SqT.of (P0.same _ _ hb), (by rfl), p, c, bx, log, F, rfl, hH, hf2, by omega, fun H1 F1 h1 b1' => ?_⟩
      have P1 := P0.bey b1'
      obtain ⟨dx1, fs1, hp1, f11, f21⟩ := h1.ins
      refine ⟨_, rfl, p, dx1, fs1, rfl, hp1, f11, _, rfl, _, rfl, _, _, rfl, rfl, hs0, p, _, bx, _, F1, rfl, h1, bx_mod hs0 (rd bx c), log_le hl (Nat.le_refl 1), fun H2 F2 h2 b2 => ?_⟩
      have P2 := P1.bey b2
      obtain ⟨dx2, fs2, hp2, f12, f22⟩ := h2.ins
      refine ⟨_, rfl, p, dx2, fs2, rfl, hp2, f22, _, rfl, b, _, _, _, rfl, rfl, SqT.of (P2.same _ _ hb), (by rfl), _, rfl, p, b1, _, bx, _, F2, rfl, h2, hf1, log_le (log_le hl (Nat.le_refl 1) (k := 90001)) (Nat.le_refl 1), fun H3 F3 h3 b3 => ?_⟩
      rw [List.append_assoc, List.append_assoc] at h3
      exact q _ _ h3 ((b1'.trans b2).trans b3)
    · obtain ⟨hf1, hf2⟩ := hf
      refine ⟨_, rfl, b, _, _, _, rfl, rfl, SqT.of (P0.same _ _ hb), (by rfl), rfl, _, rfl, iteD (fun z => absurd (V.str.inj z) (by decide +kernel)) (fun _ => ?_)⟩
      refine ⟨_, rfl, b, _, _, _, rfl, rfl, SqT.of (P0.same _ _ hb), (by rfl), rfl, _, rfl, iteD (fun z => absurd (V.str.inj z) (by decide +kernel)) (fun _ => ?_)⟩
      refine ⟨_, rfl, p, dx, fs, rfl, hp, f1, _, rfl, b, _, _, _, rfl, rfl, SqT.of (P0.same _ _ hb), (by rfl), p, b1, bx, log, F, rfl, hH, hf1, by omega, fun H1 F1 h1 b1' => ?_⟩
      have P1 := P0.bey b1'
      obtain ⟨dx1, fs1, hp1, f11, f21⟩ := h1.ins
      refine ⟨_, rfl, p, dx1, fs1, rfl, hp1, f11, _, rfl, b, _, _, _, rfl, rfl, SqT.of (P1.same _ _ hb), (by rfl), p, c, bx, _, F1, rfl, h1, hf2, log_le hl (Nat.le_refl 1), fun H2 F2 h2 b2 => ?_⟩
      obtain ⟨dx2, fs2, hp2, f12, f22⟩ := h2.ins
      refine ⟨_, rfl, p, dx2, fs2, rfl, hp2, f22, _, rfl, _, rfl, _, _, rfl, rfl, hs0, _, rfl, p, _, _, bx, _, F2, rfl, h2, bx_mod hs0 (rd bx b1), log_le (log_le hl (Nat.le_refl 1) (k := 90001)) (Nat.le_refl 1), fun H3 F3 h3 b3 => ?_⟩
      rw [List.append_assoc, List.append_assoc] at h3
      exact q _ _ h3 ((b1'.trans b2).trans b3)
def sp_goes_on (K : PySem.W.Frag) (cs : Cs) : Sp := fun vs H Q _ => ∃ (kd : Kd) (p b : Addr) (r : Rw) (bx : List Int) (log : List Tch) (F : List Addr) (G : Hp) (count place : Int), vs = [.ref b, .int place, .ref p] ∧ Part G H F ∧ G b = some (.tup r.vs) ∧ Hold cs K kd H p bx log F ∧ r.Fit (bx.length : Int) count ∧ log.length < 90003 ∧
  ∀ H' F', Hold cs K kd H' p bx (log ++ r.g) F' → Bey F H F' H' → Q (.int (r.nxt bx place)) H'
theorem ok_goes_on (T : Txt w K mg cs) (o_Plain_look : Ok P w K mg base CX0 1 cs.f_Plain_look cs.d_Plain_look ["self", "box"] (sp_Plain_look K cs)) : Ok P w K mg base CX0 2 cs.f_goes_on cs.d_goes_on ["row", "place", "holder"] (sp_goes_on K cs) := by
  refine T.fn_goes_on.ok sc_goes_on (fun vs H Q E h => ?_) (fun cdv A outer s H vs Q E hr h => ?_)
  · obtain ⟨kd, p, b, r, bx, log, F, G, count, place, rfl, _⟩ := h
    rfl
  · obtain ⟨kd, p, b, r, bx, log, F, G, count, place, rfl, P0, hb, hH, hf, hl, q⟩ := h
    refine ⟨_, (pss_cons (ps_if (pt_cmpR op_eq (pe_ix ix_tup (pv 0) pe_int (fun _ _ => rfl)) pe_str (nomark _)) (pss_one (ps_ret (pe_ix ix_tup (pv 0) pe_int (fun _ _ => rfl)))) pss_nil)
      (pss_cons (ps_if (pt_cmpR op_eq (pe_ix ix_tup (pv 0) pe_int (fun _ _ => rfl)) pe_str (nomark _)) (pss_cons (ps_set (i := 3) sc_goes_on.nd rfl (Or.inl rfl) (pe_look kd o_Plain_look T.cl_Plain T.me_Plain_look hr (pv 2) (pa_cons (pe_ix ix_tup (pv 0) pe_int (fun _ _ => rfl)) pa_nil)))
      (pss_cons (ps_set (i := 4) sc_goes_on.nd rfl (Or.inl rfl) (pe_look kd o_Plain_look T.cl_Plain T.me_Plain_look hr (pv 2) (pa_cons (pe_ix ix_tup (pv 0) pe_int (fun _ _ => rfl)) pa_nil)))
      (pss_one (ps_if (pt_cmpR op_lt (pv 3) (pv 4) (nomark _)) (pss_one (ps_ret (pe_ix ix_tup (pv 0) pe_int (fun _ _ => rfl)))) pss_nil)))) pss_nil)
      (pss_one (ps_ret (pe_op op_add (pv 1) pe_int))))), ?_⟩
    obtain ⟨dx, fs, hp, f1, f2⟩ := hH.ins
    have other : ∀ {w : Str} {xs : List V}, r.vs = .str w :: xs → (∀ H' F', Hold cs K kd H' p bx (log ++ []) F' → Bey F H F' H' → Q (.int (place + 1)) H') → Q (.int (place + 1)) H := fun _ q => q H F (by rw [List.append_nil]; exact hH) Bey.refl
    cases r with
    | jump t =>
      refine ⟨_, rfl, b, _, _, _, rfl, rfl, SqT.of (P0.same _ _ hb), (by rfl), rfl, _, rfl, iteD (fun _ => ?_) (fun z => absurd rfl z)⟩
      exact ⟨_, rfl, b, _, _, _, rfl, rfl, SqT.of (P0.same _ _ hb), (by rfl), q H F (by rw [show Rw.g (.jump t) = [] from rfl, List.append_nil]; exact hH) Bey.refl⟩
    | less b1 c t =>
      obtain ⟨hf1, hf2, hf3⟩ := hf
      refine ⟨_, rfl, b, _, _, _, rfl, rfl, SqT.of (P0.same _ _ hb), (by rfl), rfl, _, rfl, iteD (fun z => absurd (V.str.inj z) (by decide +kernel)) (fun _ => ?_)⟩
      refine ⟨_, rfl, b, _, _, _, rfl, rfl, SqT.of (P0.same _ _ hb), (by rfl), rfl, _, rfl, iteD (fun _ => ?_) (fun z => absurd rfl z)⟩
      refine ⟨_, rfl, p, dx, fs, rfl, hp, f1, _, rfl, b, _, _, _, rfl, rfl, SqT.of (P0.same _ _ hb), (by rfl), p, b1, bx, log, F, rfl, hH, hf1, by omega, fun H1 F1 h1 b1' => ?_⟩
      have P1 := P0.bey b1'
      obtain ⟨dx1, fs1, hp1, f11, f21⟩ := h1.ins
      refine ⟨_, rfl, p, dx1, fs1, rfl, hp1, f11, _, rfl, b, _, _, _, rfl, rfl, SqT.of (P1.same _ _ hb), (by rfl), p, c, bx, _, F1, rfl, h1, hf2, log_le hl (Nat.le_refl 1), fun H2 F2 h2 b2 => ?_⟩
      have P2 := P1.bey b2
      rw [List.append_assoc] at h2
      have q2 := q _ _ h2 (b1'.trans b2)
      refine ⟨_, rfl, _, rfl, _, _, rfl, rfl, _, rfl, iteD (fun c2 => ?_) (fun c2 => ?_)⟩
      · have e : (Rw.less b1 c t).nxt bx place = t := if_pos c2
        rw [e] at q2
        exact ⟨_, rfl, b, _, _, _, rfl, rfl, SqT.of (P2.same _ _ hb), (by rfl), q2⟩
      · have e : (Rw.less b1 c t).nxt bx place = place + 1 := if_neg c2
        rw [e] at q2
        exact ⟨_, rfl, _, _, rfl, rfl, q2⟩
    | _ =>
      refine ⟨_, rfl, b, _, _, _, rfl, rfl, SqT.of (P0.same _ _ hb), (by rfl), rfl, _, rfl, iteD (fun z => absurd (V.str.inj z) (by decide +kernel)) (fun _ => ?_)⟩
      refine ⟨_, rfl, b, _, _, _, rfl, rfl, SqT.of (P0.same _ _ hb), (by rfl), rfl, _, rfl, iteD (fun z => absurd (V.str.inj z) (by decide +kernel)) (fun _ => ?_)⟩
      exact ⟨_, rfl, _, _, rfl, rfl, other rfl q⟩
/-! ### gone -/
def sp_gone (K : PySem.W.Frag) (cs : Cs) : Sp := fun vs H Q _ => ∃ (kd : Kd) (p ra : Addr) (ys : List V) (rs : List Rw) (bx : List Int) (F : List Addr) (G : Hp) (k : Nat), vs = [.ref ra, .ref p, .int (bx.length : Int), .int (k : Int)] ∧ Part G H F ∧ G ra = some (.lst ys) ∧ RL G ys rs ∧ Hold cs K kd H p bx [] F ∧ 0 < bx.length ∧
  (∀ r ∈ rs, r.Fit (bx.length : Int) (rs.length : Int)) ∧ rs.length ≤ 1000 ∧ k ≤ 1000 ∧
  ∀ H' F' G' t ta, Part G' H' F' → Same G G' → G' t = some (.tup [.ref ta, .str (endS rs (goM rs (bx.length : Int) k ⟨bx, [], [], 0⟩))]) → G' ta = some (.lst ((goM rs (bx.length : Int) k ⟨bx, [], [], 0⟩).told.map V.int)) →
    Hold cs K kd H' p (goM rs (bx.length : Int) k ⟨bx, [], [], 0⟩).bx (goM rs (bx.length : Int) k ⟨bx, [], [], 0⟩).log F' → Q (.ref t) H'
theorem Part.put2 {G H : Hp} {F : List Addr} (p : Part G H F) {a : Addr} {o : HO} (n : H a = none) (d : ∀ b ∈ F, H b ≠ none) : Part (upd G a o) (upd H a o) F ∧ Same G (upd G a o) := ⟨p.new (Same.new n) n upd_same d, Same.new (p.same.free n)⟩
theorem ok_gone (T : Txt w K mg cs) (o_goes_on : Ok P w K mg base CX0 2 cs.f_goes_on cs.d_goes_on ["row", "place", "holder"] (sp_goes_on K cs)) (o_Plain_put : Ok P w K mg base CX0 1 cs.f_Plain_put cs.d_Plain_put ["self", "box", "number"] (sp_Plain_put K cs)) (o_reckoned : Ok P w K mg base CX0 2 cs.f_reckoned cs.d_reckoned ["row", "holder"] (sp_reckoned K cs)) (o_moved : Ok P w K mg base CX0 2 cs.f_moved cs.d_moved ["row", "holder", "size"] (sp_moved K cs)) (o_Plain_look : Ok P w K mg base CX0 1 cs.f_Plain_look cs.d_Plain_look ["self", "box"] (sp_Plain_look K cs)) : Ok P w K mg base CX0 3 cs.f_gone cs.d_gone ["rows", "holder", "size", "steps"] (sp_gone K cs) := by
  refine T.fn_gone.ok sc_gone (fun vs H Q E h => ?_) (fun cdv A outer s H vs Q E hr h => ?_)
  · obtain ⟨kd, p, ra, ys, rs, bx, F, G, k, rfl, _⟩ := h
    rfl
  · obtain ⟨kd, p, ra, ys, rs, bx, F, G, k, rfl, P0, hra, hR, hH, hsz, hfits, hrl, hk, q⟩ := h
    refine ⟨_, (pss_cons (ps_set (i := 4) sc_gone.nd rfl (Or.inl rfl) (pe_lst pa_nil))
      (pss_cons (ps_set (i := 5) sc_gone.nd rfl (Or.inl rfl) pe_int)
      (pss_cons (ps_while PassesOwn.never (pt_jn (PW.pt (pw_and (pt_cmpR op_lt (pv 5) (pe_callB call_len_seq (by rfl) T.no_len PySem.boot_len (pa_cons (pv 0) pa_nil)) (nomark _)) (pw_and1 (pt_cmpR op_gt (pv 3) pe_int (nomark _)))))) (pss_cons (ps_set (i := 6) sc_gone.nd rfl (Or.inl rfl) (pe_ix ix_list (pv 0) (pv 5) (fun _ _ => rfl)))
      (pss_cutS (ps_if (pt_cmpR op_eq (pe_ix ix_tup (pv 6) pe_int (fun _ _ => rfl)) pe_str (nomark _)) (pss_one (ps_expr (pe_put kd o_Plain_put T.cl_Plain T.me_Plain_put (hr.mono (by decide)) (pv 1) (pa_cons (pe_ix ix_tup (pv 6) pe_int (fun _ _ => rfl)) (pa_cons (pe_ix ix_tup (pv 6) pe_int (fun _ _ => rfl)) pa_nil))))) (pss_one (ps_if (pt_cmpR op_in_seq (pe_ix ix_tup (pv 6) pe_int (fun _ _ => rfl)) (pe_tup (pa_cons pe_str (pa_cons pe_str pa_nil))) (by rfl)) (pss_one (ps_expr (pe_callO o_reckoned hr (by rfl) T.gl_reckoned pass0 (pa_cons (pv 6) (pa_cons (pv 1) pa_nil))))) (pss_one (ps_if (pt_cmpR op_in_seq (pe_ix ix_tup (pv 6) pe_int (fun _ _ => rfl)) (pe_tup (pa_cons pe_str (pa_cons pe_str (pa_cons pe_str pa_nil)))) (by rfl)) (pss_one (ps_expr (pe_callO o_moved hr (by rfl) T.gl_moved pass0 (pa_cons (pv 6) (pa_cons (pv 1) (pa_cons (pv 2) pa_nil)))))) (pss_one (ps_if (pt_cmpR op_eq (pe_ix ix_tup (pv 6) pe_int (fun _ _ => rfl)) pe_str (nomark _)) (pss_one (ps_expr (pe_bm PySem.F.plainAttrs_list PySem.F.slot_list_append PySem.F.type_list_append mt_append (pv 4) (pa_cons (pe_look kd o_Plain_look T.cl_Plain T.me_Plain_look (hr.mono (by decide)) (pv 1) (pa_cons (pe_ix ix_tup (pv 6) pe_int (fun _ _ => rfl)) pa_nil)) pa_nil)))) pss_nil)))))))
      (pss_cons (ps_set (i := 5) sc_gone.nd rfl (Or.inl rfl) (pe_callO o_goes_on hr (by rfl) T.gl_goes_on pass0 (pa_cons (pv 6) (pa_cons (pv 5) (pa_cons (pv 1) pa_nil)))))
      (pss_one (ps_set (i := 3) sc_gone.nd rfl (Or.inl rfl) (pe_op op_sub (pv 3) pe_int)))))))
      (pss_cons (ps_if (pt_cmpR op_lt (pv 5) (pe_callB call_len_seq (by rfl) T.no_len PySem.boot_len (pa_cons (pv 0) pa_nil)) (nomark _)) (pss_one (ps_ret (pe_tup (pa_cons (pv 4) (pa_cons pe_str pa_nil))))) pss_nil)
      (pss_one (ps_ret (pe_tup (pa_cons (pv 4) (pa_cons pe_str pa_nil))))))))), ?_⟩
    generalize hsize : (bx.length : Int) = size at *
    have hs0 : 0 < size := by omega
    refine ⟨Nat.zero_le _, fun ta nta => ?_⟩
    obtain ⟨Pa, sa⟩ := P0.put2 (o := .lst []) nta hH.dom
    have hH0 := hH.same (Same.new (o := .lst []) nta)
    have hGta : G ta = none := P0.same.free nta
    have hta0 : (upd G ta (.lst [])) ta = some (.lst (([] : List Int).map V.int)) := upd_same
    generalize hm0 : (⟨bx, [], [], 0⟩ : MS) = m0 at *
    have eb : bx = m0.bx := by rw [← hm0]
    have el : [] = m0.log := by rw [← hm0]
    have et : [] = m0.told := by rw [← hm0]
    have ep : (0 : Int) = m0.place := by rw [← hm0]
    rw [el] at hH0
    rw [et] at hta0
    have hbx0 : (m0.bx.length : Int) = size := by rw [← eb, hsize]
    have hlog0 : m0.log.length + 3 * k ≤ 3000 := by
      rw [← el]
      show 0 + 3 * k ≤ 3000
      omega
    have htold0 : m0.told.length + k ≤ 1000 := by
      rw [← et]
      show 0 + k ≤ 1000
      omega
    rw [eb] at hH0
    refine ⟨fun j σ H' => ∃ (m : MS) (v6 : Option V) (F1 : List Addr) (G1 : Hp), σ = [some (.ref ra), some (.ref p), some (.int size), some (.int (j : Int)), some (.ref ta), some (.int m.place), v6] ∧ Part G1 H' F1 ∧ Same G G1 ∧ G1 ta = some (.lst (m.told.map V.int)) ∧ Hold cs K kd H' p m.bx m.log F1 ∧
      (m.bx.length : Int) = size ∧ goM rs size j m = goM rs size k m0 ∧ m.log.length + 3 * j ≤ 3000 ∧ m.told.length + j ≤ 1000 ∧ 0 ≤ m.place ∧ m.place ≤ (rs.length : Int), ⟨k, m0, none, F, _, (by rw [← ep]; rfl), Pa, sa, hta0, hH0, hbx0, rfl, hlog0, htold0, by omega, by omega⟩, ?_⟩
    rintro j σ H' ⟨m, v6, F1, G1, rfl, P1, hsG, hta, hH, hbl, hgo, hlg, htd, hp0, hp1⟩
    have hylen := hR.len
    refine ⟨fun c H6 => c = decide (m.place < (rs.length : Int) ∧ 0 < j) ∧ H6 = H', ?_, ?_⟩
    · refine ⟨_, rfl, _, rfl, ra, _, rfl, .inl (SqL.of (P1.same _ _ (hsG _ _ hra))), _, _, rfl, rfl, _, rfl, iteD (fun c => ?_) (fun c => ?_)⟩
      · refine ⟨_, rfl, _, _, rfl, rfl, _, rfl, ?_, rfl⟩
        apply decide_eq_decide.mpr
        constructor
        · exact fun z => ⟨by omega, by omega⟩
        · exact fun z => by omega
      · refine ⟨?_, rfl⟩
        rw [decide_eq_false (fun z => c (by omega))]
    rintro c H6 ⟨rfl, rfl⟩
    refine iteD (fun c => ?_) (fun c => ?_)
    · obtain ⟨c1, c2⟩ := c
      obtain ⟨j, rfl⟩ : ∃ j', j = j' + 1 := ⟨j - 1, by omega⟩
      have hpl : m.place.toNat < rs.length := by omega
      obtain ⟨r, hr'⟩ : ∃ r, rs[m.place.toNat]? = some r := ⟨_, List.getElem?_eq_getElem hpl⟩
      obtain ⟨b, hyb, hbG⟩ := hR.at_ _ r hr'
      have hb := hsG _ _ hbG
      have hbt : b ≠ ta := ne_of_none hbG hGta
      have hfit := hfits r (List.mem_of_getElem? hr')
      have hst : goM rs size (j + 1) m = goM rs size j (r.step size m) := by
        show (match rs[m.place.toNat]? with
          | some r => goM rs size j (r.step size m)
          | none => m) = _
        rw [hr']
      rw [hst] at hgo
      refine ⟨fun σ2 H2 => ∃ (m : MS) (v6 : Option V) (F1 : List Addr) (G1 : Hp), σ2 = [some (.ref ra), some (.ref p), some (.int size), some (.int (j : Int)), some (.ref ta), some (.int m.place), v6] ∧ Part G1 H2 F1 ∧ Same G G1 ∧ G1 ta = some (.lst (m.told.map V.int)) ∧ Hold cs K kd H2 p m.bx m.log F1 ∧
        (m.bx.length : Int) = size ∧ goM rs size j m = goM rs size k m0 ∧ m.log.length + 3 * j ≤ 3000 ∧ m.told.length + j ≤ 1000 ∧ 0 ≤ m.place ∧ m.place ≤ (rs.length : Int), fun σ2 H2 hw => ⟨j, Nat.lt_succ_self _, hw⟩, ?_⟩
      refine ⟨_, rfl, _, rfl, ra, _, _, _, rfl, rfl, SqL.of (P1.same _ _ (hsG _ _ hra)), at_ofG (j := m.place.toNat) (by omega) hyb, ?_⟩
      refine ⟨fun σ' H7 => ∃ (F6 : List Addr) (G6 : Hp), σ' = [some (.ref ra), some (.ref p), some (.int size), some (.int ((j + 1 : Nat) : Int)), some (.ref ta), some (.int m.place), some (.ref b)] ∧ Part G6 H7 F6 ∧ Same G G6 ∧ G6 ta = some (.lst ((m.told ++ r.out m.bx).map V.int)) ∧ G6 b = some (.tup r.vs) ∧ Hold cs K kd H7 p (r.bx' size m.bx) (m.log ++ r.pre size m.bx) F6, ?_, ?_⟩
      · cases r with
      | set b1 n1 =>
        refine ⟨_, rfl, b, _, _, _, rfl, rfl, SqT.of (P1.same _ _ hb), (by rfl), rfl, _, rfl, iteD (fun _ => ?_) (fun z => absurd rfl z)⟩
        obtain ⟨dx, fs, hp, f1, f2⟩ := hH.ins
        refine ⟨_, rfl, p, dx, fs, rfl, hp, f2, _, rfl, b, _, _, _, rfl, rfl, SqT.of (P1.same _ _ hb), (by rfl), _, rfl, b, _, _, _, rfl, rfl, SqT.of (P1.same _ _ hb), (by rfl), p, b1, n1, m.bx, m.log, F1, rfl, hH, (by rw [hbl]; exact hfit.1), by omega, fun H6 F6 h6 b6 => ?_⟩
        exact ⟨F6, G1, rfl, P1.bey b6, hsG, by rw [show Rw.out m.bx (.set b1 n1) = [] from rfl, List.append_nil]; exact hta, hb, h6⟩
      | add b1 c1 d1 =>
        refine ⟨_, rfl, b, _, _, _, rfl, rfl, SqT.of (P1.same _ _ hb), (by rfl), rfl, _, rfl, iteD (fun z => absurd (V.str.inj z) (by decide +kernel)) (fun _ => ?_)⟩
        refine ⟨_, rfl, b, _, _, _, rfl, rfl, SqT.of (P1.same _ _ hb), (by rfl), (by show 2 ≤ sizeLine; decide), fun x2 y2 => ⟨x2, _, rfl, .inr (SqT.of upd_same), rfl, rfl, _, rfl, iteB (fun _ => ?_) (fun z => absurd z (by decide +kernel))⟩⟩
        have z2 := Same.new (o := .tup [.str "add", .str "sub"]) y2
        have P2 := P1.keep z2
        have h2 := hH.same z2
        refine ⟨_, rfl, _, rfl, kd, p, b, _, m.bx, m.log, F1, G1, (rs.length : Int), rfl, P2, hb, h2, (by rw [hbl]; exact hfit), by omega, .inl ⟨_, _, _, rfl⟩, fun H6 F6 h6 b6 => ?_⟩
        rw [hbl] at h6
        exact ⟨F6, G1, rfl, P2.bey b6, hsG, by rw [show Rw.out m.bx (.add b1 c1 d1) = [] from rfl, List.append_nil]; exact hta, hb, h6⟩
      | sub b1 c1 d1 =>
        refine ⟨_, rfl, b, _, _, _, rfl, rfl, SqT.of (P1.same _ _ hb), (by rfl), rfl, _, rfl, iteD (fun z => absurd (V.str.inj z) (by decide +kernel)) (fun _ => ?_)⟩
        refine ⟨_, rfl, b, _, _, _, rfl, rfl, SqT.of (P1.same _ _ hb), (by rfl), (by show 2 ≤ sizeLine; decide), fun x2 y2 => ⟨x2, _, rfl, .inr (SqT.of upd_same), rfl, rfl, _, rfl, iteB (fun _ => ?_) (fun z => absurd z (by decide +kernel))⟩⟩
        have z2 := Same.new (o := .tup [.str "add", .str "sub"]) y2
        have P2 := P1.keep z2
        have h2 := hH.same z2
        refine ⟨_, rfl, _, rfl, kd, p, b, _, m.bx, m.log, F1, G1, (rs.length : Int), rfl, P2, hb, h2, (by rw [hbl]; exact hfit), by omega, .inr ⟨_, _, _, rfl⟩, fun H6 F6 h6 b6 => ?_⟩
        rw [hbl] at h6
        exact ⟨F6, G1, rfl, P2.bey b6, hsG, by rw [show Rw.out m.bx (.sub b1 c1 d1) = [] from rfl, List.append_nil]; exact hta, hb, h6⟩
      | copy b1 c1 =>
        refine ⟨_, rfl, b, _, _, _, rfl, rfl, SqT.of (P1.same _ _ hb), (by rfl), rfl, _, rfl, iteD (fun z => absurd (V.str.inj z) (by decide +kernel)) (fun _ => ?_)⟩
        refine ⟨_, rfl, b, _, _, _, rfl, rfl, SqT.of (P1.same _ _ hb), (by rfl), (by show 2 ≤ sizeLine; decide), fun x2 y2 => ⟨x2, _, rfl, .inr (SqT.of upd_same), rfl, rfl, _, rfl, iteB (fun z => absurd z (by decide +kernel)) (fun _ => ?_)⟩⟩
        have z2 := Same.new (o := .tup [.str "add", .str "sub"]) y2
        have P2 := P1.keep z2
        have h2 := hH.same z2
        refine ⟨_, rfl, b, _, _, _, rfl, rfl, SqT.of (P2.same _ _ hb), (by rfl), (by show 3 ≤ sizeLine; decide), fun x3 y3 => ⟨x3, _, rfl, .inr (SqT.of upd_same), rfl, rfl, _, rfl, iteB (fun _ => ?_) (fun z => absurd z (by decide +kernel))⟩⟩
        have z3 := Same.new (o := .tup [.str "copy", .str "fetch", .str "store"]) y3
        have P3 := P2.keep z3
        have h3 := h2.same z3
        refine ⟨_, rfl, _, rfl, _, rfl, kd, p, b, _, m.bx, m.log, F1, G1, (rs.length : Int), (by rw [hbl]), P3, hb, h3, (by rw [hbl]; exact hfit), by omega, by omega, .inl ⟨_, _, rfl⟩, fun H6 F6 h6 b6 => ?_⟩
        rw [hbl] at h6
        exact ⟨F6, G1, rfl, P3.bey b6, hsG, by rw [show Rw.out m.bx (.copy b1 c1) = [] from rfl, List.append_nil]; exact hta, hb, h6⟩
      | fetch b1 c1 =>
        refine ⟨_, rfl, b, _, _, _, rfl, rfl, SqT.of (P1.same _ _ hb), (by rfl), rfl, _, rfl, iteD (fun z => absurd (V.str.inj z) (by decide +kernel)) (fun _ => ?_)⟩
        refine ⟨_, rfl, b, _, _, _, rfl, rfl, SqT.of (P1.same _ _ hb), (by rfl), (by show 2 ≤ sizeLine; decide), fun x2 y2 => ⟨x2, _, rfl, .inr (SqT.of upd_same), rfl, rfl, _, rfl, iteB (fun z => absurd z (by decide +kernel)) (fun _ => ?_)⟩⟩
        have z2 := Same.new (o := .tup [.str "add", .str "sub"]) y2
        have P2 := P1.keep z2
        have h2 := hH.same z2
        refine ⟨_, rfl, b, _, _, _, rfl, rfl, SqT.of (P2.same _ _ hb), (by rfl), (by show 3 ≤ sizeLine; decide), fun x3 y3 => ⟨x3, _, rfl, .inr (SqT.of upd_same), rfl, rfl, _, rfl, iteB (fun _ => ?_) (fun z => absurd z (by decide +kernel))⟩⟩
        have z3 := Same.new (o := .tup [.str "copy", .str "fetch", .str "store"]) y3
        have P3 := P2.keep z3
        have h3 := h2.same z3
        refine ⟨_, rfl, _, rfl, _, rfl, kd, p, b, _, m.bx, m.log, F1, G1, (rs.length : Int), (by rw [hbl]), P3, hb, h3, (by rw [hbl]; exact hfit), by omega, by omega, .inr <| .inl ⟨_, _, rfl⟩, fun H6 F6 h6 b6 => ?_⟩
        rw [hbl] at h6
        exact ⟨F6, G1, rfl, P3.bey b6, hsG, by rw [show Rw.out m.bx (.fetch b1 c1) = [] from rfl, List.append_nil]; exact hta, hb, h6⟩
      | store b1 c1 =>
        refine ⟨_, rfl, b, _, _, _, rfl, rfl, SqT.of (P1.same _ _ hb), (by rfl), rfl, _, rfl, iteD (fun z => absurd (V.str.inj z) (by decide +kernel)) (fun _ => ?_)⟩
        refine ⟨_, rfl, b, _, _, _, rfl, rfl, SqT.of (P1.same _ _ hb), (by rfl), (by show 2 ≤ sizeLine; decide), fun x2 y2 => ⟨x2, _, rfl, .inr (SqT.of upd_same), rfl, rfl, _, rfl, iteB (fun z => absurd z (by decide +kernel)) (fun _ => ?_)⟩⟩
        have z2 := Same.new (o := .tup [.str "add", .str "sub"]) y2
        have P2 := P1.keep z2
        have h2 := hH.same z2
        refine ⟨_, rfl, b, _, _, _, rfl, rfl, SqT.of (P2.same _ _ hb), (by rfl), (by show 3 ≤ sizeLine; decide), fun x3 y3 => ⟨x3, _, rfl, .inr (SqT.of upd_same), rfl, rfl, _, rfl, iteB (fun _ => ?_) (fun z => absurd z (by decide +kernel))⟩⟩
        have z3 := Same.new (o := .tup [.str "copy", .str "fetch", .str "store"]) y3
        have P3 := P2.keep z3
        have h3 := h2.same z3
        refine ⟨_, rfl, _, rfl, _, rfl, kd, p, b, _, m.bx, m.log, F1, G1, (rs.length : Int), (by rw [hbl]), P3, hb, h3, (by rw [hbl]; exact hfit), by omega, by omega, .inr <| .inr ⟨_, _, rfl⟩, fun H6 F6 h6 b6 => ?_⟩
        rw [hbl] at h6
        exact ⟨F6, G1, rfl, P3.bey b6, hsG, by rw [show Rw.out m.bx (.store b1 c1) = [] from rfl, List.append_nil]; exact hta, hb, h6⟩
      | tell b1 =>
        refine ⟨_, rfl, b, _, _, _, rfl, rfl, SqT.of (P1.same _ _ hb), (by rfl), rfl, _, rfl, iteD (fun z => absurd (V.str.inj z) (by decide +kernel)) (fun _ => ?_)⟩
        refine ⟨_, rfl, b, _, _, _, rfl, rfl, SqT.of (P1.same _ _ hb), (by rfl), (by show 2 ≤ sizeLine; decide), fun x2 y2 => ⟨x2, _, rfl, .inr (SqT.of upd_same), rfl, rfl, _, rfl, iteB (fun z => absurd z (by decide +kernel)) (fun _ => ?_)⟩⟩
        have z2 := Same.new (o := .tup [.str "add", .str "sub"]) y2
        have P2 := P1.keep z2
        have h2 := hH.same z2
        refine ⟨_, rfl, b, _, _, _, rfl, rfl, SqT.of (P2.same _ _ hb), (by rfl), (by show 3 ≤ sizeLine; decide), fun x3 y3 => ⟨x3, _, rfl, .inr (SqT.of upd_same), rfl, rfl, _, rfl, iteB (fun z => absurd z (by decide +kernel)) (fun _ => ?_)⟩⟩
        have z3 := Same.new (o := .tup [.str "copy", .str "fetch", .str "store"]) y3
        have P3 := P2.keep z3
        have h3 := h2.same z3
        refine ⟨_, rfl, b, _, _, _, rfl, rfl, SqT.of (P3.same _ _ hb), (by rfl), rfl, _, rfl, iteD (fun _ => ?_) (fun z => absurd rfl z)⟩
        obtain ⟨dx, fs, hp, f1, f2⟩ := h3.ins
        refine ⟨_, rfl, .inl ⟨rfl, _, SqL.of (P3.same _ _ hta)⟩, _, rfl, p, dx, fs, rfl, hp, f1, _, rfl, b, _, _, _, rfl, rfl, SqT.of (P3.same _ _ hb), (by rfl), p, b1, m.bx, m.log, F1, rfl, h3, (by rw [hbl]; exact hfit), by omega, fun H6 F6 h6 b6 => ?_⟩
        have P6 := P3.bey b6
        refine ⟨ta, _, _, rfl, rfl, P6.same _ _ hta, sizeL (by rw [List.length_map]; omega), ?_⟩
        obtain ⟨P7, n7⟩ := P6.mut (o := .lst ((m.told ++ [rd m.bx b1]).map V.int)) hta
        have h7 := h6.but (o := .lst ((m.told ++ [rd m.bx b1]).map V.int)) n7 (P6.same _ _ hta)
        have e7 : (m.told.map V.int ++ [V.int (rd m.bx b1)]) = (m.told ++ [rd m.bx b1]).map V.int := by rw [List.map_append]; rfl
        rw [e7]
        exact ⟨F6, _, rfl, P7, hsG.mut hGta, upd_same, by rw [upd_ne hbt]; exact hb, h7⟩
      | less b1 c1 t1 =>
        refine ⟨_, rfl, b, _, _, _, rfl, rfl, SqT.of (P1.same _ _ hb), (by rfl), rfl, _, rfl, iteD (fun z => absurd (V.str.inj z) (by decide +kernel)) (fun _ => ?_)⟩
        refine ⟨_, rfl, b, _, _, _, rfl, rfl, SqT.of (P1.same _ _ hb), (by rfl), (by show 2 ≤ sizeLine; decide), fun x2 y2 => ⟨x2, _, rfl, .inr (SqT.of upd_same), rfl, rfl, _, rfl, iteB (fun z => absurd z (by decide +kernel)) (fun _ => ?_)⟩⟩
        have z2 := Same.new (o := .tup [.str "add", .str "sub"]) y2
        have P2 := P1.keep z2
        have h2 := hH.same z2
        refine ⟨_, rfl, b, _, _, _, rfl, rfl, SqT.of (P2.same _ _ hb), (by rfl), (by show 3 ≤ sizeLine; decide), fun x3 y3 => ⟨x3, _, rfl, .inr (SqT.of upd_same), rfl, rfl, _, rfl, iteB (fun z => absurd z (by decide +kernel)) (fun _ => ?_)⟩⟩
        have z3 := Same.new (o := .tup [.str "copy", .str "fetch", .str "store"]) y3
        have P3 := P2.keep z3
        have h3 := h2.same z3
        refine ⟨_, rfl, b, _, _, _, rfl, rfl, SqT.of (P3.same _ _ hb), (by rfl), rfl, _, rfl, iteD (fun z => absurd (V.str.inj z) (by decide +kernel)) (fun _ => ?_)⟩
        exact ⟨F1, G1, rfl, P3, hsG, by rw [show Rw.out m.bx (.less b1 c1 t1) = [] from rfl, List.append_nil]; exact hta, hb, by rw [show Rw.pre size m.bx (.less b1 c1 t1) = [] from rfl, List.append_nil]; exact h3⟩
      | jump t1 =>
        refine ⟨_, rfl, b, _, _, _, rfl, rfl, SqT.of (P1.same _ _ hb), (by rfl), rfl, _, rfl, iteD (fun z => absurd (V.str.inj z) (by decide +kernel)) (fun _ => ?_)⟩
        refine ⟨_, rfl, b, _, _, _, rfl, rfl, SqT.of (P1.same _ _ hb), (by rfl), (by show 2 ≤ sizeLine; decide), fun x2 y2 => ⟨x2, _, rfl, .inr (SqT.of upd_same), rfl, rfl, _, rfl, iteB (fun z => absurd z (by decide +kernel)) (fun _ => ?_)⟩⟩
        have z2 := Same.new (o := .tup [.str "add", .str "sub"]) y2
        have P2 := P1.keep z2
        have h2 := hH.same z2
        refine ⟨_, rfl, b, _, _, _, rfl, rfl, SqT.of (P2.same _ _ hb), (by rfl), (by show 3 ≤ sizeLine; decide), fun x3 y3 => ⟨x3, _, rfl, .inr (SqT.of upd_same), rfl, rfl, _, rfl, iteB (fun z => absurd z (by decide +kernel)) (fun _ => ?_)⟩⟩
        have z3 := Same.new (o := .tup [.str "copy", .str "fetch", .str "store"]) y3
        have P3 := P2.keep z3
        have h3 := h2.same z3
        refine ⟨_, rfl, b, _, _, _, rfl, rfl, SqT.of (P3.same _ _ hb), (by rfl), rfl, _, rfl, iteD (fun z => absurd (V.str.inj z) (by decide +kernel)) (fun _ => ?_)⟩
        exact ⟨F1, G1, rfl, P3, hsG, by rw [show Rw.out m.bx (.jump t1) = [] from rfl, List.append_nil]; exact hta, hb, by rw [show Rw.pre size m.bx (.jump t1) = [] from rfl, List.append_nil]; exact h3⟩
      rintro σ' H7 ⟨F6, G6, rfl, P6, s6, hta6, hb6, h6⟩
      have hbl6 : (((r.bx' size m.bx).length : Nat) : Int) = size := by rw [bx_len, hbl]
      have hpre : (m.log ++ r.pre size m.bx).length ≤ m.log.length + 3 := by
        have h1 := tch_len size m.bx r
        have h2 : (r.tch size m.bx).length = (r.pre size m.bx).length + r.g.length := by rw [← pre_g, List.length_append]
        rw [List.length_append]
        omega
      refine ⟨_, rfl, _, rfl, _, rfl, kd, p, b, r, _, _, F6, G6, (rs.length : Int), m.place, rfl, P6, hb6, h6, (by rw [hbl6]; exact hfit), by omega, fun H8 F8 h8 b8 => ?_⟩
      rw [List.append_assoc, pre_g] at h8
      rw [nxt_bx]
      have hstep : r.step size m = ⟨r.bx' size m.bx, m.log ++ r.tch size m.bx, m.told ++ r.out m.bx, r.nxt m.bx m.place⟩ := rfl
      obtain ⟨n0, n1⟩ := nxt_ok hfit m.bx hp0 c1
      have ho := out_len m.bx r
      have ht3 := tch_len size m.bx r
      have ej : ((j + 1 : Nat) : Int) - 1 = (j : Int) := by omega
      refine ⟨_, rfl, _, _, rfl, rfl, r.step size m, some (.ref b), F8, G6, ?_, P6.bey b8, s6, hta6, h8, hbl6, hgo, ?_, ?_, n0, n1⟩
      · exact congrArg (fun z => [some (V.ref ra), some (V.ref p), some (V.int size), some (V.int z), some (V.ref ta), some (V.int (r.nxt m.bx m.place)), some (V.ref b)]) ej
      · rw [hstep]
        show (m.log ++ r.tch size m.bx).length + 3 * j ≤ 3000
        rw [List.length_append]
        omega
      · rw [hstep]
        show (m.told ++ r.out m.bx).length + j ≤ 1000
        rw [List.length_append]
        omega
    · have hend : goM rs size j m = m := by
        cases j with
        | zero => rfl
        | succ j =>
          have : ¬ m.place < (rs.length : Int) := fun z => c ⟨z, by omega⟩
          show (match rs[m.place.toNat]? with
            | some r => goM rs size j (r.step size m)
            | none => m) = _
          rw [List.getElem?_eq_none (by omega)]
      rw [hend] at hgo
      rw [← hgo] at q
      refine ⟨_, rfl, _, rfl, ra, _, rfl, .inl (SqL.of (P1.same _ _ (hsG _ _ hra))), _, _, rfl, rfl, _, rfl, iteD (fun c => ?_) (fun c => ?_)⟩
      · have ee : endS rs m = "steps" := if_pos (by omega)
        rw [ee] at q
        refine ⟨_, rfl, (by show 2 ≤ sizeLine; decide), fun t nt => ?_⟩
        obtain ⟨P9, s9⟩ := P1.put2 (o := .tup [.ref ta, .str "steps"]) nt hH.dom
        exact q _ F1 _ t ta P9 (hsG.trans s9) upd_same (s9 _ _ hta) (hH.same (Same.new nt))
      · have ee : endS rs m = "over" := if_neg (by omega)
        rw [ee] at q
        refine ⟨_, rfl, (by show 2 ≤ sizeLine; decide), fun t nt => ?_⟩
        obtain ⟨P9, s9⟩ := P1.put2 (o := .tup [.ref ta, .str "over"]) nt hH.dom
        exact q _ F1 _ t ta P9 (hsG.trans s9) upd_same (s9 _ _ hta) (hH.same (Same.new nt))
/-! ### run -/
def finM (rs : List Rw) (bx : List Int) (k : Nat) : MS := goM rs (bx.length : Int) k ⟨bx, [], [], 0⟩
def sp_run (K : PySem.W.Frag) (cs : Cs) : Sp := fun vs H Q E => ∃ (a b : Addr) (ys : List V) (os : List (Option (List V))) (bs : List V) (k : Nat), vs = [.ref a, .ref b, .int (k : Int)] ∧ SqL K H a ys ∧ Things K H ys os ∧ ys.length ≤ 1000 ∧ SqL K H b bs ∧ (∀ y ∈ bs, Typ K H y) ∧ bs.length ≤ 1000 ∧ k ≤ 1000 ∧
  (∀ (rs : List Rw) (bx : List Int), os = rs.map rowO → bs = bx.map V.int → goodBoxes bs = true → goodRows (bs.length : Int) os = true → ∀ H' t ta ba la xs, Same H H' → H' t = some (.tup [.ref ta, .str (endS rs (finM rs bx k)), .ref ba, .ref la]) → H' ta = some (.lst ((finM rs bx k).told.map V.int)) →
    H' ba = some (.lst ((finM rs bx k).bx.map V.int)) → H' la = some (.lst xs) → TL K H' xs (finM rs bx k).log → Q (.ref t) H') ∧
  (goodBoxes bs = false → ∀ H', Same H H' → E (.ref cs.C_BadBoxes) none H') ∧ (goodBoxes bs = true → goodRows (bs.length : Int) os = false → ∀ H', Same H H' → E (.ref cs.C_BadRow) none H')
theorem good_len {bs : List V} (h : goodBoxes bs = true) : 1 ≤ bs.length ∧ bs.length ≤ 200 := by
  unfold goodBoxes at h
  rw [Bool.and_eq_true] at h
  exact of_decide_eq_true h.1
theorem good_ints_of {bs : List V} (h : goodBoxes bs = true) : ∃ bx : List Int, bs = bx.map V.int := by
  unfold goodBoxes at h
  rw [Bool.and_eq_true] at h
  have main : ∀ ys : List V, (ys.all fun y => wIn y 0 999999) = true → ∃ bx : List Int, ys = bx.map V.int := by
    intro ys
    induction ys with
    | nil => exact fun _ => ⟨[], rfl⟩
    | cons y r ih =>
      intro h
      rw [List.all_cons, Bool.and_eq_true] at h
      obtain ⟨i, e, _⟩ := wIn_int h.1
      obtain ⟨bx, e2⟩ := ih h.2
      exact ⟨i :: bx, by rw [e, e2]; rfl⟩
  exact main bs h.2
theorem ok_run (T : Txt w K mg cs) (o_checked_boxes : Ok P w K mg base (L2.CX P w) 2 cs.f_checked_boxes cs.d_checked_boxes ["boxes"] (sp_checked_boxes K cs)) (o_checked : Ok P w K mg base (L2.CX P w) 4 cs.f_checked cs.d_checked ["rows", "size"] (sp_checked K cs)) (o_Plain___init__ : Ok P w K mg base CX0 1 cs.f_Plain___init__ cs.d_Plain___init__ ["self", "boxes"] (sp_Plain___init__ K cs)) (o_gone : Ok P w K mg base CX0 3 cs.f_gone cs.d_gone ["rows", "holder", "size", "steps"] (sp_gone K cs)) : Ok P w K mg base (L2.CX P w) 5 cs.f_run cs.d_run ["rows", "boxes", "steps"] (sp_run K cs) := by
  refine T.fn_run.okX sc_run (fun vs H Q E h => ?_) (fun cdv A outer s H vs Q E hr h => ?_)
  · obtain ⟨a, b, ys, os, bs, k, rfl, _⟩ := h
    rfl
  · obtain ⟨a, b, ys, os, bs, k, rfl, hA, hTh, hyl, hB, hT, hbl, hk, kQ, kE1, kE2⟩ := h
    refine ⟨_, (pss_cons (ps_set (i := 3) sc_run.nd rfl (Or.inl rfl) (pe_callO o_checked_boxes (hr.mono (by decide)) (by rfl) T.gl_checked_boxes (passes_call (takes_of rfl rfl rfl rfl) fun _ _ _ _ h => h) (pa_cons (pv 1) pa_nil)))
      (pss_cons (ps_set (i := 4) sc_run.nd rfl (Or.inl rfl) (pe_callO o_checked hr (by rfl) T.gl_checked (passes_call (takes_of rfl rfl rfl rfl) fun _ _ _ _ h => h) (pa_cons (pv 0) (pa_cons (pe_callB call_len_seq (by rfl) T.no_len PySem.boot_len (pa_cons (pv 3) pa_nil)) pa_nil))))
      (pss_cons (ps_set (i := 5) sc_run.nd rfl (Or.inl rfl) (pe_makeO o_Plain___init__ T.mk_Plain (hr.mono (by decide)) (by rfl) T.gl_Plain pass0 (pa_cons (pv 3) pa_nil)))
      (pss_cons (ps_set (i := 6) sc_run.nd rfl (Or.inl rfl) (pe_callO o_gone (hr.mono (by decide)) (by rfl) T.gl_gone pass0 (pa_cons (pv 4) (pa_cons (pv 5) (pa_cons (pe_callB call_len_seq (by rfl) T.no_len PySem.boot_len (pa_cons (pv 3) pa_nil)) (pa_cons (pv 2) pa_nil))))))
      (pss_one (ps_ret (pe_tup (pa_cons (pe_ix ix_tup (pv 6) pe_int (fun _ _ => rfl)) (pa_cons (pe_ix ix_tup (pv 6) pe_int (fun _ _ => rfl)) (pa_cons (pe_fld (pv 5) rfl) (pa_cons (pe_fld (pv 5) rfl) pa_nil))))))))))), ?_⟩
    refine ⟨_, rfl, b, bs, rfl, hB, hT, hbl, fun H1 hd hgood s1 nh hhd => ?_, fun H1 hb s1 => kE1 hb H1 s1⟩
    refine ⟨_, rfl, _, rfl, hd, _, rfl, .inl (SqL.of hhd), a, ys, os, (bs.length : Int), rfl, s1.seq hA, hTh.same s1, hyl, fun H2 pr hg2 s2 npr hpr => ?_, fun H2 hb2 s2 => kE2 hgood hb2 H2 (s1.trans s2)⟩
    obtain ⟨rs, eos, hrl, hfit⟩ := rows_good hg2
    obtain ⟨bx, ebs⟩ := good_ints_of hgood
    obtain ⟨hb1, hb2⟩ := good_len hgood
    have hbl2 : bs.length = bx.length := by rw [ebs, List.length_map]
    have hR : RL H2 ys rs := Things.rows (by rw [← eos]; exact hTh.same (s1.trans s2))
    have hhd2 := s2 _ _ hhd
    refine ⟨_, rfl, fun p dx hp hdx hne => ?_⟩
    have s7 := (Same.new (o := .own p) hdx).mut (p := p) (o := .ins cs.C_Plain dx []) hp
    refine ⟨p, dx, hd, bx, rfl, upd_same, SqL.of (by rw [← ebs]; exact s7 _ _ hhd2), fun H8 F8 hP8 hB8 => ⟨rfl, ?_⟩⟩
    obtain ⟨s8, f8⟩ := hB8 H2 s7 (fun b hb => by
      simp only [List.mem_cons, List.not_mem_nil, or_false] at hb
      rw [hb]
      exact hp)
    have P8 : Part H2 H8 F8 := ⟨s8, f8⟩
    have hl8 : (V.int (bs.length : Int)) = .int (bx.length : Int) := by rw [hbl2]
    refine ⟨_, rfl, _, rfl, _, rfl, hd, _, rfl, .inl (SqL.of (P8.same _ _ hhd2)), _, rfl, kdP, p, pr, ys, rs, bx, F8, H2, k, (by rw [hbl2]), P8, hpr, hR, hP8, by omega, (by rw [← hbl2]; exact hfit), by omega, hk, fun H9 F9 G9 t ta P9 s9 ht hta hH9 => ?_⟩
    obtain ⟨dx9, ba, la, xs, eF, X⟩ := hH9
    have kq := kQ rs bx eos ebs hgood hg2
    refine ⟨_, rfl, t, _, _, _, rfl, rfl, SqT.of (P9.same _ _ ht), (by rfl), _, rfl, t, _, _, _, rfl, rfl, SqT.of (P9.same _ _ ht), (by rfl), _, rfl, p, cs.C_Plain, dx9, _, _, rfl, X.h1, T.cl_Plain, T.na_Plain_boxes, lk_boxes, _, rfl, p, cs.C_Plain, dx9, _, _, rfl, X.h1, T.cl_Plain, T.na_Plain_touches, lk_touches, (by show 4 ≤ sizeLine; decide), fun tt ntt => ?_⟩
    have s10 := Same.new (o := .tup [.ref ta, .str (endS rs (finM rs bx k)), .ref ba, .ref la]) ntt
    exact kq _ tt ta ba la xs ((((s1.trans s2).trans s9).trans P9.same).trans s10) upd_same (s10 _ _ (P9.same _ _ hta)) (s10 _ _ X.h2) (s10 _ _ X.h3) (X.tl.same s10)
/-! ### the law's own helpers -/
def mixed (c : Int) : Int := c * 48271 % 2147483647
def sp__law_mixed (K : PySem.W.Frag) (cs : Cs) : Sp := fun vs H Q _ => ∃ c : Int, vs = [.int c] ∧ Q (.int (mixed c)) H
theorem ok__law_mixed (T : Txt w K mg cs)  : Ok P w K mg base CX0 1 cs.f__law_mixed cs.d__law_mixed ["_law_cell"] (sp__law_mixed K cs) := by
  refine T.fn__law_mixed.ok sc__law_mixed (fun vs H Q E h => ?_) (fun cdv A outer s H vs Q E hr h => ?_)
  · obtain ⟨c, rfl, _⟩ := h
    rfl
  · obtain ⟨c, rfl, k⟩ := h
    refine ⟨_, (pss_one (ps_ret (pe_op op_mod (pe_op op_mul (pv 0) pe_int) pe_int))), ?_⟩
    refine ⟨_, rfl, _, _, rfl, rfl, .inr ⟨by decide, by decide⟩, _, _, rfl, rfl, (by show (0 : Int) < _; decide), k⟩
def sp__law_cell_at (K : PySem.W.Frag) (cs : Cs) : Sp := spCell K
theorem ok__law_cell_at (T : Txt w K mg cs)  : Ok P w K mg base CX0 1 cs.f__law_cell_at cs.d__law_cell_at ["_law_script", "_law_k"] (sp__law_cell_at K cs) := by
  refine T.fn__law_cell_at.ok sc__law_cell_at (fun vs H Q E h => ?_) (fun cdv A outer s H vs Q E hr h => ?_)
  · obtain ⟨l, ns, j, rfl, _⟩ := h
    rfl
  · obtain ⟨l, ns, j, rfl, hs, q⟩ := h
    refine ⟨_, (pss_cons (ps_if (pt_cmpR op_lt (pv 1) (pe_callB call_len_seq (by rfl) T.no_len PySem.boot_len (pa_cons (pv 0) pa_nil)) (nomark _)) (pss_one (ps_ret (pe_ix ix_list (pv 0) (pv 1) (fun _ _ => rfl)))) pss_nil)
      (pss_one (ps_ret pe_int))), ?_⟩
    refine ⟨_, rfl, _, rfl, l, _, rfl, .inl hs, _, _, rfl, rfl, _, rfl, iteD (fun c => ?_) (fun c => ?_)⟩
    · have hj : j < ns.length := by
        rw [List.length_map] at c
        omega
      exact ⟨_, rfl, _, rfl, l, _, _, _, rfl, rfl, hs, atI_cell hj, q⟩
    · have hj : ¬ j < ns.length := by
        rw [List.length_map] at c
        omega
      rw [cell_out hj] at q
      exact q
/-! ### _law_number_by -/
def numN (c : Int) : Nat := ([c / 4 % 10, 999999 - c / 4 % 3, c / 4 % 1000000, mixed c % 1000000].getD (c % 4).toNat 0).toNat
theorem numN_eq (c : Int) : [c / 4 % 10, 999999 - c / 4 % 3, c / 4 % 1000000, mixed c % 1000000].getD (c % 4).toNat 0 = (numN c : Int) ∧ numN c < 1000000 := by
  unfold numN
  rcases mod4 c with e | e | e | e <;> rw [e]
  · show c / 4 % 10 = ((c / 4 % 10).toNat : Int) ∧ (c / 4 % 10).toNat < 1000000
    omega
  · show 999999 - c / 4 % 3 = ((999999 - c / 4 % 3).toNat : Int) ∧ (999999 - c / 4 % 3).toNat < 1000000
    omega
  · show c / 4 % 1000000 = ((c / 4 % 1000000).toNat : Int) ∧ (c / 4 % 1000000).toNat < 1000000
    omega
  · show mixed c % 1000000 = ((mixed c % 1000000).toNat : Int) ∧ (mixed c % 1000000).toNat < 1000000
    omega
theorem numN_lt (c : Int) : numN c < 1000000 := (numN_eq c).2
def sp__law_number_by (K : PySem.W.Frag) (cs : Cs) : Sp := fun vs H Q _ => ∃ c : Int, vs = [.int c] ∧ ∀ H', Same H H' → Q (.int (numN c : Int)) H'
theorem ok__law_number_by (T : Txt w K mg cs) (o__law_mixed : Ok P w K mg base CX0 1 cs.f__law_mixed cs.d__law_mixed ["_law_cell"] (sp__law_mixed K cs)) : Ok P w K mg base CX0 2 cs.f__law_number_by cs.d__law_number_by ["_law_cell"] (sp__law_number_by K cs) := by
  refine T.fn__law_number_by.ok sc__law_number_by (fun vs H Q E h => ?_) (fun cdv A outer s H vs Q E hr h => ?_)
  · obtain ⟨c, rfl, _⟩ := h
    rfl
  · obtain ⟨c, rfl, q⟩ := h
    refine ⟨_, (pss_one (ps_ret (pe_ix ix_list (pe_lst (pa_cons (pe_op op_mod (pe_op op_fdiv (pv 0) pe_int) pe_int) (pa_cons (pe_op op_sub pe_int (pe_op op_mod (pe_op op_fdiv (pv 0) pe_int) pe_int)) (pa_cons (pe_op op_mod (pe_op op_fdiv (pv 0) pe_int) pe_int) (pa_cons (pe_op op_mod (pe_callO o__law_mixed hr (by rfl) T.gl__law_mixed pass0 (pa_cons (pv 0) pa_nil)) pe_int) pa_nil))))) (pe_op op_mod (pv 0) pe_int) (fun _ _ => rfl)))), ?_⟩
    refine ⟨_, rfl, _, _, rfl, rfl, ⟨by decide, by decide⟩, _, _, rfl, rfl, (by show (0 : Int) < _; decide), _, rfl, _, _, rfl, rfl, ⟨by decide, by decide⟩, _, _, rfl, rfl, (by show (0 : Int) < _; decide), _, _, rfl, rfl, _, rfl, _, _, rfl, rfl, ⟨by decide, by decide⟩, _, _, rfl, rfl, (by show (0 : Int) < _; decide), _, rfl, c, rfl, _, _, rfl, rfl, (by show (0 : Int) < _; decide), (by show 4 ≤ sizeLine; decide), fun l1 h1 => ?_⟩
    refine ⟨_, rfl, _, _, rfl, rfl, (by show (0 : Int) < _; decide), l1, _, _, _, rfl, rfl, SqL.of upd_same, mod_at (xs := [c / 4 % 10, 999999 - c / 4 % 3, c / 4 % 1000000, mixed c % 1000000]) c 4 rfl (by decide), ?_⟩
    have e := (numN_eq c).1
    show Q (.int ([c / 4 % 10, 999999 - c / 4 % 3, c / 4 % 1000000, mixed c % 1000000].getD (c % 4).toNat 0)) _
    rw [e]
    exact q _ (Same.new h1)
/-! ### _law_size_by -/
def sizeM (c : Int) : Int := [1 + c / 8 % 9, 1 + c / 8 % 3, 10 + c / 8 % 190, 200].getD ([0, 0, 0, 0, 1, 2, 2, 3].getD (c % 8).toNat (0 : Int)).toNat 0
theorem pick8 (c : Int) : ∃ i : Int, [0, 0, 0, 0, 1, 2, 2, 3].getD (c % 8).toNat (0 : Int) = i ∧ 0 ≤ i ∧ i < 4 := by
  have h0 := Int.emod_nonneg c (show (8 : Int) ≠ 0 by decide)
  have h1 := Int.emod_lt_of_pos c (show (0 : Int) < 8 by decide)
  generalize c % 8 = m at *
  have : m = 0 ∨ m = 1 ∨ m = 2 ∨ m = 3 ∨ m = 4 ∨ m = 5 ∨ m = 6 ∨ m = 7 := by omega
  rcases this with rfl | rfl | rfl | rfl | rfl | rfl | rfl | rfl <;> exact ⟨_, rfl, by decide, by decide⟩
theorem sizeM_ok (c : Int) : 1 ≤ sizeM c ∧ sizeM c ≤ 200 := by
  unfold sizeM
  obtain ⟨i, e, h0, h1⟩ := pick8 c
  rw [e]
  have : i = 0 ∨ i = 1 ∨ i = 2 ∨ i = 3 := by omega
  rcases this with rfl | rfl | rfl | rfl
  · show 1 ≤ 1 + c / 8 % 9 ∧ 1 + c / 8 % 9 ≤ 200
    omega
  · show 1 ≤ 1 + c / 8 % 3 ∧ 1 + c / 8 % 3 ≤ 200
    omega
  · show 1 ≤ 10 + c / 8 % 190 ∧ 10 + c / 8 % 190 ≤ 200
    omega
  · show (1 : Int) ≤ 200 ∧ (200 : Int) ≤ 200
    omega
def sp__law_size_by (K : PySem.W.Frag) (cs : Cs) : Sp := fun vs H Q _ => ∃ c : Int, vs = [.int c] ∧ ∀ H', Same H H' → Q (.int (sizeM c)) H'
theorem ok__law_size_by (T : Txt w K mg cs)  : Ok P w K mg base CX0 1 cs.f__law_size_by cs.d__law_size_by ["_law_cell"] (sp__law_size_by K cs) := by
  refine T.fn__law_size_by.ok sc__law_size_by (fun vs H Q E h => ?_) (fun cdv A outer s H vs Q E hr h => ?_)
  · obtain ⟨c, rfl, _⟩ := h
    rfl
  · obtain ⟨c, rfl, q⟩ := h
    refine ⟨_, (pss_one (ps_ret (pe_ix ix_list (pe_lst (pa_cons (pe_op op_add pe_int (pe_op op_mod (pe_op op_fdiv (pv 0) pe_int) pe_int)) (pa_cons (pe_op op_add pe_int (pe_op op_mod (pe_op op_fdiv (pv 0) pe_int) pe_int)) (pa_cons (pe_op op_add pe_int (pe_op op_mod (pe_op op_fdiv (pv 0) pe_int) pe_int)) (pa_cons pe_int pa_nil))))) (pe_ix ix_list (pe_lst (pa_cons pe_int (pa_cons pe_int (pa_cons pe_int (pa_cons pe_int (pa_cons pe_int (pa_cons pe_int (pa_cons pe_int (pa_cons pe_int pa_nil))))))))) (pe_op op_mod (pv 0) pe_int) (fun _ _ => rfl)) (fun _ _ => rfl)))), ?_⟩
    refine ⟨_, rfl, _, _, rfl, rfl, ⟨by decide, by decide⟩, _, _, rfl, rfl, (by show (0 : Int) < _; decide), _, _, rfl, rfl, _, rfl, _, _, rfl, rfl, ⟨by decide, by decide⟩, _, _, rfl, rfl, (by show (0 : Int) < _; decide), _, _, rfl, rfl, _, rfl, _, _, rfl, rfl, ⟨by decide, by decide⟩, _, _, rfl, rfl, (by show (0 : Int) < _; decide), _, _, rfl, rfl, (by show 4 ≤ sizeLine; decide), fun l1 h1 => ⟨(by show 8 ≤ sizeLine; decide), fun l2 h2 => ?_⟩⟩
    have s1 : Same H (upd H l1 (.lst (([1 + c / 8 % 9, 1 + c / 8 % 3, 10 + c / 8 % 190, 200] : List Int).map V.int))) := Same.new h1
    have s2' : Same (upd H l1 (.lst (([1 + c / 8 % 9, 1 + c / 8 % 3, 10 + c / 8 % 190, 200] : List Int).map V.int))) (upd (upd H l1 (.lst (([1 + c / 8 % 9, 1 + c / 8 % 3, 10 + c / 8 % 190, 200] : List Int).map V.int))) l2 (.lst (([0, 0, 0, 0, 1, 2, 2, 3] : List Int).map V.int))) := Same.new h2
    have hl1 := s2' _ _ (show (upd H l1 (.lst (([1 + c / 8 % 9, 1 + c / 8 % 3, 10 + c / 8 % 190, 200] : List Int).map V.int))) l1 = some (.lst (([1 + c / 8 % 9, 1 + c / 8 % 3, 10 + c / 8 % 190, 200] : List Int).map V.int)) from upd_same)
    obtain ⟨i, e, h0, h1'⟩ := pick8 c
    refine ⟨_, rfl, _, _, rfl, rfl, (by show (0 : Int) < _; decide), l2, _, _, _, rfl, rfl, SqL.of upd_same, mod_at (xs := [0, 0, 0, 0, 1, 2, 2, 3]) c 8 rfl (by decide), ?_⟩
    refine ⟨l1, _, _, _, rfl, rfl, SqL.of hl1, at_getD (xs := [1 + c / 8 % 9, 1 + c / 8 % 3, 10 + c / 8 % 190, 200]) (i := [0, 0, 0, 0, 1, 2, 2, 3].getD (c % ((8 : Nat) : Int)).toNat (0 : Int)) (by show 0 ≤ [0, 0, 0, 0, 1, 2, 2, 3].getD (c % 8).toNat (0 : Int); omega) (by show [0, 0, 0, 0, 1, 2, 2, 3].getD (c % 8).toNat (0 : Int) < 4; omega), ?_⟩
    exact q _ (s1.trans s2')
/-! ### _law_row_by -/
def rowM (c size count : Int) : Rw :=
  if c % 10 = 0 then .set (mixed c % size) (numN (mixed c / 3) : Int)
  else if c % 10 = 1 then .copy (mixed c % size) (mixed c / size % size)
  else if c % 10 = 2 then .add (mixed c % size) (mixed c / size % size) (mixed c / (size * size) % size)
  else if c % 10 = 3 then .sub (mixed c % size) (mixed c / size % size) (mixed c / (size * size) % size)
  else if c % 10 = 4 then .fetch (mixed c % size) (mixed c / size % size)
  else if c % 10 = 5 then .store (mixed c % size) (mixed c / size % size)
  else if c % 10 = 6 then .less (mixed c % size) (mixed c / size % size) (mixed c / 7 % (count + 1))
  else if c % 10 = 7 then .jump (mixed c / 7 % (count + 1))
  else .tell (mixed c % size)
theorem mod10 (c : Int) : c % 10 = 0 ∨ c % 10 = 1 ∨ c % 10 = 2 ∨ c % 10 = 3 ∨ c % 10 = 4 ∨ c % 10 = 5 ∨ c % 10 = 6 ∨ c % 10 = 7 ∨ c % 10 = 8 ∨ c % 10 = 9 := by omega
theorem rowM_fit {size count : Int} (h : 0 < size) (hc : 0 ≤ count) (c : Int) : (rowM c size count).Fit size count := by
  have b : ∀ z : Int, Bx size (z % size) := bx_mod h
  have p : ∀ z : Int, Pl count (z % (count + 1)) := fun z => ⟨Int.emod_nonneg _ (by omega), by have := Int.emod_lt_of_pos z (show 0 < count + 1 by omega); omega⟩
  have n : Pl 999999 (numN (mixed c / 3) : Int) := by
    have := numN_lt (mixed c / 3)
    exact ⟨by omega, by omega⟩
  unfold rowM
  rcases mod10 c with e | e | e | e | e | e | e | e | e | e <;> rw [e]
  · exact ⟨b _, n⟩
  · exact ⟨b _, b _⟩
  · exact ⟨b _, b _, b _⟩
  · exact ⟨b _, b _, b _⟩
  · exact ⟨b _, b _⟩
  · exact ⟨b _, b _⟩
  · exact ⟨b _, b _, p _⟩
  · exact p _
  · exact b _
  · exact b _
def tenW : List V := [.str "set", .str "copy", .str "add", .str "sub", .str "fetch", .str "store", .str "less", .str "jump", .str "tell", .str "tell"]
def sp__law_row_by (K : PySem.W.Frag) (cs : Cs) : Sp := fun vs H Q _ => ∃ (c size count : Int), vs = [.int c, .int size, .int count] ∧ 0 < size ∧ size ≤ 200 ∧ 0 ≤ count ∧ count ≤ 1000 ∧ ∀ H' t, Same H H' → H t = none → H' t = some (.tup (rowM c size count).vs) → Q (.ref t) H'
theorem ok__law_row_by (T : Txt w K mg cs) (o__law_mixed : Ok P w K mg base CX0 1 cs.f__law_mixed cs.d__law_mixed ["_law_cell"] (sp__law_mixed K cs)) (o__law_number_by : Ok P w K mg base CX0 2 cs.f__law_number_by cs.d__law_number_by ["_law_cell"] (sp__law_number_by K cs)) : Ok P w K mg base CX0 3 cs.f__law_row_by cs.d__law_row_by ["_law_cell", "_law_size", "_law_count"] (sp__law_row_by K cs) := by
  refine T.fn__law_row_by.ok sc__law_row_by (fun vs H Q E h => ?_) (fun cdv A outer s H vs Q E hr h => ?_)
  · obtain ⟨c, size, count, rfl, _⟩ := h
    rfl
  · obtain ⟨c, size, count, rfl, h0, h1, c0, c1, q⟩ := h
    refine ⟨_, (pss_cons (ps_set (i := 3) sc__law_row_by.nd rfl (Or.inl rfl) (pe_callO o__law_mixed (hr.mono (by decide)) (by rfl) T.gl__law_mixed pass0 (pa_cons (pv 0) pa_nil)))
      (pss_cons (ps_set (i := 4) sc__law_row_by.nd rfl (Or.inl rfl) (pe_ix ix_list (pe_lst (pa_cons pe_str (pa_cons pe_str (pa_cons pe_str (pa_cons pe_str (pa_cons pe_str (pa_cons pe_str (pa_cons pe_str (pa_cons pe_str (pa_cons pe_str (pa_cons pe_str pa_nil))))))))))) (pe_op op_mod (pv 0) pe_int) (fun _ _ => rfl)))
      (pss_cons (ps_set (i := 5) sc__law_row_by.nd rfl (Or.inl rfl) (pe_op op_mod (pv 3) (pv 1)))
      (pss_cons (ps_set (i := 6) sc__law_row_by.nd rfl (Or.inl rfl) (pe_op op_mod (pe_op op_fdiv (pv 3) (pv 1)) (pv 1)))
      (pss_cons (ps_set (i := 7) sc__law_row_by.nd rfl (Or.inl rfl) (pe_op op_mod (pe_op op_fdiv (pv 3) (pe_op op_mul (pv 1) (pv 1))) (pv 1)))
      (pss_cons (ps_set (i := 8) sc__law_row_by.nd rfl (Or.inl rfl) (pe_op op_mod (pe_op op_fdiv (pv 3) pe_int) (pe_op op_add (pv 2) pe_int)))
      (pss_cons (ps_if (pt_cmpR op_eq (pv 4) pe_str (nomark _)) (pss_one (ps_ret (pe_tup (pa_cons (pv 4) (pa_cons (pv 5) (pa_cons (pe_callO o__law_number_by hr (by rfl) T.gl__law_number_by pass0 (pa_cons (pe_op op_fdiv (pv 3) pe_int) pa_nil)) pa_nil)))))) pss_nil)
      (pss_cons (ps_if (pt_cmpR op_in_seq (pv 4) (pe_tup (pa_cons pe_str (pa_cons pe_str (pa_cons pe_str pa_nil)))) (by rfl)) (pss_one (ps_ret (pe_tup (pa_cons (pv 4) (pa_cons (pv 5) (pa_cons (pv 6) pa_nil)))))) pss_nil)
      (pss_cons (ps_if (pt_cmpR op_in_seq (pv 4) (pe_tup (pa_cons pe_str (pa_cons pe_str pa_nil))) (by rfl)) (pss_one (ps_ret (pe_tup (pa_cons (pv 4) (pa_cons (pv 5) (pa_cons (pv 6) (pa_cons (pv 7) pa_nil))))))) pss_nil)
      (pss_cons (ps_if (pt_cmpR op_eq (pv 4) pe_str (nomark _)) (pss_one (ps_ret (pe_tup (pa_cons (pv 4) (pa_cons (pv 5) (pa_cons (pv 6) (pa_cons (pv 8) pa_nil))))))) pss_nil)
      (pss_cons (ps_if (pt_cmpR op_eq (pv 4) pe_str (nomark _)) (pss_one (ps_ret (pe_tup (pa_cons (pv 4) (pa_cons (pv 8) pa_nil))))) pss_nil)
      (pss_one (ps_ret (pe_tup (pa_cons (pv 4) (pa_cons (pv 5) pa_nil)))))))))))))))), ?_⟩
    have sq0 : 0 < size * size := Int.mul_pos h0 h0
    have sq1 : size * size ≤ 200 * 200 := Int.mul_le_mul h1 h1 (by omega) (by decide)
    refine ⟨_, rfl, c, rfl, (by show 10 ≤ sizeLine; decide), fun l1 n1 => ?_⟩
    have s1 : Same H (upd H l1 (.lst tenW)) := Same.new n1
    have hl1 : (upd H l1 (.lst tenW)) l1 = some (.lst tenW) := upd_same
    rcases mod10 c with e | e | e | e | e | e | e | e | e | e
    · have er : rowM c size count = .set (mixed c % size) (numN (mixed c / 3) : Int) := by
          unfold rowM
          rw [e]
          rfl
      rw [er] at q
      refine ⟨_, rfl, _, _, rfl, rfl, (by show (0 : Int) < _; decide), l1, _, _, _, rfl, rfl, SqL.of hl1, (show atI tenW (c % 10) = some (.str "set") by rw [e]; rfl), ?_⟩
      refine ⟨_, rfl, _, rfl, _, _, rfl, rfl, h0, _, rfl, _, rfl, _, _, rfl, rfl, ⟨h0, by omega⟩, _, rfl, _, _, rfl, rfl, h0, _, rfl, _, rfl, _, rfl, _, _, rfl, rfl, .inr ⟨by omega, by omega⟩, _, _, rfl, rfl, ⟨sq0, by omega⟩, _, rfl, _, _, rfl, rfl, h0, _, rfl, _, _, rfl, rfl, ⟨by decide, by decide⟩, _, rfl, _, _, rfl, rfl, _, _, rfl, rfl, (by omega), ?_⟩
      refine ⟨_, rfl, rfl, _, rfl, iteD (fun _ => ?_) (fun z => absurd rfl z)⟩
      refine ⟨_, rfl, _, rfl, _, rfl, _, _, rfl, rfl, ⟨by decide, by decide⟩, _, rfl, fun H2 s2' => ⟨(by show 3 ≤ sizeLine; decide), fun t nt => ?_⟩⟩
      exact q _ t ((s1.trans s2').trans (Same.new nt)) ((s1.trans s2').free nt) upd_same
    · have er : rowM c size count = .copy (mixed c % size) (mixed c / size % size) := by
          unfold rowM
          rw [e]
          rfl
      rw [er] at q
      refine ⟨_, rfl, _, _, rfl, rfl, (by show (0 : Int) < _; decide), l1, _, _, _, rfl, rfl, SqL.of hl1, (show atI tenW (c % 10) = some (.str "copy") by rw [e]; rfl), ?_⟩
      refine ⟨_, rfl, _, rfl, _, _, rfl, rfl, h0, _, rfl, _, rfl, _, _, rfl, rfl, ⟨h0, by omega⟩, _, rfl, _, _, rfl, rfl, h0, _, rfl, _, rfl, _, rfl, _, _, rfl, rfl, .inr ⟨by omega, by omega⟩, _, _, rfl, rfl, ⟨sq0, by omega⟩, _, rfl, _, _, rfl, rfl, h0, _, rfl, _, _, rfl, rfl, ⟨by decide, by decide⟩, _, rfl, _, _, rfl, rfl, _, _, rfl, rfl, (by omega), ?_⟩
      refine ⟨_, rfl, rfl, _, rfl, iteD (fun z => absurd (V.str.inj z) (by decide +kernel)) (fun _ => ?_)⟩
      refine ⟨_, rfl, (by show 3 ≤ sizeLine; decide), fun x2 y2 => ⟨x2, _, rfl, .inr (SqT.of upd_same), rfl, rfl, _, rfl, iteB (fun _ => ?_) (fun z => absurd z (by decide +kernel))⟩⟩
      have s2 := s1.trans (Same.new (o := .tup [.str "copy", .str "fetch", .str "store"]) y2)
      refine ⟨_, rfl, _, rfl, _, rfl, (by show 3 ≤ sizeLine; decide), fun t nt => ?_⟩
      exact q _ t (s2.trans (Same.new nt)) (s2.free nt) upd_same
    · have er : rowM c size count = .add (mixed c % size) (mixed c / size % size) (mixed c / (size * size) % size) := by
          unfold rowM
          rw [e]
          rfl
      rw [er] at q
      refine ⟨_, rfl, _, _, rfl, rfl, (by show (0 : Int) < _; decide), l1, _, _, _, rfl, rfl, SqL.of hl1, (show atI tenW (c % 10) = some (.str "add") by rw [e]; rfl), ?_⟩
      refine ⟨_, rfl, _, rfl, _, _, rfl, rfl, h0, _, rfl, _, rfl, _, _, rfl, rfl, ⟨h0, by omega⟩, _, rfl, _, _, rfl, rfl, h0, _, rfl, _, rfl, _, rfl, _, _, rfl, rfl, .inr ⟨by omega, by omega⟩, _, _, rfl, rfl, ⟨sq0, by omega⟩, _, rfl, _, _, rfl, rfl, h0, _, rfl, _, _, rfl, rfl, ⟨by decide, by decide⟩, _, rfl, _, _, rfl, rfl, _, _, rfl, rfl, (by omega), ?_⟩
      refine ⟨_, rfl, rfl, _, rfl, iteD (fun z => absurd (V.str.inj z) (by decide +kernel)) (fun _ => ?_)⟩
      refine ⟨_, rfl, (by show 3 ≤ sizeLine; decide), fun x2 y2 => ⟨x2, _, rfl, .inr (SqT.of upd_same), rfl, rfl, _, rfl, iteB (fun z => absurd z (by decide +kernel)) (fun _ => ?_)⟩⟩
      have s2 := s1.trans (Same.new (o := .tup [.str "copy", .str "fetch", .str "store"]) y2)
      refine ⟨_, rfl, (by show 2 ≤ sizeLine; decide), fun x3 y3 => ⟨x3, _, rfl, .inr (SqT.of upd_same), rfl, rfl, _, rfl, iteB (fun _ => ?_) (fun z => absurd z (by decide +kernel))⟩⟩
      have s3 := s2.trans (Same.new (o := .tup [.str "add", .str "sub"]) y3)
      refine ⟨_, rfl, _, rfl, _, rfl, _, rfl, (by show 4 ≤ sizeLine; decide), fun t nt => ?_⟩
      exact q _ t (s3.trans (Same.new nt)) (s3.free nt) upd_same
    · have er : rowM c size count = .sub (mixed c % size) (mixed c / size % size) (mixed c / (size * size) % size) := by
          unfold rowM
          rw [e]
          rfl
      rw [er] at q
      refine ⟨_, rfl, _, _, rfl, rfl, (by show (0 : Int) < _; decide), l1, _, _, _, rfl, rfl, SqL.of hl1, (show atI tenW (c % 10) = some (.str "sub") by rw [e]; rfl), ?_⟩
      refine ⟨_, rfl, _, rfl, _, _, rfl, rfl, h0, _, rfl, _, rfl, _, _, rfl, rfl, ⟨h0, by omega⟩, _, rfl, _, _, rfl, rfl, h0, _, rfl, _, rfl, _, rfl, _, _, rfl, rfl, .inr ⟨by omega, by omega⟩, _, _, rfl, rfl, ⟨sq0, by omega⟩, _, rfl, _, _, rfl, rfl, h0, _, rfl, _, _, rfl, rfl, ⟨by decide, by decide⟩, _, rfl, _, _, rfl, rfl, _, _, rfl, rfl, (by omega), ?_⟩
      refine ⟨_, rfl, rfl, _, rfl, iteD (fun z => absurd (V.str.inj z) (by decide +kernel)) (fun _ => ?_)⟩
      refine ⟨_, rfl, (by show 3 ≤ sizeLine; decide), fun x2 y2 => ⟨x2, _, rfl, .inr (SqT.of upd_same), rfl, rfl, _, rfl, iteB (fun z => absurd z (by decide +kernel)) (fun _ => ?_)⟩⟩
      have s2 := s1.trans (Same.new (o := .tup [.str "copy", .str "fetch", .str "store"]) y2)
      refine ⟨_, rfl, (by show 2 ≤ sizeLine; decide), fun x3 y3 => ⟨x3, _, rfl, .inr (SqT.of upd_same), rfl, rfl, _, rfl, iteB (fun _ => ?_) (fun z => absurd z (by decide +kernel))⟩⟩
      have s3 := s2.trans (Same.new (o := .tup [.str "add", .str "sub"]) y3)
      refine ⟨_, rfl, _, rfl, _, rfl, _, rfl, (by show 4 ≤ sizeLine; decide), fun t nt => ?_⟩
      exact q _ t (s3.trans (Same.new nt)) (s3.free nt) upd_same
    · have er : rowM c size count = .fetch (mixed c % size) (mixed c / size % size) := by
          unfold rowM
          rw [e]
          rfl
      rw [er] at q
      refine ⟨_, rfl, _, _, rfl, rfl, (by show (0 : Int) < _; decide), l1, _, _, _, rfl, rfl, SqL.of hl1, (show atI tenW (c % 10) = some (.str "fetch") by rw [e]; rfl), ?_⟩
      refine ⟨_, rfl, _, rfl, _, _, rfl, rfl, h0, _, rfl, _, rfl, _, _, rfl, rfl, ⟨h0, by omega⟩, _, rfl, _, _, rfl, rfl, h0, _, rfl, _, rfl, _, rfl, _, _, rfl, rfl, .inr ⟨by omega, by omega⟩, _, _, rfl, rfl, ⟨sq0, by omega⟩, _, rfl, _, _, rfl, rfl, h0, _, rfl, _, _, rfl, rfl, ⟨by decide, by decide⟩, _, rfl, _, _, rfl, rfl, _, _, rfl, rfl, (by omega), ?_⟩
      refine ⟨_, rfl, rfl, _, rfl, iteD (fun z => absurd (V.str.inj z) (by decide +kernel)) (fun _ => ?_)⟩
      refine ⟨_, rfl, (by show 3 ≤ sizeLine; decide), fun x2 y2 => ⟨x2, _, rfl, .inr (SqT.of upd_same), rfl, rfl, _, rfl, iteB (fun _ => ?_) (fun z => absurd z (by decide +kernel))⟩⟩
      have s2 := s1.trans (Same.new (o := .tup [.str "copy", .str "fetch", .str "store"]) y2)
      refine ⟨_, rfl, _, rfl, _, rfl, (by show 3 ≤ sizeLine; decide), fun t nt => ?_⟩
      exact q _ t (s2.trans (Same.new nt)) (s2.free nt) upd_same
    · have er : rowM c size count = .store (mixed c % size) (mixed c / size % size) := by
          unfold rowM
          rw [e]
          rfl
      rw [er] at q
      refine ⟨_, rfl, _, _, rfl, rfl, (by show (0 : Int) < _; decide), l1, _, _, _, rfl, rfl, SqL.of hl1, (show atI tenW (c % 10) = some (.str "store") by rw [e]; rfl), ?_⟩
      refine ⟨_, rfl, _, rfl, _, _, rfl, rfl, h0, _, rfl, _, rfl, _, _, rfl, rfl, ⟨h0, by omega⟩, _, rfl, _, _, rfl, rfl, h0, _, rfl, _, rfl, _, rfl, _, _, rfl, rfl, .inr ⟨by omega, by omega⟩, _, _, rfl, rfl, ⟨sq0, by omega⟩, _, rfl, _, _, rfl, rfl, h0, _, rfl, _, _, rfl, rfl, ⟨by decide, by decide⟩, _, rfl, _, _, rfl, rfl, _, _, rfl, rfl, (by omega), ?_⟩
      refine ⟨_, rfl, rfl, _, rfl, iteD (fun z => absurd (V.str.inj z) (by decide +kernel)) (fun _ => ?_)⟩
      refine ⟨_, rfl, (by show 3 ≤ sizeLine; decide), fun x2 y2 => ⟨x2, _, rfl, .inr (SqT.of upd_same), rfl, rfl, _, rfl, iteB (fun _ => ?_) (fun z => absurd z (by decide +kernel))⟩⟩
      have s2 := s1.trans (Same.new (o := .tup [.str "copy", .str "fetch", .str "store"]) y2)
      refine ⟨_, rfl, _, rfl, _, rfl, (by show 3 ≤ sizeLine; decide), fun t nt => ?_⟩
      exact q _ t (s2.trans (Same.new nt)) (s2.free nt) upd_same
    · have er : rowM c size count = .less (mixed c % size) (mixed c / size % size) (mixed c / 7 % (count + 1)) := by
          unfold rowM
          rw [e]
          rfl
      rw [er] at q
      refine ⟨_, rfl, _, _, rfl, rfl, (by show (0 : Int) < _; decide), l1, _, _, _, rfl, rfl, SqL.of hl1, (show atI tenW (c % 10) = some (.str "less") by rw [e]; rfl), ?_⟩
      refine ⟨_, rfl, _, rfl, _, _, rfl, rfl, h0, _, rfl, _, rfl, _, _, rfl, rfl, ⟨h0, by omega⟩, _, rfl, _, _, rfl, rfl, h0, _, rfl, _, rfl, _, rfl, _, _, rfl, rfl, .inr ⟨by omega, by omega⟩, _, _, rfl, rfl, ⟨sq0, by omega⟩, _, rfl, _, _, rfl, rfl, h0, _, rfl, _, _, rfl, rfl, ⟨by decide, by decide⟩, _, rfl, _, _, rfl, rfl, _, _, rfl, rfl, (by omega), ?_⟩
      refine ⟨_, rfl, rfl, _, rfl, iteD (fun z => absurd (V.str.inj z) (by decide +kernel)) (fun _ => ?_)⟩
      refine ⟨_, rfl, (by show 3 ≤ sizeLine; decide), fun x2 y2 => ⟨x2, _, rfl, .inr (SqT.of upd_same), rfl, rfl, _, rfl, iteB (fun z => absurd z (by decide +kernel)) (fun _ => ?_)⟩⟩
      have s2 := s1.trans (Same.new (o := .tup [.str "copy", .str "fetch", .str "store"]) y2)
      refine ⟨_, rfl, (by show 2 ≤ sizeLine; decide), fun x3 y3 => ⟨x3, _, rfl, .inr (SqT.of upd_same), rfl, rfl, _, rfl, iteB (fun z => absurd z (by decide +kernel)) (fun _ => ?_)⟩⟩
      have s3 := s2.trans (Same.new (o := .tup [.str "add", .str "sub"]) y3)
      refine ⟨_, rfl, rfl, _, rfl, iteD (fun _ => ?_) (fun z => absurd rfl z)⟩
      refine ⟨_, rfl, _, rfl, _, rfl, _, rfl, (by show 4 ≤ sizeLine; decide), fun t nt => ?_⟩
      exact q _ t (s3.trans (Same.new nt)) (s3.free nt) upd_same
    · have er : rowM c size count = .jump (mixed c / 7 % (count + 1)) := by
          unfold rowM
          rw [e]
          rfl
      rw [er] at q
      refine ⟨_, rfl, _, _, rfl, rfl, (by show (0 : Int) < _; decide), l1, _, _, _, rfl, rfl, SqL.of hl1, (show atI tenW (c % 10) = some (.str "jump") by rw [e]; rfl), ?_⟩
      refine ⟨_, rfl, _, rfl, _, _, rfl, rfl, h0, _, rfl, _, rfl, _, _, rfl, rfl, ⟨h0, by omega⟩, _, rfl, _, _, rfl, rfl, h0, _, rfl, _, rfl, _, rfl, _, _, rfl, rfl, .inr ⟨by omega, by omega⟩, _, _, rfl, rfl, ⟨sq0, by omega⟩, _, rfl, _, _, rfl, rfl, h0, _, rfl, _, _, rfl, rfl, ⟨by decide, by decide⟩, _, rfl, _, _, rfl, rfl, _, _, rfl, rfl, (by omega), ?_⟩
      refine ⟨_, rfl, rfl, _, rfl, iteD (fun z => absurd (V.str.inj z) (by decide +kernel)) (fun _ => ?_)⟩
      refine ⟨_, rfl, (by show 3 ≤ sizeLine; decide), fun x2 y2 => ⟨x2, _, rfl, .inr (SqT.of upd_same), rfl, rfl, _, rfl, iteB (fun z => absurd z (by decide +kernel)) (fun _ => ?_)⟩⟩
      have s2 := s1.trans (Same.new (o := .tup [.str "copy", .str "fetch", .str "store"]) y2)
      refine ⟨_, rfl, (by show 2 ≤ sizeLine; decide), fun x3 y3 => ⟨x3, _, rfl, .inr (SqT.of upd_same), rfl, rfl, _, rfl, iteB (fun z => absurd z (by decide +kernel)) (fun _ => ?_)⟩⟩
      have s3 := s2.trans (Same.new (o := .tup [.str "add", .str "sub"]) y3)
      refine ⟨_, rfl, rfl, _, rfl, iteD (fun z => absurd (V.str.inj z) (by decide +kernel)) (fun _ => ?_)⟩
      refine ⟨_, rfl, rfl, _, rfl, iteD (fun _ => ?_) (fun z => absurd rfl z)⟩
      refine ⟨_, rfl, _, rfl, (by show 2 ≤ sizeLine; decide), fun t nt => ?_⟩
      exact q _ t (s3.trans (Same.new nt)) (s3.free nt) upd_same
    · have er : rowM c size count = .tell (mixed c % size) := by
          unfold rowM
          rw [e]
          rfl
      rw [er] at q
      refine ⟨_, rfl, _, _, rfl, rfl, (by show (0 : Int) < _; decide), l1, _, _, _, rfl, rfl, SqL.of hl1, (show atI tenW (c % 10) = some (.str "tell") by rw [e]; rfl), ?_⟩
      refine ⟨_, rfl, _, rfl, _, _, rfl, rfl, h0, _, rfl, _, rfl, _, _, rfl, rfl, ⟨h0, by omega⟩, _, rfl, _, _, rfl, rfl, h0, _, rfl, _, rfl, _, rfl, _, _, rfl, rfl, .inr ⟨by omega, by omega⟩, _, _, rfl, rfl, ⟨sq0, by omega⟩, _, rfl, _, _, rfl, rfl, h0, _, rfl, _, _, rfl, rfl, ⟨by decide, by decide⟩, _, rfl, _, _, rfl, rfl, _, _, rfl, rfl, (by omega), ?_⟩
      refine ⟨_, rfl, rfl, _, rfl, iteD (fun z => absurd (V.str.inj z) (by decide +kernel)) (fun _ => ?_)⟩
      refine ⟨_, rfl, (by show 3 ≤ sizeLine; decide), fun x2 y2 => ⟨x2, _, rfl, .inr (SqT.of upd_same), rfl, rfl, _, rfl, iteB (fun z => absurd z (by decide +kernel)) (fun _ => ?_)⟩⟩
      have s2 := s1.trans (Same.new (o := .tup [.str "copy", .str "fetch", .str "store"]) y2)
      refine ⟨_, rfl, (by show 2 ≤ sizeLine; decide), fun x3 y3 => ⟨x3, _, rfl, .inr (SqT.of upd_same), rfl, rfl, _, rfl, iteB (fun z => absurd z (by decide +kernel)) (fun _ => ?_)⟩⟩
      have s3 := s2.trans (Same.new (o := .tup [.str "add", .str "sub"]) y3)
      refine ⟨_, rfl, rfl, _, rfl, iteD (fun z => absurd (V.str.inj z) (by decide +kernel)) (fun _ => ?_)⟩
      refine ⟨_, rfl, rfl, _, rfl, iteD (fun z => absurd (V.str.inj z) (by decide +kernel)) (fun _ => ?_)⟩
      refine ⟨_, rfl, _, rfl, (by show 2 ≤ sizeLine; decide), fun t nt => ?_⟩
      exact q _ t (s3.trans (Same.new nt)) (s3.free nt) upd_same
    · have er : rowM c size count = .tell (mixed c % size) := by
          unfold rowM
          rw [e]
          rfl
      rw [er] at q
      refine ⟨_, rfl, _, _, rfl, rfl, (by show (0 : Int) < _; decide), l1, _, _, _, rfl, rfl, SqL.of hl1, (show atI tenW (c % 10) = some (.str "tell") by rw [e]; rfl), ?_⟩
      refine ⟨_, rfl, _, rfl, _, _, rfl, rfl, h0, _, rfl, _, rfl, _, _, rfl, rfl, ⟨h0, by omega⟩, _, rfl, _, _, rfl, rfl, h0, _, rfl, _, rfl, _, rfl, _, _, rfl, rfl, .inr ⟨by omega, by omega⟩, _, _, rfl, rfl, ⟨sq0, by omega⟩, _, rfl, _, _, rfl, rfl, h0, _, rfl, _, _, rfl, rfl, ⟨by decide, by decide⟩, _, rfl, _, _, rfl, rfl, _, _, rfl, rfl, (by omega), ?_⟩
      refine ⟨_, rfl, rfl, _, rfl, iteD (fun z => absurd (V.str.inj z) (by decide +kernel)) (fun _ => ?_)⟩
      refine ⟨_, rfl, (by show 3 ≤ sizeLine; decide), fun x2 y2 => ⟨x2, _, rfl, .inr (SqT.of upd_same), rfl, rfl, _, rfl, iteB (fun z => absurd z (by decide +kernel)) (fun _ => ?_)⟩⟩
      have s2 := s1.trans (Same.new (o := .tup [.str "copy", .str "fetch", .str "store"]) y2)
      refine ⟨_, rfl, (by show 2 ≤ sizeLine; decide), fun x3 y3 => ⟨x3, _, rfl, .inr (SqT.of upd_same), rfl, rfl, _, rfl, iteB (fun z => absurd z (by decide +kernel)) (fun _ => ?_)⟩⟩
      have s3 := s2.trans (Same.new (o := .tup [.str "add", .str "sub"]) y3)
      refine ⟨_, rfl, rfl, _, rfl, iteD (fun z => absurd (V.str.inj z) (by decide +kernel)) (fun _ => ?_)⟩
      refine ⟨_, rfl, rfl, _, rfl, iteD (fun z => absurd (V.str.inj z) (by decide +kernel)) (fun _ => ?_)⟩
      refine ⟨_, rfl, _, rfl, (by show 2 ≤ sizeLine; decide), fun t nt => ?_⟩
      exact q _ t (s3.trans (Same.new nt)) (s3.free nt) upd_same
/-! ### _law_reads, _law_writes -/
def Rw.reads (size : Int) (bx : List Int) : Rw → List Int
  | .add _ c d => [c, d]
  | .sub _ c d => [c, d]
  | .copy _ c => [c]
  | .fetch _ c => [c, rd bx c % size]
  | .store b c => [b, c]
  | .less b c _ => [b, c]
  | .tell b => [b]
  | _ => []
def Rw.writes (size : Int) (bx : List Int) : Rw → Option (Int × Int)
  | .set b n => some (b, n)
  | .copy b c => some (b, rd bx c)
  | .add b c d => some (b, (rd bx c + rd bx d) % 1000000)
  | .sub b c d => some (b, (rd bx c - rd bx d) % 1000000)
  | .fetch b c => some (b, rd bx (rd bx c % size))
  | .store b c => some (rd bx b % size, rd bx c)
  | _ => none
theorem writes_bx (size : Int) (bx : List Int) (r : Rw) : r.bx' size bx = match r.writes size bx with
    | some (i, n) => wrt bx i n
    | none => bx := by
  cases r <;> rfl
theorem tch_rw (size : Int) (bx : List Int) (r : Rw) : r.tch size bx = (r.reads size bx).map (fun b => (false, b)) ++ match r.writes size bx with
    | some (i, _) => [(true, i)]
    | none => [] := by
  cases r <;> rfl
theorem writes_bxi {size count : Int} {bx : List Int} {r : Rw} (h : 0 < size) (hf : r.Fit size count) {i n : Int} (e : r.writes size bx = some (i, n)) : Bx size i := by
  cases r <;> first | (cases e; done) | skip
  · cases e; exact hf.1
  · cases e; exact hf.1
  · cases e; exact hf.1
  · cases e; exact hf.1
  · cases e; exact hf.1
  · cases e; exact bx_mod h _
def sp__law_reads (K : PySem.W.Frag) (cs : Cs) : Sp := fun vs H Q _ => ∃ (b ha : Addr) (r : Rw) (bx : List Int) (count : Int), vs = [.ref b, .ref ha] ∧ H b = some (.tup r.vs) ∧ H ha = some (.lst (bx.map V.int)) ∧ 0 < bx.length ∧ r.Fit (bx.length : Int) count ∧
  ∀ H' p, Same H H' → H p = none → H' p = some (.lst ((r.reads (bx.length : Int) bx).map V.int)) → Q (.ref p) H'
theorem ok__law_reads (T : Txt w K mg cs)  : Ok P w K mg base CX0 1 cs.f__law_reads cs.d__law_reads ["_law_row", "_law_held"] (sp__law_reads K cs) := by
  refine T.fn__law_reads.ok sc__law_reads (fun vs H Q E h => ?_) (fun cdv A outer s H vs Q E hr h => ?_)
  · obtain ⟨b, ha, r, bx, count, rfl, _⟩ := h
    rfl
  · obtain ⟨b, ha, r, bx, count, rfl, hb, hh, h0, hf, q⟩ := h
    refine ⟨_, (pss_cons (ps_if (pt_cmpR op_in_seq (pe_ix ix_tup (pv 0) pe_int (fun _ _ => rfl)) (pe_tup (pa_cons pe_str (pa_cons pe_str pa_nil))) (by rfl)) (pss_one (ps_ret (pe_lst (pa_cons (pe_ix ix_tup (pv 0) pe_int (fun _ _ => rfl)) (pa_cons (pe_ix ix_tup (pv 0) pe_int (fun _ _ => rfl)) pa_nil))))) pss_nil)
      (pss_cons (ps_if (pt_cmpR op_eq (pe_ix ix_tup (pv 0) pe_int (fun _ _ => rfl)) pe_str (nomark _)) (pss_one (ps_ret (pe_lst (pa_cons (pe_ix ix_tup (pv 0) pe_int (fun _ _ => rfl)) pa_nil)))) pss_nil)
      (pss_cons (ps_if (pt_cmpR op_eq (pe_ix ix_tup (pv 0) pe_int (fun _ _ => rfl)) pe_str (nomark _)) (pss_one (ps_ret (pe_lst (pa_cons (pe_ix ix_tup (pv 0) pe_int (fun _ _ => rfl)) (pa_cons (pe_op op_mod (pe_ix ix_list (pv 1) (pe_ix ix_tup (pv 0) pe_int (fun _ _ => rfl)) (fun _ _ => rfl)) (pe_callB call_len_seq (by rfl) T.no_len PySem.boot_len (pa_cons (pv 1) pa_nil))) pa_nil))))) pss_nil)
      (pss_cons (ps_if (pt_cmpR op_in_seq (pe_ix ix_tup (pv 0) pe_int (fun _ _ => rfl)) (pe_tup (pa_cons pe_str (pa_cons pe_str pa_nil))) (by rfl)) (pss_one (ps_ret (pe_lst (pa_cons (pe_ix ix_tup (pv 0) pe_int (fun _ _ => rfl)) (pa_cons (pe_ix ix_tup (pv 0) pe_int (fun _ _ => rfl)) pa_nil))))) pss_nil)
      (pss_cons (ps_if (pt_cmpR op_eq (pe_ix ix_tup (pv 0) pe_int (fun _ _ => rfl)) pe_str (nomark _)) (pss_one (ps_ret (pe_lst (pa_cons (pe_ix ix_tup (pv 0) pe_int (fun _ _ => rfl)) pa_nil)))) pss_nil)
      (pss_one (ps_ret (pe_lst pa_nil)))))))), ?_⟩
    have hs0 : 0 < (bx.length : Int) := by omega
    cases r with
    | set b1 n1 =>
      refine ⟨_, rfl, b, _, _, _, rfl, rfl, SqT.of hb, (by rfl), (by show 2 ≤ sizeLine; decide), fun x1 y1 => ⟨x1, _, rfl, .inr (SqT.of upd_same), rfl, rfl, _, rfl, iteB (fun z => absurd z (by decide +kernel)) (fun _ => ?_)⟩⟩
      have s1 : Same H _ := Same.new (o := .tup [.str "add", .str "sub"]) y1
      refine ⟨_, rfl, b, _, _, _, rfl, rfl, SqT.of (s1 _ _ hb), (by rfl), rfl, _, rfl, iteD (fun z => absurd (V.str.inj z) (by decide +kernel)) (fun _ => ?_)⟩
      refine ⟨_, rfl, b, _, _, _, rfl, rfl, SqT.of (s1 _ _ hb), (by rfl), rfl, _, rfl, iteD (fun z => absurd (V.str.inj z) (by decide +kernel)) (fun _ => ?_)⟩
      refine ⟨_, rfl, b, _, _, _, rfl, rfl, SqT.of (s1 _ _ hb), (by rfl), (by show 2 ≤ sizeLine; decide), fun x2 y2 => ⟨x2, _, rfl, .inr (SqT.of upd_same), rfl, rfl, _, rfl, iteB (fun z => absurd z (by decide +kernel)) (fun _ => ?_)⟩⟩
      have s2 := s1.trans (Same.new (o := .tup [.str "store", .str "less"]) y2)
      refine ⟨_, rfl, b, _, _, _, rfl, rfl, SqT.of (s2 _ _ hb), (by rfl), rfl, _, rfl, iteD (fun z => absurd (V.str.inj z) (by decide +kernel)) (fun _ => ?_)⟩
      refine ⟨Nat.zero_le _, fun t nt => ?_⟩
      exact q _ t (s2.trans (Same.new nt)) (s2.free nt) upd_same
    | copy b1 c1 =>
      refine ⟨_, rfl, b, _, _, _, rfl, rfl, SqT.of hb, (by rfl), (by show 2 ≤ sizeLine; decide), fun x1 y1 => ⟨x1, _, rfl, .inr (SqT.of upd_same), rfl, rfl, _, rfl, iteB (fun z => absurd z (by decide +kernel)) (fun _ => ?_)⟩⟩
      have s1 : Same H _ := Same.new (o := .tup [.str "add", .str "sub"]) y1
      refine ⟨_, rfl, b, _, _, _, rfl, rfl, SqT.of (s1 _ _ hb), (by rfl), rfl, _, rfl, iteD (fun _ => ?_) (fun z => absurd rfl z)⟩
      refine ⟨_, rfl, b, _, _, _, rfl, rfl, SqT.of (s1 _ _ hb), (by rfl), (by show 1 ≤ sizeLine; decide), fun t nt => ?_⟩
      exact q _ t (s1.trans (Same.new nt)) (s1.free nt) upd_same
    | add b1 c1 d1 =>
      refine ⟨_, rfl, b, _, _, _, rfl, rfl, SqT.of hb, (by rfl), (by show 2 ≤ sizeLine; decide), fun x1 y1 => ⟨x1, _, rfl, .inr (SqT.of upd_same), rfl, rfl, _, rfl, iteB (fun _ => ?_) (fun z => absurd z (by decide +kernel))⟩⟩
      have s1 : Same H _ := Same.new (o := .tup [.str "add", .str "sub"]) y1
      refine ⟨_, rfl, b, _, _, _, rfl, rfl, SqT.of (s1 _ _ hb), (by rfl), _, rfl, b, _, _, _, rfl, rfl, SqT.of (s1 _ _ hb), (by rfl), (by show 2 ≤ sizeLine; decide), fun t nt => ?_⟩
      exact q _ t (s1.trans (Same.new nt)) (s1.free nt) upd_same
    | sub b1 c1 d1 =>
      refine ⟨_, rfl, b, _, _, _, rfl, rfl, SqT.of hb, (by rfl), (by show 2 ≤ sizeLine; decide), fun x1 y1 => ⟨x1, _, rfl, .inr (SqT.of upd_same), rfl, rfl, _, rfl, iteB (fun _ => ?_) (fun z => absurd z (by decide +kernel))⟩⟩
      have s1 : Same H _ := Same.new (o := .tup [.str "add", .str "sub"]) y1
      refine ⟨_, rfl, b, _, _, _, rfl, rfl, SqT.of (s1 _ _ hb), (by rfl), _, rfl, b, _, _, _, rfl, rfl, SqT.of (s1 _ _ hb), (by rfl), (by show 2 ≤ sizeLine; decide), fun t nt => ?_⟩
      exact q _ t (s1.trans (Same.new nt)) (s1.free nt) upd_same
    | fetch b1 c1 =>
      refine ⟨_, rfl, b, _, _, _, rfl, rfl, SqT.of hb, (by rfl), (by show 2 ≤ sizeLine; decide), fun x1 y1 => ⟨x1, _, rfl, .inr (SqT.of upd_same), rfl, rfl, _, rfl, iteB (fun z => absurd z (by decide +kernel)) (fun _ => ?_)⟩⟩
      have s1 : Same H _ := Same.new (o := .tup [.str "add", .str "sub"]) y1
      refine ⟨_, rfl, b, _, _, _, rfl, rfl, SqT.of (s1 _ _ hb), (by rfl), rfl, _, rfl, iteD (fun z => absurd (V.str.inj z) (by decide +kernel)) (fun _ => ?_)⟩
      refine ⟨_, rfl, b, _, _, _, rfl, rfl, SqT.of (s1 _ _ hb), (by rfl), rfl, _, rfl, iteD (fun _ => ?_) (fun z => absurd rfl z)⟩
      refine ⟨_, rfl, b, _, _, _, rfl, rfl, SqT.of (s1 _ _ hb), (by rfl), _, rfl, _, rfl, b, _, _, _, rfl, rfl, SqT.of (s1 _ _ hb), (by rfl), ha, _, _, _, rfl, rfl, SqL.of (s1 _ _ hh), rd_at hf.2, _, rfl, ha, _, rfl, .inl (SqL.of (s1 _ _ hh)), _, _, rfl, rfl, (by rw [List.length_map]; exact hs0), (by show 2 ≤ sizeLine; decide), fun t nt => ?_⟩
      exact q _ t (s1.trans (Same.new nt)) (s1.free nt) (by rw [upd_same, List.length_map]; rfl)
    | store b1 c1 =>
      refine ⟨_, rfl, b, _, _, _, rfl, rfl, SqT.of hb, (by rfl), (by show 2 ≤ sizeLine; decide), fun x1 y1 => ⟨x1, _, rfl, .inr (SqT.of upd_same), rfl, rfl, _, rfl, iteB (fun z => absurd z (by decide +kernel)) (fun _ => ?_)⟩⟩
      have s1 : Same H _ := Same.new (o := .tup [.str "add", .str "sub"]) y1
      refine ⟨_, rfl, b, _, _, _, rfl, rfl, SqT.of (s1 _ _ hb), (by rfl), rfl, _, rfl, iteD (fun z => absurd (V.str.inj z) (by decide +kernel)) (fun _ => ?_)⟩
      refine ⟨_, rfl, b, _, _, _, rfl, rfl, SqT.of (s1 _ _ hb), (by rfl), rfl, _, rfl, iteD (fun z => absurd (V.str.inj z) (by decide +kernel)) (fun _ => ?_)⟩
      refine ⟨_, rfl, b, _, _, _, rfl, rfl, SqT.of (s1 _ _ hb), (by rfl), (by show 2 ≤ sizeLine; decide), fun x2 y2 => ⟨x2, _, rfl, .inr (SqT.of upd_same), rfl, rfl, _, rfl, iteB (fun _ => ?_) (fun z => absurd z (by decide +kernel))⟩⟩
      have s2 := s1.trans (Same.new (o := .tup [.str "store", .str "less"]) y2)
      refine ⟨_, rfl, b, _, _, _, rfl, rfl, SqT.of (s2 _ _ hb), (by rfl), _, rfl, b, _, _, _, rfl, rfl, SqT.of (s2 _ _ hb), (by rfl), (by show 2 ≤ sizeLine; decide), fun t nt => ?_⟩
      exact q _ t (s2.trans (Same.new nt)) (s2.free nt) upd_same
    | less b1 c1 p1 =>
      refine ⟨_, rfl, b, _, _, _, rfl, rfl, SqT.of hb, (by rfl), (by show 2 ≤ sizeLine; decide), fun x1 y1 => ⟨x1, _, rfl, .inr (SqT.of upd_same), rfl, rfl, _, rfl, iteB (fun z => absurd z (by decide +kernel)) (fun _ => ?_)⟩⟩
      have s1 : Same H _ := Same.new (o := .tup [.str "add", .str "sub"]) y1
      refine ⟨_, rfl, b, _, _, _, rfl, rfl, SqT.of (s1 _ _ hb), (by rfl), rfl, _, rfl, iteD (fun z => absurd (V.str.inj z) (by decide +kernel)) (fun _ => ?_)⟩
      refine ⟨_, rfl, b, _, _, _, rfl, rfl, SqT.of (s1 _ _ hb), (by rfl), rfl, _, rfl, iteD (fun z => absurd (V.str.inj z) (by decide +kernel)) (fun _ => ?_)⟩
      refine ⟨_, rfl, b, _, _, _, rfl, rfl, SqT.of (s1 _ _ hb), (by rfl), (by show 2 ≤ sizeLine; decide), fun x2 y2 => ⟨x2, _, rfl, .inr (SqT.of upd_same), rfl, rfl, _, rfl, iteB (fun _ => ?_) (fun z => absurd z (by decide +kernel))⟩⟩
      have s2 := s1.trans (Same.new (o := .tup [.str "store", .str "less"]) y2)
      refine ⟨_, rfl, b, _, _, _, rfl, rfl, SqT.of (s2 _ _ hb), (by rfl), _, rfl, b, _, _, _, rfl, rfl, SqT.of (s2 _ _ hb), (by rfl), (by show 2 ≤ sizeLine; decide), fun t nt => ?_⟩
      exact q _ t (s2.trans (Same.new nt)) (s2.free nt) upd_same
    | jump p1 =>
      refine ⟨_, rfl, b, _, _, _, rfl, rfl, SqT.of hb, (by rfl), (by show 2 ≤ sizeLine; decide), fun x1 y1 => ⟨x1, _, rfl, .inr (SqT.of upd_same), rfl, rfl, _, rfl, iteB (fun z => absurd z (by decide +kernel)) (fun _ => ?_)⟩⟩
      have s1 : Same H _ := Same.new (o := .tup [.str "add", .str "sub"]) y1
      refine ⟨_, rfl, b, _, _, _, rfl, rfl, SqT.of (s1 _ _ hb), (by rfl), rfl, _, rfl, iteD (fun z => absurd (V.str.inj z) (by decide +kernel)) (fun _ => ?_)⟩
      refine ⟨_, rfl, b, _, _, _, rfl, rfl, SqT.of (s1 _ _ hb), (by rfl), rfl, _, rfl, iteD (fun z => absurd (V.str.inj z) (by decide +kernel)) (fun _ => ?_)⟩
      refine ⟨_, rfl, b, _, _, _, rfl, rfl, SqT.of (s1 _ _ hb), (by rfl), (by show 2 ≤ sizeLine; decide), fun x2 y2 => ⟨x2, _, rfl, .inr (SqT.of upd_same), rfl, rfl, _, rfl, iteB (fun z => absurd z (by decide +kernel)) (fun _ => ?_)⟩⟩
      have s2 := s1.trans (Same.new (o := .tup [.str "store", .str "less"]) y2)
      refine ⟨_, rfl, b, _, _, _, rfl, rfl, SqT.of (s2 _ _ hb), (by rfl), rfl, _, rfl, iteD (fun z => absurd (V.str.inj z) (by decide +kernel)) (fun _ => ?_)⟩
      refine ⟨Nat.zero_le _, fun t nt => ?_⟩
      exact q _ t (s2.trans (Same.new nt)) (s2.free nt) upd_same
    | tell b1 =>
      refine ⟨_, rfl, b, _, _, _, rfl, rfl, SqT.of hb, (by rfl), (by show 2 ≤ sizeLine; decide), fun x1 y1 => ⟨x1, _, rfl, .inr (SqT.of upd_same), rfl, rfl, _, rfl, iteB (fun z => absurd z (by decide +kernel)) (fun _ => ?_)⟩⟩
      have s1 : Same H _ := Same.new (o := .tup [.str "add", .str "sub"]) y1
      refine ⟨_, rfl, b, _, _, _, rfl, rfl, SqT.of (s1 _ _ hb), (by rfl), rfl, _, rfl, iteD (fun z => absurd (V.str.inj z) (by decide +kernel)) (fun _ => ?_)⟩
      refine ⟨_, rfl, b, _, _, _, rfl, rfl, SqT.of (s1 _ _ hb), (by rfl), rfl, _, rfl, iteD (fun z => absurd (V.str.inj z) (by decide +kernel)) (fun _ => ?_)⟩
      refine ⟨_, rfl, b, _, _, _, rfl, rfl, SqT.of (s1 _ _ hb), (by rfl), (by show 2 ≤ sizeLine; decide), fun x2 y2 => ⟨x2, _, rfl, .inr (SqT.of upd_same), rfl, rfl, _, rfl, iteB (fun z => absurd z (by decide +kernel)) (fun _ => ?_)⟩⟩
      have s2 := s1.trans (Same.new (o := .tup [.str "store", .str "less"]) y2)
      refine ⟨_, rfl, b, _, _, _, rfl, rfl, SqT.of (s2 _ _ hb), (by rfl), rfl, _, rfl, iteD (fun _ => ?_) (fun z => absurd rfl z)⟩
      refine ⟨_, rfl, b, _, _, _, rfl, rfl, SqT.of (s2 _ _ hb), (by rfl), (by show 1 ≤ sizeLine; decide), fun t nt => ?_⟩
      exact q _ t (s2.trans (Same.new nt)) (s2.free nt) upd_same
def sp__law_writes (K : PySem.W.Frag) (cs : Cs) : Sp := fun vs H Q _ => ∃ (b ha : Addr) (r : Rw) (bx : List Int) (count : Int), vs = [.ref b, .ref ha] ∧ H b = some (.tup r.vs) ∧ H ha = some (.lst (bx.map V.int)) ∧ 0 < bx.length ∧ r.Fit (bx.length : Int) count ∧
  (∀ H' p, r.writes (bx.length : Int) bx = none → Same H H' → H p = none → H' p = some (.lst []) → Q (.ref p) H') ∧
  (∀ i n H' p t, r.writes (bx.length : Int) bx = some (i, n) → Same H H' → H p = none → H' p = some (.lst [.ref t]) → H' t = some (.tup [.int i, .int n]) → Q (.ref p) H')
theorem ok__law_writes (T : Txt w K mg cs)  : Ok P w K mg base CX0 1 cs.f__law_writes cs.d__law_writes ["_law_row", "_law_held"] (sp__law_writes K cs) := by
  refine T.fn__law_writes.ok sc__law_writes (fun vs H Q E h => ?_) (fun cdv A outer s H vs Q E hr h => ?_)
  · obtain ⟨b, ha, r, bx, count, rfl, _⟩ := h
    rfl
  · obtain ⟨b, ha, r, bx, count, rfl, hb, hh, h0, hf, q0, q1⟩ := h
    refine ⟨_, (pss_cons (ps_if (pt_cmpR op_eq (pe_ix ix_tup (pv 0) pe_int (fun _ _ => rfl)) pe_str (nomark _)) (pss_one (ps_ret (pe_lst (pa_cons (pe_tup (pa_cons (pe_ix ix_tup (pv 0) pe_int (fun _ _ => rfl)) (pa_cons (pe_ix ix_tup (pv 0) pe_int (fun _ _ => rfl)) pa_nil))) pa_nil)))) pss_nil)
      (pss_cons (ps_if (pt_cmpR op_eq (pe_ix ix_tup (pv 0) pe_int (fun _ _ => rfl)) pe_str (nomark _)) (pss_one (ps_ret (pe_lst (pa_cons (pe_tup (pa_cons (pe_ix ix_tup (pv 0) pe_int (fun _ _ => rfl)) (pa_cons (pe_ix ix_list (pv 1) (pe_ix ix_tup (pv 0) pe_int (fun _ _ => rfl)) (fun _ _ => rfl)) pa_nil))) pa_nil)))) pss_nil)
      (pss_cons (ps_if (pt_cmpR op_eq (pe_ix ix_tup (pv 0) pe_int (fun _ _ => rfl)) pe_str (nomark _)) (pss_one (ps_ret (pe_lst (pa_cons (pe_tup (pa_cons (pe_ix ix_tup (pv 0) pe_int (fun _ _ => rfl)) (pa_cons (pe_op op_mod (pe_op op_add (pe_ix ix_list (pv 1) (pe_ix ix_tup (pv 0) pe_int (fun _ _ => rfl)) (fun _ _ => rfl)) (pe_ix ix_list (pv 1) (pe_ix ix_tup (pv 0) pe_int (fun _ _ => rfl)) (fun _ _ => rfl))) pe_int) pa_nil))) pa_nil)))) pss_nil)
      (pss_cons (ps_if (pt_cmpR op_eq (pe_ix ix_tup (pv 0) pe_int (fun _ _ => rfl)) pe_str (nomark _)) (pss_one (ps_ret (pe_lst (pa_cons (pe_tup (pa_cons (pe_ix ix_tup (pv 0) pe_int (fun _ _ => rfl)) (pa_cons (pe_op op_mod (pe_op op_sub (pe_ix ix_list (pv 1) (pe_ix ix_tup (pv 0) pe_int (fun _ _ => rfl)) (fun _ _ => rfl)) (pe_ix ix_list (pv 1) (pe_ix ix_tup (pv 0) pe_int (fun _ _ => rfl)) (fun _ _ => rfl))) pe_int) pa_nil))) pa_nil)))) pss_nil)
      (pss_cons (ps_if (pt_cmpR op_eq (pe_ix ix_tup (pv 0) pe_int (fun _ _ => rfl)) pe_str (nomark _)) (pss_one (ps_ret (pe_lst (pa_cons (pe_tup (pa_cons (pe_ix ix_tup (pv 0) pe_int (fun _ _ => rfl)) (pa_cons (pe_ix ix_list (pv 1) (pe_op op_mod (pe_ix ix_list (pv 1) (pe_ix ix_tup (pv 0) pe_int (fun _ _ => rfl)) (fun _ _ => rfl)) (pe_callB call_len_seq (by rfl) T.no_len PySem.boot_len (pa_cons (pv 1) pa_nil))) (fun _ _ => rfl)) pa_nil))) pa_nil)))) pss_nil)
      (pss_cons (ps_if (pt_cmpR op_eq (pe_ix ix_tup (pv 0) pe_int (fun _ _ => rfl)) pe_str (nomark _)) (pss_one (ps_ret (pe_lst (pa_cons (pe_tup (pa_cons (pe_op op_mod (pe_ix ix_list (pv 1) (pe_ix ix_tup (pv 0) pe_int (fun _ _ => rfl)) (fun _ _ => rfl)) (pe_callB call_len_seq (by rfl) T.no_len PySem.boot_len (pa_cons (pv 1) pa_nil))) (pa_cons (pe_ix ix_list (pv 1) (pe_ix ix_tup (pv 0) pe_int (fun _ _ => rfl)) (fun _ _ => rfl)) pa_nil))) pa_nil)))) pss_nil)
      (pss_one (ps_ret (pe_lst pa_nil))))))))), ?_⟩
    have hs0 : 0 < (bx.length : Int) := by omega
    cases r with
    | set b1 n1 =>
      refine ⟨_, rfl, b, _, _, _, rfl, rfl, SqT.of hb, (by rfl), rfl, _, rfl, iteD (fun _ => ?_) (fun z => absurd rfl z)⟩
      refine ⟨_, rfl, b, _, _, _, rfl, rfl, SqT.of hb, (by rfl), _, rfl, b, _, _, _, rfl, rfl, SqT.of hb, (by rfl), (by show 2 ≤ sizeLine; decide), fun t nt => ⟨(by show 1 ≤ sizeLine; decide), fun p np => ?_⟩⟩
      have z1 := Same.new (o := .lst [.ref t]) np
      exact q1 _ _ _ p t rfl ((Same.new nt).trans z1) ((Same.new nt).free np) upd_same (z1 _ _ (by rw [upd_same]))
    | copy b1 c1 =>
      refine ⟨_, rfl, b, _, _, _, rfl, rfl, SqT.of hb, (by rfl), rfl, _, rfl, iteD (fun z => absurd (V.str.inj z) (by decide +kernel)) (fun _ => ?_)⟩
      refine ⟨_, rfl, b, _, _, _, rfl, rfl, SqT.of hb, (by rfl), rfl, _, rfl, iteD (fun _ => ?_) (fun z => absurd rfl z)⟩
      refine ⟨_, rfl, b, _, _, _, rfl, rfl, SqT.of hb, (by rfl), _, rfl, _, rfl, b, _, _, _, rfl, rfl, SqT.of hb, (by rfl), ha, _, _, _, rfl, rfl, SqL.of hh, rd_at hf.2, (by show 2 ≤ sizeLine; decide), fun t nt => ⟨(by show 1 ≤ sizeLine; decide), fun p np => ?_⟩⟩
      have z1 := Same.new (o := .lst [.ref t]) np
      exact q1 _ _ _ p t rfl ((Same.new nt).trans z1) ((Same.new nt).free np) upd_same (z1 _ _ (by rw [upd_same]))
    | add b1 c1 d1 =>
      refine ⟨_, rfl, b, _, _, _, rfl, rfl, SqT.of hb, (by rfl), rfl, _, rfl, iteD (fun z => absurd (V.str.inj z) (by decide +kernel)) (fun _ => ?_)⟩
      refine ⟨_, rfl, b, _, _, _, rfl, rfl, SqT.of hb, (by rfl), rfl, _, rfl, iteD (fun z => absurd (V.str.inj z) (by decide +kernel)) (fun _ => ?_)⟩
      refine ⟨_, rfl, b, _, _, _, rfl, rfl, SqT.of hb, (by rfl), rfl, _, rfl, iteD (fun _ => ?_) (fun z => absurd rfl z)⟩
      refine ⟨_, rfl, b, _, _, _, rfl, rfl, SqT.of hb, (by rfl), _, rfl, _, rfl, b, _, _, _, rfl, rfl, SqT.of hb, (by rfl), ha, _, _, _, rfl, rfl, SqL.of hh, rd_at hf.2.1, _, rfl, _, rfl, b, _, _, _, rfl, rfl, SqT.of hb, (by rfl), ha, _, _, _, rfl, rfl, SqL.of hh, rd_at hf.2.2, _, _, rfl, rfl, _, _, rfl, rfl, (by show (0 : Int) < _; decide), (by show 2 ≤ sizeLine; decide), fun t nt => ⟨(by show 1 ≤ sizeLine; decide), fun p np => ?_⟩⟩
      have z1 := Same.new (o := .lst [.ref t]) np
      exact q1 _ _ _ p t rfl ((Same.new nt).trans z1) ((Same.new nt).free np) upd_same (z1 _ _ (by rw [upd_same]))
    | sub b1 c1 d1 =>
      refine ⟨_, rfl, b, _, _, _, rfl, rfl, SqT.of hb, (by rfl), rfl, _, rfl, iteD (fun z => absurd (V.str.inj z) (by decide +kernel)) (fun _ => ?_)⟩
      refine ⟨_, rfl, b, _, _, _, rfl, rfl, SqT.of hb, (by rfl), rfl, _, rfl, iteD (fun z => absurd (V.str.inj z) (by decide +kernel)) (fun _ => ?_)⟩
      refine ⟨_, rfl, b, _, _, _, rfl, rfl, SqT.of hb, (by rfl), rfl, _, rfl, iteD (fun z => absurd (V.str.inj z) (by decide +kernel)) (fun _ => ?_)⟩
      refine ⟨_, rfl, b, _, _, _, rfl, rfl, SqT.of hb, (by rfl), rfl, _, rfl, iteD (fun _ => ?_) (fun z => absurd rfl z)⟩
      refine ⟨_, rfl, b, _, _, _, rfl, rfl, SqT.of hb, (by rfl), _, rfl, _, rfl, b, _, _, _, rfl, rfl, SqT.of hb, (by rfl), ha, _, _, _, rfl, rfl, SqL.of hh, rd_at hf.2.1, _, rfl, _, rfl, b, _, _, _, rfl, rfl, SqT.of hb, (by rfl), ha, _, _, _, rfl, rfl, SqL.of hh, rd_at hf.2.2, _, _, rfl, rfl, _, _, rfl, rfl, (by show (0 : Int) < _; decide), (by show 2 ≤ sizeLine; decide), fun t nt => ⟨(by show 1 ≤ sizeLine; decide), fun p np => ?_⟩⟩
      have z1 := Same.new (o := .lst [.ref t]) np
      exact q1 _ _ _ p t rfl ((Same.new nt).trans z1) ((Same.new nt).free np) upd_same (z1 _ _ (by rw [upd_same]))
    | fetch b1 c1 =>
      refine ⟨_, rfl, b, _, _, _, rfl, rfl, SqT.of hb, (by rfl), rfl, _, rfl, iteD (fun z => absurd (V.str.inj z) (by decide +kernel)) (fun _ => ?_)⟩
      refine ⟨_, rfl, b, _, _, _, rfl, rfl, SqT.of hb, (by rfl), rfl, _, rfl, iteD (fun z => absurd (V.str.inj z) (by decide +kernel)) (fun _ => ?_)⟩
      refine ⟨_, rfl, b, _, _, _, rfl, rfl, SqT.of hb, (by rfl), rfl, _, rfl, iteD (fun z => absurd (V.str.inj z) (by decide +kernel)) (fun _ => ?_)⟩
      refine ⟨_, rfl, b, _, _, _, rfl, rfl, SqT.of hb, (by rfl), rfl, _, rfl, iteD (fun z => absurd (V.str.inj z) (by decide +kernel)) (fun _ => ?_)⟩
      refine ⟨_, rfl, b, _, _, _, rfl, rfl, SqT.of hb, (by rfl), rfl, _, rfl, iteD (fun _ => ?_) (fun z => absurd rfl z)⟩
      refine ⟨_, rfl, b, _, _, _, rfl, rfl, SqT.of hb, (by rfl), _, rfl, _, rfl, _, rfl, b, _, _, _, rfl, rfl, SqT.of hb, (by rfl), ha, _, _, _, rfl, rfl, SqL.of hh, rd_at hf.2, _, rfl, ha, _, rfl, .inl (SqL.of hh), _, _, rfl, rfl, (by rw [List.length_map]; exact hs0), ha, _, _, _, rfl, rfl, SqL.of hh, (by rw [List.length_map]; exact rd_at (bx_mod hs0 _)), (by show 2 ≤ sizeLine; decide), fun t nt => ⟨(by show 1 ≤ sizeLine; decide), fun p np => ?_⟩⟩
      have z1 := Same.new (o := .lst [.ref t]) np
      exact q1 _ _ _ p t rfl ((Same.new nt).trans z1) ((Same.new nt).free np) upd_same (z1 _ _ (by rw [upd_same]))
    | store b1 c1 =>
      refine ⟨_, rfl, b, _, _, _, rfl, rfl, SqT.of hb, (by rfl), rfl, _, rfl, iteD (fun z => absurd (V.str.inj z) (by decide +kernel)) (fun _ => ?_)⟩
      refine ⟨_, rfl, b, _, _, _, rfl, rfl, SqT.of hb, (by rfl), rfl, _, rfl, iteD (fun z => absurd (V.str.inj z) (by decide +kernel)) (fun _ => ?_)⟩
      refine ⟨_, rfl, b, _, _, _, rfl, rfl, SqT.of hb, (by rfl), rfl, _, rfl, iteD (fun z => absurd (V.str.inj z) (by decide +kernel)) (fun _ => ?_)⟩
      refine ⟨_, rfl, b, _, _, _, rfl, rfl, SqT.of hb, (by rfl), rfl, _, rfl, iteD (fun z => absurd (V.str.inj z) (by decide +kernel)) (fun _ => ?_)⟩
      refine ⟨_, rfl, b, _, _, _, rfl, rfl, SqT.of hb, (by rfl), rfl, _, rfl, iteD (fun z => absurd (V.str.inj z) (by decide +kernel)) (fun _ => ?_)⟩
      refine ⟨_, rfl, b, _, _, _, rfl, rfl, SqT.of hb, (by rfl), rfl, _, rfl, iteD (fun _ => ?_) (fun z => absurd rfl z)⟩
      refine ⟨_, rfl, _, rfl, b, _, _, _, rfl, rfl, SqT.of hb, (by rfl), ha, _, _, _, rfl, rfl, SqL.of hh, rd_at hf.1, _, rfl, ha, _, rfl, .inl (SqL.of hh), _, _, rfl, rfl, (by rw [List.length_map]; exact hs0), _, rfl, _, rfl, b, _, _, _, rfl, rfl, SqT.of hb, (by rfl), ha, _, _, _, rfl, rfl, SqL.of hh, rd_at hf.2, (by show 2 ≤ sizeLine; decide), fun t nt => ⟨(by show 1 ≤ sizeLine; decide), fun p np => ?_⟩⟩
      have z1 := Same.new (o := .lst [.ref t]) np
      exact q1 _ _ _ p t rfl ((Same.new nt).trans z1) ((Same.new nt).free np) upd_same (z1 _ _ (by rw [upd_same]; rw [List.length_map]))
    | less b1 c1 p1 =>
      refine ⟨_, rfl, b, _, _, _, rfl, rfl, SqT.of hb, (by rfl), rfl, _, rfl, iteD (fun z => absurd (V.str.inj z) (by decide +kernel)) (fun _ => ?_)⟩
      refine ⟨_, rfl, b, _, _, _, rfl, rfl, SqT.of hb, (by rfl), rfl, _, rfl, iteD (fun z => absurd (V.str.inj z) (by decide +kernel)) (fun _ => ?_)⟩
      refine ⟨_, rfl, b, _, _, _, rfl, rfl, SqT.of hb, (by rfl), rfl, _, rfl, iteD (fun z => absurd (V.str.inj z) (by decide +kernel)) (fun _ => ?_)⟩
      refine ⟨_, rfl, b, _, _, _, rfl, rfl, SqT.of hb, (by rfl), rfl, _, rfl, iteD (fun z => absurd (V.str.inj z) (by decide +kernel)) (fun _ => ?_)⟩
      refine ⟨_, rfl, b, _, _, _, rfl, rfl, SqT.of hb, (by rfl), rfl, _, rfl, iteD (fun z => absurd (V.str.inj z) (by decide +kernel)) (fun _ => ?_)⟩
      refine ⟨_, rfl, b, _, _, _, rfl, rfl, SqT.of hb, (by rfl), rfl, _, rfl, iteD (fun z => absurd (V.str.inj z) (by decide +kernel)) (fun _ => ?_)⟩
      exact ⟨Nat.zero_le _, fun p np => q0 _ p rfl (Same.new np) np upd_same⟩
    | jump p1 =>
      refine ⟨_, rfl, b, _, _, _, rfl, rfl, SqT.of hb, (by rfl), rfl, _, rfl, iteD (fun z => absurd (V.str.inj z) (by decide +kernel)) (fun _ => ?_)⟩
      refine ⟨_, rfl, b, _, _, _, rfl, rfl, SqT.of hb, (by rfl), rfl, _, rfl, iteD (fun z => absurd (V.str.inj z) (by decide +kernel)) (fun _ => ?_)⟩
      refine ⟨_, rfl, b, _, _, _, rfl, rfl, SqT.of hb, (by rfl), rfl, _, rfl, iteD (fun z => absurd (V.str.inj z) (by decide +kernel)) (fun _ => ?_)⟩
      refine ⟨_, rfl, b, _, _, _, rfl, rfl, SqT.of hb, (by rfl), rfl, _, rfl, iteD (fun z => absurd (V.str.inj z) (by decide +kernel)) (fun _ => ?_)⟩
      refine ⟨_, rfl, b, _, _, _, rfl, rfl, SqT.of hb, (by rfl), rfl, _, rfl, iteD (fun z => absurd (V.str.inj z) (by decide +kernel)) (fun _ => ?_)⟩
      refine ⟨_, rfl, b, _, _, _, rfl, rfl, SqT.of hb, (by rfl), rfl, _, rfl, iteD (fun z => absurd (V.str.inj z) (by decide +kernel)) (fun _ => ?_)⟩
      exact ⟨Nat.zero_le _, fun p np => q0 _ p rfl (Same.new np) np upd_same⟩
    | tell b1 =>
      refine ⟨_, rfl, b, _, _, _, rfl, rfl, SqT.of hb, (by rfl), rfl, _, rfl, iteD (fun z => absurd (V.str.inj z) (by decide +kernel)) (fun _ => ?_)⟩
      refine ⟨_, rfl, b, _, _, _, rfl, rfl, SqT.of hb, (by rfl), rfl, _, rfl, iteD (fun z => absurd (V.str.inj z) (by decide +kernel)) (fun _ => ?_)⟩
      refine ⟨_, rfl, b, _, _, _, rfl, rfl, SqT.of hb, (by rfl), rfl, _, rfl, iteD (fun z => absurd (V.str.inj z) (by decide +kernel)) (fun _ => ?_)⟩
      refine ⟨_, rfl, b, _, _, _, rfl, rfl, SqT.of hb, (by rfl), rfl, _, rfl, iteD (fun z => absurd (V.str.inj z) (by decide +kernel)) (fun _ => ?_)⟩
      refine ⟨_, rfl, b, _, _, _, rfl, rfl, SqT.of hb, (by rfl), rfl, _, rfl, iteD (fun z => absurd (V.str.inj z) (by decide +kernel)) (fun _ => ?_)⟩
      refine ⟨_, rfl, b, _, _, _, rfl, rfl, SqT.of hb, (by rfl), rfl, _, rfl, iteD (fun z => absurd (V.str.inj z) (by decide +kernel)) (fun _ => ?_)⟩
      exact ⟨Nat.zero_le _, fun p np => q0 _ p rfl (Same.new np) np upd_same⟩
/-! ### _law_run_by -/
def Rw.nx1 (place : Int) : Rw → Int
  | .jump p => p
  | _ => place + 1
def sp__law_run_by (K : PySem.W.Frag) (cs : Cs) : Sp := fun vs H Q _ => ∃ (a b : Addr) (ys : List V) (rs : List Rw) (bx : List Int) (k : Nat), vs = [.ref a, .ref b, .int (k : Int)] ∧ SqL K H a ys ∧ RL H ys rs ∧ SqL K H b (bx.map V.int) ∧ 0 < bx.length ∧ bx.length ≤ 1000 ∧
  (∀ r ∈ rs, r.Fit (bx.length : Int) (rs.length : Int)) ∧ rs.length ≤ 1000 ∧ k ≤ 1000 ∧
  ∀ H' t ta ba la xs, Same H H' → H' t = some (.tup [.ref ta, .str (endS rs (finM rs bx k)), .ref ba, .ref la]) → H' ta = some (.lst ((finM rs bx k).told.map V.int)) →
    H' ba = some (.lst ((finM rs bx k).bx.map V.int)) → H' la = some (.lst xs) → TL K H' xs (finM rs bx k).log → Q (.ref t) H'
theorem ok__law_run_by (T : Txt w K mg cs) (o__law_writes : Ok P w K mg base CX0 1 cs.f__law_writes cs.d__law_writes ["_law_row", "_law_held"] (sp__law_writes K cs)) (o__law_reads : Ok P w K mg base CX0 1 cs.f__law_reads cs.d__law_reads ["_law_row", "_law_held"] (sp__law_reads K cs)) : Ok P w K mg base CX0 2 cs.f__law_run_by cs.d__law_run_by ["_law_rows", "_law_boxes", "_law_steps"] (sp__law_run_by K cs) := by
  refine T.fn__law_run_by.ok sc__law_run_by (fun vs H Q E h => ?_) (fun cdv A outer s H vs Q E hr h => ?_)
  · obtain ⟨a, b, ys, rs, bx, k, rfl, _⟩ := h
    rfl
  · obtain ⟨a, b, ys, rs, bx, k, rfl, hA, hR, hB, hsz, hszl, hfits, hrl, hk, q⟩ := h
    refine ⟨_, (pss_cons (ps_set (i := 3) sc__law_run_by.nd rfl (Or.inl rfl) (pe_callTy call_list_of (by rfl) T.no_list boot_list (pa_cons (pv 1) pa_nil)))
      (pss_cons (ps_set (i := 4) sc__law_run_by.nd rfl (Or.inl rfl) (pe_lst pa_nil))
      (pss_cons (ps_set (i := 5) sc__law_run_by.nd rfl (Or.inl rfl) (pe_lst pa_nil))
      (pss_cons (ps_set (i := 6) sc__law_run_by.nd rfl (Or.inl rfl) pe_int)
      (pss_cons (ps_while PassesOwn.never (pt_jn (PW.pt (pw_and (pt_cmpR op_lt (pv 6) (pe_callB call_len_seq (by rfl) T.no_len PySem.boot_len (pa_cons (pv 0) pa_nil)) (nomark _)) (pw_and1 (pt_cmpR op_gt (pv 2) pe_int (nomark _)))))) (pss_cons (ps_set (i := 7) sc__law_run_by.nd rfl (Or.inl rfl) (pe_ix ix_list (pv 0) (pv 6) (fun _ _ => rfl)))
      (pss_cons (ps_set (i := 6) sc__law_run_by.nd rfl (Or.inl rfl) (pe_op op_add (pv 6) pe_int))
      (pss_cutS (ps_if (pt_cmpR op_eq (pe_ix ix_tup (pv 7) pe_int (fun _ _ => rfl)) pe_str (nomark _)) (pss_one (ps_set (i := 6) sc__law_run_by.nd rfl (Or.inl rfl) (pe_ix ix_tup (pv 7) pe_int (fun _ _ => rfl)))) pss_nil)
      (pss_cutS (ps_if (pt_jn (PW.pt (pw_and (pt_cmpR op_eq (pe_ix ix_tup (pv 7) pe_int (fun _ _ => rfl)) pe_str (nomark _)) (pw_and1 (pt_cmpR op_lt (pe_ix ix_list (pv 3) (pe_ix ix_tup (pv 7) pe_int (fun _ _ => rfl)) (fun _ _ => rfl)) (pe_ix ix_list (pv 3) (pe_ix ix_tup (pv 7) pe_int (fun _ _ => rfl)) (fun _ _ => rfl)) (nomark _)))))) (pss_one (ps_set (i := 6) sc__law_run_by.nd rfl (Or.inl rfl) (pe_ix ix_tup (pv 7) pe_int (fun _ _ => rfl)))) pss_nil)
      (pss_cutS (ps_if (pt_cmpR op_eq (pe_ix ix_tup (pv 7) pe_int (fun _ _ => rfl)) pe_str (nomark _)) (pss_one (ps_expr (pe_bm PySem.F.plainAttrs_list PySem.F.slot_list_append PySem.F.type_list_append mt_append (pv 4) (pa_cons (pe_ix ix_list (pv 3) (pe_ix ix_tup (pv 7) pe_int (fun _ _ => rfl)) (fun _ _ => rfl)) pa_nil)))) pss_nil)
      (pss_cutS (ps_set (i := 8) sc__law_run_by.nd rfl (Or.inl rfl) (pe_callO o__law_writes hr (by rfl) T.gl__law_writes pass0 (pa_cons (pv 7) (pa_cons (pv 3) pa_nil))))
      (pss_cons (ps_for PassesOwn.never rfl (pi_list (pe_callO o__law_reads hr (by rfl) T.gl__law_reads pass0 (pa_cons (pv 7) (pa_cons (pv 3) pa_nil)))) (pg_name (i := 9) sc__law_run_by.nd rfl (Or.inl rfl)) (pss_one (ps_expr (pe_bm PySem.F.plainAttrs_list PySem.F.slot_list_append PySem.F.type_list_append mt_append (pv 5) (pa_cons (pe_tup (pa_cons pe_str (pa_cons (pv 9) pa_nil))) pa_nil)))))
      (pss_cutS (ps_for PassesOwn.never rfl (pi_list (pv 8)) (pg_name (i := 10) sc__law_run_by.nd rfl (Or.inl rfl)) (pss_cons (ps_expr (pe_bm PySem.F.plainAttrs_list PySem.F.slot_list_append PySem.F.type_list_append mt_append (pv 5) (pa_cons (pe_tup (pa_cons pe_str (pa_cons (pe_ix ix_tup (pv 10) pe_int (fun _ _ => rfl)) pa_nil))) pa_nil)))
      (pss_one (ps_asg (pe_ix ix_tup (pv 10) pe_int (fun _ _ => rfl)) (pg_sub (pv 3) (pe_ix ix_tup (pv 10) pe_int (fun _ _ => rfl)) set_list)))))
      (pss_one (ps_set (i := 2) sc__law_run_by.nd rfl (Or.inl rfl) (pe_op op_sub (pv 2) pe_int))))))))))))
      (pss_cons (ps_if (pt_cmpR op_lt (pv 6) (pe_callB call_len_seq (by rfl) T.no_len PySem.boot_len (pa_cons (pv 0) pa_nil)) (nomark _)) (pss_one (ps_ret (pe_tup (pa_cons (pv 4) (pa_cons pe_str (pa_cons (pv 3) (pa_cons (pv 5) pa_nil))))))) pss_nil)
      (pss_one (ps_ret (pe_tup (pa_cons (pv 4) (pa_cons pe_str (pa_cons (pv 3) (pa_cons (pv 5) pa_nil))))))))))))), ?_⟩
    unfold finM at q
    generalize hsize : (bx.length : Int) = size at *
    have hs0 : 0 < size := by omega
    refine ⟨_, rfl, b, _, rfl, .inl hB, fun ha nha => ?_⟩
    have s1 : Same H (upd H ha (.lst (bx.map V.int))) := Same.new nha
    have hha : (upd H ha (.lst (bx.map V.int))) ha = some (.lst (bx.map V.int)) := upd_same
    generalize upd H ha (.lst (bx.map V.int)) = H1 at *
    refine ⟨Nat.zero_le _, fun ta nta => ⟨Nat.zero_le _, fun la nla => ?_⟩⟩
    have s2 : Same H1 (upd H1 ta (.lst [])) := Same.new nta
    have hta : (upd H1 ta (.lst [])) ta = some (.lst []) := upd_same
    have d1 : ha ≠ ta := ne_of_none hha nta
    generalize upd H1 ta (.lst []) = H2 at *
    have s3 : Same H2 (upd H2 la (.lst [])) := Same.new nla
    have hla : (upd H2 la (.lst [])) la = some (.lst []) := upd_same
    have d2 : ha ≠ la := ne_of_none (s2 _ _ hha) nla
    have d3 : ta ≠ la := ne_of_none hta nla
    generalize upd H2 la (.lst []) = H3 at *
    have fha : H ha = none := nha
    have fta : H ta = none := s1.free nta
    have fla : H la = none := (s1.trans s2).free nla
    generalize hm0 : (⟨bx, [], [], 0⟩ : MS) = m0 at *
    have eb : bx = m0.bx := by rw [← hm0]
    have el : [] = m0.log := by rw [← hm0]
    have et : [] = m0.told := by rw [← hm0]
    have ep : (0 : Int) = m0.place := by rw [← hm0]
    refine ⟨fun j σ H' => ∃ (m : MS) (v7 v8 v9 v10 : Option V) (xs : List V), σ = [some (.ref a), some (.ref b), some (.int (j : Int)), some (.ref ha), some (.ref ta), some (.ref la), some (.int m.place), v7, v8, v9, v10] ∧ Same H H' ∧ H' ha = some (.lst (m.bx.map V.int)) ∧ H' ta = some (.lst (m.told.map V.int)) ∧ H' la = some (.lst xs) ∧ TL K H' xs m.log ∧
      (m.bx.length : Int) = size ∧ goM rs size j m = goM rs size k m0 ∧ m.log.length + 3 * j ≤ 3000 ∧ m.told.length + j ≤ 1000 ∧ 0 ≤ m.place ∧ m.place ≤ (rs.length : Int), ⟨k, m0, none, none, none, none, [], (by rw [← ep]; rfl), (s1.trans s2).trans s3, by rw [← eb]; exact (s2.trans s3) _ _ hha, by rw [← et]; exact s3 _ _ hta, hla, by rw [← el]; exact TL.nil, by rw [← eb, hsize], rfl, ?_, ?_, by omega, by omega⟩, ?_⟩
    · rw [← el]
      show 0 + 3 * k ≤ 3000
      omega
    · rw [← et]
      show 0 + k ≤ 1000
      omega
    rintro j σ H' ⟨m, v7, v8, v9, v10, xs, rfl, sH, hha', hta', hla', hT, hbl, hgo, hlg, htd, hp0, hp1⟩
    have hylen := hR.len
    refine ⟨fun c H6 => c = decide (m.place < (rs.length : Int) ∧ 0 < j) ∧ H6 = H', ?_, ?_⟩
    · refine ⟨_, rfl, _, rfl, a, _, rfl, .inl (sH.seq hA), _, _, rfl, rfl, _, rfl, iteD (fun c => ?_) (fun c => ?_)⟩
      · refine ⟨_, rfl, _, _, rfl, rfl, _, rfl, ?_, rfl⟩
        apply decide_eq_decide.mpr
        constructor
        · exact fun z => ⟨by omega, by omega⟩
        · exact fun z => by omega
      · refine ⟨?_, rfl⟩
        rw [decide_eq_false (fun z => c (by omega))]
    rintro c H6 ⟨rfl, rfl⟩
    refine iteD (fun c => ?_) (fun c => ?_)
    · obtain ⟨c1, c2⟩ := c
      obtain ⟨j, rfl⟩ : ∃ j', j = j' + 1 := ⟨j - 1, by omega⟩
      have hpl : m.place.toNat < rs.length := by omega
      obtain ⟨r, hr'⟩ : ∃ r, rs[m.place.toNat]? = some r := ⟨_, List.getElem?_eq_getElem hpl⟩
      obtain ⟨rb, hyb, hbH⟩ := hR.at_ _ r hr'
      have hb := sH _ _ hbH
      have hfit := hfits r (List.mem_of_getElem? hr')
      have hst : goM rs size (j + 1) m = goM rs size j (r.step size m) := by
        show (match rs[m.place.toNat]? with
          | some r => goM rs size j (r.step size m)
          | none => m) = _
        rw [hr']
      rw [hst] at hgo
      refine ⟨fun σ H' => ∃ (m : MS) (v7 v8 v9 v10 : Option V) (xs : List V), σ = [some (.ref a), some (.ref b), some (.int (j : Int)), some (.ref ha), some (.ref ta), some (.ref la), some (.int m.place), v7, v8, v9, v10] ∧ Same H H' ∧ H' ha = some (.lst (m.bx.map V.int)) ∧ H' ta = some (.lst (m.told.map V.int)) ∧ H' la = some (.lst xs) ∧ TL K H' xs m.log ∧
        (m.bx.length : Int) = size ∧ goM rs size j m = goM rs size k m0 ∧ m.log.length + 3 * j ≤ 3000 ∧ m.told.length + j ≤ 1000 ∧ 0 ≤ m.place ∧ m.place ≤ (rs.length : Int), fun σ2 H2 hw => ⟨j, Nat.lt_succ_self _, hw⟩, ?_⟩
      refine ⟨_, rfl, _, rfl, a, _, _, _, rfl, rfl, sH.seq hA, at_ofG (j := m.place.toNat) (by omega) hyb, ?_⟩
      refine ⟨_, rfl, _, _, rfl, rfl, ?_⟩
      -- jump
      refine ⟨fun σ' H7 => σ' = [some (.ref a), some (.ref b), some (.int ((j + 1 : Nat) : Int)), some (.ref ha), some (.ref ta), some (.ref la), some (.int (r.nx1 m.place)), some (.ref rb), v8, v9, v10] ∧ H7 = H6, ?_, ?_⟩
      · cases r with
        | jump p =>
          refine ⟨_, rfl, rb, _, _, _, rfl, rfl, SqT.of hb, (by rfl), rfl, _, rfl, iteD (fun _ => ?_) (fun z => absurd rfl z)⟩
          exact ⟨_, rfl, rb, _, _, _, rfl, rfl, SqT.of hb, (by rfl), rfl, rfl⟩
        | _ =>
          refine ⟨_, rfl, rb, _, _, _, rfl, rfl, SqT.of hb, (by rfl), rfl, _, rfl, iteD (fun z => absurd (V.str.inj z) (by decide +kernel)) (fun _ => ?_)⟩
          exact ⟨rfl, rfl⟩
      rintro σ' H7 ⟨rfl, rfl⟩
      -- less
      have hrd : ∀ {i : Int}, Bx size i → atI (m.bx.map V.int) i = some (.int (rd m.bx i)) := fun {i} h => rd_at (by rw [hbl]; exact h)
      refine ⟨fun σ' H8 => σ' = [some (.ref a), some (.ref b), some (.int ((j + 1 : Nat) : Int)), some (.ref ha), some (.ref ta), some (.ref la), some (.int (r.nxt m.bx m.place)), some (.ref rb), v8, v9, v10] ∧ H8 = H7, ?_, ?_⟩
      · cases r with
        | less b1 c1 p1 =>
          refine ⟨fun cc H8 => cc = decide (rd m.bx b1 < rd m.bx c1) ∧ H8 = H7, ?_, ?_⟩
          · refine ⟨_, rfl, rb, _, _, _, rfl, rfl, SqT.of hb, (by rfl), rfl, _, rfl, iteD (fun _ => ?_) (fun z => absurd rfl z)⟩
            exact ⟨_, rfl, _, rfl, rb, _, _, _, rfl, rfl, SqT.of hb, (by rfl), ha, _, _, _, rfl, rfl, SqL.of hha', hrd hfit.1, _, rfl, _, rfl, rb, _, _, _, rfl, rfl, SqT.of hb, (by rfl), ha, _, _, _, rfl, rfl, SqL.of hha', hrd hfit.2.1, _, _, rfl, rfl, _, rfl, rfl, rfl⟩
          rintro cc H8 ⟨rfl, rfl⟩
          refine iteD (fun c3 => ?_) (fun c3 => ?_)
          · have e : (Rw.less b1 c1 p1).nxt m.bx m.place = p1 := if_pos c3
            rw [e]
            exact ⟨_, rfl, rb, _, _, _, rfl, rfl, SqT.of hb, (by rfl), rfl, rfl⟩
          · have e : (Rw.less b1 c1 p1).nxt m.bx m.place = m.place + 1 := if_neg c3
            rw [e]
            exact ⟨rfl, rfl⟩
        | _ =>
          refine ⟨fun cc H8 => cc = false ∧ H8 = H7, ?_, ?_⟩
          · exact ⟨_, rfl, rb, _, _, _, rfl, rfl, SqT.of hb, (by rfl), rfl, _, rfl, iteD (fun z => absurd (V.str.inj z) (by decide +kernel)) (fun _ => ⟨rfl, rfl⟩)⟩
          rintro cc H8 ⟨rfl, rfl⟩
          exact iteF ⟨rfl, rfl⟩
      rintro σ' H8 ⟨rfl, rfl⟩
      -- tell
      refine ⟨fun σ' H9 => σ' = [some (.ref a), some (.ref b), some (.int ((j + 1 : Nat) : Int)), some (.ref ha), some (.ref ta), some (.ref la), some (.int (r.nxt m.bx m.place)), some (.ref rb), v8, v9, v10] ∧ Same H H9 ∧ H9 ha = some (.lst (m.bx.map V.int)) ∧ H9 ta = some (.lst ((m.told ++ r.out m.bx).map V.int)) ∧ H9 la = some (.lst xs) ∧ TL K H9 xs m.log, ?_, ?_⟩
      · cases r with
        | tell b1 =>
          refine ⟨_, rfl, rb, _, _, _, rfl, rfl, SqT.of hb, (by rfl), rfl, _, rfl, iteD (fun _ => ?_) (fun z => absurd rfl z)⟩
          refine ⟨_, rfl, .inl ⟨rfl, _, SqL.of hta'⟩, _, rfl, _, rfl, rb, _, _, _, rfl, rfl, SqT.of hb, (by rfl), ha, _, _, _, rfl, rfl, SqL.of hha', hrd hfit, ta, _, _, rfl, rfl, hta', sizeL (by rw [List.length_map]; omega), ?_⟩
          refine ⟨rfl, sH.mut fta, ?_, ?_, ?_, hT.but hta'⟩
          · rw [upd_ne d1]; exact hha'
          · rw [upd_same, List.map_append]; rfl
          · rw [upd_ne d3.symm]; exact hla'
        | _ =>
          refine ⟨_, rfl, rb, _, _, _, rfl, rfl, SqT.of hb, (by rfl), rfl, _, rfl, iteD (fun z => absurd (V.str.inj z) (by decide +kernel)) (fun _ => ?_)⟩
          exact ⟨rfl, sH, hha', by show H8 ta = some (.lst ((m.told ++ []).map V.int)); rw [List.append_nil]; exact hta', hla', hT⟩
      rintro σ' H9 ⟨rfl, s9, hha9, hta9, hla9, hT9⟩
      have hb9 := s9 _ _ hbH
      have hml : 0 < m.bx.length := by omega
      -- written
      refine ⟨fun σ' H10 => ∃ (wp : Addr) (ws : List V), σ' = [some (.ref a), some (.ref b), some (.int ((j + 1 : Nat) : Int)), some (.ref ha), some (.ref ta), some (.ref la), some (.int (r.nxt m.bx m.place)), some (.ref rb), some (.ref wp), v9, v10] ∧ Same H9 H10 ∧ H9 wp = none ∧ H10 wp = some (.lst ws) ∧
        ((r.writes size m.bx = none ∧ ws = []) ∨ ∃ i n t, r.writes size m.bx = some (i, n) ∧ ws = [.ref t] ∧ H10 t = some (.tup [.int i, .int n])), ?_, ?_⟩
      · refine ⟨_, rfl, _, rfl, rb, ha, r, m.bx, (rs.length : Int), rfl, hb9, hha9, hml, by rw [hbl]; exact hfit, fun H10 wp ew s10 n10 h10 => ?_, fun i n H10 wp t ew s10 n10 h10 ht10 => ?_⟩
        · rw [hbl] at ew
          exact ⟨wp, _, rfl, s10, n10, h10, .inl ⟨ew, rfl⟩⟩
        · rw [hbl] at ew
          exact ⟨wp, _, rfl, s10, n10, h10, .inr ⟨i, n, t, ew, rfl, ht10⟩⟩
      rintro σ' H10 ⟨wp, ws, rfl, s10, n10, h10, hws⟩
      have sA := s9.trans s10
      have dwa : wp ≠ la := (ne_of_none hla9 n10).symm
      -- the reads
      refine ⟨_, rfl, _, rfl, rb, ha, r, m.bx, (rs.length : Int), rfl, s10 _ _ hb9, s10 _ _ hha9, hml, by rw [hbl]; exact hfit, fun H11 rp s11 n11 hrp => ?_⟩
      rw [hbl] at hrp
      have hreads : (r.reads size m.bx).length ≤ 2 := by cases r <;> simp [Rw.reads]
      generalize hrr : r.reads size m.bx = reads at *
      have sB := sA.trans s11
      have dra : rp ≠ la := (ne_of_none (s10 _ _ hla9) n11).symm
      refine ⟨rp, rfl, ⟨_, SqL.of hrp⟩, for_list (K := K) (a := rp) (xs := reads.map V.int) (fun i σ H' => ∃ v9 xs, σ = [some (.ref a), some (.ref b), some (.int ((j + 1 : Nat) : Int)), some (.ref ha), some (.ref ta), some (.ref la), some (.int (r.nxt m.bx m.place)), some (.ref rb), some (.ref wp), v9, v10] ∧ Same H H' ∧ (∀ x o, H11 x = some o → x ≠ la → H' x = some o) ∧
        H' la = some (.lst xs) ∧ TL K H' xs (m.log ++ (reads.take i).map (fun b => (false, b)))) ?_ ?_ ?_ ?_⟩
      · exact ⟨v9, xs, rfl, sB, fun x o e _ => e, (s10.trans s11) _ _ hla9, by rw [List.take_zero, List.map_nil, List.append_nil]; exact hT9.same (s10.trans s11)⟩
      · rintro i σ H' _ ⟨v9, xs, _, _, kp, _⟩
        exact SqL.of (kp _ _ hrp dra)
      · rintro i x σ H' hx ⟨v9, xs, rfl, sH', kp, hla', hT'⟩
        obtain ⟨y, hy, rfl⟩ := of_get_map hx
        have hxl := hT'.len
        have htk : ((reads.take i).map (fun b => ((false, b) : Tch))).length ≤ 2 := by
          rw [List.length_map, List.length_take]
          omega
        refine ⟨_, rfl, .inl ⟨rfl, _, SqL.of hla'⟩, _, rfl, (by show 2 ≤ sizeLine; decide), fun t nt => ?_⟩
        have z1 : Same H' (upd H' t (.tup [.str "read", .int y])) := Same.new nt
        refine ⟨la, _, _, rfl, rfl, z1 _ _ hla', sizeL (by rw [hxl, List.length_append]; omega), ?_⟩
        refine ⟨_, xs ++ [.ref t], rfl, (sH'.trans z1).mut fla, fun x o e n => by rw [upd_ne n]; exact z1 _ _ (kp x o e n), upd_same, ?_⟩
        have ef : (reads.take (i + 1)).map (fun b => ((false, b) : Tch)) = (reads.take i).map (fun b => ((false, b) : Tch)) ++ [(false, y)] := by
          rw [List.take_add_one, hy, List.map_append]
          rfl
        rw [ef, ← List.append_assoc]
        exact ((hT'.same z1).but (z1 _ _ hla')).snoc ⟨t, rfl, (SqT.of upd_same).but (z1 _ _ hla')⟩
      · rintro σ H12 ⟨v9', xs2, rfl, s12, kp, hla12, hT12⟩
        rw [List.length_map, List.take_length] at hT12
        have hha12 := kp _ _ ((s10.trans s11) _ _ hha9) d2
        have hta12 := kp _ _ ((s10.trans s11) _ _ hta9) d3
        have h1012 := kp _ _ (s11 _ _ h10) dwa
        have hxl := hT12.len
        have hlen2 : (m.log ++ reads.map (fun b => ((false, b) : Tch))).length ≤ m.log.length + 2 := by
          rw [List.length_append, List.length_map]
          omega
        -- the pairs
        refine ⟨fun σ' H13 => ∃ (v10 : Option V) (xs : List V), σ' = [some (.ref a), some (.ref b), some (.int ((j + 1 : Nat) : Int)), some (.ref ha), some (.ref ta), some (.ref la), some (.int (r.nxt m.bx m.place)), some (.ref rb), some (.ref wp), v9', v10] ∧ Same H H13 ∧ H13 ha = some (.lst ((r.bx' size m.bx).map V.int)) ∧ H13 ta = some (.lst ((m.told ++ r.out m.bx).map V.int)) ∧ H13 la = some (.lst xs) ∧ TL K H13 xs (m.log ++ r.tch size m.bx), ?_, ?_⟩
        · rw [writes_bx, tch_rw, hrr]
          rcases hws with ⟨ew, rfl⟩ | ⟨i, n, t, ew, rfl, ht10⟩
          · rw [ew]
            refine ⟨_, rfl, wp, rfl, ⟨_, SqL.of h1012⟩, for_list (K := K) (a := wp) (xs := []) (fun i σ H' => σ = [some (.ref a), some (.ref b), some (.int ((j + 1 : Nat) : Int)), some (.ref ha), some (.ref ta), some (.ref la), some (.int (r.nxt m.bx m.place)), some (.ref rb), some (.ref wp), v9', v10] ∧ H' = H12) ⟨rfl, rfl⟩ ?_ ?_ ?_⟩
            · rintro i σ H' _ ⟨_, rfl⟩
              exact SqL.of h1012
            · rintro i x σ H' hx
              simp at hx
            · rintro σ H' ⟨rfl, rfl⟩
              exact ⟨_, xs2, rfl, s12, hha12, hta12, hla12, by rw [List.append_nil]; exact hT12⟩
          · rw [ew]
            have hbi := writes_bxi hs0 hfit ew
            have htl : t ≠ la := ne_of (s11 _ _ ht10) ((s10.trans s11) _ _ hla9) (by intro z; cases z)
            have ht12 := kp _ _ (s11 _ _ ht10) htl
            refine ⟨_, rfl, wp, rfl, ⟨_, SqL.of h1012⟩, for_list (K := K) (a := wp) (xs := [.ref t]) (fun i' σ H' => ∃ (v10 : Option V) (xs : List V), σ = [some (.ref a), some (.ref b), some (.int ((j + 1 : Nat) : Int)), some (.ref ha), some (.ref ta), some (.ref la), some (.int (r.nxt m.bx m.place)), some (.ref rb), some (.ref wp), v9', v10] ∧ Same H H' ∧
              H' ha = some (.lst ((if i' = 0 then m.bx else wrt m.bx i n).map V.int)) ∧ H' ta = some (.lst ((m.told ++ r.out m.bx).map V.int)) ∧ H' la = some (.lst xs) ∧ TL K H' xs (if i' = 0 then m.log ++ reads.map (fun b => (false, b)) else (m.log ++ reads.map (fun b => (false, b))) ++ [(true, i)]) ∧ H' wp = some (.lst [.ref t]) ∧ H' t = some (.tup [.int i, .int n])) ?_ ?_ ?_ ?_⟩
            · exact ⟨v10, xs2, rfl, s12, hha12, hta12, hla12, hT12, h1012, ht12⟩
            · rintro i' σ H' _ ⟨v10, xs, _, _, _, _, _, _, hw', _⟩
              exact SqL.of hw'
            · rintro i' x σ H' hx ⟨v10, xs, rfl, sH', hha', hta', hla', hT', hw', ht'⟩
              have hi0 : i' = 0 := by
                have := (List.getElem?_eq_some_iff.mp hx).1
                simp at this
                exact this
              subst hi0
              have ex : V.ref t = x := Option.some.inj hx
              subst ex
              rw [if_pos rfl] at hha' hT'
              have hxl' := hT'.len
              have dwh : wp ≠ ha := (ne_of_none hha9 n10).symm
              have dth : t ≠ ha := ne_of ht' hha' (by intro z; cases z)
              refine ⟨_, rfl, .inl ⟨rfl, _, SqL.of hla'⟩, _, rfl, t, _, _, _, rfl, rfl, SqT.of ht', (by rfl), (by show 2 ≤ sizeLine; decide), fun u nu => ?_⟩
              have z1 : Same H' (upd H' u (.tup [.str "write", .int i])) := Same.new nu
              refine ⟨la, _, _, rfl, rfl, z1 _ _ hla', sizeL (by rw [hxl']; omega), ?_⟩
              have hT2 : TL K (upd (upd H' u (.tup [.str "write", .int i])) la (.lst (xs ++ [.ref u]))) (xs ++ [.ref u]) ((m.log ++ reads.map (fun b => (false, b))) ++ [(true, i)]) := ((hT'.same z1).but (z1 _ _ hla')).snoc ⟨u, rfl, (SqT.of upd_same).but (z1 _ _ hla')⟩
              have hha2 : (upd (upd H' u (.tup [.str "write", .int i])) la (.lst (xs ++ [.ref u]))) ha = some (.lst (m.bx.map V.int)) := by rw [upd_ne d2]; exact z1 _ _ hha'
              have hta2 : (upd (upd H' u (.tup [.str "write", .int i])) la (.lst (xs ++ [.ref u]))) ta = some (.lst ((m.told ++ r.out m.bx).map V.int)) := by rw [upd_ne d3]; exact z1 _ _ hta'
              have hla2 : (upd (upd H' u (.tup [.str "write", .int i])) la (.lst (xs ++ [.ref u]))) la = some (.lst (xs ++ [.ref u])) := upd_same
              have hw2 : (upd (upd H' u (.tup [.str "write", .int i])) la (.lst (xs ++ [.ref u]))) wp = some (.lst [.ref t]) := by rw [upd_ne dwa]; exact z1 _ _ hw'
              have ht2 : (upd (upd H' u (.tup [.str "write", .int i])) la (.lst (xs ++ [.ref u]))) t = some (.tup [.int i, .int n]) := by rw [upd_ne htl]; exact z1 _ _ ht'
              have sH2 : Same H (upd (upd H' u (.tup [.str "write", .int i])) la (.lst (xs ++ [.ref u]))) := (sH'.trans z1).mut fla
              generalize upd (upd H' u (.tup [.str "write", .int i])) la (.lst (xs ++ [.ref u])) = H14 at *
              have hix : ixN (m.bx.map V.int).length i = some i.toNat := by
                have := ix_nat (n := (m.bx.map V.int).length) (j := i.toNat) (by rw [List.length_map]; have := hbi.1; have := hbi.2; omega)
                rwa [Int.toNat_of_nonneg hbi.1] at this
              refine ⟨_, rfl, t, _, _, _, rfl, rfl, SqT.of ht2, (by rfl), _, rfl, _, rfl, t, _, _, _, rfl, rfl, SqT.of ht2, (by rfl), ha, _, _, i.toNat, rfl, rfl, hha2, hix, ?_⟩
              rw [← List.map_set]
              refine ⟨_, xs ++ [.ref u], rfl, sH2.mut fha, upd_same, ?_, ?_, hT2.but hha2, ?_, ?_⟩
              · rw [upd_ne d1.symm]; exact hta2
              · rw [upd_ne d2.symm]; exact hla2
              · rw [upd_ne dwh]; exact hw2
              · rw [upd_ne dth]; exact ht2
            · rintro σ H' ⟨v10, xs, rfl, sH', hha', hta', hla', hT', _⟩
              exact ⟨_, xs, rfl, sH', hha', hta', hla', by rw [← List.append_assoc]; exact hT'⟩
        rintro σ' H13 ⟨w10, xs3, rfl, s13, hha13, hta13, hla13, hT13⟩
        have hbl6 : (((r.bx' size m.bx).length : Nat) : Int) = size := by rw [bx_len, hbl]
        obtain ⟨n0, n1⟩ := nxt_ok hfit m.bx hp0 c1
        have ho := out_len m.bx r
        have ht3 := tch_len size m.bx r
        have ej : ((j + 1 : Nat) : Int) - 1 = (j : Int) := by omega
        refine ⟨_, rfl, _, _, rfl, rfl, r.step size m, some (.ref rb), some (.ref wp), v9', w10, xs3, ?_, s13, hha13, hta13, hla13, hT13, hbl6, hgo, ?_, ?_, n0, n1⟩
        · exact congrArg (fun z => [some (V.ref a), some (V.ref b), some (V.int z), some (V.ref ha), some (V.ref ta), some (V.ref la), some (V.int (r.nxt m.bx m.place)), some (V.ref rb), some (V.ref wp), v9', w10]) ej
        · show (m.log ++ r.tch size m.bx).length + 3 * j ≤ 3000
          rw [List.length_append]
          omega
        · show (m.told ++ r.out m.bx).length + j ≤ 1000
          rw [List.length_append]
          omega
    · have hend : goM rs size j m = m := by
        cases j with
        | zero => rfl
        | succ j =>
          have : ¬ m.place < (rs.length : Int) := fun z => c ⟨z, by omega⟩
          show (match rs[m.place.toNat]? with
            | some r => goM rs size j (r.step size m)
            | none => m) = _
          rw [List.getElem?_eq_none (by omega)]
      rw [hend] at hgo
      rw [← hgo] at q
      refine ⟨_, rfl, _, rfl, a, _, rfl, .inl (sH.seq hA), _, _, rfl, rfl, _, rfl, iteD (fun c => ?_) (fun c => ?_)⟩
      · have ee : endS rs m = "steps" := if_pos (by omega)
        rw [ee] at q
        refine ⟨_, rfl, _, rfl, _, rfl, (by show 4 ≤ sizeLine; decide), fun t nt => ?_⟩
        have z := Same.new (o := .tup [.ref ta, .str "steps", .ref ha, .ref la]) nt
        exact q _ t ta ha la xs (sH.trans z) upd_same (z _ _ hta') (z _ _ hha') (z _ _ hla') (hT.same z)
      · have ee : endS rs m = "over" := if_neg (by omega)
        rw [ee] at q
        refine ⟨_, rfl, _, rfl, _, rfl, (by show 4 ≤ sizeLine; decide), fun t nt => ?_⟩
        have z := Same.new (o := .tup [.ref ta, .str "over", .ref ha, .ref la]) nt
        exact q _ t ta ha la xs (sH.trans z) upd_same (z _ _ hta') (z _ _ hha') (z _ _ hla') (hT.same z)
def intsD (ns : List Int) : PyData := .list (ns.map PyData.int)
theorem intsD_sh (ns : List Int) : Sh 1 (intsD ns) := sh_list fun d hd => by
  obtain ⟨n, _, rfl⟩ := List.mem_map.mp hd
  exact sh_int _
theorem ints_dpA {K : PySem.W.Frag} {H : Hp} : ∀ ns : List Int, DpAll K H (ns.map V.int) (ns.map PyData.int)
  | [] => .nil
  | n :: r => .cons (.int _) (ints_dpA r)
theorem intsD_dp {K : PySem.W.Frag} {H : Hp} {p : Addr} {ns : List Int} (h : H p = some (.lst (ns.map V.int))) : Dp K H (.ref p) (intsD ns) := .lst (SqL.of h) (ints_dpA ns)
/-! ### lengths; rows as data -/
theorem goM_len (rs : List Rw) (size : Int) : ∀ (k : Nat) (m : MS), (goM rs size k m).bx.length = m.bx.length ∧ (goM rs size k m).told.length ≤ m.told.length + k ∧ (goM rs size k m).log.length ≤ m.log.length + 3 * k
  | 0, m => ⟨rfl, Nat.le_refl _, Nat.le_refl _⟩
  | k + 1, m => by
    show (match rs[m.place.toNat]? with
      | some r => goM rs size k (r.step size m)
      | none => m).bx.length = _ ∧ (match rs[m.place.toNat]? with
      | some r => goM rs size k (r.step size m)
      | none => m).told.length ≤ _ ∧ (match rs[m.place.toNat]? with
      | some r => goM rs size k (r.step size m)
      | none => m).log.length ≤ _
    cases rs[m.place.toNat]? with
    | none => exact ⟨rfl, by show m.told.length ≤ _; omega, by show m.log.length ≤ _; omega⟩
    | some r =>
      obtain ⟨h1, h2, h3⟩ := goM_len rs size k (r.step size m)
      have e1 : (r.step size m).bx.length = m.bx.length := bx_len size m.bx r
      have e2 : (r.step size m).told.length ≤ m.told.length + 1 := by
        show (m.told ++ r.out m.bx).length ≤ _
        have := out_len m.bx r
        rw [List.length_append]
        omega
      have e3 : (r.step size m).log.length ≤ m.log.length + 3 := by
        show (m.log ++ r.tch size m.bx).length ≤ _
        have := tch_len size m.bx r
        rw [List.length_append]
        omega
      exact ⟨h1.trans e1, by show (goM rs size k (r.step size m)).told.length ≤ _; omega, by show (goM rs size k (r.step size m)).log.length ≤ _; omega⟩
theorem finM_len (rs : List Rw) (bx : List Int) (k : Nat) : (finM rs bx k).bx.length = bx.length ∧ (finM rs bx k).told.length ≤ k ∧ (finM rs bx k).log.length ≤ 3 * k := by
  have h := goM_len rs (bx.length : Int) k ⟨bx, [], [], 0⟩
  refine ⟨h.1, ?_, ?_⟩
  · have := h.2.1
    unfold finM
    simpa using this
  · have := h.2.2
    unfold finM
    simpa using this
def Rw.ds : Rw → List PyData
  | .set b n => [.str "set", .int b, .int n]
  | .copy b c => [.str "copy", .int b, .int c]
  | .add b c d => [.str "add", .int b, .int c, .int d]
  | .sub b c d => [.str "sub", .int b, .int c, .int d]
  | .fetch b c => [.str "fetch", .int b, .int c]
  | .store b c => [.str "store", .int b, .int c]
  | .less b c p => [.str "less", .int b, .int c, .int p]
  | .jump p => [.str "jump", .int p]
  | .tell b => [.str "tell", .int b]
def Rw.d (r : Rw) : PyData := .tuple r.ds
def rowsD (rs : List Rw) : PyData := .list (rs.map Rw.d)
theorem row_sh (r : Rw) : Sh 1 r.d := sh_tup fun d hd => by
  cases r <;> (simp only [Rw.ds, List.mem_cons, List.not_mem_nil, or_false] at hd) <;> (repeat' (rcases hd with rfl | hd)) <;> first | exact sh_str (by decide +kernel) | exact sh_int _ | (subst hd; exact sh_int _)
theorem rowsD_sh (rs : List Rw) : Sh 2 (rowsD rs) := sh_list fun d hd => by
  obtain ⟨r, _, rfl⟩ := List.mem_map.mp hd
  exact row_sh r
theorem vs_dp {K : PySem.W.Frag} {H : Hp} (r : Rw) : DpAll K H r.vs r.ds := by
  cases r <;> first | exact .cons (.str _) (.cons (.int _) .nil) | exact .cons (.str _) (.cons (.int _) (.cons (.int _) .nil)) | exact .cons (.str _) (.cons (.int _) (.cons (.int _) (.cons (.int _) .nil)))
theorem RL.dp {K : PySem.W.Frag} {H : Hp} {a : Addr} {ys : List V} {rs : List Rw} (h : RL H ys rs) (q : SqL K H a ys) : Dp K H (.ref a) (rowsD rs) := by
  refine .lst q (dpAll_of (by rw [h.len, List.length_map]) fun i v d hv hd => ?_)
  obtain ⟨r, hr, rfl⟩ := of_get_mapG hd
  obtain ⟨b, e1, e2⟩ := h.at_ i r hr
  rw [hv] at e1
  cases e1
  exact .tup (SqT.of e2) (vs_dp r)
theorem cons_eq {x y : V} {xs ys : List V} (h : x :: xs = y :: ys) : x = y ∧ xs = ys := by
  cases h
  exact ⟨rfl, rfl⟩
theorem vs_inj {r r' : Rw} (h : r.vs = r'.vs) : r = r' := by
  cases r <;> cases r' <;> first | exact absurd (V.str.inj (cons_eq h).1) (by decide +kernel) | (have h2 := (cons_eq h).2; cases h2; rfl)
theorem rows_inj : ∀ {rs rs' : List Rw}, rs.map rowO = rs'.map rowO → rs = rs'
  | [], [], _ => rfl
  | [], _ :: _, h => by cases h
  | _ :: _, [], h => by cases h
  | r :: rs, r' :: rs', h => by
    have h1 : rowO r :: rs.map rowO = rowO r' :: rs'.map rowO := h
    injection h1 with a b
    rw [vs_inj (Option.some.inj a), rows_inj b]
def sliceI (far : List Int) (first w : Nat) : List Int := (far.drop first).take w
theorem cutV_slice (xs : List Int) (i j : Nat) : cutV (xs.map V.int) (some (i : Int)) (some ((i : Int) + (j : Int))) = (sliceI xs i j).map V.int := by
  have h1 : HT.sIx (xs.map V.int).length 0 (some (i : Int)) = min i xs.length := by rw [HT.sIx_nat, List.length_map]
  have h2 : HT.sIx (xs.map V.int).length (xs.map V.int).length (some ((i : Int) + (j : Int))) = min (i + j) xs.length := by
    rw [show (i : Int) + (j : Int) = ((i + j : Nat) : Int) by omega, HT.sIx_nat, List.length_map]
  unfold cutV sliceI
  rw [h1, h2, List.map_take, List.map_drop]
  by_cases h : i ≤ xs.length
  · rw [Nat.min_eq_left h]
    by_cases h3 : i + j ≤ xs.length
    · rw [Nat.min_eq_left h3, Nat.add_sub_cancel_left]
    · rw [Nat.min_eq_right (by omega), List.take_of_length_le (by rw [List.length_drop, List.length_map]; exact Nat.le_refl _), List.take_of_length_le (by rw [List.length_drop, List.length_map]; omega)]
  · rw [List.drop_eq_nil_of_le (by rw [List.length_map]; omega), List.drop_eq_nil_of_le (by rw [List.length_map]; omega)]
    simp
/-! ### the boxes by a cell -/
def boxesM (c : Int) (n : Nat) : List Int := (List.range n).map fun (k : Nat) => (numN (mixed (c + 11 * (k : Int)) / 5) : Int)
theorem boxesM_len (c : Int) (n : Nat) : (boxesM c n).length = n := by
  unfold boxesM
  rw [List.length_map, List.length_range]
theorem boxesM_snoc (c : Int) (n : Nat) : boxesM c (n + 1) = boxesM c n ++ [(numN (mixed (c + 11 * (n : Int)) / 5) : Int)] := by
  unfold boxesM
  rw [List.range_succ, List.map_append]
  rfl
theorem boxesM_ok (c : Int) (n : Nat) : ∀ x ∈ boxesM c n, 0 ≤ x ∧ x ≤ 999999 := fun x hx => by
  obtain ⟨k, _, rfl⟩ := List.mem_map.mp hx
  have := numN_lt (mixed (c + 11 * (k : Int)) / 5)
  omega
theorem good_ints {xs : List Int} (h1 : 1 ≤ xs.length) (h2 : xs.length ≤ 200) (h : ∀ x ∈ xs, 0 ≤ x ∧ x ≤ 999999) : goodBoxes (xs.map V.int) = true := by
  unfold goodBoxes
  rw [List.length_map, decide_eq_true ⟨h1, h2⟩, Bool.true_and, List.all_eq_true]
  intro y hy
  obtain ⟨x, hx, rfl⟩ := List.mem_map.mp hy
  obtain ⟨a, b⟩ := h x hx
  show (decide (0 ≤ x) && decide (x ≤ 999999)) = true
  rw [decide_eq_true a, decide_eq_true b]
  rfl
/-! ### _law_loop_by -/
def loopR : List Rw := [.add 0 0 1, .less 0 2 0, .tell 0]
theorem loopR_fit : ∀ r ∈ loopR, r.Fit 4 3 := fun r hr => by
  simp only [loopR, List.mem_cons, List.not_mem_nil, or_false] at hr
  rcases hr with rfl | rfl | rfl
  · exact ⟨⟨by decide, by decide⟩, ⟨by decide, by decide⟩, ⟨by decide, by decide⟩⟩
  · exact ⟨⟨by decide, by decide⟩, ⟨by decide, by decide⟩, ⟨by decide, by decide⟩⟩
  · exact ⟨by decide, by decide⟩
def sp__law_loop_by (K : PySem.W.Frag) (cs : Cs) : Sp := fun vs H Q _ => ∃ (c : Int), vs = [.int c] ∧
  ∀ H' t lb lr ys (bx : List Int) (k : Nat), Same H H' → H' t = some (.tup [.ref lb, .ref lr, .int (k : Int)]) → H' lb = some (.lst (bx.map V.int)) → H' lr = some (.lst ys) → RL H' ys loopR → bx.length = 4 → (∀ x ∈ bx, 0 ≤ x ∧ x ≤ 999999) → k ≤ 1000 → Q (.ref t) H'
theorem ok__law_loop_by (T : Txt w K mg cs)  : Ok P w K mg base CX0 1 cs.f__law_loop_by cs.d__law_loop_by ["_law_cell"] (sp__law_loop_by K cs) := by
  refine T.fn__law_loop_by.ok sc__law_loop_by (fun vs H Q E h => ?_) (fun cdv A outer s H vs Q E hr h => ?_)
  · obtain ⟨c, rfl, _⟩ := h
    rfl
  · obtain ⟨c, rfl, q⟩ := h
    refine ⟨_, (pss_cons (ps_set (i := 1) sc__law_loop_by.nd rfl (Or.inl rfl) (pe_op op_add pe_int (pe_op op_mod (pe_op op_fdiv (pv 0) pe_int) pe_int)))
      (pss_cons (ps_set (i := 2) sc__law_loop_by.nd rfl (Or.inl rfl) (pe_lst (pa_cons (pe_op op_mod (pe_op op_fdiv (pv 0) pe_int) pe_int) (pa_cons (pv 1) (pa_cons (pe_op op_mul (pv 1) (pe_op op_mod (pe_op op_fdiv (pv 0) pe_int) pe_int)) (pa_cons pe_int pa_nil))))))
      (pss_one (ps_ret (pe_tup (pa_cons (pv 2) (pa_cons (pe_lst (pa_cons (pe_tup (pa_cons pe_str (pa_cons pe_int (pa_cons pe_int (pa_cons pe_int pa_nil))))) (pa_cons (pe_tup (pa_cons pe_str (pa_cons pe_int (pa_cons pe_int (pa_cons pe_int pa_nil))))) (pa_cons (pe_tup (pa_cons pe_str (pa_cons pe_int pa_nil))) pa_nil)))) (pa_cons (pe_ix ix_list (pe_lst (pa_cons pe_int (pa_cons pe_int (pa_cons pe_int (pa_cons pe_int pa_nil))))) (pe_op op_mod (pv 0) pe_int) (fun _ _ => rfl)) pa_nil)))))))), ?_⟩
    refine ⟨_, rfl, _, _, rfl, rfl, ⟨by decide, by decide⟩, _, _, rfl, rfl, (by show (0 : Int) < _; decide), _, _, rfl, rfl, ?_⟩
    have hst0 : 1 ≤ 1 + c / 4 % 9 := by omega
    have hst1 : 1 + c / 4 % 9 ≤ 9 := by omega
    have hm0 : 0 ≤ c / 36 % 160 := by omega
    have hm1 : c / 36 % 160 ≤ 159 := by omega
    have hp0 : 0 ≤ (1 + c / 4 % 9) * (c / 36 % 160) := Int.mul_nonneg (by omega) hm0
    have hp1 : (1 + c / 4 % 9) * (c / 36 % 160) ≤ 9 * 159 := Int.mul_le_mul hst1 hm1 hm0 (by decide)
    refine ⟨_, rfl, _, _, rfl, rfl, ⟨by decide, by decide⟩, _, _, rfl, rfl, (by show (0 : Int) < _; decide), _, rfl, _, rfl, _, rfl, _, _, rfl, rfl, ⟨by decide, by decide⟩, _, _, rfl, rfl, (by show (0 : Int) < _; decide), _, _, rfl, rfl, .inr ⟨by omega, by omega⟩, (by show 4 ≤ sizeLine; decide), fun lb nlb => ?_⟩
    have z1 := Same.new (o := .lst [.int (c / 36 % 3), .int (1 + c / 4 % 9), .int ((1 + c / 4 % 9) * (c / 36 % 160)), .int 7]) nlb
    have hlb : (upd H lb (.lst [.int (c / 36 % 3), .int (1 + c / 4 % 9), .int ((1 + c / 4 % 9) * (c / 36 % 160)), .int 7])) lb = some (.lst [.int (c / 36 % 3), .int (1 + c / 4 % 9), .int ((1 + c / 4 % 9) * (c / 36 % 160)), .int 7]) := upd_same
    generalize upd H lb _ = H1 at *
    refine ⟨_, rfl, (by show 4 ≤ sizeLine; decide), fun t1 n1 => ?_⟩
    have y1 := Same.new (o := .tup (Rw.add 0 0 1).vs) n1
    have e1 : (upd H1 t1 (.tup (Rw.add 0 0 1).vs)) t1 = some (.tup (Rw.add 0 0 1).vs) := upd_same
    refine ⟨(by show 4 ≤ sizeLine; decide), fun t2 n2 => ?_⟩
    have y2 := Same.new (o := .tup (Rw.less 0 2 0).vs) n2
    refine ⟨(by show 2 ≤ sizeLine; decide), fun t3 n3 => ?_⟩
    have y3 := Same.new (o := .tup (Rw.tell 0).vs) n3
    refine ⟨(by show 3 ≤ sizeLine; decide), fun lr nlr => ?_⟩
    have y4 := Same.new (o := .lst [.ref t1, .ref t2, .ref t3]) nlr
    refine ⟨(by show 4 ≤ sizeLine; decide), fun l4 n4 => ?_⟩
    have y5 := Same.new (o := .lst [.int 900, .int 322, .int 261, .int 251]) n4
    obtain ⟨k, hk, hk2⟩ : ∃ k : Nat, atI [V.int 900, .int 322, .int 261, .int 251] (c % 4) = some (.int (k : Int)) ∧ k ≤ 1000 := by
      rcases mod4 c with e | e | e | e <;> rw [e]
      · exact ⟨900, rfl, by decide⟩
      · exact ⟨322, rfl, by decide⟩
      · exact ⟨261, rfl, by decide⟩
      · exact ⟨251, rfl, by decide⟩
    refine ⟨_, rfl, _, _, rfl, rfl, (by show (0 : Int) < _; decide), l4, _, _, _, rfl, rfl, SqL.of upd_same, hk, ?_⟩
    refine ⟨(by show 3 ≤ sizeLine; decide), fun t nt => ?_⟩
    have y6 := Same.new (o := .tup [.ref lb, .ref lr, .int (k : Int)]) nt
    refine q _ t lb lr [.ref t1, .ref t2, .ref t3] [c / 36 % 3, 1 + c / 4 % 9, (1 + c / 4 % 9) * (c / 36 % 160), 7] k ((((((z1.trans y1).trans y2).trans y3).trans y4).trans y5).trans y6) upd_same ((((((y1.trans y2).trans y3).trans y4).trans y5).trans y6) _ _ hlb) ((y5.trans y6) _ _ upd_same) ?_ rfl ?_ hk2
    · refine RL.same (RL.same (RL.same ?_ y4) y5) y6
      exact (((RL.nil.snoc ((y2.trans y3) _ _ e1)).snoc (y3 _ _ upd_same)).snoc upd_same)
    · intro x hx
      simp only [List.mem_cons, List.not_mem_nil, or_false] at hx
      rcases hx with rfl | rfl | rfl | rfl <;> omega
/-! ### a run's end as data -/
def finD (rs : List Rw) (m : MS) : PyData := .tuple [intsD m.told, .str (endS rs m), intsD m.bx, .list (m.log.map touchD)]
theorem sh_up {n m : Nat} {d : PyData} (h : Sh n d) (e : n ≤ m) : Sh m d := ⟨h.1, Nat.le_trans h.2 e⟩
theorem end_ok (rs : List Rw) (m : MS) : PyData.strOk (endS rs m) = true := by
  unfold endS
  split <;> decide +kernel
theorem finD_sh (rs : List Rw) (m : MS) : Sh 3 (finD rs m) := sh_tup fun d hd => by
  simp only [List.mem_cons, List.not_mem_nil, or_false] at hd
  rcases hd with rfl | rfl | rfl | rfl
  · exact sh_up (intsD_sh _) (by decide)
  · exact sh_str (end_ok rs m)
  · exact sh_up (intsD_sh _) (by decide)
  · exact touches_sh _
theorem finD_dp {K : PySem.W.Frag} {H : Hp} {t ta ba la : Addr} {xs : List V} {rs : List Rw} {m : MS} (ht : H t = some (.tup [.ref ta, .str (endS rs m), .ref ba, .ref la])) (hta : H ta = some (.lst (m.told.map V.int))) (hba : H ba = some (.lst (m.bx.map V.int))) (hla : H la = some (.lst xs)) (hT : TL K H xs m.log) : Dp K H (.ref t) (finD rs m) :=
  .tup (SqT.of ht) (.cons (intsD_dp hta) (.cons (.str _) (.cons (intsD_dp hba) (.cons (hT.dp (SqL.of hla)) .nil))))
def rowsM (ns : List Int) (size count : Int) : List Rw := ns.map fun c => rowM c size count
theorem rowsM_fit {size count : Int} (h : 0 < size) (hc : 0 ≤ count) (ns : List Int) : ∀ r ∈ rowsM ns size count, r.Fit size count := fun r hr => by
  obtain ⟨c, _, rfl⟩ := List.mem_map.mp hr
  exact rowM_fit h hc c
/-! ### the law -/
def sp_law (K : PySem.W.Frag) (cs : Cs) : Sp := fun vs H Q _ => ∃ (a : Addr) (ns : List Int), vs = [.ref a] ∧ SqL K H a (ns.map V.int) ∧ ns.length ≤ 63 ∧ ∀ H', Q (.bl true) H'
theorem ok_law (T : Txt w K mg cs) (o__law_size_by : Ok P w K mg base CX0 1 cs.f__law_size_by cs.d__law_size_by ["_law_cell"] (sp__law_size_by K cs)) (o__law_run_by : Ok P w K mg base CX0 2 cs.f__law_run_by cs.d__law_run_by ["_law_rows", "_law_boxes", "_law_steps"] (sp__law_run_by K cs)) (o_run : Ok P w K mg base (L2.CX P w) 5 cs.f_run cs.d_run ["rows", "boxes", "steps"] (sp_run K cs)) (o__law_cell_at : Ok P w K mg base CX0 1 cs.f__law_cell_at cs.d__law_cell_at ["_law_script", "_law_k"] (sp__law_cell_at K cs)) (o__law_number_by : Ok P w K mg base CX0 2 cs.f__law_number_by cs.d__law_number_by ["_law_cell"] (sp__law_number_by K cs)) (o__law_row_by : Ok P w K mg base CX0 3 cs.f__law_row_by cs.d__law_row_by ["_law_cell", "_law_size", "_law_count"] (sp__law_row_by K cs)) (o__law_loop_by : Ok P w K mg base CX0 1 cs.f__law_loop_by cs.d__law_loop_by ["_law_cell"] (sp__law_loop_by K cs)) (o__law_mixed : Ok P w K mg base CX0 1 cs.f__law_mixed cs.d__law_mixed ["_law_cell"] (sp__law_mixed K cs)) : Ok P w K mg base CX0 6 cs.f_law cs.d_law ["_law_script"] (sp_law K cs) := by
  refine T.fn_law.ok sc_law (fun vs H Q E h => ?_) (fun cdv A outer s H vs Q E hr h => ?_)
  · obtain ⟨a, ns, rfl, _⟩ := h
    rfl
  · obtain ⟨a, ns, rfl, hS, hl, q⟩ := h
    have hu := hu_of hr
    refine ⟨_, (pss_cons (ps_set (i := 1) sc_law.nd rfl (Or.inr rfl) (pe_callO o__law_size_by (hr.mono (by decide)) (by rfl) T.gl__law_size_by pass0 (pa_cons (pe_callO o__law_cell_at (hr.mono (by decide)) (by rfl) T.gl__law_cell_at pass0 (pa_cons (pv 0) (pa_cons pe_int pa_nil))) pa_nil)))
      (pss_cons (ps_setLc (i := 2) (own := [("_law_k", 10)]) (g := gName 10) (tt := tYes) rfl sc_law.nd rfl rfl (sw_true rfl rfl rfl (by decide +kernel)) (pi_range1 (by rfl) T.no_range (pa_cons (pv 1) pa_nil)) (blkOk_by (N := ["_law_script", "_law_size", "_law_boxes", "_law_rows", "_law_steps", "_law_loop", "_law_due", "_law_given", "_law_program", "_law_found", "_law_k", "_law_cell"]) (sc := defScope s_law) (by decide +kernel)) (fun _ _ _ _ _ => pg_name (i := 10) sc_law.nd rfl (Or.inl rfl)) (fun _ _ _ _ _ => pts_nil) (fun _ _ _ _ _ => (pe_callO o__law_number_by (hr.mono (by decide)) (by rfl) T.gl__law_number_by pass0 (pa_cons (pe_op op_fdiv (pe_callO o__law_mixed (hr.mono (by decide)) (by rfl) T.gl__law_mixed pass0 (pa_cons (pe_op op_add (pe_callO o__law_cell_at (hr.mono (by decide)) (by rfl) T.gl__law_cell_at pass0 (pa_cons (pv 0) (pa_cons pe_int pa_nil))) (pe_op op_mul pe_int (pv 10))) pa_nil)) pe_int) pa_nil))))
      (pss_cons (ps_setLc (i := 3) (own := [("_law_cell", 11)]) (g := gName 11) (tt := tYes) rfl sc_law.nd rfl rfl (sw_true rfl rfl rfl (by decide +kernel)) (pi_list (pe_slice sl_list (pv 0) (po_some pe_int) (po_some pe_int))) (blkOk_by (N := ["_law_script", "_law_size", "_law_boxes", "_law_rows", "_law_steps", "_law_loop", "_law_due", "_law_given", "_law_program", "_law_found", "_law_k", "_law_cell"]) (sc := defScope s_law) (by decide +kernel)) (fun _ _ _ _ _ => pg_name (i := 11) sc_law.nd rfl (Or.inl rfl)) (fun _ _ _ _ _ => pts_nil) (fun _ _ _ _ _ => (pe_callO o__law_row_by (hr.mono (by decide)) (by rfl) T.gl__law_row_by pass0 (pa_cons (pv 11) (pa_cons (pv 1) (pa_cons (pe_callB (call_len_seqK (K := K) rfl) (by rfl) T.no_len PySem.boot_len (pa_cons (pe_slice (sl_listK (K := K) rfl) (pv 0) (po_some pe_int) (po_some pe_int)) pa_nil)) pa_nil))))))
      (pss_cons (ps_set (i := 4) sc_law.nd rfl (Or.inl rfl) (pe_ix ix_list (pe_lst (pa_cons (pe_op op_mod (pe_op op_fdiv (pe_callO o__law_cell_at (hr.mono (by decide)) (by rfl) T.gl__law_cell_at pass0 (pa_cons (pv 0) (pa_cons pe_int pa_nil))) pe_int) pe_int) (pa_cons pe_int (pa_cons (pe_callB call_len_seq (by rfl) T.no_len PySem.boot_len (pa_cons (pv 3) pa_nil)) pa_nil)))) (pe_op op_mod (pe_callO o__law_cell_at (hr.mono (by decide)) (by rfl) T.gl__law_cell_at pass0 (pa_cons (pv 0) (pa_cons pe_int pa_nil))) pe_int) (fun _ _ => rfl)))
      (pss_cutS (ps_if (pt_cmpR op_eq (pe_op op_mod (pe_callO o__law_cell_at (hr.mono (by decide)) (by rfl) T.gl__law_cell_at pass0 (pa_cons (pv 0) (pa_cons pe_int pa_nil))) pe_int) pe_int (nomark _)) (pss_cons (ps_set (i := 5) sc_law.nd rfl (Or.inl rfl) (pe_callO o__law_loop_by (hr.mono (by decide)) (by rfl) T.gl__law_loop_by pass0 (pa_cons (pe_callO o__law_mixed (hr.mono (by decide)) (by rfl) T.gl__law_mixed pass0 (pa_cons (pe_op op_fdiv (pe_callO o__law_cell_at (hr.mono (by decide)) (by rfl) T.gl__law_cell_at pass0 (pa_cons (pv 0) (pa_cons pe_int pa_nil))) pe_int) pa_nil)) pa_nil)))
      (pss_cons (ps_set (i := 2) sc_law.nd rfl (Or.inl rfl) (pe_ix ix_tup (pv 5) pe_int (fun _ _ => rfl)))
      (pss_cons (ps_set (i := 3) sc_law.nd rfl (Or.inl rfl) (pe_ix ix_tup (pv 5) pe_int (fun _ _ => rfl)))
      (pss_one (ps_set (i := 4) sc_law.nd rfl (Or.inl rfl) (pe_ix ix_tup (pv 5) pe_int (fun _ _ => rfl))))))) pss_nil)
      (pss_cons (ps_set (i := 6) sc_law.nd rfl (Or.inl rfl) (pe_callO o__law_run_by (hr.mono (by decide)) (by rfl) T.gl__law_run_by pass0 (pa_cons (pv 3) (pa_cons (pv 2) (pa_cons (pv 4) pa_nil)))))
      (pss_cons (ps_set (i := 7) sc_law.nd rfl (Or.inl rfl) (pe_callTy call_list_of (by rfl) T.no_list boot_list (pa_cons (pv 2) pa_nil)))
      (pss_cons (ps_set (i := 8) sc_law.nd rfl (Or.inl rfl) (pe_callTy call_list_of (by rfl) T.no_list boot_list (pa_cons (pv 3) pa_nil)))
      (pss_cons (ps_set (i := 9) sc_law.nd rfl (Or.inl rfl) (pe_callO o_run hr (by rfl) T.gl_run passL (pa_cons (pv 8) (pa_cons (pv 7) (pa_cons (pv 4) pa_nil)))))
      (pss_cons (ps_if (pt_jn (PW.pt (pw_or (pt_not (pt_val (pe_callB call_isi (by rfl) T.no_isinstance boot_isinstance (pa_cons (pv 9) (pa_cons (pe_bltn (v := .ty "tuple") (by rfl) T.no_tuple boot_tuple rfl) pa_nil))))) (pw_or (pt_cmpR (op_neD hr.units) (pv 7) (pv 2) (nomark _)) (pw_or1 (pt_cmpR (op_neD hr.units) (pv 8) (pv 3) (nomark _))))))) (pss_one (ps_ret pe_bl)) pss_nil)
      (pss_one (ps_ret (pe_and (pe_cmpR (op_eqD hr.units) (pv 9) (pv 6) (nomark _)) (pe_and (pe_not (pe_callB call_isi (by rfl) T.no_isinstance boot_isinstance (pa_cons (pe_ix ix_tup (pv 9) pe_int (fun _ _ => rfl)) (pa_cons (pe_bltn (v := .ty "tuple") (by rfl) T.no_tuple boot_tuple rfl) pa_nil)))) (pe_one (pe_callB call_isi (by rfl) T.no_isinstance boot_isinstance (pa_cons (pe_ix ix_tup (pv 9) pe_int (fun _ _ => rfl)) (pa_cons (pe_bltn (v := .ty "list") (by rfl) T.no_list boot_list rfl) pa_nil)))))))))))))))))), ?_⟩
    refine ⟨_, rfl, a, ns, 0, rfl, hS, _, rfl, fun H1 s1 => ?_⟩
    obtain ⟨hz1, hz2⟩ := sizeM_ok (cellOf ns 0)
    generalize sizeM (cellOf ns 0) = size at hz1 hz2 ⊢
    obtain ⟨n, rfl⟩ : ∃ n : Nat, size = (n : Int) := ⟨size.toNat, by omega⟩
    -- the boxes
    refine ⟨_, rfl, (n : Int), rfl, by omega, by omega, fun D nD => lc_range (lo := 0) (n := ((n : Int)).toNat) (fun i H' => Same H H' ∧ H' D = some (.lst ((boxesM (cellOf ns 1) i).map V.int))) ⟨s1.trans (Same.new nD), upd_same⟩ ?_ ?_⟩
    · rintro i H' hi ⟨s3, hD⟩
      have hi' : i < n := by omega
      refine ⟨rfl, _, rfl, a, ns, 1, rfl, s3.seq hS, _, rfl, _, _, rfl, rfl, .inl ⟨by decide, by decide⟩, _, _, rfl, rfl, _, rfl, _, _, rfl, rfl, ⟨by decide, by decide⟩, _, rfl, fun H4 s4 => ?_⟩
      refine ⟨_, s4 _ _ hD, sizeL (by rw [List.length_map, boxesM_len]; omega), (s3.trans s4).mut (s1.free nD), ?_⟩
      rw [upd_same, boxesM_snoc, List.map_append, show (0 : Int) + (i : Int) = (i : Int) from Int.zero_add _]
      rfl
    rintro H2 ⟨s2, hD⟩
    rw [show ((n : Int)).toNat = n from rfl] at hD
    have hbl := boxesM_len (cellOf ns 1) n
    have hbo := boxesM_ok (cellOf ns 1) n
    generalize boxesM (cellOf ns 1) n = boxes at hD hbl hbo
    -- the rows
    have ecut : cutV (ns.map V.int) (some 4) (some 204) = (sliceI ns 4 200).map V.int := by
      have := cutV_slice ns 4 200
      exact this
    have hcl : (sliceI ns 4 200).length ≤ 63 := by
      unfold sliceI
      rw [List.length_take, List.length_drop]
      omega
    refine ⟨_, rfl, _, rfl, _, rfl, a, _, rfl, s2.seq hS, fun g ng => ?_⟩
    rw [ecut]
    have sg : Same H2 (upd H2 g (.lst ((sliceI ns 4 200).map V.int))) := Same.new ng
    have hg : (upd H2 g (.lst ((sliceI ns 4 200).map V.int))) g = some (.lst ((sliceI ns 4 200).map V.int)) := upd_same
    generalize upd H2 g _ = H2b at *
    generalize hcs : sliceI ns 4 200 = cells at *
    have s2b := s2.trans sg
    refine ⟨g, rfl, ⟨_, SqL.of hg⟩, fun lr nlr => lc_list (xs := cells.map V.int) (fun i H' => Same H2b H' ∧ ∃ ys, H' lr = some (.lst ys) ∧ RL H' ys (rowsM (cells.take i) (n : Int) (cells.length : Int))) ⟨Same.new nlr, [], upd_same, RL.nil⟩ (fun i H' _ p => SqL.of (p.1 _ _ hg)) ?_ ?_⟩
    · rintro i x H' hx ⟨s3, ys, hy, hR⟩
      obtain ⟨c, hc, rfl⟩ := of_get_map hx
      have hil := (List.getElem?_eq_some_iff.mp hc).1
      refine ⟨rfl, _, rfl, _, rfl, _, rfl, _, rfl, _, rfl, a, _, rfl, (s2b.trans s3).seq hS, fun g2 ng2 => ?_⟩
      rw [ecut]
      have z1 : Same H' (upd H' g2 (.lst (cells.map V.int))) := Same.new ng2
      refine ⟨g2, _, rfl, .inl (SqL.of upd_same), c, (n : Int), (cells.length : Int), (by rw [List.length_map]), by omega, by omega, by omega, by omega, fun H5 t s5 nt ht => ?_⟩
      have hylen := hR.len
      have hrl : (rowsM (cells.take i) (n : Int) (cells.length : Int)).length ≤ 63 := by
        unfold rowsM
        rw [List.length_map, List.length_take]
        omega
      refine ⟨ys, (z1.trans s5) _ _ hy, sizeL (by omega), ((s3.trans z1).trans s5).mut nlr, ys ++ [.ref t], upd_same, ?_⟩
      have ef : rowsM (cells.take (i + 1)) (n : Int) (cells.length : Int) = rowsM (cells.take i) (n : Int) (cells.length : Int) ++ [rowM c (n : Int) (cells.length : Int)] := by
        unfold rowsM
        rw [List.take_add_one, hc, List.map_append]
        rfl
      rw [ef]
      exact ((hR.same (z1.trans s5)).snoc ht).but ((z1.trans s5) _ _ hy)
    rintro H3 ⟨s3, ys, hlr, hR⟩
    rw [List.length_map, List.take_length] at hR
    have hfit := rowsM_fit (size := (n : Int)) (count := (cells.length : Int)) (by omega) (by omega) cells
    have hrl : (rowsM cells (n : Int) (cells.length : Int)).length = cells.length := List.length_map _
    generalize rowsM cells (n : Int) (cells.length : Int) = rows at hR hfit hrl
    have hyl := hR.len
    have sA := s2b.trans s3
    have hD3 := (sg.trans s3) _ _ hD
    -- steps
    refine ⟨_, rfl, a, ns, 2, rfl, sA.seq hS, _, _, rfl, rfl, ⟨by decide, by decide⟩, _, _, rfl, rfl, (by show (0 : Int) < _; decide), _, rfl, lr, _, rfl, .inl (SqL.of hlr), (by show 3 ≤ sizeLine; decide), fun l3 n3 => ?_⟩
    have z3 := Same.new (o := .lst [.int (cellOf ns 2 / 3 % 61), .int 60, .int (ys.length : Int)]) n3
    obtain ⟨k, hk, hk2⟩ : ∃ k : Nat, atI [V.int (cellOf ns 2 / 3 % 61), .int 60, .int (ys.length : Int)] (cellOf ns 2 % 3) = some (.int (k : Int)) ∧ k ≤ 1000 := by
      have e : cellOf ns 2 % 3 = 0 ∨ cellOf ns 2 % 3 = 1 ∨ cellOf ns 2 % 3 = 2 := by omega
      rcases e with e | e | e <;> rw [e]
      · refine ⟨(cellOf ns 2 / 3 % 61).toNat, ?_, by omega⟩
        rw [Int.toNat_of_nonneg (by omega)]
        rfl
      · exact ⟨60, rfl, by decide⟩
      · exact ⟨ys.length, rfl, by omega⟩
    refine ⟨_, rfl, a, ns, 2, rfl, (sA.trans z3).seq hS, _, _, rfl, rfl, (by show (0 : Int) < _; decide), l3, _, _, _, rfl, rfl, SqL.of upd_same, hk, ?_⟩
    have sB := sA.trans z3
    have hD4 := z3 _ _ hD3
    have hlr4 := z3 _ _ hlr
    have hR4 := hR.same z3
    generalize upd H3 l3 _ = H4 at *
    -- the loop
    refine ⟨fun σ' H5 => ∃ (D lr : Addr) (ys : List V) (boxes : List Int) (rows : List Rw) (k : Nat) (v5 v10 v11 : Option V), σ' = [some (.ref a), some (.int (n : Int)), some (.ref D), some (.ref lr), some (.int (k : Int)), v5, none, none, none, none, v10, v11] ∧ H5 D = some (.lst (boxes.map V.int)) ∧ H5 lr = some (.lst ys) ∧ RL H5 ys rows ∧
      1 ≤ boxes.length ∧ boxes.length ≤ 200 ∧ (∀ x ∈ boxes, 0 ≤ x ∧ x ≤ 999999) ∧ (∀ r ∈ rows, r.Fit (boxes.length : Int) (rows.length : Int)) ∧ rows.length ≤ 200 ∧ k ≤ 1000, ?_, ?_⟩
    · refine ⟨_, rfl, a, ns, 3, rfl, sB.seq hS, _, _, rfl, rfl, (by show (0 : Int) < _; decide), rfl, _, rfl, iteD (fun _ => ?_) (fun _ => ?_)⟩
      · refine ⟨_, rfl, a, ns, 3, rfl, sB.seq hS, _, _, rfl, rfl, ⟨by decide, by decide⟩, _, rfl, _, rfl, fun H5 t lb lr5 ys5 bx5 k5 s5 ht hlb hlr5 hR5 h4 hb5 hk5 => ?_⟩
        refine ⟨_, rfl, t, _, _, _, rfl, rfl, SqT.of ht, (by rfl), _, rfl, t, _, _, _, rfl, rfl, SqT.of ht, (by rfl), _, rfl, t, _, _, _, rfl, rfl, SqT.of ht, (by rfl), ?_⟩
        exact ⟨lb, lr5, ys5, bx5, loopR, k5, _, _, _, rfl, hlb, hlr5, hR5, by omega, by omega, hb5, by rw [h4]; exact loopR_fit, by show 3 ≤ 200; decide, hk5⟩
      · exact ⟨D, lr, ys, boxes, rows, k, _, _, _, rfl, hD4, hlr4, hR4, by omega, by omega, hbo, by rw [hbl, hrl]; exact hfit, by omega, hk2⟩
    clear hD hD3 hD4 hlr hlr4 hR hR4 hbo hbl hfit hrl hk hk2 hyl
    rintro σ' H5 ⟨D, lr, ys, boxes, rows, k, v5, v10, v11, rfl, hD, hlr, hR, hb1, hb2, hbo, hfits, hrl, hk⟩
    -- due
    refine ⟨_, rfl, _, rfl, _, rfl, lr, D, ys, rows, boxes, k, rfl, SqL.of hlr, hR, SqL.of hD, by omega, by omega, hfits, by omega, by omega, fun H6 td ta ba la xs s6 htd hta hba hla hT => ?_⟩
    have hylen := hR.len
    refine ⟨_, rfl, D, _, rfl, .inl (SqL.of (s6 _ _ hD)), fun gv ngv => ?_⟩
    have z7 := Same.new (o := .lst (boxes.map V.int)) ngv
    have hgv : (upd H6 gv (.lst (boxes.map V.int))) gv = some (.lst (boxes.map V.int)) := upd_same
    generalize upd H6 gv (.lst (boxes.map V.int)) = H7 at *
    refine ⟨_, rfl, lr, _, rfl, .inl (SqL.of ((s6.trans z7) _ _ hlr)), fun pg npg => ?_⟩
    have z8 := Same.new (o := .lst ys) npg
    have hpg : (upd H7 pg (.lst ys)) pg = some (.lst ys) := upd_same
    generalize upd H7 pg (.lst ys) = H8 at *
    have c8 := (s6.trans z7).trans z8
    have hgood := good_ints (xs := boxes) hb1 hb2 hbo
    have hgr := good_rows (size := ((boxes.map V.int).length : Int)) (rs := rows) hrl (by rw [List.length_map]; exact hfits)
    refine ⟨_, rfl, _, rfl, _, rfl, pg, gv, _, rows.map rowO, boxes.map V.int, k, rfl, SqL.of hpg, (hR.same c8).things, by omega, SqL.of (z8 _ _ hgv), (fun y hy => by
      obtain ⟨x, _, rfl⟩ := List.mem_map.mp hy
      exact typ_i _), by rw [List.length_map]; omega, by omega, fun rs bx ers ebx _ _ H9 t9 ta9 ba9 la9 xs9 s9 ht9 hta9 hba9 hla9 hT9 => ?_, fun e => absurd (hgood.symm.trans e) (by decide), fun _ e => absurd (hgr.symm.trans e) (by decide)⟩
    have ebx' : boxes = bx := (List.map_inj_right (fun x y z => V.int.inj z)).mp ebx
    subst ebx'
    have ers' : rows = rs := rows_inj ers
    subst ers'
    have c9 := c8.trans s9
    have c7 := (z7.trans z8).trans s9
    have dd := finD_dp (c7 _ _ htd) (c7 _ _ hta) (c7 _ _ hba) (c7 _ _ hla) (hT.same c7)
    have df := finD_dp ht9 hta9 hba9 hla9 hT9
    have hgv9 := (z8.trans s9) _ _ hgv
    have hpg9 := s9 _ _ hpg
    have hD9 := c9 _ _ hD
    have hlr9 := c9 _ _ hlr
    have hR9 := hR.same c9
    generalize finM rows boxes k = fin at *
    refine ⟨fun b H10 => b = false ∧ H10 = H9, ?_, ?_⟩
    · refine ⟨_, rfl, _, _, _, _, _, rfl, .ty "tuple", .base (.tup ht9), kit_ty (r := true) (by decide +kernel), _, rfl, iteF ?_⟩
      refine ⟨_, rfl, _, rfl, _, _, intsD_dp hgv9, intsD_dp hD9, (intsD_sh _).shaped (by decide), (intsD_sh _).shaped (by decide), _, rfl, ?_⟩
      rw [eqv_self (intsD_sh _)]
      refine iteF ⟨_, rfl, _, rfl, _, _, hR9.dp (SqL.of hpg9), hR9.dp (SqL.of hlr9), (rowsD_sh _).shaped (by decide), (rowsD_sh _).shaped (by decide), _, rfl, ?_, rfl⟩
      rw [eqv_self (rowsD_sh _)]
      rfl
    rintro b H10 ⟨rfl, rfl⟩
    refine iteF ?_
    refine ⟨_, rfl, _, rfl, _, _, df, dd, (finD_sh _ _).shaped (by decide), (finD_sh _ _).shaped (by decide), ?_⟩
    rw [eqv_self (finD_sh _ _)]
    refine ⟨_, rfl, iteT ?_⟩
    refine ⟨_, rfl, t9, _, _, _, rfl, rfl, SqT.of ht9, (by rfl), _, _, _, _, _, rfl, .ty "tuple", .base (.lst hta9), kit_ty (r := false) (by decide +kernel), _, rfl, _, rfl, iteT ?_⟩
    exact ⟨_, rfl, t9, _, _, _, rfl, rfl, SqT.of ht9, (by rfl), _, _, _, _, _, rfl, .ty "list", .base (.lst hla9), kit_ty (r := true) (by decide +kernel), q _⟩
def spEnd (K : PySem.W.Frag) : Sp := fun vs H Q _ => ∃ (a : Addr) (ns : List Int), vs = [.ref a] ∧ SqL K H a (ns.map V.int) ∧ ns.length ≤ 63 ∧ ∀ H', Q (.bl true) H'
theorem spEnd_law {K : PySem.W.Frag} (cs : Cs) {vs : List V} {H : Hp} {Q : VK} {E : XK} (h : spEnd K vs H Q E) : sp_law K cs vs H Q E := h
end
theorem all_mk {l : PySem.W.OpenLaw} {w : World} {K : PySem.W.Frag} {h : Heap} {mg : Str → Option Value} {fa : Addr} (X : K.In h) (G : h.Ns mainGlobals mg) (hfa : mg "law" = some (.ref fa))
    {f_within f_part_fits f_fits f_checked f_checked_boxes f_Plain___init__ f_Plain_look f_Plain_put f_reckoned f_moved f_goes_on f_gone f_run f__law_cell_at f__law_mixed f__law_number_by f__law_size_by f__law_row_by f__law_reads f__law_writes f__law_run_by f__law_loop_by f_law a_PARTS C_LineError C_BadRow C_BadBoxes C_Plain : Addr}
    {od_within an_within od_part_fits an_part_fits od_fits an_fits od_checked an_checked od_checked_boxes an_checked_boxes od_Plain___init__ an_Plain___init__ od_Plain_look an_Plain_look od_Plain_put an_Plain_put od_reckoned an_reckoned od_moved an_moved od_goes_on an_goes_on od_gone an_gone od_run an_run od__law_cell_at an__law_cell_at od__law_mixed an__law_mixed od__law_number_by an__law_number_by od__law_size_by an__law_size_by od__law_row_by an__law_row_by od__law_reads an__law_reads od__law_writes an__law_writes od__law_run_by an__law_run_by od__law_loop_by an__law_loop_by od_law an_law : Option Addr} {sl_within sl_part_fits sl_fits sl_checked sl_checked_boxes sl_Plain___init__ sl_Plain_look sl_Plain_put sl_reckoned sl_moved sl_goes_on sl_gone sl_run sl__law_cell_at sl__law_mixed sl__law_number_by sl__law_size_by sl__law_row_by sl__law_reads sl__law_writes sl__law_run_by sl__law_loop_by sl_law : Array (Option Value)} {oc_within kV_within dc_within pm_within cd_within ct_within oc_part_fits kV_part_fits dc_part_fits pm_part_fits cd_part_fits ct_part_fits oc_fits kV_fits dc_fits pm_fits cd_fits ct_fits oc_checked kV_checked dc_checked pm_checked cd_checked ct_checked oc_checked_boxes kV_checked_boxes dc_checked_boxes pm_checked_boxes cd_checked_boxes ct_checked_boxes oc_Plain___init__ kV_Plain___init__ dc_Plain___init__ pm_Plain___init__ cd_Plain___init__ ct_Plain___init__ oc_Plain_look kV_Plain_look dc_Plain_look pm_Plain_look cd_Plain_look ct_Plain_look oc_Plain_put kV_Plain_put dc_Plain_put pm_Plain_put cd_Plain_put ct_Plain_put oc_reckoned kV_reckoned dc_reckoned pm_reckoned cd_reckoned ct_reckoned oc_moved kV_moved dc_moved pm_moved cd_moved ct_moved oc_goes_on kV_goes_on dc_goes_on pm_goes_on cd_goes_on ct_goes_on oc_gone kV_gone dc_gone pm_gone cd_gone ct_gone oc_run kV_run dc_run pm_run cd_run ct_run oc__law_cell_at kV__law_cell_at dc__law_cell_at pm__law_cell_at cd__law_cell_at ct__law_cell_at oc__law_mixed kV__law_mixed dc__law_mixed pm__law_mixed cd__law_mixed ct__law_mixed oc__law_number_by kV__law_number_by dc__law_number_by pm__law_number_by cd__law_number_by ct__law_number_by oc__law_size_by kV__law_size_by dc__law_size_by pm__law_size_by cd__law_size_by ct__law_size_by oc__law_row_by kV__law_row_by dc__law_row_by pm__law_row_by cd__law_row_by ct__law_row_by oc__law_reads kV__law_reads dc__law_reads pm__law_reads cd__law_reads ct__law_reads oc__law_writes kV__law_writes dc__law_writes pm__law_writes cd__law_writes ct__law_writes oc__law_run_by kV__law_run_by dc__law_run_by pm__law_run_by cd__law_run_by ct__law_run_by oc__law_loop_by kV__law_loop_by dc__law_loop_by pm__law_loop_by cd__law_loop_by ct__law_loop_by oc_law kV_law dc_law pm_law cd_law ct_law : Value}
    {es_PARTS : Array DictEntry} {en_PARTS : Nat}
    (a_within : PySem.W.nsIn K mainGlobals "within" = some (some (.ref f_within)))
    (l_within : K.lookup f_within = some ⟨oc_within, od_within, .func (PySem.W.fnOf "within" "within" (defArgs s_within) (defBody s_within) (defScope s_within) .none kV_within dc_within pm_within an_within cd_within ct_within), sl_within⟩)
    (c_within : PySem.W.codeIn K cd_within "within" = true)
    (k_within : PySem.W.keepIn K (.ref f_within) = true)
    (a_part_fits : PySem.W.nsIn K mainGlobals "part_fits" = some (some (.ref f_part_fits)))
    (l_part_fits : K.lookup f_part_fits = some ⟨oc_part_fits, od_part_fits, .func (PySem.W.fnOf "part_fits" "part_fits" (defArgs s_part_fits) (defBody s_part_fits) (defScope s_part_fits) .none kV_part_fits dc_part_fits pm_part_fits an_part_fits cd_part_fits ct_part_fits), sl_part_fits⟩)
    (c_part_fits : PySem.W.codeIn K cd_part_fits "part_fits" = true)
    (k_part_fits : PySem.W.keepIn K (.ref f_part_fits) = true)
    (a_fits : PySem.W.nsIn K mainGlobals "fits" = some (some (.ref f_fits)))
    (l_fits : K.lookup f_fits = some ⟨oc_fits, od_fits, .func (PySem.W.fnOf "fits" "fits" (defArgs s_fits) (defBody s_fits) (defScope s_fits) .none kV_fits dc_fits pm_fits an_fits cd_fits ct_fits), sl_fits⟩)
    (c_fits : PySem.W.codeIn K cd_fits "fits" = true)
    (k_fits : PySem.W.keepIn K (.ref f_fits) = true)
    (a_checked : PySem.W.nsIn K mainGlobals "checked" = some (some (.ref f_checked)))
    (l_checked : K.lookup f_checked = some ⟨oc_checked, od_checked, .func (PySem.W.fnOf "checked" "checked" (defArgs s_checked) (defBody s_checked) (defScope s_checked) .none kV_checked dc_checked pm_checked an_checked cd_checked ct_checked), sl_checked⟩)
    (c_checked : PySem.W.codeIn K cd_checked "checked" = true)
    (k_checked : PySem.W.keepIn K (.ref f_checked) = true)
    (a_checked_boxes : PySem.W.nsIn K mainGlobals "checked_boxes" = some (some (.ref f_checked_boxes)))
    (l_checked_boxes : K.lookup f_checked_boxes = some ⟨oc_checked_boxes, od_checked_boxes, .func (PySem.W.fnOf "checked_boxes" "checked_boxes" (defArgs s_checked_boxes) (defBody s_checked_boxes) (defScope s_checked_boxes) .none kV_checked_boxes dc_checked_boxes pm_checked_boxes an_checked_boxes cd_checked_boxes ct_checked_boxes), sl_checked_boxes⟩)
    (c_checked_boxes : PySem.W.codeIn K cd_checked_boxes "checked_boxes" = true)
    (k_checked_boxes : PySem.W.keepIn K (.ref f_checked_boxes) = true)
    (a_Plain___init__ : PySem.W.findIn K (.ref C_Plain) "__init__" = some (some (.ref f_Plain___init__)))
    (i_Plain___init__ : PySem.W.isFn K (.ref f_Plain___init__) = true)
    (l_Plain___init__ : K.lookup f_Plain___init__ = some ⟨oc_Plain___init__, od_Plain___init__, .func (PySem.W.fnOf "__init__" "Plain.__init__" (defArgs s_Plain___init__) (defBody s_Plain___init__) (defScope s_Plain___init__) .none kV_Plain___init__ dc_Plain___init__ pm_Plain___init__ an_Plain___init__ cd_Plain___init__ ct_Plain___init__), sl_Plain___init__⟩)
    (c_Plain___init__ : PySem.W.codeIn K cd_Plain___init__ "Plain.__init__" = true)
    (k_Plain___init__ : PySem.W.keepIn K (.ref f_Plain___init__) = true)
    (a_Plain_look : PySem.W.findIn K (.ref C_Plain) "look" = some (some (.ref f_Plain_look)))
    (i_Plain_look : PySem.W.isFn K (.ref f_Plain_look) = true)
    (l_Plain_look : K.lookup f_Plain_look = some ⟨oc_Plain_look, od_Plain_look, .func (PySem.W.fnOf "look" "Plain.look" (defArgs s_Plain_look) (defBody s_Plain_look) (defScope s_Plain_look) .none kV_Plain_look dc_Plain_look pm_Plain_look an_Plain_look cd_Plain_look ct_Plain_look), sl_Plain_look⟩)
    (c_Plain_look : PySem.W.codeIn K cd_Plain_look "Plain.look" = true)
    (k_Plain_look : PySem.W.keepIn K (.ref f_Plain_look) = true)
    (a_Plain_put : PySem.W.findIn K (.ref C_Plain) "put" = some (some (.ref f_Plain_put)))
    (i_Plain_put : PySem.W.isFn K (.ref f_Plain_put) = true)
    (l_Plain_put : K.lookup f_Plain_put = some ⟨oc_Plain_put, od_Plain_put, .func (PySem.W.fnOf "put" "Plain.put" (defArgs s_Plain_put) (defBody s_Plain_put) (defScope s_Plain_put) .none kV_Plain_put dc_Plain_put pm_Plain_put an_Plain_put cd_Plain_put ct_Plain_put), sl_Plain_put⟩)
    (c_Plain_put : PySem.W.codeIn K cd_Plain_put "Plain.put" = true)
    (k_Plain_put : PySem.W.keepIn K (.ref f_Plain_put) = true)
    (a_reckoned : PySem.W.nsIn K mainGlobals "reckoned" = some (some (.ref f_reckoned)))
    (l_reckoned : K.lookup f_reckoned = some ⟨oc_reckoned, od_reckoned, .func (PySem.W.fnOf "reckoned" "reckoned" (defArgs s_reckoned) (defBody s_reckoned) (defScope s_reckoned) .none kV_reckoned dc_reckoned pm_reckoned an_reckoned cd_reckoned ct_reckoned), sl_reckoned⟩)
    (c_reckoned : PySem.W.codeIn K cd_reckoned "reckoned" = true)
    (k_reckoned : PySem.W.keepIn K (.ref f_reckoned) = true)
    (a_moved : PySem.W.nsIn K mainGlobals "moved" = some (some (.ref f_moved)))
    (l_moved : K.lookup f_moved = some ⟨oc_moved, od_moved, .func (PySem.W.fnOf "moved" "moved" (defArgs s_moved) (defBody s_moved) (defScope s_moved) .none kV_moved dc_moved pm_moved an_moved cd_moved ct_moved), sl_moved⟩)
    (c_moved : PySem.W.codeIn K cd_moved "moved" = true)
    (k_moved : PySem.W.keepIn K (.ref f_moved) = true)
    (a_goes_on : PySem.W.nsIn K mainGlobals "goes_on" = some (some (.ref f_goes_on)))
    (l_goes_on : K.lookup f_goes_on = some ⟨oc_goes_on, od_goes_on, .func (PySem.W.fnOf "goes_on" "goes_on" (defArgs s_goes_on) (defBody s_goes_on) (defScope s_goes_on) .none kV_goes_on dc_goes_on pm_goes_on an_goes_on cd_goes_on ct_goes_on), sl_goes_on⟩)
    (c_goes_on : PySem.W.codeIn K cd_goes_on "goes_on" = true)
    (k_goes_on : PySem.W.keepIn K (.ref f_goes_on) = true)
    (a_gone : PySem.W.nsIn K mainGlobals "gone" = some (some (.ref f_gone)))
    (l_gone : K.lookup f_gone = some ⟨oc_gone, od_gone, .func (PySem.W.fnOf "gone" "gone" (defArgs s_gone) (defBody s_gone) (defScope s_gone) .none kV_gone dc_gone pm_gone an_gone cd_gone ct_gone), sl_gone⟩)
    (c_gone : PySem.W.codeIn K cd_gone "gone" = true)
    (k_gone : PySem.W.keepIn K (.ref f_gone) = true)
    (a_run : PySem.W.nsIn K mainGlobals "run" = some (some (.ref f_run)))
    (l_run : K.lookup f_run = some ⟨oc_run, od_run, .func (PySem.W.fnOf "run" "run" (defArgs s_run) (defBody s_run) (defScope s_run) .none kV_run dc_run pm_run an_run cd_run ct_run), sl_run⟩)
    (c_run : PySem.W.codeIn K cd_run "run" = true)
    (k_run : PySem.W.keepIn K (.ref f_run) = true)
    (a__law_cell_at : PySem.W.nsIn K mainGlobals "_law_cell_at" = some (some (.ref f__law_cell_at)))
    (l__law_cell_at : K.lookup f__law_cell_at = some ⟨oc__law_cell_at, od__law_cell_at, .func (PySem.W.fnOf "_law_cell_at" "_law_cell_at" (defArgs s__law_cell_at) (defBody s__law_cell_at) (defScope s__law_cell_at) .none kV__law_cell_at dc__law_cell_at pm__law_cell_at an__law_cell_at cd__law_cell_at ct__law_cell_at), sl__law_cell_at⟩)
    (c__law_cell_at : PySem.W.codeIn K cd__law_cell_at "_law_cell_at" = true)
    (k__law_cell_at : PySem.W.keepIn K (.ref f__law_cell_at) = true)
    (a__law_mixed : PySem.W.nsIn K mainGlobals "_law_mixed" = some (some (.ref f__law_mixed)))
    (l__law_mixed : K.lookup f__law_mixed = some ⟨oc__law_mixed, od__law_mixed, .func (PySem.W.fnOf "_law_mixed" "_law_mixed" (defArgs s__law_mixed) (defBody s__law_mixed) (defScope s__law_mixed) .none kV__law_mixed dc__law_mixed pm__law_mixed an__law_mixed cd__law_mixed ct__law_mixed), sl__law_mixed⟩)
    (c__law_mixed : PySem.W.codeIn K cd__law_mixed "_law_mixed" = true)
    (k__law_mixed : PySem.W.keepIn K (.ref f__law_mixed) = true)
    (a__law_number_by : PySem.W.nsIn K mainGlobals "_law_number_by" = some (some (.ref f__law_number_by)))
    (l__law_number_by : K.lookup f__law_number_by = some ⟨oc__law_number_by, od__law_number_by, .func (PySem.W.fnOf "_law_number_by" "_law_number_by" (defArgs s__law_number_by) (defBody s__law_number_by) (defScope s__law_number_by) .none kV__law_number_by dc__law_number_by pm__law_number_by an__law_number_by cd__law_number_by ct__law_number_by), sl__law_number_by⟩)
    (c__law_number_by : PySem.W.codeIn K cd__law_number_by "_law_number_by" = true)
    (k__law_number_by : PySem.W.keepIn K (.ref f__law_number_by) = true)
    (a__law_size_by : PySem.W.nsIn K mainGlobals "_law_size_by" = some (some (.ref f__law_size_by)))
    (l__law_size_by : K.lookup f__law_size_by = some ⟨oc__law_size_by, od__law_size_by, .func (PySem.W.fnOf "_law_size_by" "_law_size_by" (defArgs s__law_size_by) (defBody s__law_size_by) (defScope s__law_size_by) .none kV__law_size_by dc__law_size_by pm__law_size_by an__law_size_by cd__law_size_by ct__law_size_by), sl__law_size_by⟩)
    (c__law_size_by : PySem.W.codeIn K cd__law_size_by "_law_size_by" = true)
    (k__law_size_by : PySem.W.keepIn K (.ref f__law_size_by) = true)
    (a__law_row_by : PySem.W.nsIn K mainGlobals "_law_row_by" = some (some (.ref f__law_row_by)))
    (l__law_row_by : K.lookup f__law_row_by = some ⟨oc__law_row_by, od__law_row_by, .func (PySem.W.fnOf "_law_row_by" "_law_row_by" (defArgs s__law_row_by) (defBody s__law_row_by) (defScope s__law_row_by) .none kV__law_row_by dc__law_row_by pm__law_row_by an__law_row_by cd__law_row_by ct__law_row_by), sl__law_row_by⟩)
    (c__law_row_by : PySem.W.codeIn K cd__law_row_by "_law_row_by" = true)
    (k__law_row_by : PySem.W.keepIn K (.ref f__law_row_by) = true)
    (a__law_reads : PySem.W.nsIn K mainGlobals "_law_reads" = some (some (.ref f__law_reads)))
    (l__law_reads : K.lookup f__law_reads = some ⟨oc__law_reads, od__law_reads, .func (PySem.W.fnOf "_law_reads" "_law_reads" (defArgs s__law_reads) (defBody s__law_reads) (defScope s__law_reads) .none kV__law_reads dc__law_reads pm__law_reads an__law_reads cd__law_reads ct__law_reads), sl__law_reads⟩)
    (c__law_reads : PySem.W.codeIn K cd__law_reads "_law_reads" = true)
    (k__law_reads : PySem.W.keepIn K (.ref f__law_reads) = true)
    (a__law_writes : PySem.W.nsIn K mainGlobals "_law_writes" = some (some (.ref f__law_writes)))
    (l__law_writes : K.lookup f__law_writes = some ⟨oc__law_writes, od__law_writes, .func (PySem.W.fnOf "_law_writes" "_law_writes" (defArgs s__law_writes) (defBody s__law_writes) (defScope s__law_writes) .none kV__law_writes dc__law_writes pm__law_writes an__law_writes cd__law_writes ct__law_writes), sl__law_writes⟩)
    (c__law_writes : PySem.W.codeIn K cd__law_writes "_law_writes" = true)
    (k__law_writes : PySem.W.keepIn K (.ref f__law_writes) = true)
    (a__law_run_by : PySem.W.nsIn K mainGlobals "_law_run_by" = some (some (.ref f__law_run_by)))
    (l__law_run_by : K.lookup f__law_run_by = some ⟨oc__law_run_by, od__law_run_by, .func (PySem.W.fnOf "_law_run_by" "_law_run_by" (defArgs s__law_run_by) (defBody s__law_run_by) (defScope s__law_run_by) .none kV__law_run_by dc__law_run_by pm__law_run_by an__law_run_by cd__law_run_by ct__law_run_by), sl__law_run_by⟩)
    (c__law_run_by : PySem.W.codeIn K cd__law_run_by "_law_run_by" = true)
    (k__law_run_by : PySem.W.keepIn K (.ref f__law_run_by) = true)
    (a__law_loop_by : PySem.W.nsIn K mainGlobals "_law_loop_by" = some (some (.ref f__law_loop_by)))
    (l__law_loop_by : K.lookup f__law_loop_by = some ⟨oc__law_loop_by, od__law_loop_by, .func (PySem.W.fnOf "_law_loop_by" "_law_loop_by" (defArgs s__law_loop_by) (defBody s__law_loop_by) (defScope s__law_loop_by) .none kV__law_loop_by dc__law_loop_by pm__law_loop_by an__law_loop_by cd__law_loop_by ct__law_loop_by), sl__law_loop_by⟩)
    (c__law_loop_by : PySem.W.codeIn K cd__law_loop_by "_law_loop_by" = true)
    (k__law_loop_by : PySem.W.keepIn K (.ref f__law_loop_by) = true)
    (a_law : PySem.W.nsIn K mainGlobals "law" = some (some (.ref f_law)))
    (l_law : K.lookup f_law = some ⟨oc_law, od_law, .func (PySem.W.fnOf "law" "law" (defArgs s_law) (defBody s_law) (defScope s_law) .none kV_law dc_law pm_law an_law cd_law ct_law), sl_law⟩)
    (c_law : PySem.W.codeIn K cd_law "law" = true)
    (k_law : PySem.W.keepIn K (.ref f_law) = true)
    (z_isinstance : PySem.W.nsIn K mainGlobals "isinstance" = some none)
    (z_int : PySem.W.nsIn K mainGlobals "int" = some none)
    (z_bool : PySem.W.nsIn K mainGlobals "bool" = some none)
    (z_tuple : PySem.W.nsIn K mainGlobals "tuple" = some none)
    (z_len : PySem.W.nsIn K mainGlobals "len" = some none)
    (z_str : PySem.W.nsIn K mainGlobals "str" = some none)
    (z_range : PySem.W.nsIn K mainGlobals "range" = some none)
    (z_list : PySem.W.nsIn K mainGlobals "list" = some none)
    (v_GREATEST : ∃ t, PySem.W.nsIn K mainGlobals "GREATEST" = some (some (.int 999999 t)))
    (v_MOST : ∃ t, PySem.W.nsIn K mainGlobals "MOST" = some (some (.int 200 t)))
    (v_PARTS : PySem.W.nsIn K mainGlobals "PARTS" = some (some (.ref a_PARTS)))
    (vl_PARTS : K.lookup a_PARTS = some ⟨.type "dict", none, .dict es_PARTS en_PARTS, #[]⟩)
    (vk_PARTS : PySem.W.KeysLit w.params es_PARTS.toList)
    (vs_PARTS : (a_PARTS == sysModules) = false)
    (vf_PARTS : ∀ z, ∃ o, findBy Value.isStrOf es_PARTS z = o ∧ RelO ((partsM z).map V.str) o)
    (v_MODULUS : ∃ t, PySem.W.nsIn K mainGlobals "MODULUS" = some (some (.int 1000000 t)))
    (g_LineError : PySem.W.nsIn K mainGlobals "LineError" = some (some (.ref C_LineError)))
    (xx_LineError : PySem.W.excIn K C_LineError [.type "ValueError", .type "Exception", .type "BaseException", .type "object"] "ValueError.__new__" = true)
    (xk_LineError : PySem.W.keepIn K (.ref C_LineError) = true)
    (xb_LineError : PySem.W.subIn K (.ref C_LineError) (.type "BaseException") = some true)
    (xt_LineError : PySem.W.typeIn K (.ref C_LineError) = some (.type "type"))
    (xi_LineError : PySem.W.isClsIn K C_LineError = true)
    (xs_LineError : PySem.W.subIn K (.ref C_LineError) (.ref C_LineError) = some true)
    (g_BadRow : PySem.W.nsIn K mainGlobals "BadRow" = some (some (.ref C_BadRow)))
    (xx_BadRow : PySem.W.excIn K C_BadRow [.type "ValueError", .type "Exception", .type "BaseException", .type "object"] "ValueError.__new__" = true)
    (xk_BadRow : PySem.W.keepIn K (.ref C_BadRow) = true)
    (xb_BadRow : PySem.W.subIn K (.ref C_BadRow) (.type "BaseException") = some true)
    (xt_BadRow : PySem.W.typeIn K (.ref C_BadRow) = some (.type "type"))
    (xi_BadRow : PySem.W.isClsIn K C_BadRow = true)
    (xs_BadRow : PySem.W.subIn K (.ref C_BadRow) (.ref C_BadRow) = some true)
    (g_BadBoxes : PySem.W.nsIn K mainGlobals "BadBoxes" = some (some (.ref C_BadBoxes)))
    (xx_BadBoxes : PySem.W.excIn K C_BadBoxes [.type "ValueError", .type "Exception", .type "BaseException", .type "object"] "ValueError.__new__" = true)
    (xk_BadBoxes : PySem.W.keepIn K (.ref C_BadBoxes) = true)
    (xb_BadBoxes : PySem.W.subIn K (.ref C_BadBoxes) (.type "BaseException") = some true)
    (xt_BadBoxes : PySem.W.typeIn K (.ref C_BadBoxes) = some (.type "type"))
    (xi_BadBoxes : PySem.W.isClsIn K C_BadBoxes = true)
    (xs_BadBoxes : PySem.W.subIn K (.ref C_BadBoxes) (.ref C_BadBoxes) = some true)
    (g_Plain : PySem.W.nsIn K mainGlobals "Plain" = some (some (.ref C_Plain)))
    (ng_Plain : PySem.W.plainGet K C_Plain Str.empty = true)
    (nh_Plain : PySem.W.hasDictIn K C_Plain = true)
    (no_Plain : PySem.W.plainOver K C_Plain = true)
    (ns_Plain : PySem.W.findIn K (.ref C_Plain) "__setattr__" = some (some (.builtin "object.__setattr__")))
    (nm_Plain : PySem.W.makesIn K C_Plain = true)
    (nk_Plain : PySem.W.keepIn K (.ref C_Plain) = true)
    (na_Plain_boxes : PySem.W.findIn K (.ref C_Plain) "boxes" = some none)
    (na_Plain_touches : PySem.W.findIn K (.ref C_Plain) "touches" = some none)
    : ∃ (cs : Cs) (fd : FuncData), (∀ (s : Shared) (v : Value), BindsTo s fd ⟨[v], []⟩ [("_law_script", v)]) ∧ ∀ base : Heap, K.In base → base.Ns mainGlobals mg → FnOk l.prog w K mg base CX0 6 fa fd ["_law_script"] (sp_law K cs) := by
  have e : f_law = fa := Value.ref.inj (Option.some.inj ((PySem.W.mg_of X G a_law).symm.trans hfa))
  obtain ⟨cs, hcs⟩ : ∃ cs : Cs, cs = { f_within := f_within, d_within := (PySem.W.fnOf "within" "within" (defArgs s_within) (defBody s_within) (defScope s_within) .none kV_within dc_within pm_within an_within cd_within ct_within), f_part_fits := f_part_fits, d_part_fits := (PySem.W.fnOf "part_fits" "part_fits" (defArgs s_part_fits) (defBody s_part_fits) (defScope s_part_fits) .none kV_part_fits dc_part_fits pm_part_fits an_part_fits cd_part_fits ct_part_fits), f_fits := f_fits, d_fits := (PySem.W.fnOf "fits" "fits" (defArgs s_fits) (defBody s_fits) (defScope s_fits) .none kV_fits dc_fits pm_fits an_fits cd_fits ct_fits), f_checked := f_checked, d_checked := (PySem.W.fnOf "checked" "checked" (defArgs s_checked) (defBody s_checked) (defScope s_checked) .none kV_checked dc_checked pm_checked an_checked cd_checked ct_checked), f_checked_boxes := f_checked_boxes, d_checked_boxes := (PySem.W.fnOf "checked_boxes" "checked_boxes" (defArgs s_checked_boxes) (defBody s_checked_boxes) (defScope s_checked_boxes) .none kV_checked_boxes dc_checked_boxes pm_checked_boxes an_checked_boxes cd_checked_boxes ct_checked_boxes), f_Plain___init__ := f_Plain___init__, d_Plain___init__ := (PySem.W.fnOf "__init__" "Plain.__init__" (defArgs s_Plain___init__) (defBody s_Plain___init__) (defScope s_Plain___init__) .none kV_Plain___init__ dc_Plain___init__ pm_Plain___init__ an_Plain___init__ cd_Plain___init__ ct_Plain___init__), f_Plain_look := f_Plain_look, d_Plain_look := (PySem.W.fnOf "look" "Plain.look" (defArgs s_Plain_look) (defBody s_Plain_look) (defScope s_Plain_look) .none kV_Plain_look dc_Plain_look pm_Plain_look an_Plain_look cd_Plain_look ct_Plain_look), f_Plain_put := f_Plain_put, d_Plain_put := (PySem.W.fnOf "put" "Plain.put" (defArgs s_Plain_put) (defBody s_Plain_put) (defScope s_Plain_put) .none kV_Plain_put dc_Plain_put pm_Plain_put an_Plain_put cd_Plain_put ct_Plain_put), f_reckoned := f_reckoned, d_reckoned := (PySem.W.fnOf "reckoned" "reckoned" (defArgs s_reckoned) (defBody s_reckoned) (defScope s_reckoned) .none kV_reckoned dc_reckoned pm_reckoned an_reckoned cd_reckoned ct_reckoned), f_moved := f_moved, d_moved := (PySem.W.fnOf "moved" "moved" (defArgs s_moved) (defBody s_moved) (defScope s_moved) .none kV_moved dc_moved pm_moved an_moved cd_moved ct_moved), f_goes_on := f_goes_on, d_goes_on := (PySem.W.fnOf "goes_on" "goes_on" (defArgs s_goes_on) (defBody s_goes_on) (defScope s_goes_on) .none kV_goes_on dc_goes_on pm_goes_on an_goes_on cd_goes_on ct_goes_on), f_gone := f_gone, d_gone := (PySem.W.fnOf "gone" "gone" (defArgs s_gone) (defBody s_gone) (defScope s_gone) .none kV_gone dc_gone pm_gone an_gone cd_gone ct_gone), f_run := f_run, d_run := (PySem.W.fnOf "run" "run" (defArgs s_run) (defBody s_run) (defScope s_run) .none kV_run dc_run pm_run an_run cd_run ct_run), f__law_cell_at := f__law_cell_at, d__law_cell_at := (PySem.W.fnOf "_law_cell_at" "_law_cell_at" (defArgs s__law_cell_at) (defBody s__law_cell_at) (defScope s__law_cell_at) .none kV__law_cell_at dc__law_cell_at pm__law_cell_at an__law_cell_at cd__law_cell_at ct__law_cell_at), f__law_mixed := f__law_mixed, d__law_mixed := (PySem.W.fnOf "_law_mixed" "_law_mixed" (defArgs s__law_mixed) (defBody s__law_mixed) (defScope s__law_mixed) .none kV__law_mixed dc__law_mixed pm__law_mixed an__law_mixed cd__law_mixed ct__law_mixed), f__law_number_by := f__law_number_by, d__law_number_by := (PySem.W.fnOf "_law_number_by" "_law_number_by" (defArgs s__law_number_by) (defBody s__law_number_by) (defScope s__law_number_by) .none kV__law_number_by dc__law_number_by pm__law_number_by an__law_number_by cd__law_number_by ct__law_number_by), f__law_size_by := f__law_size_by, d__law_size_by := (PySem.W.fnOf "_law_size_by" "_law_size_by" (defArgs s__law_size_by) (defBody s__law_size_by) (defScope s__law_size_by) .none kV__law_size_by dc__law_size_by pm__law_size_by an__law_size_by cd__law_size_by ct__law_size_by), f__law_row_by := f__law_row_by, d__law_row_by := (PySem.W.fnOf "_law_row_by" "_law_row_by" (defArgs s__law_row_by) (defBody s__law_row_by) (defScope s__law_row_by) .none kV__law_row_by dc__law_row_by pm__law_row_by an__law_row_by cd__law_row_by ct__law_row_by), f__law_reads := f__law_reads, d__law_reads := (PySem.W.fnOf "_law_reads" "_law_reads" (defArgs s__law_reads) (defBody s__law_reads) (defScope s__law_reads) .none kV__law_reads dc__law_reads pm__law_reads an__law_reads cd__law_reads ct__law_reads), f__law_writes := f__law_writes, d__law_writes := (PySem.W.fnOf "_law_writes" "_law_writes" (defArgs s__law_writes) (defBody s__law_writes) (defScope s__law_writes) .none kV__law_writes dc__law_writes pm__law_writes an__law_writes cd__law_writes ct__law_writes), f__law_run_by := f__law_run_by, d__law_run_by := (PySem.W.fnOf "_law_run_by" "_law_run_by" (defArgs s__law_run_by) (defBody s__law_run_by) (defScope s__law_run_by) .none kV__law_run_by dc__law_run_by pm__law_run_by an__law_run_by cd__law_run_by ct__law_run_by), f__law_loop_by := f__law_loop_by, d__law_loop_by := (PySem.W.fnOf "_law_loop_by" "_law_loop_by" (defArgs s__law_loop_by) (defBody s__law_loop_by) (defScope s__law_loop_by) .none kV__law_loop_by dc__law_loop_by pm__law_loop_by an__law_loop_by cd__law_loop_by ct__law_loop_by), f_law := f_law, d_law := (PySem.W.fnOf "law" "law" (defArgs s_law) (defBody s_law) (defScope s_law) .none kV_law dc_law pm_law an_law cd_law ct_law), a_PARTS := a_PARTS, C_LineError := C_LineError, C_BadRow := C_BadRow, C_BadBoxes := C_BadBoxes, C_Plain := C_Plain } := ⟨_, rfl⟩
  have T : Txt w K mg cs := by
    rw [hcs]
    exact { fn_within := ⟨fun_mk (st := s_within) l_within c_within k_within, (fun_mk (st := s_within) l_within c_within k_within).binds (ps := ["number", "low", "high"]) fun _ _ _ _ _ _ us hl => match us, hl with | [_, _, _], _ => rfl⟩, gl_within := PySem.W.mg_of X G a_within, fn_part_fits := ⟨fun_mk (st := s_part_fits) l_part_fits c_part_fits k_part_fits, (fun_mk (st := s_part_fits) l_part_fits c_part_fits k_part_fits).binds (ps := ["mark", "number", "size", "count"]) fun _ _ _ _ _ _ us hl => match us, hl with | [_, _, _, _], _ => rfl⟩, gl_part_fits := PySem.W.mg_of X G a_part_fits, fn_fits := ⟨fun_mk (st := s_fits) l_fits c_fits k_fits, (fun_mk (st := s_fits) l_fits c_fits k_fits).binds (ps := ["row", "size", "count"]) fun _ _ _ _ _ _ us hl => match us, hl with | [_, _, _], _ => rfl⟩, gl_fits := PySem.W.mg_of X G a_fits, fn_checked := ⟨fun_mk (st := s_checked) l_checked c_checked k_checked, (fun_mk (st := s_checked) l_checked c_checked k_checked).binds (ps := ["rows", "size"]) fun _ _ _ _ _ _ us hl => match us, hl with | [_, _], _ => rfl⟩, gl_checked := PySem.W.mg_of X G a_checked, fn_checked_boxes := ⟨fun_mk (st := s_checked_boxes) l_checked_boxes c_checked_boxes k_checked_boxes, (fun_mk (st := s_checked_boxes) l_checked_boxes c_checked_boxes k_checked_boxes).binds (ps := ["boxes"]) fun _ _ _ _ _ _ us hl => match us, hl with | [_], _ => rfl⟩, gl_checked_boxes := PySem.W.mg_of X G a_checked_boxes, fn_Plain___init__ := ⟨fun_mk (st := s_Plain___init__) l_Plain___init__ c_Plain___init__ k_Plain___init__, (fun_mk (st := s_Plain___init__) l_Plain___init__ c_Plain___init__ k_Plain___init__).binds (ps := ["self", "boxes"]) fun _ _ _ _ _ _ us hl => match us, hl with | [_, _], _ => rfl⟩, fn_Plain_look := ⟨fun_mk (st := s_Plain_look) l_Plain_look c_Plain_look k_Plain_look, (fun_mk (st := s_Plain_look) l_Plain_look c_Plain_look k_Plain_look).binds (ps := ["self", "box"]) fun _ _ _ _ _ _ us hl => match us, hl with | [_, _], _ => rfl⟩, fn_Plain_put := ⟨fun_mk (st := s_Plain_put) l_Plain_put c_Plain_put k_Plain_put, (fun_mk (st := s_Plain_put) l_Plain_put c_Plain_put k_Plain_put).binds (ps := ["self", "box", "number"]) fun _ _ _ _ _ _ us hl => match us, hl with | [_, _, _], _ => rfl⟩, fn_reckoned := ⟨fun_mk (st := s_reckoned) l_reckoned c_reckoned k_reckoned, (fun_mk (st := s_reckoned) l_reckoned c_reckoned k_reckoned).binds (ps := ["row", "holder"]) fun _ _ _ _ _ _ us hl => match us, hl with | [_, _], _ => rfl⟩, gl_reckoned := PySem.W.mg_of X G a_reckoned, fn_moved := ⟨fun_mk (st := s_moved) l_moved c_moved k_moved, (fun_mk (st := s_moved) l_moved c_moved k_moved).binds (ps := ["row", "holder", "size"]) fun _ _ _ _ _ _ us hl => match us, hl with | [_, _, _], _ => rfl⟩, gl_moved := PySem.W.mg_of X G a_moved, fn_goes_on := ⟨fun_mk (st := s_goes_on) l_goes_on c_goes_on k_goes_on, (fun_mk (st := s_goes_on) l_goes_on c_goes_on k_goes_on).binds (ps := ["row", "place", "holder"]) fun _ _ _ _ _ _ us hl => match us, hl with | [_, _, _], _ => rfl⟩, gl_goes_on := PySem.W.mg_of X G a_goes_on, fn_gone := ⟨fun_mk (st := s_gone) l_gone c_gone k_gone, (fun_mk (st := s_gone) l_gone c_gone k_gone).binds (ps := ["rows", "holder", "size", "steps"]) fun _ _ _ _ _ _ us hl => match us, hl with | [_, _, _, _], _ => rfl⟩, gl_gone := PySem.W.mg_of X G a_gone, fn_run := ⟨fun_mk (st := s_run) l_run c_run k_run, (fun_mk (st := s_run) l_run c_run k_run).binds (ps := ["rows", "boxes", "steps"]) fun _ _ _ _ _ _ us hl => match us, hl with | [_, _, _], _ => rfl⟩, gl_run := PySem.W.mg_of X G a_run, fn__law_cell_at := ⟨fun_mk (st := s__law_cell_at) l__law_cell_at c__law_cell_at k__law_cell_at, (fun_mk (st := s__law_cell_at) l__law_cell_at c__law_cell_at k__law_cell_at).binds (ps := ["_law_script", "_law_k"]) fun _ _ _ _ _ _ us hl => match us, hl with | [_, _], _ => rfl⟩, gl__law_cell_at := PySem.W.mg_of X G a__law_cell_at, fn__law_mixed := ⟨fun_mk (st := s__law_mixed) l__law_mixed c__law_mixed k__law_mixed, (fun_mk (st := s__law_mixed) l__law_mixed c__law_mixed k__law_mixed).binds (ps := ["_law_cell"]) fun _ _ _ _ _ _ us hl => match us, hl with | [_], _ => rfl⟩, gl__law_mixed := PySem.W.mg_of X G a__law_mixed, fn__law_number_by := ⟨fun_mk (st := s__law_number_by) l__law_number_by c__law_number_by k__law_number_by, (fun_mk (st := s__law_number_by) l__law_number_by c__law_number_by k__law_number_by).binds (ps := ["_law_cell"]) fun _ _ _ _ _ _ us hl => match us, hl with | [_], _ => rfl⟩, gl__law_number_by := PySem.W.mg_of X G a__law_number_by, fn__law_size_by := ⟨fun_mk (st := s__law_size_by) l__law_size_by c__law_size_by k__law_size_by, (fun_mk (st := s__law_size_by) l__law_size_by c__law_size_by k__law_size_by).binds (ps := ["_law_cell"]) fun _ _ _ _ _ _ us hl => match us, hl with | [_], _ => rfl⟩, gl__law_size_by := PySem.W.mg_of X G a__law_size_by, fn__law_row_by := ⟨fun_mk (st := s__law_row_by) l__law_row_by c__law_row_by k__law_row_by, (fun_mk (st := s__law_row_by) l__law_row_by c__law_row_by k__law_row_by).binds (ps := ["_law_cell", "_law_size", "_law_count"]) fun _ _ _ _ _ _ us hl => match us, hl with | [_, _, _], _ => rfl⟩, gl__law_row_by := PySem.W.mg_of X G a__law_row_by, fn__law_reads := ⟨fun_mk (st := s__law_reads) l__law_reads c__law_reads k__law_reads, (fun_mk (st := s__law_reads) l__law_reads c__law_reads k__law_reads).binds (ps := ["_law_row", "_law_held"]) fun _ _ _ _ _ _ us hl => match us, hl with | [_, _], _ => rfl⟩, gl__law_reads := PySem.W.mg_of X G a__law_reads, fn__law_writes := ⟨fun_mk (st := s__law_writes) l__law_writes c__law_writes k__law_writes, (fun_mk (st := s__law_writes) l__law_writes c__law_writes k__law_writes).binds (ps := ["_law_row", "_law_held"]) fun _ _ _ _ _ _ us hl => match us, hl with | [_, _], _ => rfl⟩, gl__law_writes := PySem.W.mg_of X G a__law_writes, fn__law_run_by := ⟨fun_mk (st := s__law_run_by) l__law_run_by c__law_run_by k__law_run_by, (fun_mk (st := s__law_run_by) l__law_run_by c__law_run_by k__law_run_by).binds (ps := ["_law_rows", "_law_boxes", "_law_steps"]) fun _ _ _ _ _ _ us hl => match us, hl with | [_, _, _], _ => rfl⟩, gl__law_run_by := PySem.W.mg_of X G a__law_run_by, fn__law_loop_by := ⟨fun_mk (st := s__law_loop_by) l__law_loop_by c__law_loop_by k__law_loop_by, (fun_mk (st := s__law_loop_by) l__law_loop_by c__law_loop_by k__law_loop_by).binds (ps := ["_law_cell"]) fun _ _ _ _ _ _ us hl => match us, hl with | [_], _ => rfl⟩, gl__law_loop_by := PySem.W.mg_of X G a__law_loop_by, fn_law := ⟨fun_mk (st := s_law) l_law c_law k_law, (fun_mk (st := s_law) l_law c_law k_law).binds (ps := ["_law_script"]) fun _ _ _ _ _ _ us hl => match us, hl with | [_], _ => rfl⟩, gl_law := PySem.W.mg_of X G a_law, no_isinstance := PySem.W.mg_none_of X G z_isinstance, no_int := PySem.W.mg_none_of X G z_int, no_bool := PySem.W.mg_none_of X G z_bool, no_tuple := PySem.W.mg_none_of X G z_tuple, no_len := PySem.W.mg_none_of X G z_len, no_str := PySem.W.mg_none_of X G z_str, no_range := PySem.W.mg_none_of X G z_range, no_list := PySem.W.mg_none_of X G z_list, gl_GREATEST := (by obtain ⟨t, e⟩ := v_GREATEST; exact ⟨t, PySem.W.mg_of X G e⟩), gl_MOST := (by obtain ⟨t, e⟩ := v_MOST; exact ⟨t, PySem.W.mg_of X G e⟩), gl_PARTS := PySem.W.mg_of X G v_PARTS, km_PARTS := ⟨es_PARTS, en_PARTS, vl_PARTS, vk_PARTS, vs_PARTS, vf_PARTS⟩, gl_MODULUS := (by obtain ⟨t, e⟩ := v_MODULUS; exact ⟨t, PySem.W.mg_of X G e⟩), ex_LineError := ⟨PySem.W.mg_of X G g_LineError, xx_LineError, xk_LineError, xb_LineError, xt_LineError, xi_LineError, xs_LineError⟩, ex_BadRow := ⟨PySem.W.mg_of X G g_BadRow, xx_BadRow, xk_BadRow, xb_BadRow, xt_BadRow, xi_BadRow, xs_BadRow⟩, ex_BadBoxes := ⟨PySem.W.mg_of X G g_BadBoxes, xx_BadBoxes, xk_BadBoxes, xb_BadBoxes, xt_BadBoxes, xi_BadBoxes, xs_BadBoxes⟩, gl_Plain := PySem.W.mg_of X G g_Plain, cl_Plain := ⟨ng_Plain, nh_Plain, no_Plain, ns_Plain⟩, mk_Plain := ⟨nm_Plain, a_Plain___init__, i_Plain___init__, nk_Plain⟩, me_Plain_look := ⟨a_Plain_look, i_Plain_look, k_Plain_look⟩, me_Plain_put := ⟨a_Plain_put, i_Plain_put, k_Plain_put⟩, na_Plain_boxes := na_Plain_boxes, na_Plain_touches := na_Plain_touches }
  refine ⟨cs, cs.d_law, ?_, fun base KB GB => ?_⟩
  · rw [hcs]
    exact fun s v => .of_eq rfl
  have o__law_size_by := ok__law_size_by (P := l.prog) (w := w) (base := base) T 
  have o__law_writes := ok__law_writes (P := l.prog) (w := w) (base := base) T 
  have o__law_reads := ok__law_reads (P := l.prog) (w := w) (base := base) T 
  have o__law_run_by := ok__law_run_by (P := l.prog) (w := w) (base := base) T o__law_writes o__law_reads
  have o_within := ok_within (P := l.prog) (w := w) (base := base) T 
  have o_checked_boxes := ok_checked_boxes (P := l.prog) (w := w) (base := base) T o_within
  have o_part_fits := ok_part_fits (P := l.prog) (w := w) (base := base) T o_within
  have o_fits := ok_fits (P := l.prog) (w := w) (base := base) T o_part_fits
  have o_checked := ok_checked (P := l.prog) (w := w) (base := base) T o_fits
  have o_Plain___init__ := ok_Plain___init__ (P := l.prog) (w := w) (base := base) T 
  have o_Plain_look := ok_Plain_look (P := l.prog) (w := w) (base := base) T 
  have o_goes_on := ok_goes_on (P := l.prog) (w := w) (base := base) T o_Plain_look
  have o_Plain_put := ok_Plain_put (P := l.prog) (w := w) (base := base) T 
  have o_reckoned := ok_reckoned (P := l.prog) (w := w) (base := base) T o_Plain_look o_Plain_put
  have o_moved := ok_moved (P := l.prog) (w := w) (base := base) T o_Plain_look o_Plain_put
  have o_gone := ok_gone (P := l.prog) (w := w) (base := base) T o_goes_on o_Plain_put o_reckoned o_moved o_Plain_look
  have o_run := ok_run (P := l.prog) (w := w) (base := base) T o_checked_boxes o_checked o_Plain___init__ o_gone
  have o__law_cell_at := ok__law_cell_at (P := l.prog) (w := w) (base := base) T 
  have o__law_mixed := ok__law_mixed (P := l.prog) (w := w) (base := base) T 
  have o__law_number_by := ok__law_number_by (P := l.prog) (w := w) (base := base) T o__law_mixed
  have o__law_row_by := ok__law_row_by (P := l.prog) (w := w) (base := base) T o__law_mixed o__law_number_by
  have o__law_loop_by := ok__law_loop_by (P := l.prog) (w := w) (base := base) T 
  have o_law := ok_law (P := l.prog) (w := w) (base := base) T o__law_size_by o__law_run_by o_run o__law_cell_at o__law_number_by o__law_row_by o__law_loop_by o__law_mixed
  have ef : cs.f_law = fa := by
    rw [hcs]
    exact e
  rw [← ef]
  exact o_law.ok
theorem walk {l : PySem.W.OpenLaw} {q : Program} {loose : List Str} {XP : (Str → Option Value) → Heap → Prop} {YP : World → Heap → Prop} {d : DefRec} {K : Params → PySem.W.Frag} (hn : l.most = some 63) (hdf : d.params.defaults = [])
    (hY : ∀ (w : World) (h : Heap), YP w h → (K w.params).In h)
    (F : ∀ (w : World) (mg : Str → Option Value) (fa : Addr) (h : Heap), (K w.params).In h → h.Ns mainGlobals mg → mg d.name = some (.ref fa) →
      ∃ (cs : Cs) (fd : FuncData), (∀ (s : Shared) (u : Value), BindsTo s fd ⟨[u], []⟩ [("_law_script", u)]) ∧ ∀ base : Heap, (K w.params).In base → base.Ns mainGlobals mg → FnOk l.prog w (K w.params) mg base CX0 6 fa fd ["_law_script"] (sp_law (K w.params) cs)) :
    PySem.W.WalkO q loose XP YP l.row.toRowW d [] (fun f vs => PySem.call f vs) :=
  L2.walk_of (n := 63) (k := 6) (x := "_law_script") (CX := fun _ => CX0) (sp := fun w => spEnd (K w.params)) hn (by decide) hdf ⟨rfl, by decide, by decide⟩ hY (fun w mg fa h KX G hm => by
    obtain ⟨cs, fd, B, O⟩ := F w mg fa h KX G hm
    exact ⟨fd, B, fun base KB GB => (O base KB GB).imp fun vs H Q E z => spEnd_law cs z⟩) (fun _ _ a ns hl _ hS => ⟨a, ns, rfl, hS, hl, fun _ => rfl⟩) fun _ _ _ _ _ z => z
end NL
open PySem PySem.W PyProof.Rows
set_option pp.maxSteps 200 in
set_option maxRecDepth 100000 in
set_option maxHeartbeats 0 in
theorem PySem.Challenge.cw_nearlines_k05_runs_holds : PySem.Challenge.rw_nearlines_k05_runs.Holds := by
  w_on; o_law; k_head; (case hw => w_witness2)
  k_fill
  refine NL.walk (l := PySem.Challenge.rw_nearlines_k05_runs) rfl rfl (fun w h Y => PySem.W.kIn_of Y) ?F
  case F =>
    intro w mg fa h KX G hmg
    refine' NL.all_mk KX G hmg ?a_within ?l_within ?c_within ?k_within ?a_part_fits ?l_part_fits ?c_part_fits ?k_part_fits ?a_fits ?l_fits ?c_fits ?k_fits ?a_checked ?l_checked ?c_checked ?k_checked ?a_checked_boxes ?l_checked_boxes ?c_checked_boxes ?k_checked_boxes ?a_Plain___init__ ?i_Plain___init__ ?l_Plain___init__ ?c_Plain___init__ ?k_Plain___init__ ?a_Plain_look ?i_Plain_look ?l_Plain_look ?c_Plain_look ?k_Plain_look ?a_Plain_put ?i_Plain_put ?l_Plain_put ?c_Plain_put ?k_Plain_put ?a_reckoned ?l_reckoned ?c_reckoned ?k_reckoned ?a_moved ?l_moved ?c_moved ?k_moved ?a_goes_on ?l_goes_on ?c_goes_on ?k_goes_on ?a_gone ?l_gone ?c_gone ?k_gone ?a_run ?l_run ?c_run ?k_run ?a__law_cell_at ?l__law_cell_at ?c__law_cell_at ?k__law_cell_at ?a__law_mixed ?l__law_mixed ?c__law_mixed ?k__law_mixed ?a__law_number_by ?l__law_number_by ?c__law_number_by ?k__law_number_by ?a__law_size_by ?l__law_size_by ?c__law_size_by ?k__law_size_by ?a__law_row_by ?l__law_row_by ?c__law_row_by ?k__law_row_by ?a__law_reads ?l__law_reads ?c__law_reads ?k__law_reads ?a__law_writes ?l__law_writes ?c__law_writes ?k__law_writes ?a__law_run_by ?l__law_run_by ?c__law_run_by ?k__law_run_by ?a__law_loop_by ?l__law_loop_by ?c__law_loop_by ?k__law_loop_by ?a_law ?l_law ?c_law ?k_law ?z_isinstance ?z_int ?z_bool ?z_tuple ?z_len ?z_str ?z_range ?z_list ?v_GREATEST ?v_MOST ?v_PARTS ?vl_PARTS ?vk_PARTS ?vs_PARTS ?vf_PARTS ?v_MODULUS ?g_LineError ?xx_LineError ?xk_LineError ?xb_LineError ?xt_LineError ?xi_LineError ?xs_LineError ?g_BadRow ?xx_BadRow ?xk_BadRow ?xb_BadRow ?xt_BadRow ?xi_BadRow ?xs_BadRow ?g_BadBoxes ?xx_BadBoxes ?xk_BadBoxes ?xb_BadBoxes ?xt_BadBoxes ?xi_BadBoxes ?xs_BadBoxes ?g_Plain ?ng_Plain ?nh_Plain ?no_Plain ?ns_Plain ?nm_Plain ?nk_Plain ?na_Plain_boxes ?na_Plain_touches
    (case g_LineError => k_is)
    (case g_BadRow => k_is)
    (case g_BadBoxes => k_is)
    (case g_Plain => k_is)
    (case a_within => k_is)
    (case l_within => k_is)
    (case c_within => k_is)
    (case k_within => k_is)
    (case a_part_fits => k_is)
    (case l_part_fits => k_is)
    (case c_part_fits => k_is)
    (case k_part_fits => k_is)
    (case a_fits => k_is)
    (case l_fits => k_is)
    (case c_fits => k_is)
    (case k_fits => k_is)
    (case a_checked => k_is)
    (case l_checked => k_is)
    (case c_checked => k_is)
    (case k_checked => k_is)
    (case a_checked_boxes => k_is)
    (case l_checked_boxes => k_is)
    (case c_checked_boxes => k_is)
    (case k_checked_boxes => k_is)
    (case a_Plain___init__ => k_is)
    (case i_Plain___init__ => k_is)
    (case l_Plain___init__ => k_is)
    (case c_Plain___init__ => k_is)
    (case k_Plain___init__ => k_is)
    (case a_Plain_look => k_is)
    (case i_Plain_look => k_is)
    (case l_Plain_look => k_is)
    (case c_Plain_look => k_is)
    (case k_Plain_look => k_is)
    (case a_Plain_put => k_is)
    (case i_Plain_put => k_is)
    (case l_Plain_put => k_is)
    (case c_Plain_put => k_is)
    (case k_Plain_put => k_is)
    (case a_reckoned => k_is)
    (case l_reckoned => k_is)
    (case c_reckoned => k_is)
    (case k_reckoned => k_is)
    (case a_moved => k_is)
    (case l_moved => k_is)
    (case c_moved => k_is)
    (case k_moved => k_is)
    (case a_goes_on => k_is)
    (case l_goes_on => k_is)
    (case c_goes_on => k_is)
    (case k_goes_on => k_is)
    (case a_gone => k_is)
    (case l_gone => k_is)
    (case c_gone => k_is)
    (case k_gone => k_is)
    (case a_run => k_is)
    (case l_run => k_is)
    (case c_run => k_is)
    (case k_run => k_is)
    (case a__law_cell_at => k_is)
    (case l__law_cell_at => k_is)
    (case c__law_cell_at => k_is)
    (case k__law_cell_at => k_is)
    (case a__law_mixed => k_is)
    (case l__law_mixed => k_is)
    (case c__law_mixed => k_is)
    (case k__law_mixed => k_is)
    (case a__law_number_by => k_is)
    (case l__law_number_by => k_is)
    (case c__law_number_by => k_is)
    (case k__law_number_by => k_is)
    (case a__law_size_by => k_is)
    (case l__law_size_by => k_is)
    (case c__law_size_by => k_is)
    (case k__law_size_by => k_is)
    (case a__law_row_by => k_is)
    (case l__law_row_by => k_is)
    (case c__law_row_by => k_is)
    (case k__law_row_by => k_is)
    (case a__law_reads => k_is)
    (case l__law_reads => k_is)
    (case c__law_reads => k_is)
    (case k__law_reads => k_is)
    (case a__law_writes => k_is)
    (case l__law_writes => k_is)
    (case c__law_writes => k_is)
    (case k__law_writes => k_is)
    (case a__law_run_by => k_is)
    (case l__law_run_by => k_is)
    (case c__law_run_by => k_is)
    (case k__law_run_by => k_is)
    (case a__law_loop_by => k_is)
    (case l__law_loop_by => k_is)
    (case c__law_loop_by => k_is)
    (case k__law_loop_by => k_is)
    (case a_law => k_is)
    (case l_law => k_is)
    (case c_law => k_is)
    (case k_law => k_is)
    (case z_isinstance => k_is)
    (case z_int => k_is)
    (case z_bool => k_is)
    (case z_tuple => k_is)
    (case z_len => k_is)
    (case z_str => k_is)
    (case z_range => k_is)
    (case z_list => k_is)
    (case v_GREATEST => exact ⟨_, by k_is⟩)
    (case v_MOST => exact ⟨_, by k_is⟩)
    (case v_PARTS => k_is)
    (case vl_PARTS => k_is)
    (case vk_PARTS => exact ⟨⟨_, _, rfl, rfl⟩, ⟨_, _, rfl, rfl⟩, ⟨_, _, rfl, rfl⟩, ⟨_, _, rfl, rfl⟩, ⟨_, _, rfl, rfl⟩, ⟨_, _, rfl, rfl⟩, ⟨_, _, rfl, rfl⟩, ⟨_, _, rfl, rfl⟩, ⟨_, _, rfl, rfl⟩, trivial⟩)
    (case vs_PARTS => rfl)
    (case vf_PARTS => exact fun z => NL.parts_find z)
    (case v_MODULUS => exact ⟨_, by k_is⟩)
    (case xx_LineError => k_exc)
    (case xk_LineError => k_is)
    (case xb_LineError => k_is)
    (case xt_LineError => k_is)
    (case xi_LineError => k_is)
    (case xs_LineError => first | k_is | rfl)
    (case xx_BadRow => k_exc)
    (case xk_BadRow => k_is)
    (case xb_BadRow => k_is)
    (case xt_BadRow => k_is)
    (case xi_BadRow => k_is)
    (case xs_BadRow => first | k_is | rfl)
    (case xx_BadBoxes => k_exc)
    (case xk_BadBoxes => k_is)
    (case xb_BadBoxes => k_is)
    (case xt_BadBoxes => k_is)
    (case xi_BadBoxes => k_is)
    (case xs_BadBoxes => first | k_is | rfl)
    (case ng_Plain => k_is)
    (case nh_Plain => k_is)
    (case no_Plain => k_is)
    (case ns_Plain => k_is)
    (case nm_Plain => k_is)
    (case nk_Plain => k_is)
    (case na_Plain_boxes => k_is)
    (case na_Plain_touches => k_is)
#print axioms PySem.Challenge.cw_nearlines_k05_runs_holds
