import PyProof.Rows.All
import Wide.All
import OpenK.AllK
import Wide.FinOn
import HandS.ForMost
import HandS.IsInst
import HandS.Deep
import HandS.LawCells
import HandS.ForExc
import HandS.ExcIs
import HandS.HotCalls
import HandS.SetFor
import HandS.More
import HandS.Replace
import HandS.Walk
import HandS.WordsDict
import PySem.Challenge.RW_nearlines_k06_what_is_refused
set_option Elab.async false
set_option linter.all false
set_option maxRecDepth 100000
set_option maxHeartbeats 4000000
namespace L2
open PySem PySem.Spec PyProof.Rows
/-! ## common to all laws: a def of the text with its place, its promise, its call -/
/-- the def at f is the one that stands in the text at st, its parameters are ps -/
structure FnAt (K : PySem.W.Frag) (x qual : Str) (st : Stmt) (f : Addr) (fd : FuncData) (ps : List Str) : Prop where
  fn : Fun K x qual st f fd
  bd : Binds K fd ps []
/-- the def at f keeps the promise sp -/
structure Ok (P : Program) (w : World) (K : PySem.W.Frag) (mg : Str → Option Value) (base : Heap) (cx : CXT) (k : Nat) (f : Addr) (fd : FuncData) (ps : List Str) (sp : Sp) : Prop where
  ok : FnOk P w K mg base cx k f fd ps sp
  bd : Binds K fd ps []
  kp : PySem.W.keepIn K (.ref f) = true
theorem Ok.imp {P : Program} {w : World} {K : PySem.W.Frag} {mg : Str → Option Value} {base : Heap} {cx : CXT} {k : Nat} {f : Addr} {fd : FuncData} {ps : List Str} {sp sp' : Sp} (o : Ok P w K mg base cx k f fd ps sp)
    (h : ∀ vs H Q E, sp' vs H Q E → sp vs H Q E) : Ok P w K mg base cx k f fd ps sp' := ⟨o.ok.imp h, o.bd, o.kp⟩
section
variable {P : Program} {w : World} {K : PySem.W.Frag} {mg : Str → Option Value} {base : Heap} {x qual : Str} {st : Stmt} {f : Addr} {fd : FuncData} {ps N : List Str} {k : Nat} {sp : Sp}
theorem FnAt.ok (F : FnAt K x qual st f fd ps) (S : FnScope N ps (defScope st)) (len : ∀ vs H Q E, sp vs H Q E → vs.length = ps.length)
    (body : ∀ (cdv : Value) (A : Around) (outer : List Env) (s : Shared) (H : Hp) (vs : List V) (Q : VK) (E : XK), Room k (A.deeper (envOfC qual (defScope st) s.heap.objs.size f cdv)) → sp vs H Q E →
      ∃ t, PSs (cxOf CX0 P w K mg base N qual (defScope st) f cdv A outer s H E).nox (defBody st) t ∧ t { nx := fun _ H' => Q .non H', rt := Q } (start N vs) H) : Ok P w K mg base CX0 (k + 1) f fd ps sp := ⟨F.fn.ok S len body, F.bd, F.fn.kp⟩
theorem FnAt.okX (F : FnAt K x qual st f fd ps) (S : FnScope N ps (defScope st)) (len : ∀ vs H Q E, sp vs H Q E → vs.length = ps.length)
    (body : ∀ (cdv : Value) (A : Around) (outer : List Env) (s : Shared) (H : Hp) (vs : List V) (Q : VK) (E : XK), Room k (A.deeper (envOfC qual (defScope st) s.heap.objs.size f cdv)) → sp vs H Q E →
      ∃ t, PSs (cxOf (L2.CX P w) P w K mg base N qual (defScope st) f cdv A outer s H E) (defBody st) t ∧ t { nx := fun _ H' => Q .non H', rt := Q } (start N vs) H) : Ok P w K mg base (L2.CX P w) (k + 1) f fd ps sp := ⟨F.fn.okX S len body, F.bd, F.fn.kp⟩
end
section
variable {X : Cx} {cx : CXT} {k : Nat} {f : Addr} {fd : FuncData} {ps : List Str} {sp : Sp} {E : XK} {x m : Str} {p pos apos : Pos} {e o : Expr} {es : List Expr} {ta : TE} {t : TA}
/-- f(..) -/
def tCallO (sp : Sp) (E : XK) (t : TA) : TE := fun σ H Q => t σ H fun vs H1 => sp vs H1 Q E
theorem tCallO_eq {sp : Sp} {E : XK} {t : TA} : tCall sp [] E t = tCallO sp E t := by
  funext σ H Q
  show t σ H (fun vs H1 => sp (vs ++ []) H1 Q E) = t σ H fun vs H1 => sp vs H1 Q E
  simp only [List.append_nil]
theorem pe_callO (O : Ok X.prog X.w X.K X.mg X.base cx k f fd ps sp) (hr : Room k X.A) (hg : Gl X x) (hm : X.mg x = some (.ref f)) (hx : Passes cx X E) (ha : PA X (e :: es) t)
    (hdb : (x == ("__debug__" : Str)) = false := by decide) (he : starEach (e :: es) X.env = (false, eval e X.env) :: starEach es X.env := by rfl) (hpl : (backTo pos (starEach es X.env)).any (·.1) = false := by rfl) :
    PE X (.Call (.Name x p) (e :: es) [] pos) (tCallO sp E t) := by
  obtain ⟨F, B, kp⟩ := O
  rw [← tCallO_eq]
  exact pe_call F hr hg hm kp B .nil hx ha hdb he hpl
/-- o.m(..) -/
def tMethO (C : Addr) (m : Str) (sp : Sp) (E : XK) (ta : TE) (t : TA) : TE := fun σ H Q => ta σ H fun x H1 => ∃ a dx fs, x = .ref a ∧ H1 a = some (.ins C dx fs) ∧ fs.lookup m = none ∧ t σ H1 fun vs H2 => sp (x :: vs) H2 Q E
theorem tMethO_eq {C : Addr} {m : Str} {sp : Sp} {E : XK} {ta : TE} {t : TA} : tMeth C m sp [] E ta t = tMethO C m sp E ta t := by
  funext σ H Q
  unfold tMeth tMethO
  simp only [List.append_nil]
theorem pe_methO {C : Addr} {pl : Sem Bool} (O : Ok X.prog X.w X.K X.mg X.base cx k f fd ps sp) (c : Cls X.K C) (hm : Meth X.K C m f) (hr : Room k X.A) (hx : Passes cx X E) (he : PE X o ta) (ha : PA X (e :: es) t)
    (hst : starEach (e :: es) X.env = (false, eval e X.env) :: starEach es X.env := by rfl) (hpl : (backTo pos (starEach es X.env)).any (·.1) = false := by rfl)
    (ht : eval (.Call (.Attribute o m apos) (e :: es) [] pos) X.env = (do
      let ov ← eval o X.env
      standAt apos.atName
      let (f, first) ← holding [ov] (getMethod ov m pl)
      callWith pos f first (backTo pos (starEach (e :: es) X.env)) (backToKw pos (keywordEach [] X.env))) := by rfl) :
    PE X (.Call (.Attribute o m apos) (e :: es) [] pos) (tMethO C m sp E ta t) := by
  obtain ⟨F, B, kp⟩ := O
  rw [← tMethO_eq]
  exact pe_meth he c hm F hr B .nil hx ha hst hpl ht
theorem pe_methO0 {C : Addr} {pl : Sem Bool} (O : Ok X.prog X.w X.K X.mg X.base cx k f fd ps sp) (c : Cls X.K C) (hm : Meth X.K C m f) (hr : Room k X.A) (hx : Passes cx X E) (he : PE X o ta)
    (ht : eval (.Call (.Attribute o m apos) [] [] pos) X.env = (do
      let ov ← eval o X.env
      standAt apos.atName
      let (f, first) ← holding [ov] (getMethod ov m pl)
      callWith pos f first (backTo pos (starEach [] X.env)) (backToKw pos (keywordEach [] X.env))) := by rfl) :
    PE X (.Call (.Attribute o m apos) [] [] pos) (tMethO C m sp E ta tNil) := by
  obtain ⟨F, B, kp⟩ := O
  rw [← tMethO_eq]
  exact pe_meth0 he c hm F hr B .nil hx ht
end
/-! ### tests, heaps -/
theorem iteD {c A B : Prop} [Decidable c] (h1 : c → A) (h2 : ¬ c → B) : if decide c = true then A else B := by
  by_cases h : c
  · rw [decide_eq_true h]
    exact iteT (h1 h)
  · rw [decide_eq_false h]
    exact iteF (h2 h)
theorem iteN {c A B : Prop} [Decidable c] (h1 : ¬ c → A) (h2 : c → B) : if (!decide c) = true then A else B := by
  by_cases h : c
  · rw [decide_eq_true h]
    exact iteF (h2 h)
  · rw [decide_eq_false h]
    exact iteT (h1 h)
theorem iteB {b : Bool} {A B : Prop} (h1 : b = true → A) (h2 : b = false → B) : if b = true then A else B := by
  cases b with
  | true => exact iteT (h1 rfl)
  | false => exact iteF (h2 rfl)
theorem iteBN {b : Bool} {A B : Prop} (h1 : b = false → A) (h2 : b = true → B) : if (!b) = true then A else B := by
  cases b with
  | true => exact iteF (h2 rfl)
  | false => exact iteT (h1 rfl)
theorem Same.new {H : Hp} {p : Addr} {o : HO} (h : H p = none) : Same H (upd H p o) := fun b x e => by
  rw [upd_ne (ne_of_none e h)]
  exact e
/-- what H does not know may change -/
theorem Same.mut {H H' : Hp} {p : Addr} {o : HO} (s : Same H H') (h : H p = none) : Same H (upd H' p o) := fun b x e => by
  rw [upd_ne (ne_of_none e h)]
  exact s b x e
theorem Same.seqT {K : PySem.W.Frag} {H H' : Hp} {a : Addr} {xs : List V} (e : Same H H') (h : SqT K H a xs) : SqT K H' a xs := by
  rcases h with (h | ⟨o, h⟩) | h
  · exact .inl (.inl (e _ _ h))
  · exact .inl (.inr ⟨o, e _ _ h⟩)
  · exact .inr h
/-- the list at l is not the tuple at a -/
theorem SqT.but {K : PySem.W.Frag} {H : Hp} {a l : Addr} {xs ys : List V} {o : HO} (h : SqT K H a xs) (hl : H l = some (.lst ys)) : SqT K (upd H l o) a xs := by
  rcases h with (h | ⟨u, h⟩) | h
  · exact .inl (.inl (by rw [upd_ne (ne_of h hl (by intro z; cases z))]; exact h))
  · exact .inl (.inr ⟨u, by rw [upd_ne (ne_of h hl (by intro z; cases z))]; exact h⟩)
  · exact .inr h
/-! ### ways joined: a word between a part and what follows -/
section
variable {X : Cx}
def tJoinE (t : TE) : TE := fun σ H Q => ∃ R : VK, t σ H R ∧ ∀ v H1, R v H1 → Q v H1
theorem pe_jn {e : Expr} {t : TE} (h : PE X e t) : PE X e (tJoinE t) := by
  refine ⟨fun pins s σ H Q I hq => ?_⟩
  obtain ⟨R, h1, h2⟩ := hq
  refine thn (h.run pins s σ H R I h1) fun u s1 hh => ?_
  obtain ⟨v, H1, I1, r, q⟩ := hh
  exact ⟨v, H1, I1, r, h2 v H1 q⟩
def tJoinT (t : TT) : TT := fun σ H Q => ∃ R : Bool → Hp → Prop, t σ H R ∧ ∀ b H1, R b H1 → Q b H1
theorem pt_jn {e : Expr} {t : TT} (h : PT X e t) : PT X e (tJoinT t) := by
  refine ⟨fun pins s σ H Q I hq => ?_⟩
  obtain ⟨R, h1, h2⟩ := hq
  refine thn (h.run pins s σ H R I h1) fun b s1 hh => ?_
  obtain ⟨H1, I1, q⟩ := hh
  exact ⟨H1, I1, h2 b H1 q⟩
def tCutS (t u : TS) : TS := fun D σ H => ∃ Mid : St → Hp → Prop, t { D with nx := Mid } σ H ∧ ∀ σ' H', Mid σ' H' → u D σ' H'
theorem pss_cutS {st : Stmt} {rest : List Stmt} {t u : TS} (h1 : PS X st t) (h2 : PSs X rest u) : PSs X (st :: rest) (tCutS t u) := by
  refine ⟨fun pins s σ H D I h => ?_⟩
  obtain ⟨Mid, hm, hu⟩ := h
  refine wpAny_execs_cons (thn (h1.run pins s σ H { D with nx := Mid } I hm) fun f s1 q => ?_)
  cases f with
  | next =>
    obtain ⟨σ1, H1, I1, q1⟩ := q
    exact h2.run pins s1 σ1 H1 D I1 (hu σ1 H1 q1)
  | ret v => exact q
  | brk => exact q
  | cont => exact q
end
/-! ### rules within a comprehension: the written part named -/
section
variable {X : Cx} {K : PySem.W.Frag}
theorem ix_tupK (h : X.K = K) : IxR X (rIxT K) := by subst h; exact ix_tup
theorem ix_listK (h : X.K = K) : IxR X (rIxL K) := by subst h; exact ix_list
theorem ix_seqK (h : X.K = K) : IxR X (rIx K) := by subst h; exact ix_seq
theorem op_in_seqK (h : X.K = K) : OpR X (compareOp .In) (rIn K false) := by subst h; exact op_in_seq
theorem op_notIn_seqK (h : X.K = K) : OpR X (compareOp .NotIn) (rIn K true) := by subst h; exact op_notIn_seq
def rLenQ (K : PySem.W.Frag) : List V → Hp → VK → Prop := fun xs H Q => ∃ p ys, xs = [.ref p] ∧ (SqL K H p ys ∨ SqT K H p ys) ∧ Q (.int ys.length) H
theorem call_len_seqK (h : X.K = K) : CallR X (.builtin "len") (rLenQ K) := by subst h; exact call_len_seq
theorem sl_listK (h : X.K = K) : SlR X (rSlL K) := by subst h; exact sl_list
theorem call_isiK' (h : X.K = K) : CallR X (.builtin "isinstance") (rIsi K) := by subst h; exact call_isi
end
theorem SqL.but {K : PySem.W.Frag} {H : Hp} {a l : Addr} {xs ys : List V} {o : HO} (h : SqL K H a xs) (hl : H l = some (.lst ys)) (n : a ≠ l) : SqL K (upd H l o) a xs := by
  rcases h with (h | ⟨u, h⟩) | h
  · exact .inl (.inl (by rw [upd_ne n]; exact h))
  · exact .inl (.inr ⟨u, by rw [upd_ne n]; exact h⟩)
  · exact .inr h
end L2
namespace L2
open PySem PySem.Spec PyProof.Rows
/-! ### lists of ints, of ints and None, by values -/
def optV : Option Int → V
  | none => .non
  | some i => .int i
theorem optV_flat (o : Option Int) : flatV (optV o) = true := by cases o <;> rfl
theorem flat_ints (xs : List Int) : (xs.map V.int).all flatV = true := by
  induction xs with
  | nil => rfl
  | cons x r ih => exact ih
theorem flat_opts (xs : List (Option Int)) : (xs.map optV).all flatV = true := by
  induction xs with
  | nil => rfl
  | cons x r ih =>
    show (flatV (optV x) && (r.map optV).all flatV) = true
    rw [ih, optV_flat]
    rfl
theorem inV_ints (x : Int) (xs : List Int) : inV (.int x) (xs.map V.int) = decide (x ∈ xs) := by
  induction xs with
  | nil => rfl
  | cons y r ih =>
    show (y == x || inV (.int x) (r.map V.int)) = decide (x ∈ y :: r)
    rw [ih]
    by_cases h : y = x
    · subst h
      simp
    · have h' : ¬ x = y := fun z => h z.symm
      simp [h, h']
theorem inV_non_ints (xs : List Int) : inV .non (xs.map V.int) = false := by
  induction xs with
  | nil => rfl
  | cons y r ih =>
    show (false || inV .non (r.map V.int)) = false
    rw [ih]
    rfl
theorem nl_get_map {α : Type} {f : α → V} {xs : List α} {i : Nat} {x : α} (h : xs[i]? = some x) : (xs.map f)[i]? = some (f x) := by
  rw [List.getElem?_map, h]
  rfl
theorem of_get_map {α : Type} {f : α → V} {xs : List α} {i : Nat} {v : V} (h : (xs.map f)[i]? = some v) : ∃ x, xs[i]? = some x ∧ v = f x := by
  rw [List.getElem?_map] at h
  cases e : xs[i]? with
  | none =>
    rw [e] at h
    cases h
  | some x =>
    rw [e] at h
    exact ⟨x, rfl, (Option.some.inj h).symm⟩
theorem of_get_mapG {α β : Type} {f : α → β} {xs : List α} {i : Nat} {v : β} (h : (xs.map f)[i]? = some v) : ∃ x, xs[i]? = some x ∧ v = f x := by
  rw [List.getElem?_map] at h
  cases e : xs[i]? with
  | none =>
    rw [e] at h
    cases h
  | some x =>
    rw [e] at h
    exact ⟨x, rfl, (Option.some.inj h).symm⟩
theorem idx_get {x : Int} {xs : List Int} (h : x ∈ xs) : xs[xs.idxOf x]? = some x := by
  have hl : xs.idxOf x < xs.length := List.idxOf_lt_length_of_mem h
  rw [List.getElem?_eq_getElem hl, List.getElem_idxOf hl]
theorem idx_first {x y : Int} : ∀ {xs : List Int} {m : Nat}, m < xs.idxOf x → xs[m]? = some y → (y == x) = false
  | [], m, h, _ => by simp at h
  | z :: r, m, h, hm => by
    rw [List.idxOf_cons] at h
    by_cases e : z = x
    · subst e
      simp at h
    · have e' : (z == x) = false := by simpa using e
      rw [e'] at h
      cases m with
      | zero =>
        have q : z = y := Option.some.inj hm
        rw [← q]
        exact e'
      | succ m => exact idx_first (xs := r) (m := m) (by simp only [cond_false] at h; omega) hm
theorem eqV_int (x : Int) : eqV (.int x) (.int x) = true := by
  show (x == x) = true
  simp
theorem idx_none {x : Int} {xs : List Int} (m : Nat) (z : V) (hm : m < xs.idxOf x) (hz : (xs.map V.int)[m]? = some z) : eqV z (.int x) = false := by
  obtain ⟨y, hy, rfl⟩ := of_get_map hz
  exact idx_first hm hy
theorem ix_nat {n j : Nat} (hj : j < n) : ixN n (j : Int) = some j := by
  unfold ixN
  rw [if_pos (by omega), if_pos (by omega)]
  simp
theorem pop_seq {j n : Nat} (h : j < n) : seqIndex? (j : Int) n = some j := (ixN_seq (ix_nat h)).1
theorem erase_map {α : Type} {f : α → V} : ∀ (xs : List α) (j : Nat), (xs.map f).eraseIdx j = (xs.eraseIdx j).map f
  | [], j => by cases j <;> rfl
  | x :: r, 0 => rfl
  | x :: r, j + 1 => congrArg (f x :: ·) (erase_map r j)
theorem snoc_map {α : Type} (f : α → V) (xs : List α) (x : α) : xs.map f ++ [f x] = (xs ++ [x]).map f := by
  rw [List.map_append]
  rfl
theorem fold_take {α β : Type} (f : β → α → β) (s : β) {xs : List α} {i : Nat} {x : α} (h : xs[i]? = some x) : (xs.take (i + 1)).foldl f s = f ((xs.take i).foldl f s) x := by
  rw [List.take_add_one, h, List.foldl_append]
  rfl
theorem fold_all {α β : Type} (f : β → α → β) (s : β) {xs : List α} : (xs.take xs.length).foldl f s = xs.foldl f s := by rw [List.take_length]
theorem sizeL {n : Nat} (h : n < 1000000) : n < sizeLine := Nat.lt_of_lt_of_le h (by decide)
/-! ### touches -/
def kindS (b : Bool) : Str := if b then "write" else "read"
/-- a touch: whether it writes, its box -/
abbrev Tch := Bool × Int
def TouchAt (K : PySem.W.Frag) (H : Hp) (v : V) (t : Tch) : Prop := ∃ a, v = .ref a ∧ SqT K H a [.str (kindS t.1), .int t.2]
/-- at a a list of the touches ts -/
structure TL (K : PySem.W.Frag) (H : Hp) (xs : List V) (ts : List Tch) : Prop where
  len : xs.length = ts.length
  at_ : ∀ (i : Nat) (t : Tch), ts[i]? = some t → ∃ v, xs[i]? = some v ∧ TouchAt K H v t
theorem TouchAt.same {K : PySem.W.Frag} {H H' : Hp} {v : V} {t : Tch} (h : TouchAt K H v t) (s : Same H H') : TouchAt K H' v t := by
  obtain ⟨a, e, q⟩ := h
  exact ⟨a, e, s.seqT q⟩
theorem TL.same {K : PySem.W.Frag} {H H' : Hp} {xs : List V} {ts : List Tch} (h : TL K H xs ts) (s : Same H H') : TL K H' xs ts :=
  ⟨h.len, fun i t e => let ⟨v, e1, q⟩ := h.at_ i t e; ⟨v, e1, q.same s⟩⟩
theorem TouchAt.but {K : PySem.W.Frag} {H : Hp} {v : V} {t : Tch} {l : Addr} {ys : List V} {o : HO} (h : TouchAt K H v t) (hl : H l = some (.lst ys)) : TouchAt K (upd H l o) v t := by
  obtain ⟨a, e, q⟩ := h
  exact ⟨a, e, q.but hl⟩
theorem TL.but {K : PySem.W.Frag} {H : Hp} {xs : List V} {ts : List Tch} {l : Addr} {ys : List V} {o : HO} (h : TL K H xs ts) (hl : H l = some (.lst ys)) : TL K (upd H l o) xs ts :=
  ⟨h.len, fun i t e => let ⟨v, e1, q⟩ := h.at_ i t e; ⟨v, e1, q.but hl⟩⟩
theorem TL.nil {K : PySem.W.Frag} {H : Hp} : TL K H [] [] := ⟨rfl, fun i t e => by simp at e⟩
theorem TL.snoc {K : PySem.W.Frag} {H : Hp} {xs : List V} {ts : List Tch} {v : V} {t : Tch} (h : TL K H xs ts) (q : TouchAt K H v t) : TL K H (xs ++ [v]) (ts ++ [t]) := by
  refine ⟨by rw [List.length_append, List.length_append, h.len]; rfl, fun i u e => ?_⟩
  by_cases hi : i < ts.length
  · rw [List.getElem?_append_left hi] at e
    obtain ⟨x, e1, q1⟩ := h.at_ i u e
    exact ⟨x, by rw [List.getElem?_append_left (by rw [h.len]; exact hi)]; exact e1, q1⟩
  · have hlt := (List.getElem?_eq_some_iff.mp e).1
    rw [List.length_append] at hlt
    have hi2 : i = ts.length := by
      simp only [List.length_cons, List.length_nil] at hlt
      omega
    subst hi2
    rw [List.getElem?_append_right (Nat.le_refl _), Nat.sub_self] at e
    have et : t = u := Option.some.inj e
    subst et
    refine ⟨v, ?_, q⟩
    rw [← h.len, List.getElem?_append_right (Nat.le_refl _), Nat.sub_self]
    rfl
theorem TL.of {K : PySem.W.Frag} {H : Hp} {xs : List V} {ts : List Tch} (h : TL K H xs ts) {i : Nat} {v : V} (hv : xs[i]? = some v) : ∃ t, ts[i]? = some t ∧ TouchAt K H v t := by
  have hlt := (List.getElem?_eq_some_iff.mp hv).1
  rw [h.len] at hlt
  obtain ⟨v', e1, q⟩ := h.at_ i ts[i] (List.getElem?_eq_getElem hlt)
  rw [hv] at e1
  have ev : v = v' := Option.some.inj e1
  exact ⟨ts[i], List.getElem?_eq_getElem hlt, by rw [ev]; exact q⟩
theorem at_getD {xs : List Int} {i : Int} (h0 : 0 ≤ i) (h1 : i < xs.length) : atI (xs.map V.int) i = some (.int (xs.getD i.toNat 0)) := by
  obtain ⟨j, rfl⟩ : ∃ j : Nat, i = (j : Int) := ⟨i.toNat, by omega⟩
  have hj : j < xs.length := by omega
  refine atI_nat ?_
  rw [List.getElem?_map, Int.toNat_natCast, List.getD_eq_getElem?_getD, List.getElem?_eq_getElem hj]
  rfl
theorem mod_at {xs : List Int} (c : Int) (n : Nat) (hn : n = xs.length) (h0 : 0 < n) : atI (xs.map V.int) (c % (n : Int)) = some (.int (xs.getD (c % (n : Int)).toNat 0)) :=
  at_getD (Int.emod_nonneg _ (by omega)) (by have := Int.emod_lt_of_pos c (show 0 < (n : Int) by omega); omega)
theorem kind_at (c : Int) : atI [V.str "read", V.str "write"] (c % 2) = some (V.str (kindS (c % 2 == 1))) := by
  have h : c % 2 = 0 ∨ c % 2 = 1 := by omega
  rcases h with h | h <;> rw [h] <;> rfl
theorem int_getD {lines : List Int} {k : Nat} (h : k < lines.length) : (lines.map V.int)[k]? = some (.int (lines.getD k 0)) := by
  rw [List.getElem?_map, List.getD_eq_getElem?_getD, List.getElem?_eq_getElem h]
  rfl
theorem mod2 (c : Int) : c % 2 = 0 ∨ c % 2 = 1 := by omega
theorem mod4 (c : Int) : c % 4 = 0 ∨ c % 4 = 1 ∨ c % 4 = 2 ∨ c % 4 = 3 := by omega
theorem filter_erase {x : Int} : ∀ {l : List Int}, l.Nodup → x ∈ l → l.filter (fun z => !decide (z = x)) = l.eraseIdx (l.idxOf x)
  | [], _, h => by simp at h
  | y :: r, nd, h => by
    obtain ⟨h1, h2⟩ := List.nodup_cons.mp nd
    by_cases e : y = x
    · subst e
      have e2 : (y :: r).idxOf y = 0 := by simp
      rw [e2, List.filter_cons, if_neg (by simp)]
      show _ = r
      rw [List.filter_eq_self]
      intro z hz
      have : ¬ z = y := fun q => h1 (by rw [← q]; exact hz)
      simp [this]
    · have h3 : x ∈ r := by
        rcases List.mem_cons.mp h with q | q
        · exact absurd q.symm e
        · exact q
      have e2 : (y :: r).idxOf x = r.idxOf x + 1 := by
        rw [List.idxOf_cons]
        have e' : (y == x) = false := by simpa using e
        rw [e']
        rfl
      rw [e2, List.filter_cons, if_pos (by simp [e]), filter_erase h2 h3]
      rfl
theorem at_ofG {α : Type} {xs : List α} {z : Int} {j : Nat} {v : α} (e : z = (j : Int)) (h : xs[j]? = some v) : atI xs z = some v := by
  rw [e]
  exact atI_nat h
theorem nodup_map_inj {α β : Type} {f : α → β} : ∀ {l : List α}, (l.map f).Nodup → ∀ {x y : α}, x ∈ l → y ∈ l → f x = f y → x = y
  | [], _, _, _, h, _, _ => by cases h
  | a :: r, nd, x, y, hx, hy, e => by
    rw [List.map_cons, List.nodup_cons] at nd
    rcases List.mem_cons.mp hx with h1 | h1 <;> rcases List.mem_cons.mp hy with h2 | h2
    · rw [h1, h2]
    · rw [h1] at e
      exact absurd (by rw [e]; exact List.mem_map_of_mem h2) nd.1
    · rw [h2] at e
      exact absurd (by rw [← e]; exact List.mem_map_of_mem h1) nd.1
    · exact nodup_map_inj nd.2 h1 h2 e
theorem sub_len : ∀ {l m : List Int}, l.Nodup → (∀ x ∈ l, x ∈ m) → l.length ≤ m.length
  | [], _, _, _ => Nat.zero_le _
  | x :: r, m, nd, h => by
    obtain ⟨h1, h2⟩ := List.nodup_cons.mp nd
    have hx := h x List.mem_cons_self
    have ih := sub_len (m := m.erase x) h2 fun y hy => (List.mem_erase_of_ne (fun q => h1 (by rw [← q]; exact hy))).mpr (h y (List.mem_cons_of_mem _ hy))
    have := List.length_erase_of_mem hx
    have hp : 0 < m.length := List.length_pos_of_mem hx
    rw [List.length_cons]
    omega
end L2
namespace L2
open PySem PySem.Spec PyProof.Rows
/-! ### data at any depth, for == -/
def Sh (n : Nat) (d : PyData) : Prop := PyData.canLay0 d = true ∧ PyData.depth d ≤ n
theorem Sh.shaped {n : Nat} {d : PyData} (h : Sh n d) (hn : n ≤ 64) : SeqAt.shaped d = true := by
  unfold SeqAt.shaped
  rw [h.1, decide_eq_true (Nat.le_trans h.2 hn)]
  rfl
theorem sh_all {n : Nat} : ∀ {ds : List PyData}, (∀ d ∈ ds, Sh n d) → PyData.canLayAll0 ds = true ∧ PyData.depthAll ds ≤ n
  | [], _ => ⟨rfl, Nat.zero_le _⟩
  | d :: r, h => by
    obtain ⟨h1, h2⟩ := h d List.mem_cons_self
    obtain ⟨h3, h4⟩ := sh_all (ds := r) fun e he => h e (List.mem_cons_of_mem _ he)
    refine ⟨?_, ?_⟩
    · show (PyData.canLay0 d && PyData.canLayAll0 r) = true
      rw [h1, h3]
      rfl
    · show max (PyData.depth d) (PyData.depthAll r) ≤ n
      omega
theorem sh_list {n : Nat} {ds : List PyData} (h : ∀ d ∈ ds, Sh n d) : Sh (n + 1) (.list ds) := ⟨(sh_all h).1, Nat.succ_le_succ (sh_all h).2⟩
theorem sh_tup {n : Nat} {ds : List PyData} (h : ∀ d ∈ ds, Sh n d) : Sh (n + 1) (.tuple ds) := ⟨(sh_all h).1, Nat.succ_le_succ (sh_all h).2⟩
theorem sh_int {n : Nat} (i : Int) : Sh n (.int i) := ⟨rfl, Nat.zero_le _⟩
theorem sh_non {n : Nat} : Sh n .none := ⟨rfl, Nat.zero_le _⟩
theorem sh_bool {n : Nat} (b : Bool) : Sh n (.bool b) := ⟨rfl, Nat.zero_le _⟩
theorem sh_str {n : Nat} {x : Str} (h : PyData.strOk x = true) : Sh n (.str x) := ⟨h, Nat.zero_le _⟩
theorem dpAll_of {K : PySem.W.Frag} {H : Hp} : ∀ {xs : List V} {ds : List PyData}, xs.length = ds.length → (∀ (i : Nat) v d, xs[i]? = some v → ds[i]? = some d → Dp K H v d) → DpAll K H xs ds
  | [], [], _, _ => .nil
  | [], _ :: _, h, _ => by simp at h
  | _ :: _, [], h, _ => by simp at h
  | x :: r, d :: s, h, q => .cons (q 0 x d rfl rfl) (dpAll_of (by simpa using h) fun i v e h1 h2 => q (i + 1) v e h1 h2)
theorem eqv_self {n : Nat} {d : PyData} (h : Sh n d) : PyData.eqv d d = true := SeqAt.eqv_refl d h.1
/-! ### touches as data -/
def touchD (t : Tch) : PyData := .tuple [.str (kindS t.1), .int t.2]
theorem touch_sh (t : Tch) : Sh 1 (touchD t) := sh_tup fun d hd => by
  simp only [List.mem_cons, List.not_mem_nil, or_false] at hd
  rcases hd with rfl | rfl
  · have q : ∀ b, PyData.strOk (kindS b) = true := by
      intro b
      cases b <;> decide +kernel
    exact sh_str (q _)
  · exact sh_int _
theorem touches_sh (ts : List Tch) : Sh 2 (.list (ts.map touchD)) := sh_list fun d hd => by
  obtain ⟨t, _, rfl⟩ := List.mem_map.mp hd
  exact touch_sh t
theorem TouchAt.dp {K : PySem.W.Frag} {H : Hp} {v : V} {t : Tch} (h : TouchAt K H v t) : Dp K H v (touchD t) := by
  obtain ⟨a, rfl, q⟩ := h
  exact .tup q (.cons (.str _) (.cons (.int _) .nil))
theorem TL.dp {K : PySem.W.Frag} {H : Hp} {a : Addr} {xs : List V} {ts : List Tch} (h : TL K H xs ts) (q : SqL K H a xs) : Dp K H (.ref a) (.list (ts.map touchD)) := by
  refine .lst q (dpAll_of (by rw [h.len, List.length_map]) fun i v d hv hd => ?_)
  obtain ⟨t, ht, qt⟩ := h.of hv
  rw [List.getElem?_map, ht] at hd
  have e : touchD t = d := Option.some.inj hd
  rw [← e]
  exact qt.dp
theorem cut_one (xs : List V) : cutV xs (some 1) none = xs.drop 1 := by
  unfold cutV
  rw [show HT.sIx xs.length 0 (some 1) = min 1 xs.length from HT.sIx_nat xs.length 0 1, HT.sIx_none]
  cases xs with
  | nil => rfl
  | cons x r =>
    rw [show min 1 (x :: r).length = 1 by
      rw [List.length_cons]
      omega]
    show (List.take ((x :: r).length - 1) r) = r
    rw [List.length_cons, Nat.add_sub_cancel]
    exact List.take_length
theorem cut_from (xs : List V) (k : Nat) : cutV xs (some (k : Int)) none = xs.drop k := by
  unfold cutV
  rw [show HT.sIx xs.length 0 (some (k : Int)) = min k xs.length from HT.sIx_nat xs.length 0 k, HT.sIx_none]
  by_cases h : k ≤ xs.length
  · rw [Nat.min_eq_left h]
    exact List.take_of_length_le (by rw [List.length_drop]; exact Nat.le_refl _)
  · rw [Nat.min_eq_right (by omega), Nat.sub_self, List.drop_eq_nil_of_le (Nat.le_refl _), List.drop_eq_nil_of_le (show xs.length ≤ k by omega)]
    rfl
end L2
namespace L2
open PySem PySem.Spec PyProof.Rows
mutual
theorem dp_same {K : PySem.W.Frag} {H H' : Hp} (s : Same H H') : ∀ (d : PyData) (v : V), Dp K H v d → Dp K H' v d
  | .none, _, h => by cases h; exact .non
  | .bool b, _, h => by cases h; exact .bl b
  | .int i, _, h => by cases h; exact .int i
  | .str x, _, h => by cases h; exact .str x
  | .list ds, _, h => by
    cases h with
    | lst q a => exact .lst (s.seq q) (dpAll_same s ds _ a)
  | .tuple ds, _, h => by
    cases h with
    | tup q a => exact .tup (s.seqT q) (dpAll_same s ds _ a)
  | .dict _, _, h => by cases h
theorem dpAll_same {K : PySem.W.Frag} {H H' : Hp} (s : Same H H') : ∀ (ds : List PyData) (vs : List V), DpAll K H vs ds → DpAll K H' vs ds
  | [], _, h => by cases h; exact .nil
  | d :: ds, _, h => by
    cases h with
    | cons a b => exact .cons (dp_same s d _ a) (dpAll_same s ds _ b)
end
end L2
namespace L2
open PySem PySem.Spec PyProof.Rows
/-! ### own classes of errors -/
/-- the class x of errors stands at C -/
structure ExcAt (K : PySem.W.Frag) (mg : Str → Option Value) (x : Str) (C : Addr) : Prop where
  g : mg x = some (.ref C)
  x : PySem.W.excIn K C [.type "ValueError", .type "Exception", .type "BaseException", .type "object"] "ValueError.__new__" = true
  k : PySem.W.keepIn K (.ref C) = true
  b : PySem.W.subIn K (.ref C) (.type "BaseException") = some true
  t : PySem.W.typeIn K (.ref C) = some (.type "type")
  i : PySem.W.isClsIn K C = true
  s : PySem.W.subIn K (.ref C) (.ref C) = some true
/-- what one class is to another: an instance of D asked for C -/
theorem kit_own {K : PySem.W.Frag} {D C : Addr} {v : Bool} (hi : PySem.W.isClsIn K C = true) (ht : PySem.W.typeIn K (.ref C) = some (.type "type")) (hs : PySem.W.subIn K (.ref C) (.ref C) = some true) (h : PySem.W.subIn K (.ref D) (.ref C) = some v) :
    PySem.W.kitOne K (.ref D) (.ref C) = some v := by
  by_cases e : D = C
  · subst e
    have ev : v = true := Option.some.inj (h.symm.trans hs)
    subst ev
    show (if (Value.ref D == Value.ref D) = true then some true else _) = _
    rw [if_pos (beq_self_eq_true _)]
  · have n : ¬ (Value.ref D == Value.ref C) = true := fun z => e (Value.ref.inj (beq_iff_eq.mp z))
    show (if (Value.ref D == Value.ref C) = true then some true else PySem.W.kitCls K (.ref D) (.ref C)) = _
    rw [if_neg n]
    show (if ((PySem.W.clsIn K C).isSome && PySem.W.typeIn K (.ref C) == some (.type "type")) = true then PySem.W.subIn K (.ref D) (.ref C) else none) = _
    have hi' : (PySem.W.clsIn K C).isSome = true := hi
    rw [hi', ht, if_pos (by simp)]
    exact h
theorem kit_val {K : PySem.W.Frag} {D : Addr} {v : Bool} (h : PySem.W.subIn K (.ref D) (.type "ValueError") = some v) : PySem.W.kitOne K (.ref D) (.type "ValueError") = some v := by
  have n : ¬ (Value.ref D == Value.type "ValueError") = true := fun z => nomatch (beq_iff_eq.mp z)
  show (if (Value.ref D == Value.type "ValueError") = true then some true else PySem.W.kitCls K (.ref D) (.type "ValueError")) = _
  rw [if_neg n]
  show (if PySem.W.kitMeta "ValueError" = true then PySem.W.subIn K (.ref D) (.type "ValueError") else none) = _
  rw [if_pos (by decide +kernel)]
  exact h
/-- an except clause of the own class C -/
theorem exm_own {K : PySem.W.Frag} {C : Addr} {cls : Value} {v : Bool} (hb : PySem.W.subIn K (.ref C) (.type "BaseException") = some true) (hi : PySem.W.isClsIn K C = true) (ht : PySem.W.typeIn K (.ref C) = some (.type "type")) (h : PySem.W.subIn K cls (.ref C) = some v) :
    PySem.W.exmOne K cls (.ref C) = some v := by
  have e1 : (PySem.W.subIn K (.ref C) (.type "BaseException") == some true) = true := by rw [hb] <;> rfl
  have e2 : ((PySem.W.clsIn K C).isSome && PySem.W.typeIn K (.ref C) == some (.type "type")) = true := by
    have hi' : (PySem.W.clsIn K C).isSome = true := hi
    rw [hi', ht] <;> rfl
  show (if (PySem.W.subIn K (.ref C) (.type "BaseException") == some true) = true then (if ((PySem.W.clsIn K C).isSome && PySem.W.typeIn K (.ref C) == some (.type "type")) = true then PySem.W.subIn K cls (.ref C) else none) else none) = some v
  rw [if_pos e1, if_pos e2]
  exact h
theorem ExcAt.te {K : PySem.W.Frag} {mg : Str → Option Value} {x : Str} {C : Addr} (e : ExcAt K mg x C) : PySem.W.exmOne K (.ref C) (.ref C) = some true := exm_own e.b e.i e.t e.s
theorem ExcAt.self {K : PySem.W.Frag} {mg : Str → Option Value} {x : Str} {C : Addr} (e : ExcAt K mg x C) {D : Addr} {v : Bool} (h : PySem.W.subIn K (.ref D) (.ref C) = some v) : PySem.W.kitOne K (.ref D) (.ref C) = some v := kit_own e.i e.t e.s h

/-! ### a def that is handed the error that is being handled: p, its place and what stands there -/
/-- what such a def promises -/
structure OkP (P : Program) (w : World) (K : PySem.W.Frag) (mg : Str → Option Value) (base : Heap) (k : Nat) (f : Addr) (fd : FuncData) (ps : List Str) (sp : Addr → Addr → Sp) : Prop where
  len : ∀ a D vs H Q E, sp a D vs H Q E → vs.length = ps.length
  kp : PySem.W.keepIn K (.ref f) = true
  bd : Binds K fd ps []
  run : ∀ (A : Around) (outer : List Env) (s : Shared) (H : Hp) (args : Args) (us : List Value) (vs : List V) (Q : VK) (E : XK) (p : Addr × Obj) (D : Addr), L2H.RoomH k A → L2H.PinOk outer H s p → Zc (.ref D) none p.2 → (∃ vs, p.2.data = .fields vs) → Env0 P w K mg base A outer s H → BindsTo s fd args (ps.zip us) → Vals vs us →
    sp p.1 D vs H Q E → codeAny (model P w) A (.call (.ref f) args) (CR CX0 outer P w H s Q E) s
section
variable {P : Program} {w : World} {K : PySem.W.Frag} {mg : Str → Option Value} {base : Heap} {x qual : Str} {st : Stmt} {f : Addr} {fd : FuncData} {ps N : List Str} {k : Nat} {sp : Addr → Addr → Sp}
theorem FnAt.okP (F : FnAt K x qual st f fd ps) (S : FnScope N ps (defScope st)) (len : ∀ a D vs H Q E, sp a D vs H Q E → vs.length = ps.length)
    (body : ∀ (cdv : Value) (A : Around) (outer : List Env) (s : Shared) (H : Hp) (vs : List V) (Q : VK) (E : XK) (p : Addr × Obj) (D : Addr), L2H.RoomH k (A.deeper (envOfC qual (defScope st) s.heap.objs.size f cdv)) → Zc (.ref D) none p.2 → (∃ vs, p.2.data = .fields vs) → sp p.1 D vs H Q E →
      ∃ t, PSs (L2H.cxH CX0 P w K mg base N qual (defScope st) f cdv A outer s H E p) (defBody st) t ∧ t { nx := fun _ H' => Q .non H', rt := Q } (start N vs) H) : OkP P w K mg base (k + 1) f fd ps sp := by
  obtain ⟨G, B⟩ := F
  refine ⟨len, G.kp, B, fun A outer s H args us vs Q E p D room pin hz hf e0 bt rv hsp => ?_⟩
  obtain ⟨oc, od, kV, doc, pm, an, cdv, ct, osl, rfl, found, code⟩ := G.ex
  have inK : K.In s.heap := e0.mod.kin.keeps fun b o e => (e0.bs b o e).1
  have lim : s.heap.NoLimit := e0.mod.nolimit.keeps fun b o e => (e0.bs b o e).1
  have kinds : ∀ y ∈ ps.zip us, (defScope st).names.lookup y.1 = some .local ∨ ((defScope st).names.lookup y.1 = some .cell ∧ ((cellsFrom (s.heap.objs.size + 1) (defScope st).names []).lookup y.1).isSome = true) := by
    rintro ⟨n, v⟩ hy
    rcases S.par n (List.of_mem_zip hy).1 with z | z
    · exact Or.inl z
    · exact Or.inr ⟨z, PySem.W.cellsFrom_some _ _ _ (Or.inl z)⟩
  refine codeAny_call_function room.depth (inK _ _ found) rfl S.co S.gen rfl (PySem.W.codeRec_of inK code) (bt _ _ _ _ ?_)
  refine wpAny_newFunctionEnv_cells S.kind kinds fun env henv s1 made => ?_
  subst henv
  refine ⟨lim.keeps made.toInCall.keep, codeAny_func ?_⟩
  obtain ⟨t, derived, reading⟩ := body cdv A outer s H vs Q E p D (room.deeper _) hz hf hsp
  have I : Inv (L2H.cxH CX0 P w K mg base N qual (defScope st) f cdv A outer s H E p) [] (start N vs) H s1 := L2H.inv_startH S pin e0 (len _ _ _ _ _ _ hsp) rv made
  refine wpAny_mono (derived.run [] s1 (start N vs) H _ I reading) (fun fl s2 hs => ?_) fun e s2 hs => hs
  cases fl with
  | ret u =>
    obtain ⟨v, σ2, H2, J, r2, q2⟩ := hs
    exact ⟨v, H2, J.os, J.bare, J.base, J.hok, r2, q2⟩
  | next =>
    obtain ⟨σ2, H2, J, q2⟩ := hs
    exact ⟨V.non, H2, J.os, J.bare, J.base, J.hok, rfl, q2⟩
  | brk =>
    obtain ⟨_, _, _, q2⟩ := hs
    exact q2.elim
  | cont =>
    obtain ⟨_, _, _, q2⟩ := hs
    exact q2.elim
end
section
variable {X : Cx} {k : Nat} {f : Addr} {fd : FuncData} {ps : List Str} {sp : Addr → Addr → Sp} {x : Str} {q pos : Pos} {e : Expr} {es : List Expr} {t : TA}
/-- f(e, ..) where the error at a, of the class cls, is being handled -/
def tCallP (a : Addr) (cls : Value) (d : Option Addr) (sp : Addr → Addr → Sp) (t : TA) : TE := fun σ H Q => t σ H fun vs H1 => ∃ D, cls = .ref D ∧ d = none ∧ sp a D vs H1 Q E0
theorem pe_callP {a : Addr} {oe : Obj} {cls : Value} {d : Option Addr} (O : OkP X.prog X.w X.K X.mg X.base k f fd ps sp) (hr : L2H.RoomH k X.A) (hp : (a, oe) ∈ X.pn) (hz : Zc cls d oe) (hf : ∃ vs, oe.data = .fields vs) (hg : Gl X x) (hm : X.mg x = some (.ref f)) (ha : PA X (e :: es) t)
    (hdb : (x == ("__debug__" : Str)) = false := by decide) (he : starEach (e :: es) X.env = (false, eval e X.env) :: starEach es X.env := by rfl) (hpl : (backTo pos (starEach es X.env)).any (·.1) = false := by rfl) :
    PE X (.Call (.Name x q) (e :: es) [] pos) (tCallP a cls d sp t) := by
  refine ⟨fun pins s σ H Q I h => ?_⟩
  refine wpAny_Call_Name_kw (ld_glob I hg hm ?_ hdb)
  refine PySem.W.callWith_K (h₀ := X.base) I.ok.mod.kin O.kp (thn (ha.run pos pins s σ H _ I h) fun us s1 ⟨vs, H1, I1, rv, D, ec, ed, hsp⟩ => ⟨I1.kIn, ?_⟩) he hpl
  subst ec ed
  have hl : us.length = ps.length := rv.length.symm.trans (O.len _ _ _ _ _ _ hsp)
  have bt := O.bd s1 us I1.kIn (by rw [List.append_nil]; exact hl)
  rw [List.append_nil] at bt
  have at_ := I1.pin (a, oe) (List.mem_append_left _ hp)
  have pin : L2H.PinOk X.stack H1 s1 (a, oe) := ⟨at_.1, at_.2.1, fun hm => (List.mem_cons.mp (I1.stkSub a hm)).elim at_.2.2.1 at_.2.2.2.1, at_.2.2.2.2⟩
  refine wpAny_call (codeAny_mono (O.run X.A X.stack s1 H1 ⟨us, []⟩ us vs Q E0 (a, oe) D hr pin hz hf I1.env0 bt rv hsp) fun r s2 hq => ?_)
  cases r with
  | error e => exact hq.elim
  | ok fl =>
    cases fl with
    | ret u => exact I1.after hq
    | next => exact hq.elim
    | brk => exact hq.elim
    | cont => exact hq.elim
/-- isinstance(e, c), e the error at a that is pinned -/
theorem call_isP {X : Cx} {a D : Addr} {oe : Obj} (C : ExcC X.K D) (hp : (a, oe) ∈ X.pn) (hz : Zc (.ref D) none oe) (hf : ∃ vs, oe.data = .fields vs) : CallR X (.builtin "isinstance") (rIsE X.K D a) := by
  intro pins s σ H xs us Q I r h
  obtain ⟨c, cv, b, rfl, hcv, hk, q⟩ := h
  obtain ⟨u1, u2, rfl, r1, r2⟩ := vals2 r
  cases (show u1 = Value.ref a from r1)
  have ec := hcv _ r2
  subst ec
  obtain ⟨found, _⟩ := I.pin (a, oe) (List.mem_append_left _ hp)
  obtain ⟨vs, hv⟩ := hf
  have J : PySem.W.InstAt s.heap a oe D none := by
    obtain ⟨oc, od, oda, osl⟩ := oe
    obtain ⟨h1, h2⟩ := hz
    simp only at h1 h2 hv
    subst h1 h2 hv
    exact ⟨found, rfl, rfl, trivial⟩
  exact PySem.W.kia_one (PySem.W.handS_kitx_exc C.hg C.hk C.hs C.hd C.ha C.hn C.ht C.hm) I.kIn J hk (fun z => nomatch z) fun tk => ⟨.bl b, H, I.kept (t' := tk) fun _ _ z => z, rfl, q⟩
/-! ### xs.count(True), xs a list of truth values -/
def eqTrue (v : Value) : Bool := match v with
  | .bool b => b
  | _ => false
def rCntT (K : PySem.W.Frag) : V → List V → Hp → VK → Prop := fun x xs H Q => ∃ (p : Addr) (bs : List Bool), x = .ref p ∧ xs = [.bl true] ∧ SqL K H p (bs.map V.bl) ∧ Q (.int (bs.count true : Nat)) H
theorem eqTrue_count : ∀ {bs : List Bool} {us : List Value}, Vals (bs.map V.bl) us → us.countP eqTrue = bs.count true
  | [], [], _ => rfl
  | b :: r, u :: us, .cons h t => by
    cases (show u = Value.bool b from h)
    rw [List.countP_cons, List.count_cons, eqTrue_count t]
    cases b <;> rfl
theorem mt_countT : MtR X "list.count" (rCntT X.K) := by
  intro pins s σ H x xs v us Q I rx rxs h
  obtain ⟨p, bs, rfl, rfl, hs, q⟩ := h
  cases rx
  obtain ⟨u, rfl, ru⟩ := rxs.one
  cases (show u = Value.bool true from ru)
  obtain ⟨its, rv, ⟨⟨cls, dd, data, sl⟩, n, found, hc, hdn, hd⟩, hlen⟩ := I.list hs
  simp only at hc hd
  subst hc hd
  have each : ∀ (bs : List Bool) (us : List Value), Vals (bs.map V.bl) us → ∀ y ∈ us, SeqAt.EqAt X.A.in1.in1 s y (.bool true) (eqTrue y) ∧ ∃ b, y = .bool b := by
    intro bs
    induction bs with
    | nil =>
      intro us h y hy
      cases h
      cases hy
    | cons b r ih =>
      intro us h y hy
      cases h with
      | cons h1 h2 =>
        rcases List.mem_cons.mp hy with e | e
        · cases (show _ = Value.bool b from h1)
          subst e
          have z := eqAt_V (A := X.A.in1.in1) (s := s) (y := .bl b) (x := .bl true) (u := .bool b) (v := .bool true) rfl rfl rfl rfl
          refine ⟨?_, b, rfl⟩
          have e2 : eqV (.bl b) (.bl true) = eqTrue (.bool b) := by cases b <;> rfl
          rw [← e2]
          exact z
        · exact ih _ h2 y e
  have each' : ∀ (A : Around), ∀ y ∈ its, SeqAt.EqAt A s y (.bool true) (eqTrue y) := by
    intro A y hy
    obtain ⟨_, b, rfl⟩ := each bs its rv y hy
    have e2 : eqV (.bl b) (.bl true) = eqTrue (.bool b) := by cases b <;> rfl
    rw [← e2]
    exact eqAt_V (A := A) (s := s) (y := .bl b) (x := .bl true) (u := .bool b) (v := .bool true) rfl rfl rfl rfl
  refine call_meets PySem.F.slot_list_count ⟨_, found, rfl⟩ PySem.F.entry_list_count (PySem.F.args_list_count_2 _ _)
    (SeqAt.list_countAt p its.toArray n dd sl (.bool true) eqTrue) ⟨found, fun y hy => each' _ y (by simpa using hy), ?_⟩
  have ec : its.toArray.toList.countP eqTrue = bs.count true := eqTrue_count rv
  refine ⟨.int (bs.count true : Nat), H, I.tok _, ⟨s.toks, ?_⟩, q⟩
  show Value.int ((its.toArray.toList.countP eqTrue : Nat) : Int) s.toks = Value.int ((bs.count true : Nat) : Int) s.toks
  rw [ec]
end
theorem roomP {j k : Nat} {A : Around} {a : Option Value} (hr : Room k A) (h : j ≤ k) : L2H.RoomH j (A.mark a) := ⟨(hr.mono h).dp, (hr.mono h).un⟩
/-! ### calls in the body of a try -/
section
variable {X : Cx} {cx : CXT} {k : Nat} {f : Addr} {fd : FuncData} {ps : List Str} {sp : Sp} {E : St → XK} {x m : Str} {p pos apos : Pos} {e o : Expr} {es : List Expr} {ta : TE} {t : TA}
theorem pe_callSO (O : Ok X.prog X.w X.K X.mg X.base cx k f fd ps sp) (hr : Room k X.A) (hg : Gl X x) (hm : X.mg x = some (.ref f)) (hx : ∀ σ, PassesAt cx X σ (E σ)) (ha : PA X (e :: es) t)
    (hdb : (x == ("__debug__" : Str)) = false := by decide) (he : starEach (e :: es) X.env = (false, eval e X.env) :: starEach es X.env := by rfl) (hpl : (backTo pos (starEach es X.env)).any (·.1) = false := by rfl) :
    PE X (.Call (.Name x p) (e :: es) [] pos) (tCallS sp E t) := pe_callS O.ok hr hg hm O.kp O.bd hx ha hdb he hpl
def tMethSO (C : Addr) (m : Str) (sp : Sp) (E : St → XK) (ta : TE) (t : TA) : TE := fun σ H Q => ta σ H fun x H1 => ∃ a dx fs, x = .ref a ∧ H1 a = some (.ins C dx fs) ∧ fs.lookup m = none ∧ t σ H1 fun vs H2 => sp (x :: vs) H2 Q (E σ)
theorem pe_methSO {C : Addr} {pl : Sem Bool} (O : Ok X.prog X.w X.K X.mg X.base cx k f fd ps sp) (c : Cls X.K C) (hm : Meth X.K C m f) (hr : Room k X.A) (hx : ∀ σ, PassesAt cx X σ (E σ)) (he : PE X o ta) (ha : PA X (e :: es) t)
    (hst : starEach (e :: es) X.env = (false, eval e X.env) :: starEach es X.env := by rfl) (hpl : (backTo pos (starEach es X.env)).any (·.1) = false := by rfl)
    (ht : eval (.Call (.Attribute o m apos) (e :: es) [] pos) X.env = (do
      let ov ← eval o X.env
      standAt apos.atName
      let (f, first) ← holding [ov] (getMethod ov m pl)
      callWith pos f first (backTo pos (starEach (e :: es) X.env)) (backToKw pos (keywordEach [] X.env))) := by rfl) :
    PE X (.Call (.Attribute o m apos) (e :: es) [] pos) (tMethSO C m sp E ta t) := by
  refine ⟨fun pins s σ H Q I h => ?_⟩
  refine PySem.W.methodCall_KW (pl := pl) (thn (he.run pins s σ H _ I h) fun u s1 ⟨y, H1, I1, ry, a, dx, fs, ey, ea, l, q⟩ => ?_) ht
  subst ey
  obtain rfl : u = Value.ref a := ry
  refine getmeth_ok I1 ea c hm l ?_
  refine PySem.W.callWith_K (first := [.ref a]) (h₀ := X.base) I.ok.mod.kin hm.kp (thn (ha.run pos pins s1 σ H1 _ I1 q) fun us s2 ⟨vs, H2, I2, rv, q2⟩ => ⟨I2.kIn, ?_⟩) hst hpl
  exact run_fnS (us := .ref a :: us) (vs := .ref a :: vs) O.ok hr O.bd (hx σ) I2 (.cons rfl rv) q2
end
/-! ### an object made -/
section
variable {X : Cx} {cx : CXT} {k : Nat} {f C : Addr} {fd : FuncData} {ps : List Str} {sp : Sp} {E : XK} {x : Str} {p pos : Pos} {e : Expr} {es : List Expr} {t : TA}
def tMakeO (C : Addr) (sp : Sp) (E : XK) (t : TA) : TE := fun σ H Q => t σ H fun vs H1 => ∀ x dx, H1 x = none → H1 dx = none → dx ≠ x → sp (.ref x :: vs) (upd (upd H1 dx (.own x)) x (.ins C dx [])) (fun v H2 => v = .non ∧ Q (.ref x) H2) E
theorem tMakeO_eq {C : Addr} {sp : Sp} {E : XK} {t : TA} : tMake C sp [] E t = tMakeO C sp E t := by
  funext σ H Q
  unfold tMake tMakeO
  simp only [List.append_nil]
theorem pe_makeO (O : Ok X.prog X.w X.K X.mg X.base cx k f fd ps sp) (M : Mk X.K C f) (hr : Room (k + 1) X.A) (hg : Gl X x) (hm : X.mg x = some (.ref C)) (hx : Passes cx X E) (ha : PA X (e :: es) t)
    (hdb : (x == ("__debug__" : Str)) = false := by decide) (he : starEach (e :: es) X.env = (false, eval e X.env) :: starEach es X.env := by rfl) (hpl : (backTo pos (starEach es X.env)).any (·.1) = false := by rfl) :
    PE X (.Call (.Name x p) (e :: es) [] pos) (tMakeO C sp E t) := by
  obtain ⟨F, B, kp⟩ := O
  rw [← tMakeO_eq]
  exact pe_make M F hr hg hm B .nil hx ha hdb he hpl
end
end L2
namespace L2
open PySem PySem.Spec PyProof.Rows
/-! ### x in a tuple, items of any depth -/
section
variable {X : Cx}
def rInDT (K : PySem.W.Frag) : R2 := fun x y H Q => ∃ d ds, Dp K H x d ∧ Dp K H y (.tuple ds) ∧ SeqAt.shaped d = true ∧ SeqAt.shaped (.tuple ds) = true ∧ Q (.bl (ds.any fun z => PyData.eqv z d)) H
theorem op_inDT (hu : X.A.units + 65 < cLine) : OpR X (compareOp .In) (rInDT X.K) := by
  intro _ _ _ H _ _ _ _ _ I rx ry ⟨_, _, dx, dy, sx, sy, q⟩
  have ⟨_, rdx⟩ := Dp.reads I _ _ _ dx rx
  have ⟨_, rdy⟩ := Dp.reads I _ _ _ dy ry
  exact SeqAt.in_tuple_reads rdy rdx (SeqAt.canLay_of_shaped sy) (SeqAt.canLay_of_shaped sx) (room_in_shaped sx hu) ⟨.bl _, H, I, rfl, q⟩
end
theorem Room.units65 {k : Nat} {A : Around} (r : Room k A) : A.units + 65 < cLine := by have := r.un; omega
/-! ### an object made in the body of a try -/
section
variable {X : Cx} {cx : CXT} {k : Nat} {f C : Addr} {fd : FuncData} {ps : List Str} {sp : Sp} {E : St → XK} {x : Str} {p pos : Pos} {e : Expr} {es : List Expr} {t : TA}
def tMakeSO (C : Addr) (sp : Sp) (E : St → XK) (t : TA) : TE := fun σ H Q => t σ H fun vs H1 => ∀ x dx, H1 x = none → H1 dx = none → dx ≠ x → sp (.ref x :: vs) (upd (upd H1 dx (.own x)) x (.ins C dx [])) (fun v H2 => v = .non ∧ Q (.ref x) H2) (E σ)
theorem pe_makeSO (O : Ok X.prog X.w X.K X.mg X.base cx k f fd ps sp) (M : Mk X.K C f) (hr : Room (k + 1) X.A) (hg : Gl X x) (hm : X.mg x = some (.ref C)) (hx : ∀ σ, PassesAt cx X σ (E σ)) (ha : PA X (e :: es) t)
    (hdb : (x == ("__debug__" : Str)) = false := by decide) (he : starEach (e :: es) X.env = (false, eval e X.env) :: starEach es X.env := by rfl) (hpl : (backTo pos (starEach es X.env)).any (·.1) = false := by rfl) :
    PE X (.Call (.Name x p) (e :: es) [] pos) (tMakeSO C sp E t) := by
  obtain ⟨F, hb, _⟩ := O
  refine ⟨fun pins s σ H Q I h => wpAny_Call_Name_kw (ld_glob I hg hm ?_ hdb)⟩
  refine PySem.W.callWith_K (h₀ := X.base) I.ok.mod.kin M.kp (thn (ha.run pos pins s σ H _ I h) fun us s1 ⟨vs, H1, I1, r, q⟩ => ⟨I1.kIn, ?_⟩) he hpl
  have hq := q (s1.heap.objs.size + 1) s1.heap.objs.size (I1.hok.fresh (Nat.le_succ _)) (I1.hok.fresh (Nat.le_refl _)) (Nat.ne_of_lt (Nat.lt_succ_self _))
  have I2 := Inv.made (C := C) I1
  have r2 : Vals (V.ref (s1.heap.objs.size + 1) :: vs) (Value.ref (s1.heap.objs.size + 1) :: us) := .cons rfl r
  have hl : (Value.ref (s1.heap.objs.size + 1) :: us).length = ps.length := r2.length.symm.trans (F.len _ _ _ _ hq)
  have bt := hb _ (Value.ref (s1.heap.objs.size + 1) :: us) I2.kIn (by rw [List.append_nil]; exact hl)
  rw [List.append_nil] at bt
  refine wpAny_call (make_map (f := f) I1.kIn M.makes M.init (beq_iff_eq.mp M.fn) (codeAny_mono (F.run _ X.stack _ _ ⟨Value.ref (s1.heap.objs.size + 1) :: us, []⟩ (Value.ref (s1.heap.objs.size + 1) :: us) _ _ (E σ) (hr.make C us [])
    (I2.env0.make C us []) bt r2 hq) fun r3 s3 hq3 => ?_))
  cases r3 with
  | error e3 => exact hx σ pins _ _ e3 s3 I2 hq3
  | ok fl =>
    cases fl with
    | ret u =>
      obtain ⟨v, H3, I3, rv, ev, q3⟩ := I2.after hq3
      subst ev
      exact ⟨rv, ⟨V.ref (s1.heap.objs.size + 1), H3, I3, rfl, q3⟩⟩
    | next => exact False.elim hq3
    | brk => exact False.elim hq3
    | cont => exact False.elim hq3
end
/-! ### several except clauses, each with the same name -/
/-- an error that lies at a before the clauses: what they need of it. `again`: it is noted once more ahead of a suite; `off`: no clause takes it -/
structure Lies (X : Cx) (Wo : WX) (pins : List (Addr × Obj)) (σ : St) (H : Hp) (a : Addr) (cls : Value) (d : Option Addr) (st : Shared) : Prop where
  inv : Inv X pins σ H st
  new : H a = none
  obj : ∃ (o : Obj) (vs : Array Value), st.heap.get? a = some o ∧ Zc cls d o ∧ o.data = .fields vs
  loc : a ≠ X.env.locals
  frm : a ∉ X.fs
  again : ∀ {A : Around} {Q : Unit → Shared → Prop} {E : Value → Shared → Prop}, (∀ st', Inv X pins σ H st' → (∃ (o : Obj) (vs : Array Value), st'.heap.get? a = some o ∧ Zc cls d o ∧ o.data = .fields vs) → Q () st') → wpAny (model X.prog X.w) A (setFlight (.ref a) none) Q E st
  off : ∀ {Q : Flow → Shared → Prop}, Wo cls d σ H → wpAny (model X.prog X.w) X.A (handleBy (.ref a) X.env []) Q X.xe st
theorem Lies.made {X : Cx} {Wo : WX} (es : X.stack = X.env :: X.outer) (ef : X.env.frame = some X.env.locals) (tk : Takes X Wo) {B : Heap} {s0 s1 : Shared} {pins : List (Addr × Obj)} {σ : St} {H : Hp} {a : Addr} {cls : Value} {d : Option Addr} {h : Heap}
    (I0 : Inv X pins σ H s0) (nb : ∀ b o, s0.heap.get? b = some o → b ∉ frs X.stack → B.get? b = some o) (u0 : s0.heap.UpToSlots s1.heap) (na : H a = none) (ho : s1.os = s0.os) (hg : AllBare s1.gens)
    (fl : HandSPX.FlyingZ B (X.env :: X.outer) a (Zc cls d) h) (u1 : s1.heap.UpToSlots h) : Lies X Wo pins σ H a cls d { s1 with heap := h } := by
  have inv : ∀ {h' : Heap}, HandSPX.FlyingZ B (X.env :: X.outer) a (Zc cls d) h' → s1.heap.UpToSlots h' → Inv X pins σ H { s1 with heap := h' } := fun f u => I0.landed nb f.1 (u0.trans u) ho hg
  have apart : a ∉ frs (X.env :: X.outer) := by
    intro m
    have ⟨_, _, at_, no⟩ := fl.2.2.1.mem m
    have ⟨_, _, at2, _, fields⟩ := fl.there
    have same := Option.some.inj (at_.symm.trans at2)
    subst same
    exact no _ fields
  refine { inv := inv fl u1, new := na, obj := ?_, loc := fun e => ?_, frm := fun m => ?_, again := fun k => ?_, off := fun {Q} w => ?_ }
  · have ⟨o, vs, x1, x2, x3⟩ := fl.there
    exact ⟨o, vs, x1, x2, x3⟩
  · refine apart (List.mem_filterMap.mpr ⟨_, List.mem_cons_self, ?_⟩)
    rw [ef, e]
  · have ⟨en, me, eq⟩ := List.mem_filterMap.mp m
    exact apart (List.mem_filterMap.mpr ⟨en, .tail _ me, eq⟩)
  · refine HandSPX.lands_againZ fl fun h' fl' u2 => k _ (inv fl' (u1.trans u2)) ?_
    have ⟨o, vs, x1, x2, x3⟩ := fl'.there
    exact ⟨o, vs, x1, x2, x3⟩
  · have whole := fl
    obtain ⟨_, _, _, _, _, tb, _, _, at_, _, fields, first, _⟩ := whole
    have thrown : wpAny (model X.prog X.w) X.A (setFlight (.ref a) X.env.frame) (fun _ st => wpAny (model X.prog X.w) X.A (throw (.ref a) : Sem Flow) Q X.xe st) X.xe { s1 with heap := h } := by
      rw [ef]
      exact HandSPX.setFlight_upZ fl fun h' held u2 => wpAny_throw (tk _ _ ⟨a, B, s0, pins, σ, H, cls, d, rfl, I0, nb, (u0.trans u1).trans u2, .inr (.inr (es ▸ held)), na, ho, hg, w⟩)
    have some_tb : ¬ ((Value.ref tb == Value.none) = true) := by simp
    refine wpAny_handleBy_nil ?_
    unfold PySem.passOn
    refine wpAny_bind (wpAny_field at_ fields first ?_)
    rw [if_neg some_tb]
    first | exact wpAny_bind thrown | exact wpAny_bind (wpAny_pure (wpAny_bind thrown))
/-- how a clause ends: its name goes -/
def endAs (i : Nat) (D : Ends) : Ends := { nx := fun σ H => D.nx (σ.set i none) H, rt := D.rt, bk := fun σ H => D.bk (σ.set i none) H, ct := fun σ H => D.ct (σ.set i none) H }
def wManyAs (K : PySem.W.Frag) (i : Nat) (Wo : WX) (D : Ends) : List (Value × (Addr → Value → Option Addr → TS)) → WX
  | [] => Wo
  | (c, ts) :: r => fun cls d σ H => ∃ b, PySem.W.exmOne K cls c = some b ∧ (b = true → ∀ a, H a = none → ts a cls d (endAs i D) (σ.set i (some (.ref a))) H) ∧ (b = false → wManyAs K i Wo D r cls d σ H)
/-- the clauses and what their suites tell -/
inductive HdsAs (X : Cx) (n : Str) : List ExceptHandler → List (Value × (Addr → Value → Option Addr → TS)) → Prop
  | nil : HdsAs X n [] []
  | cons {x : Str} {c : Value} {ts : Addr → Value → Option Addr → TS} {st : Stmt} {more : List Stmt} {px ph : Pos} {hds : List ExceptHandler} {l : List (Value × (Addr → Value → Option Addr → TS))} (named : Names X x c)
      (suite : ∀ (a : Addr) (o : Obj) (cls : Value) (d : Option Addr) (pn : List (Addr × Obj)), Zc cls d o → (∃ vs, o.data = .fields vs) → PSs (X.suite a ((a, o) :: pn)) (st :: more) (ts a cls d)) (rest : HdsAs X n hds l) :
      HdsAs X n (.ExceptHandler (some (.Name x px)) (some n) (st :: more) ph :: hds) ((c, ts) :: l)
section
variable {X : Cx} {n : Str} {i : Nat} {Wo : WX} {D : Ends}
theorem clauses_run (ok : X.Ok) (nd : X.N.Nodup) (at_i : X.N[i]? = some n) (kd : X.env.kindOf n = some .local) {pins : List (Addr × Obj)} {σ : St} {H : Hp} {a : Addr} {cls : Value} {d : Option Addr} {st : Shared} (L : Lies X Wo pins σ H a cls d st) :
    ∀ {hds : List ExceptHandler} {l : List (Value × (Addr → Value → Option Addr → TS))}, HdsAs X n hds l → wManyAs X.K i Wo D l cls d σ H → wpAny (model X.prog X.w) X.A (handleBy (.ref a) X.env hds) (SP X pins D) X.xe st
  | _, _, .nil, w => L.off w
  | _, _, .cons (ts := ts) (ph := ph) named suite rest, ⟨b, asked, yes, no⟩ => by
    have ⟨o, vs, at_, z, fields⟩ := L.obj
    have Sx := L.inv.suite at_ fields L.new L.loc L.frm
    have cls_of : PySem.W.Looks (model X.prog X.w) st.heap (typeOf (.ref a)) cls := fun _ _ _ _ keep q => wpAny_typeOf_ref (keep _ _ at_) (by rw [z.1]; exact q)
    have one := PySem.W.exm_one (M := model X.prog X.w) L.inv.kIn cls_of asked
    refine wpAny_handleBy_cons (codeAny_handlers_test ?_) fun q => nomatch q
    have found : ∀ {x : Str} {c : Value} {px : Pos} {Q E : Value → Shared → Prop}, Names X x c → Q c st → wpAny (model X.prog X.w) (X.A.mark (some (.ref a))) (eval (.Name x px) X.env) Q E st := by
      intro x c px Q E ⟨isg, plain, own⟩ q
      rcases own with own | ⟨none_, boot, other⟩
      · exact ld_glob (X := X.suite a ((a, o) :: (X.pn ++ pins))) Sx isg own q plain
      · exact ld_blt (X := X.suite a ((a, o) :: (X.pn ++ pins))) Sx isg none_ boot q other plain
    refine found named (one.here ?_)
    match b, yes, no with
    | false, _, no => exact clauses_run ok nd at_i kd L rest (no rfl)
    | true, yes, _ =>
      refine codeAny_handlers_suite_as (L.again fun st' I' ⟨o', vs', at', z', fields'⟩ => ?_)
      have S' := I'.suite at' fields' L.new L.loc L.frm
      refine store_ok (X := X.suite a ((a, o') :: (X.pn ++ pins))) (v := .ref a) S' nd at_i (.inl kd) rfl (fun s2 S2 => wpAny_mono ((suite a o' cls d (X.pn ++ pins) z' ⟨vs', fields'⟩).run [] s2 _ H _ S2 (yes rfl a L.new)) ?_ fun _ _ never => never.elim) (.inr kd)
      intro fl s3 told
      have bare : ∀ {σ3 : St} {H3 : Hp} {Q : Shared → Prop}, Inv (X.suite a ((a, o') :: (X.pn ++ pins))) [] σ3 H3 s3 → (∀ s4, Inv X pins (σ3.set i none) H3 s4 → Q s4) → wpAny (model X.prog X.w) X.A (do bindName X.env n .none; unbindBehindTheSuite X.env n ph) (fun _ s4 => Q s4) X.xe s3 :=
        fun S3 q => gone_ok (S3.unsuite ok) nd at_i kd q
      match fl, told with
      | .next, ⟨_, _, S3, q⟩ => exact bare S3 fun _ J => ⟨_, _, J, q⟩
      | .brk, ⟨_, _, S3, q⟩ => exact bare S3 fun _ J => ⟨_, _, J, q⟩
      | .cont, ⟨_, _, S3, q⟩ => exact bare S3 fun _ J => ⟨_, _, J, q⟩
      | .ret _, ⟨_, _, _, S3, r, q⟩ => exact bare S3 fun _ J => ⟨_, _, _, J, r, q⟩
theorem ps_try_many_as {body : List Stmt} {hd : ExceptHandler} {hds : List ExceptHandler} {l : List (Value × (Addr → Value → Option Addr → TS))} {pos : Pos} {tb : WX → TS} (es : X.stack = X.env :: X.outer) (ef : X.env.frame = some X.env.locals) (nd : X.N.Nodup) (at_i : X.N[i]? = some n) (kd : X.env.kindOf n = some .local) (tk : Takes X Wo)
    (run : ∀ (W : WX) (pn : List (Addr × Obj)) (xe : Value → Shared → Prop), Takes (X.tr pn xe) W → PassesOwn (model X.prog X.w) X.A X.env xe → PSs (X.tr pn xe) body (tb W)) (cl : HdsAs X n (hd :: hds) l) :
    PS X (.Try body (hd :: hds) [] [] pos) (fun D σ H => tb (wManyAs X.K i Wo D l) D σ H) := by
  constructor
  intro pins s σ H D I told
  have ok := I.ok
  have frames : X.A.frames = some (X.env :: X.outer) := ok.frames.trans (congrArg some es)
  refine wpAny_Try_except (wpAny_mono ((run (wManyAs X.K i Wo D l) (X.pn ++ pins) _ ?caught PassesOwn.looking).run [] s σ H D (I.toTry _) told) ?quiet fun _ _ z => z)
  case caught =>
    rintro u s1 ⟨a, B, s0, _, σ1, H1, cls, d, rfl, I1, nb, u0, sky, na, ho, hg, w⟩
    have J1 := I1.ofTry ok
    refine Sky.land Zc.steady frames ef (by rw [← es]; exact sky) fun h fl u1 => ?_
    exact clauses_run ok nd at_i kd (Lies.made es ef tk J1 nb u0 na ho hg fl u1) cl w
  case quiet =>
    intro fl s1 out
    match fl, out with
    | .next, ⟨_, _, J, q⟩ => exact wpAny_execs_nil ⟨_, _, J.ofTry ok, q⟩
    | .brk, ⟨_, _, J, q⟩ => exact ⟨_, _, J.ofTry ok, q⟩
    | .cont, ⟨_, _, J, q⟩ => exact ⟨_, _, J.ofTry ok, q⟩
    | .ret _, ⟨_, _, _, J, r, q⟩ => exact ⟨_, _, _, J.ofTry ok, r, q⟩
end
end L2
namespace L2
open PySem PySem.Spec PyProof.Rows
/-! ### things of any kind: their built-in type -/
def tyNames : List String := ["int", "bool", "NoneType", "str", "list", "tuple", "dict"]
theorem ty_cases {t : String} (h : t ∈ tyNames) : t = "int" ∨ t = "bool" ∨ t = "NoneType" ∨ t = "str" ∨ t = "list" ∨ t = "tuple" ∨ t = "dict" := by
  simpa [tyNames] using h
theorem kit_int {K : PySem.W.Frag} {t : String} (h : t ∈ tyNames) : PySem.W.kitOne K (.type t) (.type "int") = some (t == "int" || t == "bool") := by
  rcases ty_cases h with rfl | rfl | rfl | rfl | rfl | rfl | rfl <;> exact kit_ty (by decide +kernel)
theorem kit_bool {K : PySem.W.Frag} {t : String} (h : t ∈ tyNames) : PySem.W.kitOne K (.type t) (.type "bool") = some (t == "bool") := by
  rcases ty_cases h with rfl | rfl | rfl | rfl | rfl | rfl | rfl <;> exact kit_ty (by decide +kernel)
theorem kit_str {K : PySem.W.Frag} {t : String} (h : t ∈ tyNames) : PySem.W.kitOne K (.type t) (.type "str") = some (t == "str") := by
  rcases ty_cases h with rfl | rfl | rfl | rfl | rfl | rfl | rfl <;> exact kit_ty (by decide +kernel)
theorem kit_tup {K : PySem.W.Frag} {t : String} (h : t ∈ tyNames) : PySem.W.kitOne K (.type t) (.type "tuple") = some (t == "tuple") := by
  rcases ty_cases h with rfl | rfl | rfl | rfl | rfl | rfl | rfl <;> exact kit_ty (by decide +kernel)
/-- x is a thing of one of these types -/
def Typ (K : PySem.W.Frag) (H : Hp) (x : V) : Prop := ∃ t, TyX K H x (.type t) ∧ t ∈ tyNames
theorem typ_int {K : PySem.W.Frag} {H : Hp} {x : V} (h : TyX K H x (.type "int")) : ∃ i, x = .int i := by
  generalize e : Value.type "int" = t at h
  cases h with
  | base b => cases b <;> first | exact ⟨_, rfl⟩ | (exfalso; revert e; decide) | (cases e)
  | byt _ => exfalso; revert e; decide
  | set _ => exfalso; revert e; decide
  | kList _ _ => exfalso; revert e; decide
  | kTuple _ _ => exfalso; revert e; decide
  | kDict _ _ => exfalso; revert e; decide
  | fTuple _ => exfalso; revert e; decide
  | fDict _ => exfalso; revert e; decide
theorem typ_str {K : PySem.W.Frag} {H : Hp} {x : V} (h : TyX K H x (.type "str")) : ∃ i, x = .str i := by
  generalize e : Value.type "str" = t at h
  cases h with
  | base b => cases b <;> first | exact ⟨_, rfl⟩ | (exfalso; revert e; decide) | (cases e)
  | byt _ => exfalso; revert e; decide
  | set _ => exfalso; revert e; decide
  | kList _ _ => exfalso; revert e; decide
  | kTuple _ _ => exfalso; revert e; decide
  | kDict _ _ => exfalso; revert e; decide
  | fTuple _ => exfalso; revert e; decide
  | fDict _ => exfalso; revert e; decide
theorem ty_of_int {K : PySem.W.Frag} {H : Hp} {i : Int} {t : Value} (h : TyX K H (.int i) t) : t = .type "int" := by
  cases h with
  | base b => cases b; rfl
theorem ty_of_str {K : PySem.W.Frag} {H : Hp} {z : Str} {t : Value} (h : TyX K H (.str z) t) : t = .type "str" := by
  cases h with
  | base b => cases b; rfl
/-- the types of what is tracked stay -/
theorem TyX.same {K : PySem.W.Frag} {H H' : Hp} {x : V} {t : String} (h : TyX K H x (.type t)) (s : Same H H') : TyX K H' x (.type t) := by
  generalize e : Value.type t = u at h
  cases h with
  | base b =>
    cases b with
    | non => exact .base .non
    | bl b => exact .base (.bl b)
    | int i => exact .base (.int i)
    | str z => exact .base (.str z)
    | flt z => exact .base (.flt z)
    | lst h => exact .base (.lst (s _ _ h))
    | frz h => exact .base (.frz (s _ _ h))
    | tup h => exact .base (.tup (s _ _ h))
    | dK h => exact .base (.dK (s _ _ h))
    | dT h => exact .base (.dT (s _ _ h))
    | ins _ _ _ _ _ _ => cases e
  | byt b => exact .byt b
  | set h => exact .set (s _ _ h)
  | kList h c => exact .kList h c
  | kTuple h c => exact .kTuple h c
  | kDict h c => exact .kDict h c
  | fTuple h => exact .fTuple (s _ _ h)
  | fDict h => exact .fDict (s _ _ h)
/-- .. even where an object changes -/
theorem TyX.but {K : PySem.W.Frag} {H : Hp} {x : V} {t : String} {p C dx : Addr} {fs : List (Str × V)} {o : HO} (h : TyX K H x (.type t)) (hp : H p = some (.ins C dx fs)) : TyX K (upd H p o) x (.type t) := by
  have s : ∀ {b : Addr} {u : HO}, H b = some u → (∀ C dx fs, u ≠ .ins C dx fs) → upd H p o b = some u := fun {b u} e n => by
    rw [upd_ne (ne_of e hp (n C dx fs))]
    exact e
  generalize e : Value.type t = u at h
  cases h with
  | base b =>
    cases b with
    | non => exact .base .non
    | bl b => exact .base (.bl b)
    | int i => exact .base (.int i)
    | str z => exact .base (.str z)
    | flt z => exact .base (.flt z)
    | lst h => exact .base (.lst (s h (by intro _ _ _ z; cases z)))
    | frz h => exact .base (.frz (s h (by intro _ _ _ z; cases z)))
    | tup h => exact .base (.tup (s h (by intro _ _ _ z; cases z)))
    | dK h => exact .base (.dK (s h (by intro _ _ _ z; cases z)))
    | dT h => exact .base (.dT (s h (by intro _ _ _ z; cases z)))
    | ins _ _ _ _ _ _ => cases e
  | byt b => exact .byt b
  | set h => exact .set (s h (by intro _ _ _ z; cases z))
  | kList h c => exact .kList h c
  | kTuple h c => exact .kTuple h c
  | kDict h c => exact .kDict h c
  | fTuple h => exact .fTuple (s h (by intro _ _ _ z; cases z))
  | fDict h => exact .fDict (s h (by intro _ _ _ z; cases z))
theorem Typ.same {K : PySem.W.Frag} {H H' : Hp} {x : V} (h : Typ K H x) (s : Same H H') : Typ K H' x := by
  obtain ⟨t, h1, h2⟩ := h
  exact ⟨t, h1.same s, h2⟩
theorem Typ.but {K : PySem.W.Frag} {H : Hp} {x : V} {p C dx : Addr} {fs : List (Str × V)} {o : HO} (h : Typ K H x) (hp : H p = some (.ins C dx fs)) : Typ K (upd H p o) x := by
  obtain ⟨t, h1, h2⟩ := h
  exact ⟨t, h1.but hp, h2⟩
theorem typ_i {K : PySem.W.Frag} {H : Hp} (i : Int) : Typ K H (.int i) := ⟨"int", .base (.int i), by decide⟩
theorem typ_b {K : PySem.W.Frag} {H : Hp} (b : Bool) : Typ K H (.bl b) := ⟨"bool", .base (.bl b), by decide⟩
theorem typ_n {K : PySem.W.Frag} {H : Hp} : Typ K H .non := ⟨"NoneType", .base .non, by decide⟩
theorem typ_s {K : PySem.W.Frag} {H : Hp} (z : Str) : Typ K H (.str z) := ⟨"str", .base (.str z), by decide⟩
theorem typ_l {K : PySem.W.Frag} {H : Hp} {a : Addr} {xs : List V} (h : H a = some (.lst xs)) : Typ K H (.ref a) := ⟨"list", .base (.lst h), by decide⟩
theorem typ_t {K : PySem.W.Frag} {H : Hp} {a : Addr} {xs : List V} (h : H a = some (.tup xs)) : Typ K H (.ref a) := ⟨"tuple", .base (.tup h), by decide⟩
theorem typ_d {K : PySem.W.Frag} {H : Hp} {a : Addr} {xs : List (Key × V)} (h : H a = some (.dK xs)) : Typ K H (.ref a) := ⟨"dict", .base (.dK h), by decide⟩
/-- a whole number within bounds -/
def wIn (x : V) (lo hi : Int) : Bool := match x with
  | .int i => decide (lo ≤ i) && decide (i ≤ hi)
  | _ => false
theorem wIn_int {x : V} {lo hi : Int} (h : wIn x lo hi = true) : ∃ i, x = .int i ∧ lo ≤ i ∧ i ≤ hi := by
  cases x with
  | int i =>
    have h : (decide (lo ≤ i) && decide (i ≤ hi)) = true := h
    rw [Bool.and_eq_true, decide_eq_true_eq, decide_eq_true_eq] at h
    exact ⟨i, rfl, h.1, h.2⟩
  | _ => cases h
/-! ### d.get(k), d a dict of the written part with keys that are texts -/
/-- what the written dict at a gives for each text -/
def KMap (K : PySem.W.Frag) (w : World) (a : Addr) (f : Str → Option Str) : Prop :=
  ∃ es n, K.lookup a = some ⟨.type "dict", none, .dict es n, #[]⟩ ∧ PySem.W.KeysLit w.params es.toList ∧ (a == sysModules) = false ∧ ∀ z, ∃ o, findBy Value.isStrOf es z = o ∧ RelO ((f z).map V.str) o
def tKGet (K : PySem.W.Frag) (w : World) (td ty : TE) : TE := fun σ H Q => td σ H fun x H1 => ∃ a f, x = .ref a ∧ KMap K w a f ∧ ty σ H1 fun y H2 => ∃ z, y = .str z ∧ Q (((f z).map V.str).getD .non) H2
theorem relO_getD {o : Option V} {u : Option Value} (h : RelO o u) : RelV (o.getD .non) (u.getD .none) := by
  cases o with
  | none =>
    cases u with
    | none => rfl
    | some _ => exact h.elim
  | some v =>
    cases u with
    | none => exact h.elim
    | some _ => exact h
theorem pe_kget {X : Cx} {o e : Expr} {apos cpos : Pos} {td ty : TE} (ho : PE X o td) (he : PE X e ty) (m : M1 X o "get" apos e cpos) : PE X (.Call (.Attribute o "get" apos) [e] [] cpos) (tKGet X.K X.w td ty) := by
  refine ⟨fun pins s σ H Q I h => ?_⟩
  refine wpAny_Call_method m.base m.few m.line PySem.F.plainAttrs_dict PySem.F.slot_dict_get PySem.F.type_dict_get (thn (ho.run pins s σ H _ I h) fun u s1 ⟨x, H1, I1, rx, a, f, ex, ⟨es, n, hl, hk, hsys, hf⟩, q1⟩ => ?_)
  subst ex
  obtain rfl : u = Value.ref a := rx
  have found : ∀ {s' : Shared} {H' : Hp}, Inv X pins σ H' s' → s'.heap.get? a = some ⟨.type "dict", none, .dict es n, #[]⟩ := fun I' => I'.kIn a _ hl
  refine ⟨⟨_, found I1, rfl⟩, fun b hb => ?_, ?_⟩
  · cases hb
    exact ⟨_, found I1, rfl⟩
  rw [m.trees]
  refine Calls.callWith_builtin rfl (Calls.evalArgs_plain (Calls.spliced_cons (thn (he.run pins s1 σ H1 _ I1 q1) fun iv s2 ⟨y, H2, I2, ry, z, ey, q2⟩ => Calls.spliced_nil ?_)))
  subst ey
  obtain ⟨t, rfl⟩ := (show ∃ t, iv = Value.str z t from ry)
  obtain ⟨ov, e1, r1⟩ := hf z
  have hm := PySem.W.mapOf_K (prog := X.prog) (w := X.w) I2.kIn hl hk
  refine call_meetsIn PySem.F.slot_dict_get ⟨_, found I2, rfl⟩ PySem.F.entry_dict_get (PySem.F.args_dict_get_2 _ _) (meets_dict_get (strKind X.prog X.w) a (strKind_is X.prog X.w z t) hsys) ⟨_, hm, ?_⟩
  refine ⟨((f z).map V.str).getD .non, H2, I2.tok _, ?_, q2⟩
  show RelV _ ((findBy Value.isStrOf es z).getD .none)
  rw [e1]
  exact relO_getD r1
end L2
namespace NL
open PySem PySem.Spec PyProof.Rows L2
/-- the marks of a word -/
def partsM (z : Str) : Option Str :=
  if z = "set" then some "bn" else if z = "copy" then some "bb" else if z = "add" then some "bbb" else if z = "sub" then some "bbb" else if z = "fetch" then some "bb"
  else if z = "store" then some "bb" else if z = "less" then some "bbp" else if z = "jump" then some "p" else if z = "tell" then some "b" else none
theorem partsM_small {z m : Str} (h : partsM z = some m) : m.length ≤ sizeLine ∧ m.length ≤ 3 := by
  unfold partsM at h
  repeat' split at h
  all_goals (first | (cases h; decide +kernel) | cases h)

theorem parts_find {h0 h1 h2 h3 h4 h5 h6 h7 h8 : Int} {t0 u0 t1 u1 t2 u2 t3 u3 t4 u4 t5 u5 t6 u6 t7 u7 t8 u8 : Nat} (z : Str) : ∃ o, findBy Value.isStrOf (#[⟨h0, .str "set" t0, .str "bn" u0⟩, ⟨h1, .str "copy" t1, .str "bb" u1⟩, ⟨h2, .str "add" t2, .str "bbb" u2⟩, ⟨h3, .str "sub" t3, .str "bbb" u3⟩, ⟨h4, .str "fetch" t4, .str "bb" u4⟩, ⟨h5, .str "store" t5, .str "bb" u5⟩, ⟨h6, .str "less" t6, .str "bbp" u6⟩, ⟨h7, .str "jump" t7, .str "p" u7⟩, ⟨h8, .str "tell" t8, .str "b" u8⟩] : Array DictEntry) z = o ∧ RelO ((partsM z).map V.str) o := by
  refine ⟨_, rfl, ?_⟩
  have e : ∀ (a : Str) (t : Nat), Value.isStrOf z (.str a t) = decide (z = a) := fun a t => by
    show (a == z) = _
    by_cases h : z = a
    · subst h
      simp
    · have : ¬ a = z := fun q => h q.symm
      simp [h, this]
  unfold findBy partsM
  simp only [List.find?_toArray, List.find?_cons, List.find?_nil, e]
  repeat' split
  all_goals (first | exact trivial | (simp_all; done) | (exact ⟨_, rfl⟩) | skip)
def nineW : List Str := ["set", "copy", "add", "sub", "fetch", "store", "less", "jump", "tell"]
def nineM : List Str := ["bn", "bb", "bbb", "bbb", "bb", "bb", "bbp", "p", "b"]
def marksM (z : Str) : Str := (partsM z).getD ""
theorem nine_in {z : Str} : inV (.str z) (nineW.map V.str) = (partsM z).isSome := by
  show (([V.str "set", V.str "copy", V.str "add", V.str "sub", V.str "fetch", V.str "store", V.str "less", V.str "jump", V.str "tell"] : List V).any fun y => eqV y (.str z)) = _
  have e : ∀ a : Str, eqV (.str a) (.str z) = decide (z = a) := fun a => by
    show (a == z) = _
    by_cases h : z = a
    · subst h
      simp
    · have : ¬ a = z := fun q => h q.symm
      simp [h, this]
  simp only [List.any_cons, List.any_nil, e]
  unfold partsM
  repeat' split
  all_goals simp [*]
theorem nine_flat : (nineW.map V.str).all flatV = true := rfl
theorem nine_at {z m : Str} (h : partsM z = some m) : ∃ j : Nat, j < 9 ∧ (nineW.map V.str)[j]? = some (.str z) ∧ (∀ (i : Nat) (z' : V), i < j → (nineW.map V.str)[i]? = some z' → eqV z' (.str z) = false) ∧ (nineM.map V.str)[j]? = some (.str m) := by
  unfold partsM at h
  have chk : ∀ (j : Nat) (z : Str), (∀ i, i < j → ∀ z', (nineW.map V.str)[i]? = some z' → eqV z' (.str z) = false) → ∀ (i : Nat) (z' : V), i < j → (nineW.map V.str)[i]? = some z' → eqV z' (.str z) = false := fun j z f i z' h1 h2 => f i h1 z' h2
  split at h
  · rename_i e; cases h; subst e
    exact ⟨0, by decide, rfl, fun i _ hi => absurd hi (Nat.not_lt_zero _), rfl⟩
  split at h
  · rename_i e; cases h; subst e
    refine ⟨1, by decide, rfl, fun i z' hi hz => ?_, rfl⟩
    have hi : i = 0 := by omega
    subst hi
    cases hz
    decide +kernel
  split at h
  · rename_i e; cases h; subst e
    refine ⟨2, by decide, rfl, fun i z' hi hz => ?_, rfl⟩
    have hi : i = 0 ∨ i = 1 := by omega
    rcases hi with rfl | rfl <;> cases hz <;> decide +kernel
  split at h
  · rename_i e; cases h; subst e
    refine ⟨3, by decide, rfl, fun i z' hi hz => ?_, rfl⟩
    have hi : i = 0 ∨ i = 1 ∨ i = 2 := by omega
    rcases hi with rfl | rfl | rfl <;> cases hz <;> decide +kernel
  split at h
  · rename_i e; cases h; subst e
    refine ⟨4, by decide, rfl, fun i z' hi hz => ?_, rfl⟩
    have hi : i = 0 ∨ i = 1 ∨ i = 2 ∨ i = 3 := by omega
    rcases hi with rfl | rfl | rfl | rfl <;> cases hz <;> decide +kernel
  split at h
  · rename_i e; cases h; subst e
    refine ⟨5, by decide, rfl, fun i z' hi hz => ?_, rfl⟩
    have hi : i = 0 ∨ i = 1 ∨ i = 2 ∨ i = 3 ∨ i = 4 := by omega
    rcases hi with rfl | rfl | rfl | rfl | rfl <;> cases hz <;> decide +kernel
  split at h
  · rename_i e; cases h; subst e
    refine ⟨6, by decide, rfl, fun i z' hi hz => ?_, rfl⟩
    have hi : i = 0 ∨ i = 1 ∨ i = 2 ∨ i = 3 ∨ i = 4 ∨ i = 5 := by omega
    rcases hi with rfl | rfl | rfl | rfl | rfl | rfl <;> cases hz <;> decide +kernel
  split at h
  · rename_i e; cases h; subst e
    refine ⟨7, by decide, rfl, fun i z' hi hz => ?_, rfl⟩
    have hi : i = 0 ∨ i = 1 ∨ i = 2 ∨ i = 3 ∨ i = 4 ∨ i = 5 ∨ i = 6 := by omega
    rcases hi with rfl | rfl | rfl | rfl | rfl | rfl | rfl <;> cases hz <;> decide +kernel
  split at h
  · rename_i e; cases h; subst e
    refine ⟨8, by decide, rfl, fun i z' hi hz => ?_, rfl⟩
    have hi : i = 0 ∨ i = 1 ∨ i = 2 ∨ i = 3 ∨ i = 4 ∨ i = 5 ∨ i = 6 ∨ i = 7 := by omega
    rcases hi with rfl | rfl | rfl | rfl | rfl | rfl | rfl | rfl <;> cases hz <;> decide +kernel
  cases h
def top (i : Nat) : Stmt := PySem.Challenge.pw_nearlines_k06_what_is_refused.main.body.getD i (.Pass ⟨0, 0, 0, 0⟩)
abbrev s_within : Stmt := top 11
abbrev s_part_fits : Stmt := top 12
abbrev s_fits : Stmt := top 13
abbrev s_checked : Stmt := top 14
abbrev s_checked_boxes : Stmt := top 15
abbrev s_Plain___init__ : Stmt := inClass (top 18) 0
abbrev s_Plain_look : Stmt := inClass (top 18) 1
abbrev s_Plain_put : Stmt := inClass (top 18) 2
abbrev s_reckoned : Stmt := top 19
abbrev s_moved : Stmt := top 20
abbrev s_goes_on : Stmt := top 21
abbrev s_gone : Stmt := top 22
abbrev s_run : Stmt := top 23
abbrev s_need_shape : Stmt := top 27
abbrev s_Near___init__ : Stmt := inClass (top 28) 0
abbrev s_Near_look : Stmt := inClass (top 28) 1
abbrev s_Near_put : Stmt := inClass (top 28) 2
abbrev s_Near_settle : Stmt := inClass (top 28) 4
abbrev s_Near_touched : Stmt := inClass (top 28) 5
abbrev s_Near_leave : Stmt := inClass (top 28) 6
abbrev s_Near_write_back : Stmt := inClass (top 28) 7
abbrev s_run_near : Stmt := top 30
abbrev s__law_cell_at : Stmt := top 32
abbrev s__law_whole : Stmt := top 33
abbrev s__law_boxes_by : Stmt := top 34
abbrev s__law_mixed : Stmt := top 35
abbrev s__law_edge : Stmt := top 36
abbrev s__law_marks : Stmt := top 37
abbrev s__law_thing_by : Stmt := top 38
abbrev s__law_fits : Stmt := top 39
abbrev s__law_rows_by : Stmt := top 40
abbrev s__law_good_boxes : Stmt := top 41
abbrev s__law_good_rows : Stmt := top 42
abbrev s__law_good_shape : Stmt := top 43
abbrev s__law_due : Stmt := top 44
abbrev s__law_alone : Stmt := top 45
abbrev s__law_said : Stmt := top 46
abbrev s_law : Stmt := top 47
theorem sc_within : FnScope ["number", "low", "high"] ["number", "low", "high"] (defScope s_within) := ⟨rfl, rfl, rfl, by decide +kernel, rfl, by decide +kernel, by decide +kernel⟩
theorem sc_part_fits : FnScope ["mark", "number", "size", "count"] ["mark", "number", "size", "count"] (defScope s_part_fits) := ⟨rfl, rfl, rfl, by decide +kernel, rfl, by decide +kernel, by decide +kernel⟩
theorem sc_fits : FnScope ["row", "size", "count", "marks", "at"] ["row", "size", "count"] (defScope s_fits) := ⟨rfl, rfl, rfl, by decide +kernel, rfl, by decide +kernel, by decide +kernel⟩
theorem sc_checked : FnScope ["rows", "size", "row"] ["rows", "size"] (defScope s_checked) := ⟨rfl, rfl, rfl, by decide +kernel, rfl, by decide +kernel, by decide +kernel⟩
theorem sc_checked_boxes : FnScope ["boxes", "number"] ["boxes"] (defScope s_checked_boxes) := ⟨rfl, rfl, rfl, by decide +kernel, rfl, by decide +kernel, by decide +kernel⟩
theorem sc_Plain___init__ : FnScope ["self", "boxes"] ["self", "boxes"] (defScope s_Plain___init__) := ⟨rfl, rfl, rfl, by decide +kernel, rfl, by decide +kernel, by decide +kernel⟩
theorem sc_Plain_look : FnScope ["self", "box"] ["self", "box"] (defScope s_Plain_look) := ⟨rfl, rfl, rfl, by decide +kernel, rfl, by decide +kernel, by decide +kernel⟩
theorem sc_Plain_put : FnScope ["self", "box", "number"] ["self", "box", "number"] (defScope s_Plain_put) := ⟨rfl, rfl, rfl, by decide +kernel, rfl, by decide +kernel, by decide +kernel⟩
theorem sc_reckoned : FnScope ["row", "holder", "one", "other"] ["row", "holder"] (defScope s_reckoned) := ⟨rfl, rfl, rfl, by decide +kernel, rfl, by decide +kernel, by decide +kernel⟩
theorem sc_moved : FnScope ["row", "holder", "size", "number", "at"] ["row", "holder", "size"] (defScope s_moved) := ⟨rfl, rfl, rfl, by decide +kernel, rfl, by decide +kernel, by decide +kernel⟩
theorem sc_goes_on : FnScope ["row", "place", "holder", "one", "other"] ["row", "place", "holder"] (defScope s_goes_on) := ⟨rfl, rfl, rfl, by decide +kernel, rfl, by decide +kernel, by decide +kernel⟩
theorem sc_gone : FnScope ["rows", "holder", "size", "steps", "told", "place", "row"] ["rows", "holder", "size", "steps"] (defScope s_gone) := ⟨rfl, rfl, rfl, by decide +kernel, rfl, by decide +kernel, by decide +kernel⟩
theorem sc_run : FnScope ["rows", "boxes", "steps", "held", "program", "holder", "ended"] ["rows", "boxes", "steps"] (defScope s_run) := ⟨rfl, rfl, rfl, by decide +kernel, rfl, by decide +kernel, by decide +kernel⟩
theorem sc_need_shape : FnScope ["room", "width", "rule"] ["room", "width", "rule"] (defScope s_need_shape) := ⟨rfl, rfl, rfl, by decide +kernel, rfl, by decide +kernel, by decide +kernel⟩
theorem sc_Near___init__ : FnScope ["self", "boxes", "room", "width", "rule"] ["self", "boxes", "room", "width", "rule"] (defScope s_Near___init__) := ⟨rfl, rfl, rfl, by decide +kernel, rfl, by decide +kernel, by decide +kernel⟩
theorem sc_Near_look : FnScope ["self", "box", "line"] ["self", "box"] (defScope s_Near_look) := ⟨rfl, rfl, rfl, by decide +kernel, rfl, by decide +kernel, by decide +kernel⟩
theorem sc_Near_put : FnScope ["self", "box", "number", "line"] ["self", "box", "number"] (defScope s_Near_put) := ⟨rfl, rfl, rfl, by decide +kernel, rfl, by decide +kernel, by decide +kernel⟩
theorem sc_Near_settle : FnScope ["self", "line"] ["self"] (defScope s_Near_settle) := ⟨rfl, rfl, rfl, by decide +kernel, rfl, by decide +kernel, by decide +kernel⟩
theorem sc_Near_touched : FnScope ["self", "box", "line", "first"] ["self", "box"] (defScope s_Near_touched) := ⟨rfl, rfl, rfl, by decide +kernel, rfl, by decide +kernel, by decide +kernel⟩
theorem sc_Near_leave : FnScope ["self", "line"] ["self", "line"] (defScope s_Near_leave) := ⟨rfl, rfl, rfl, by decide +kernel, rfl, by decide +kernel, by decide +kernel⟩
theorem sc_Near_write_back : FnScope ["self", "line", "numbers", "at"] ["self", "line"] (defScope s_Near_write_back) := ⟨rfl, rfl, rfl, by decide +kernel, rfl, by decide +kernel, by decide +kernel⟩
theorem sc_run_near : FnScope ["rows", "boxes", "steps", "room", "width", "rule", "held", "program", "holder", "ended"] ["rows", "boxes", "steps", "room", "width", "rule"] (defScope s_run_near) := ⟨rfl, rfl, rfl, by decide +kernel, rfl, by decide +kernel, by decide +kernel⟩
theorem sc__law_cell_at : FnScope ["_law_script", "_law_k"] ["_law_script", "_law_k"] (defScope s__law_cell_at) := ⟨rfl, rfl, rfl, by decide +kernel, rfl, by decide +kernel, by decide +kernel⟩
theorem sc__law_whole : FnScope ["_law_found"] ["_law_found"] (defScope s__law_whole) := ⟨rfl, rfl, rfl, by decide +kernel, rfl, by decide +kernel, by decide +kernel⟩
theorem sc__law_boxes_by : FnScope ["_law_script", "_law_first", "_law_boxes", "_law_k"] ["_law_script"] (defScope s__law_boxes_by) := ⟨rfl, rfl, rfl, by decide +kernel, rfl, by decide +kernel, by decide +kernel⟩
theorem sc__law_mixed : FnScope ["_law_cell"] ["_law_cell"] (defScope s__law_mixed) := ⟨rfl, rfl, rfl, by decide +kernel, rfl, by decide +kernel, by decide +kernel⟩
theorem sc__law_edge : FnScope ["_law_cell", "_law_last"] ["_law_cell", "_law_last"] (defScope s__law_edge) := ⟨rfl, rfl, rfl, by decide +kernel, rfl, by decide +kernel, by decide +kernel⟩
theorem sc__law_marks : FnScope ["_law_word", "_law_names"] ["_law_word"] (defScope s__law_marks) := ⟨rfl, rfl, rfl, by decide +kernel, rfl, by decide +kernel, by decide +kernel⟩
theorem sc__law_thing_by : FnScope ["_law_script", "_law_size", "_law_count", "_law_first", "_law_word", "_law_marks_here", "_law_parts", "_law_k", "_law_last", "_law_odd"] ["_law_script", "_law_size", "_law_count"] (defScope s__law_thing_by) := ⟨rfl, rfl, rfl, by decide +kernel, rfl, by decide +kernel, by decide +kernel⟩
theorem sc__law_fits : FnScope ["_law_row", "_law_size", "_law_count", "_law_marks_here", "_law_k", "_law_last"] ["_law_row", "_law_size", "_law_count"] (defScope s__law_fits) := ⟨rfl, rfl, rfl, by decide +kernel, rfl, by decide +kernel, by decide +kernel⟩
theorem sc__law_rows_by : FnScope ["_law_script", "_law_size", "_law_cell", "_law_count", "_law_rows", "_law_k"] ["_law_script", "_law_size"] (defScope s__law_rows_by) := ⟨rfl, rfl, rfl, by decide +kernel, rfl, by decide +kernel, by decide +kernel⟩
theorem sc__law_good_boxes : FnScope ["_law_boxes", "_law_number"] ["_law_boxes"] (defScope s__law_good_boxes) := ⟨rfl, rfl, rfl, by decide +kernel, rfl, by decide +kernel, by decide +kernel⟩
theorem sc__law_good_rows : FnScope ["_law_rows", "_law_size", "_law_row"] ["_law_rows", "_law_size"] (defScope s__law_good_rows) := ⟨rfl, rfl, rfl, by decide +kernel, rfl, by decide +kernel, by decide +kernel⟩
theorem sc__law_good_shape : FnScope ["_law_shape"] ["_law_shape"] (defScope s__law_good_shape) := ⟨rfl, rfl, rfl, by decide +kernel, rfl, by decide +kernel, by decide +kernel⟩
theorem sc__law_due : FnScope ["_law_way", "_law_boxes", "_law_rows", "_law_shape"] ["_law_way", "_law_boxes", "_law_rows", "_law_shape"] (defScope s__law_due) := ⟨rfl, rfl, rfl, by decide +kernel, rfl, by decide +kernel, by decide +kernel⟩
theorem sc__law_alone : FnScope ["_law_e", "_law_own", "_law_some"] ["_law_e", "_law_own"] (defScope s__law_alone) := ⟨rfl, rfl, rfl, by decide +kernel, rfl, by decide +kernel, by decide +kernel⟩
theorem sc__law_said : FnScope ["_law_way", "_law_boxes", "_law_rows", "_law_shape", "_law_e"] ["_law_way", "_law_boxes", "_law_rows", "_law_shape"] (defScope s__law_said) := ⟨rfl, rfl, rfl, by decide +kernel, rfl, by decide +kernel, by decide +kernel⟩
theorem sc_law : FnScope ["_law_script", "_law_boxes", "_law_rows", "_law_last", "_law_sizes", "_law_rule", "_law_shape", "_law_way", "_law_given", "_law_program", "_law_said_here"] ["_law_script"] (defScope s_law) := ⟨rfl, rfl, rfl, by decide +kernel, rfl, by decide +kernel, by decide +kernel⟩
/-- where defs and classes stand -/
structure Cs where
  f_within : Addr
  d_within : FuncData
  f_part_fits : Addr
  d_part_fits : FuncData
  f_fits : Addr
  d_fits : FuncData
  f_checked : Addr
  d_checked : FuncData
  f_checked_boxes : Addr
  d_checked_boxes : FuncData
  f_Plain___init__ : Addr
  d_Plain___init__ : FuncData
  f_Plain_look : Addr
  d_Plain_look : FuncData
  f_Plain_put : Addr
  d_Plain_put : FuncData
  f_reckoned : Addr
  d_reckoned : FuncData
  f_moved : Addr
  d_moved : FuncData
  f_goes_on : Addr
  d_goes_on : FuncData
  f_gone : Addr
  d_gone : FuncData
  f_run : Addr
  d_run : FuncData
  f_need_shape : Addr
  d_need_shape : FuncData
  f_Near___init__ : Addr
  d_Near___init__ : FuncData
  f_Near_look : Addr
  d_Near_look : FuncData
  f_Near_put : Addr
  d_Near_put : FuncData
  f_Near_settle : Addr
  d_Near_settle : FuncData
  f_Near_touched : Addr
  d_Near_touched : FuncData
  f_Near_leave : Addr
  d_Near_leave : FuncData
  f_Near_write_back : Addr
  d_Near_write_back : FuncData
  f_run_near : Addr
  d_run_near : FuncData
  f__law_cell_at : Addr
  d__law_cell_at : FuncData
  f__law_whole : Addr
  d__law_whole : FuncData
  f__law_boxes_by : Addr
  d__law_boxes_by : FuncData
  f__law_mixed : Addr
  d__law_mixed : FuncData
  f__law_edge : Addr
  d__law_edge : FuncData
  f__law_marks : Addr
  d__law_marks : FuncData
  f__law_thing_by : Addr
  d__law_thing_by : FuncData
  f__law_fits : Addr
  d__law_fits : FuncData
  f__law_rows_by : Addr
  d__law_rows_by : FuncData
  f__law_good_boxes : Addr
  d__law_good_boxes : FuncData
  f__law_good_rows : Addr
  d__law_good_rows : FuncData
  f__law_good_shape : Addr
  d__law_good_shape : FuncData
  f__law_due : Addr
  d__law_due : FuncData
  f__law_alone : Addr
  d__law_alone : FuncData
  f__law_said : Addr
  d__law_said : FuncData
  f_law : Addr
  d_law : FuncData
  C_LineError : Addr
  C_BadRow : Addr
  C_BadBoxes : Addr
  C_BadShape : Addr
  C_NoBox : Addr
  C_BadPlan : Addr
  C_Plain : Addr
  C_Near : Addr
  a_PARTS : Addr
  a_RULES : Addr
/-- what the top has left -/
structure Txt (w : World) (K : PySem.W.Frag) (mg : Str → Option Value) (cs : Cs) : Prop where
  fn_within : FnAt K "within" "within" s_within cs.f_within cs.d_within ["number", "low", "high"]
  gl_within : mg "within" = some (.ref cs.f_within)
  fn_part_fits : FnAt K "part_fits" "part_fits" s_part_fits cs.f_part_fits cs.d_part_fits ["mark", "number", "size", "count"]
  gl_part_fits : mg "part_fits" = some (.ref cs.f_part_fits)
  fn_fits : FnAt K "fits" "fits" s_fits cs.f_fits cs.d_fits ["row", "size", "count"]
  gl_fits : mg "fits" = some (.ref cs.f_fits)
  fn_checked : FnAt K "checked" "checked" s_checked cs.f_checked cs.d_checked ["rows", "size"]
  gl_checked : mg "checked" = some (.ref cs.f_checked)
  fn_checked_boxes : FnAt K "checked_boxes" "checked_boxes" s_checked_boxes cs.f_checked_boxes cs.d_checked_boxes ["boxes"]
  gl_checked_boxes : mg "checked_boxes" = some (.ref cs.f_checked_boxes)
  fn_Plain___init__ : FnAt K "__init__" "Plain.__init__" s_Plain___init__ cs.f_Plain___init__ cs.d_Plain___init__ ["self", "boxes"]
  fn_Plain_look : FnAt K "look" "Plain.look" s_Plain_look cs.f_Plain_look cs.d_Plain_look ["self", "box"]
  fn_Plain_put : FnAt K "put" "Plain.put" s_Plain_put cs.f_Plain_put cs.d_Plain_put ["self", "box", "number"]
  fn_reckoned : FnAt K "reckoned" "reckoned" s_reckoned cs.f_reckoned cs.d_reckoned ["row", "holder"]
  gl_reckoned : mg "reckoned" = some (.ref cs.f_reckoned)
  fn_moved : FnAt K "moved" "moved" s_moved cs.f_moved cs.d_moved ["row", "holder", "size"]
  gl_moved : mg "moved" = some (.ref cs.f_moved)
  fn_goes_on : FnAt K "goes_on" "goes_on" s_goes_on cs.f_goes_on cs.d_goes_on ["row", "place", "holder"]
  gl_goes_on : mg "goes_on" = some (.ref cs.f_goes_on)
  fn_gone : FnAt K "gone" "gone" s_gone cs.f_gone cs.d_gone ["rows", "holder", "size", "steps"]
  gl_gone : mg "gone" = some (.ref cs.f_gone)
  fn_run : FnAt K "run" "run" s_run cs.f_run cs.d_run ["rows", "boxes", "steps"]
  gl_run : mg "run" = some (.ref cs.f_run)
  fn_need_shape : FnAt K "need_shape" "need_shape" s_need_shape cs.f_need_shape cs.d_need_shape ["room", "width", "rule"]
  gl_need_shape : mg "need_shape" = some (.ref cs.f_need_shape)
  fn_Near___init__ : FnAt K "__init__" "Near.__init__" s_Near___init__ cs.f_Near___init__ cs.d_Near___init__ ["self", "boxes", "room", "width", "rule"]
  fn_Near_look : FnAt K "look" "Near.look" s_Near_look cs.f_Near_look cs.d_Near_look ["self", "box"]
  fn_Near_put : FnAt K "put" "Near.put" s_Near_put cs.f_Near_put cs.d_Near_put ["self", "box", "number"]
  fn_Near_settle : FnAt K "settle" "Near.settle" s_Near_settle cs.f_Near_settle cs.d_Near_settle ["self"]
  fn_Near_touched : FnAt K "touched" "Near.touched" s_Near_touched cs.f_Near_touched cs.d_Near_touched ["self", "box"]
  fn_Near_leave : FnAt K "leave" "Near.leave" s_Near_leave cs.f_Near_leave cs.d_Near_leave ["self", "line"]
  fn_Near_write_back : FnAt K "write_back" "Near.write_back" s_Near_write_back cs.f_Near_write_back cs.d_Near_write_back ["self", "line"]
  fn_run_near : FnAt K "run_near" "run_near" s_run_near cs.f_run_near cs.d_run_near ["rows", "boxes", "steps", "room", "width", "rule"]
  gl_run_near : mg "run_near" = some (.ref cs.f_run_near)
  fn__law_cell_at : FnAt K "_law_cell_at" "_law_cell_at" s__law_cell_at cs.f__law_cell_at cs.d__law_cell_at ["_law_script", "_law_k"]
  gl__law_cell_at : mg "_law_cell_at" = some (.ref cs.f__law_cell_at)
  fn__law_whole : FnAt K "_law_whole" "_law_whole" s__law_whole cs.f__law_whole cs.d__law_whole ["_law_found"]
  gl__law_whole : mg "_law_whole" = some (.ref cs.f__law_whole)
  fn__law_boxes_by : FnAt K "_law_boxes_by" "_law_boxes_by" s__law_boxes_by cs.f__law_boxes_by cs.d__law_boxes_by ["_law_script"]
  gl__law_boxes_by : mg "_law_boxes_by" = some (.ref cs.f__law_boxes_by)
  fn__law_mixed : FnAt K "_law_mixed" "_law_mixed" s__law_mixed cs.f__law_mixed cs.d__law_mixed ["_law_cell"]
  gl__law_mixed : mg "_law_mixed" = some (.ref cs.f__law_mixed)
  fn__law_edge : FnAt K "_law_edge" "_law_edge" s__law_edge cs.f__law_edge cs.d__law_edge ["_law_cell", "_law_last"]
  gl__law_edge : mg "_law_edge" = some (.ref cs.f__law_edge)
  fn__law_marks : FnAt K "_law_marks" "_law_marks" s__law_marks cs.f__law_marks cs.d__law_marks ["_law_word"]
  gl__law_marks : mg "_law_marks" = some (.ref cs.f__law_marks)
  fn__law_thing_by : FnAt K "_law_thing_by" "_law_thing_by" s__law_thing_by cs.f__law_thing_by cs.d__law_thing_by ["_law_script", "_law_size", "_law_count"]
  gl__law_thing_by : mg "_law_thing_by" = some (.ref cs.f__law_thing_by)
  fn__law_fits : FnAt K "_law_fits" "_law_fits" s__law_fits cs.f__law_fits cs.d__law_fits ["_law_row", "_law_size", "_law_count"]
  gl__law_fits : mg "_law_fits" = some (.ref cs.f__law_fits)
  fn__law_rows_by : FnAt K "_law_rows_by" "_law_rows_by" s__law_rows_by cs.f__law_rows_by cs.d__law_rows_by ["_law_script", "_law_size"]
  gl__law_rows_by : mg "_law_rows_by" = some (.ref cs.f__law_rows_by)
  fn__law_good_boxes : FnAt K "_law_good_boxes" "_law_good_boxes" s__law_good_boxes cs.f__law_good_boxes cs.d__law_good_boxes ["_law_boxes"]
  gl__law_good_boxes : mg "_law_good_boxes" = some (.ref cs.f__law_good_boxes)
  fn__law_good_rows : FnAt K "_law_good_rows" "_law_good_rows" s__law_good_rows cs.f__law_good_rows cs.d__law_good_rows ["_law_rows", "_law_size"]
  gl__law_good_rows : mg "_law_good_rows" = some (.ref cs.f__law_good_rows)
  fn__law_good_shape : FnAt K "_law_good_shape" "_law_good_shape" s__law_good_shape cs.f__law_good_shape cs.d__law_good_shape ["_law_shape"]
  gl__law_good_shape : mg "_law_good_shape" = some (.ref cs.f__law_good_shape)
  fn__law_due : FnAt K "_law_due" "_law_due" s__law_due cs.f__law_due cs.d__law_due ["_law_way", "_law_boxes", "_law_rows", "_law_shape"]
  gl__law_due : mg "_law_due" = some (.ref cs.f__law_due)
  fn__law_alone : FnAt K "_law_alone" "_law_alone" s__law_alone cs.f__law_alone cs.d__law_alone ["_law_e", "_law_own"]
  gl__law_alone : mg "_law_alone" = some (.ref cs.f__law_alone)
  fn__law_said : FnAt K "_law_said" "_law_said" s__law_said cs.f__law_said cs.d__law_said ["_law_way", "_law_boxes", "_law_rows", "_law_shape"]
  gl__law_said : mg "_law_said" = some (.ref cs.f__law_said)
  fn_law : FnAt K "law" "law" s_law cs.f_law cs.d_law ["_law_script"]
  gl_law : mg "law" = some (.ref cs.f_law)
  no_isinstance : mg "isinstance" = none
  no_int : mg "int" = none
  no_bool : mg "bool" = none
  no_tuple : mg "tuple" = none
  no_len : mg "len" = none
  no_str : mg "str" = none
  no_range : mg "range" = none
  no_list : mg "list" = none
  no_sorted : mg "sorted" = none
  no_ValueError : mg "ValueError" = none
  no_max : mg "max" = none
  gl_GREATEST : ∃ t, mg "GREATEST" = some (.int 999999 t)
  gl_MOST : ∃ t, mg "MOST" = some (.int 200 t)
  gl_PARTS : mg "PARTS" = some (.ref cs.a_PARTS)
  km_PARTS : KMap K w cs.a_PARTS partsM
  gl_MODULUS : ∃ t, mg "MODULUS" = some (.int 1000000 t)
  gl_WIDEST : ∃ t, mg "WIDEST" = some (.int 200 t)
  gl_RULES : mg "RULES" = some (.ref cs.a_RULES)
  tp_RULES : ∃ (o : Obj) (its : Array Value) (n : Nat), K.lookup cs.a_RULES = some o ∧ o.cls = .type "tuple" ∧ o.data = .seq its n ∧ its.size ≤ sizeLine ∧ Vals [V.str "least", V.str "first"] its.toList
  ex_LineError : ExcAt K mg "LineError" cs.C_LineError
  ex_BadRow : ExcAt K mg "BadRow" cs.C_BadRow
  ex_BadBoxes : ExcAt K mg "BadBoxes" cs.C_BadBoxes
  ex_BadShape : ExcAt K mg "BadShape" cs.C_BadShape
  ex_NoBox : ExcAt K mg "NoBox" cs.C_NoBox
  ex_BadPlan : ExcAt K mg "BadPlan" cs.C_BadPlan
  gl_Plain : mg "Plain" = some (.ref cs.C_Plain)
  cl_Plain : Cls K cs.C_Plain
  mk_Plain : Mk K cs.C_Plain cs.f_Plain___init__
  me_Plain_look : Meth K cs.C_Plain "look" cs.f_Plain_look
  me_Plain_put : Meth K cs.C_Plain "put" cs.f_Plain_put
  na_Plain_boxes : NoAttr K cs.C_Plain "boxes"
  na_Plain_touches : NoAttr K cs.C_Plain "touches"
  gl_Near : mg "Near" = some (.ref cs.C_Near)
  cl_Near : Cls K cs.C_Near
  mk_Near : Mk K cs.C_Near cs.f_Near___init__
  me_Near_look : Meth K cs.C_Near "look" cs.f_Near_look
  me_Near_put : Meth K cs.C_Near "put" cs.f_Near_put
  me_Near_settle : Meth K cs.C_Near "settle" cs.f_Near_settle
  me_Near_touched : Meth K cs.C_Near "touched" cs.f_Near_touched
  me_Near_leave : Meth K cs.C_Near "leave" cs.f_Near_leave
  me_Near_write_back : Meth K cs.C_Near "write_back" cs.f_Near_write_back
  na_Near_far : NoAttr K cs.C_Near "far"
  na_Near_room : NoAttr K cs.C_Near "room"
  na_Near_width : NoAttr K cs.C_Near "width"
  na_Near_rule : NoAttr K cs.C_Near "rule"
  na_Near_order : NoAttr K cs.C_Near "order"
  na_Near_near : NoAttr K cs.C_Near "near"
  na_Near_written : NoAttr K cs.C_Near "written"
  na_Near_found : NoAttr K cs.C_Near "found"
  na_Near_missed : NoAttr K cs.C_Near "missed"
  na_Near_back : NoAttr K cs.C_Near "back"
  ec_BadRow : ExcC K cs.C_BadRow
  is_BadRow_LineError : PySem.W.kitOne K (.ref cs.C_BadRow) (.ref cs.C_LineError) = some true
  is_BadRow_BadRow : PySem.W.kitOne K (.ref cs.C_BadRow) (.ref cs.C_BadRow) = some true
  is_BadRow_BadBoxes : PySem.W.kitOne K (.ref cs.C_BadRow) (.ref cs.C_BadBoxes) = some false
  is_BadRow_BadShape : PySem.W.kitOne K (.ref cs.C_BadRow) (.ref cs.C_BadShape) = some false
  is_BadRow_NoBox : PySem.W.kitOne K (.ref cs.C_BadRow) (.ref cs.C_NoBox) = some false
  is_BadRow_BadPlan : PySem.W.kitOne K (.ref cs.C_BadRow) (.ref cs.C_BadPlan) = some false
  iv_BadRow : PySem.W.kitOne K (.ref cs.C_BadRow) (.type "ValueError") = some true
  ec_BadBoxes : ExcC K cs.C_BadBoxes
  is_BadBoxes_LineError : PySem.W.kitOne K (.ref cs.C_BadBoxes) (.ref cs.C_LineError) = some true
  is_BadBoxes_BadRow : PySem.W.kitOne K (.ref cs.C_BadBoxes) (.ref cs.C_BadRow) = some false
  is_BadBoxes_BadBoxes : PySem.W.kitOne K (.ref cs.C_BadBoxes) (.ref cs.C_BadBoxes) = some true
  is_BadBoxes_BadShape : PySem.W.kitOne K (.ref cs.C_BadBoxes) (.ref cs.C_BadShape) = some false
  is_BadBoxes_NoBox : PySem.W.kitOne K (.ref cs.C_BadBoxes) (.ref cs.C_NoBox) = some false
  is_BadBoxes_BadPlan : PySem.W.kitOne K (.ref cs.C_BadBoxes) (.ref cs.C_BadPlan) = some false
  iv_BadBoxes : PySem.W.kitOne K (.ref cs.C_BadBoxes) (.type "ValueError") = some true
  ec_BadShape : ExcC K cs.C_BadShape
  is_BadShape_LineError : PySem.W.kitOne K (.ref cs.C_BadShape) (.ref cs.C_LineError) = some true
  is_BadShape_BadRow : PySem.W.kitOne K (.ref cs.C_BadShape) (.ref cs.C_BadRow) = some false
  is_BadShape_BadBoxes : PySem.W.kitOne K (.ref cs.C_BadShape) (.ref cs.C_BadBoxes) = some false
  is_BadShape_BadShape : PySem.W.kitOne K (.ref cs.C_BadShape) (.ref cs.C_BadShape) = some true
  is_BadShape_NoBox : PySem.W.kitOne K (.ref cs.C_BadShape) (.ref cs.C_NoBox) = some false
  is_BadShape_BadPlan : PySem.W.kitOne K (.ref cs.C_BadShape) (.ref cs.C_BadPlan) = some false
  iv_BadShape : PySem.W.kitOne K (.ref cs.C_BadShape) (.type "ValueError") = some true
  em_BadRow_BadBoxes : PySem.W.exmOne K (.ref cs.C_BadRow) (.ref cs.C_BadBoxes) = some false
  em_BadShape_BadBoxes : PySem.W.exmOne K (.ref cs.C_BadShape) (.ref cs.C_BadBoxes) = some false
  em_BadShape_BadRow : PySem.W.exmOne K (.ref cs.C_BadShape) (.ref cs.C_BadRow) = some false
section
variable {P : Program} {w : World} {K : PySem.W.Frag} {mg : Str → Option Value} {base : Heap} {cs : Cs}
/-! ### within, part_fits, fits, checked, checked_boxes -/
def sp_within (K : PySem.W.Frag) (cs : Cs) : Sp := fun vs H Q _ => ∃ (x : V) (lo hi : Int), vs = [x, .int lo, .int hi] ∧ Typ K H x ∧ Q (.bl (wIn x lo hi)) H
theorem wIn_not {K : PySem.W.Frag} {H : Hp} {x : V} {t : String} (h : TyX K H x (.type t)) (ht : t ≠ "int") (lo hi : Int) : wIn x lo hi = false := by
  cases x with
  | int i => exact absurd (Value.type.inj (ty_of_int h)) ht
  | _ => rfl
theorem ok_within (T : Txt w K mg cs)  : Ok P w K mg base CX0 1 cs.f_within cs.d_within ["number", "low", "high"] (sp_within K cs) := by
  refine T.fn_within.ok sc_within (fun vs H Q E h => ?_) (fun cdv A outer s H vs Q E hr h => ?_)
  · obtain ⟨x, lo, hi, rfl, _⟩ := h
    rfl
  · obtain ⟨x, lo, hi, rfl, ⟨t, ty, ht⟩, q⟩ := h
    refine ⟨_, (pss_one (ps_ret (pe_and (pe_callB call_isi (by rfl) T.no_isinstance boot_isinstance (pa_cons (pv 0) (pa_cons (pe_bltn (v := .ty "int") (by rfl) T.no_int boot_int rfl) pa_nil))) (pe_and (pe_not (pe_callB call_isi (by rfl) T.no_isinstance boot_isinstance (pa_cons (pv 0) (pa_cons (pe_bltn (v := .ty "bool") (by rfl) T.no_bool boot_bool rfl) pa_nil)))) (pe_one (pe_chain op_le op_le (pv 1) (pv 0) (pv 2))))))), ?_⟩
    refine ⟨_, rfl, _, _, _, _, _, rfl, .ty "int", ty, kit_int ht, _, rfl, iteB (fun c => ?_) (fun c => ?_)⟩
    · refine ⟨_, rfl, _, _, _, _, _, rfl, .ty "bool", ty, kit_bool ht, _, rfl, _, rfl, iteBN (fun c2 => ?_) (fun c2 => ?_)⟩
      · have e : t = "int" := by
          rcases ty_cases ht with rfl | rfl | rfl | rfl | rfl | rfl | rfl <;> first | rfl | (exfalso; revert c; decide) | (exfalso; revert c2; decide)
        subst e
        obtain ⟨i, rfl⟩ := typ_int ty
        refine ⟨_, rfl, _, rfl, _, _, rfl, rfl, _, rfl, iteD (fun c3 => ?_) (fun c3 => ?_)⟩
        · refine ⟨_, rfl, _, _, rfl, rfl, ?_⟩
          have e : wIn (.int i) lo hi = decide (i ≤ hi) := by
            show (decide (lo ≤ i) && decide (i ≤ hi)) = _
            rw [decide_eq_true c3, Bool.true_and]
          rw [e] at q
          exact q
        · have e : wIn (.int i) lo hi = false := by
            show (decide (lo ≤ i) && decide (i ≤ hi)) = _
            rw [decide_eq_false c3, Bool.false_and]
          rw [e] at q
          exact q
      · have e : t ≠ "int" := fun e => by
          subst e
          revert c2
          decide
        rw [wIn_not ty e] at q
        exact q
    · have e : t ≠ "int" := fun e => by
        subst e
        revert c
        decide
      rw [wIn_not ty e] at q
      exact q
/-- one part of a row: its mark, as a sign -/
def partB (c : Nat) (x : V) (size count : Int) : Bool := if c = 98 then wIn x 0 (size - 1) else if c = 110 then wIn x 0 999999 else wIn x 0 count
def sp_part_fits (K : PySem.W.Frag) (cs : Cs) : Sp := fun vs H Q _ => ∃ (c : Nat) (x : V) (size count : Int), vs = [.str ⟨#[c]⟩, x, .int size, .int count] ∧ Typ K H x ∧ Q (.bl (partB c x size count)) H
theorem sign_eq (c d : Nat) : ((V.str ⟨#[c]⟩ : V) = V.str ⟨#[d]⟩) ↔ c = d := by
  constructor
  · intro h
    have h1 : (⟨#[c]⟩ : Str) = ⟨#[d]⟩ := V.str.inj h
    have h2 : (#[c] : Array Nat) = #[d] := congrArg Str.cps h1
    simpa using h2
  · intro h
    rw [h]
theorem lit_b : ("b" : Str) = ⟨#[98]⟩ := by decide +kernel
theorem lit_n : ("n" : Str) = ⟨#[110]⟩ := by decide +kernel
theorem ok_part_fits (T : Txt w K mg cs) (o_within : Ok P w K mg base CX0 1 cs.f_within cs.d_within ["number", "low", "high"] (sp_within K cs)) : Ok P w K mg base CX0 2 cs.f_part_fits cs.d_part_fits ["mark", "number", "size", "count"] (sp_part_fits K cs) := by
  refine T.fn_part_fits.ok sc_part_fits (fun vs H Q E h => ?_) (fun cdv A outer s H vs Q E hr h => ?_)
  · obtain ⟨c, x, size, count, rfl, _⟩ := h
    rfl
  · obtain ⟨c, x, size, count, rfl, ty, q⟩ := h
    refine ⟨_, (pss_cons (ps_if (pt_cmpR op_eq (pv 0) pe_str (nomark _)) (pss_one (ps_ret (pe_callO o_within hr (by rfl) T.gl_within pass0 (pa_cons (pv 1) (pa_cons pe_int (pa_cons (pe_op op_sub (pv 2) pe_int) pa_nil)))))) pss_nil)
      (pss_cons (ps_if (pt_cmpR op_eq (pv 0) pe_str (nomark _)) (pss_one (ps_ret (pe_callO o_within hr (by rfl) T.gl_within pass0 (pa_cons (pv 1) (pa_cons pe_int (pa_cons (pe_glob (v := .int 999999) (by rfl) (T.gl_GREATEST).choose_spec ⟨_, rfl⟩) pa_nil)))))) pss_nil)
      (pss_one (ps_ret (pe_callO o_within hr (by rfl) T.gl_within pass0 (pa_cons (pv 1) (pa_cons pe_int (pa_cons (pv 3) pa_nil)))))))), ?_⟩
    have e1 : (V.str ⟨#[c]⟩ = V.str ("b" : Str)) ↔ c = 98 := by rw [lit_b]; exact sign_eq _ _
    have e2 : (V.str ⟨#[c]⟩ = V.str ("n" : Str)) ↔ c = 110 := by rw [lit_n]; exact sign_eq _ _
    refine ⟨_, rfl, rfl, _, rfl, iteD (fun c1 => ?_) (fun c1 => ?_)⟩
    · refine ⟨_, rfl, _, rfl, _, _, rfl, rfl, x, 0, size - 1, rfl, ty, ?_⟩
      unfold partB at q
      rw [if_pos (e1.mp c1)] at q
      exact q
    · refine ⟨_, rfl, rfl, _, rfl, iteD (fun c2 => ?_) (fun c2 => ?_)⟩
      · refine ⟨_, rfl, x, 0, 999999, rfl, ty, ?_⟩
        unfold partB at q
        rw [if_neg (fun z => c1 (e1.mpr z)), if_pos (e2.mp c2)] at q
        exact q
      · refine ⟨_, rfl, _, rfl, x, 0, count, rfl, ty, ?_⟩
        unfold partB at q
        rw [if_neg (fun z => c1 (e1.mpr z)), if_neg (fun z => c2 (e2.mpr z))] at q
        exact q
/-- a thing that may be a row: its items, if it is a tuple -/
def Thing (K : PySem.W.Frag) (H : Hp) (x : V) : Option (List V) → Prop
  | none => ∃ t, TyX K H x (.type t) ∧ t ∈ tyNames ∧ t ≠ "tuple"
  | some xs => ∃ a, x = .ref a ∧ H a = some (.tup xs) ∧ (∀ v ∈ xs, Typ K H v) ∧ xs.length ≤ 1000
theorem Thing.same {K : PySem.W.Frag} {H H' : Hp} {x : V} {o : Option (List V)} (h : Thing K H x o) (s : Same H H') : Thing K H' x o := by
  cases o with
  | none =>
    obtain ⟨t, h1, h2, h3⟩ := h
    exact ⟨t, h1.same s, h2, h3⟩
  | some xs =>
    obtain ⟨a, h1, h2, h3, h4⟩ := h
    exact ⟨a, h1, s _ _ h2, fun v hv => (h3 v hv).same s, h4⟩
/-- whether the items fit the marks -/
def partsFit (size count : Int) : List Nat → List V → Bool
  | [], [] => true
  | c :: cs, x :: xs => partB c x size count && partsFit size count cs xs
  | _, _ => false
def fitsV (size count : Int) : List V → Bool
  | .str z :: xs => match partsM z with
    | none => false
    | some m => partsFit size count m.cps.toList xs
  | _ => false
def fitsO (size count : Int) : Option (List V) → Bool
  | none => false
  | some xs => fitsV size count xs
theorem partsFit_len {size count : Int} : ∀ {cs : List Nat} {xs : List V}, cs.length ≠ xs.length → partsFit size count cs xs = false
  | [], [], h => absurd rfl h
  | [], _ :: _, _ => rfl
  | _ :: _, [], _ => rfl
  | c :: cs, x :: xs, h => by
    have ih := partsFit_len (size := size) (count := count) (cs := cs) (xs := xs) (fun e => h (by simp [e]))
    show (partB c x size count && partsFit size count cs xs) = false
    rw [ih, Bool.and_false]
theorem partsFit_at {size count : Int} : ∀ {cs : List Nat} {xs : List V} {i : Nat} {c : Nat} {x : V}, cs[i]? = some c → xs[i]? = some x → partB c x size count = false → partsFit size count cs xs = false
  | [], _, _, _, _, h, _, _ => by simp at h
  | _ :: _, [], _, _, _, _, h, _ => by simp at h
  | c :: cs, x :: xs, 0, c', x', h1, h2, h3 => by
    have e1 : c = c' := Option.some.inj h1
    have e2 : x = x' := Option.some.inj h2
    subst e1 e2
    show (partB c x size count && _) = false
    rw [h3, Bool.false_and]
  | c :: cs, x :: xs, i + 1, c', x', h1, h2, h3 => by
    show (_ && partsFit size count cs xs) = false
    rw [partsFit_at (i := i) h1 h2 h3, Bool.and_false]
theorem partsFit_all {size count : Int} : ∀ {cs : List Nat} {xs : List V}, cs.length = xs.length → (∀ (i : Nat) (c : Nat) (x : V), cs[i]? = some c → xs[i]? = some x → partB c x size count = true) → partsFit size count cs xs = true
  | [], [], _, _ => rfl
  | [], _ :: _, h, _ => by simp at h
  | _ :: _, [], h, _ => by simp at h
  | c :: cs, x :: xs, h, q => by
    show (partB c x size count && partsFit size count cs xs) = true
    rw [q 0 c x rfl rfl, partsFit_all (by simpa using h) fun i c' x' h1 h2 => q (i + 1) c' x' h1 h2]
    rfl
def sp_fits (K : PySem.W.Frag) (cs : Cs) : Sp := fun vs H Q _ => ∃ (x : V) (o : Option (List V)) (size count : Int), vs = [x, .int size, .int count] ∧ Thing K H x o ∧ ∀ H', Same H H' → Q (.bl (fitsO size count o)) H'
theorem ok_fits (T : Txt w K mg cs) (o_part_fits : Ok P w K mg base CX0 2 cs.f_part_fits cs.d_part_fits ["mark", "number", "size", "count"] (sp_part_fits K cs)) : Ok P w K mg base CX0 3 cs.f_fits cs.d_fits ["row", "size", "count"] (sp_fits K cs) := by
  refine T.fn_fits.ok sc_fits (fun vs H Q E h => ?_) (fun cdv A outer s H vs Q E hr h => ?_)
  · obtain ⟨x, o, size, count, rfl, _⟩ := h
    rfl
  · obtain ⟨x, o, size, count, rfl, hx, q⟩ := h
    refine ⟨_, (pss_cons (ps_if (pt_jn (PW.pt (pw_or (pt_not (pt_val (pe_callB call_isi (by rfl) T.no_isinstance boot_isinstance (pa_cons (pv 0) (pa_cons (pe_bltn (v := .ty "tuple") (by rfl) T.no_tuple boot_tuple rfl) pa_nil))))) (pw_or (pt_cmpR op_eq (pe_callB call_len_seq (by rfl) T.no_len PySem.boot_len (pa_cons (pv 0) pa_nil)) pe_int (nomark _)) (pw_or1 (pt_not (pt_val (pe_callB call_isi (by rfl) T.no_isinstance boot_isinstance (pa_cons (pe_ix ix_tup (pv 0) pe_int (fun _ _ => rfl)) (pa_cons (pe_bltn (v := .ty "str") (by rfl) T.no_str boot_str rfl) pa_nil)))))))))) (pss_one (ps_ret pe_bl)) pss_nil)
      (pss_cons (ps_set (i := 3) sc_fits.nd rfl (Or.inl rfl) (pe_kget (pe_glob (v := .ref cs.a_PARTS) (by rfl) T.gl_PARTS rfl) (pe_ix ix_tup (pv 0) pe_int (fun _ _ => rfl)) ⟨by rfl, by rfl, by rfl, by rfl⟩))
      (pss_cons (ps_if (pt_jn (PW.pt (pw_or (pt_cmpR op_isN (pv 3) pe_non (nomark _)) (pw_or1 (pt_cmpR op_ne (pe_callB call_len_seq (by rfl) T.no_len PySem.boot_len (pa_cons (pv 0) pa_nil)) (pe_op op_add (pe_callB call_len_str (by rfl) T.no_len PySem.boot_len (pa_cons (pv 3) pa_nil)) pe_int) (nomark _)))))) (pss_one (ps_ret pe_bl)) pss_nil)
      (pss_cons (ps_for PassesOwn.never rfl (pi_range1 (by rfl) T.no_range (pa_cons (pe_callB call_len_str (by rfl) T.no_len PySem.boot_len (pa_cons (pv 3) pa_nil)) pa_nil)) (pg_name (i := 4) sc_fits.nd rfl (Or.inl rfl)) (pss_one (ps_if (pt_not (pt_val (pe_callO o_part_fits hr (by rfl) T.gl_part_fits pass0 (pa_cons (pe_ix ix_str (pv 3) (pv 4) (fun _ _ => rfl)) (pa_cons (pe_ix ix_tup (pv 0) (pe_op op_add (pv 4) pe_int) (fun _ _ => rfl)) (pa_cons (pv 1) (pa_cons (pv 2) pa_nil))))))) (pss_one (ps_ret pe_bl)) pss_nil)))
      (pss_one (ps_ret pe_bl)))))), ?_⟩
    cases o with
    | none =>
      obtain ⟨t, ty, ht, hn⟩ := hx
      refine ⟨fun b H' => b = true ∧ H' = H, ?_, ?_⟩
      · refine ⟨_, rfl, _, _, _, _, _, rfl, .ty "tuple", ty, kit_tup ht, _, rfl, iteBN (fun _ => ⟨rfl, rfl⟩) (fun c => absurd (by simpa using c) hn)⟩
      · rintro b H' ⟨rfl, rfl⟩
        exact iteT (q _ (Same.refl _))
    | some xs =>
      obtain ⟨a, rfl, ha, hty, hl⟩ := hx
      have hT : SqT K H a xs := SqT.of ha
      cases xs with
      | nil =>
        refine ⟨fun b H' => b = true ∧ H' = H, ?_, ?_⟩
        · refine ⟨_, rfl, _, _, _, _, _, rfl, .ty "tuple", .base (.tup ha), kit_ty (r := true) (by decide +kernel), _, rfl, iteF ?_⟩
          exact ⟨_, rfl, a, _, rfl, .inr hT, rfl, _, rfl, iteT ⟨rfl, rfl⟩⟩
        · rintro b H' ⟨rfl, rfl⟩
          exact iteT (q _ (Same.refl _))
      | cons v r =>
        obtain ⟨t, ty, ht⟩ := hty v List.mem_cons_self
        have hne : ¬ (V.int (((v :: r).length : Nat) : Int) = V.int 0) := fun z => by
          have := V.int.inj z
          simp only [List.length_cons] at this
          omega
        refine ⟨fun b H' => b = !(t == "str") ∧ H' = H, ?_, ?_⟩
        · refine ⟨_, rfl, _, _, _, _, _, rfl, .ty "tuple", .base (.tup ha), kit_ty (r := true) (by decide +kernel), _, rfl, iteF ?_⟩
          refine ⟨_, rfl, a, _, rfl, .inr hT, rfl, _, rfl, iteD (fun c => absurd c hne) (fun _ => ?_)⟩
          exact ⟨_, rfl, a, _, _, _, rfl, rfl, hT, at_of (j := 0) rfl rfl, _, _, _, _, _, rfl, .ty "str", ty, kit_str ht, _, rfl, rfl, rfl⟩
        rintro b H' ⟨rfl, rfl⟩
        refine iteBN (fun c => ?_) (fun c => ?_)
        · have e : fitsO size count (some (v :: r)) = false := by
            cases v with
            | str z =>
              have := Value.type.inj (ty_of_str ty)
              rw [this] at c
              exact absurd c (by decide)
            | _ => rfl
          rw [e] at q
          exact q _ (Same.refl _)
        have e : t = "str" := by simpa using c
        subst e
        obtain ⟨z, rfl⟩ := typ_str ty
        -- marks = PARTS.get(row[0])
        refine ⟨_, partsM, rfl, T.km_PARTS, _, rfl, a, _, _, _, rfl, rfl, hT, at_of (j := 0) rfl rfl, z, rfl, ?_⟩
        cases hm : partsM z with
        | none =>
          have e : fitsO size count (some (V.str z :: r)) = false := by
            show (match partsM z with | none => false | some m => partsFit size count m.cps.toList r) = false
            rw [hm]
          rw [e] at q
          refine ⟨fun b H2 => b = true ∧ H2 = H', ⟨_, rfl, rfl, _, rfl, iteT ⟨rfl, rfl⟩⟩, ?_⟩
          rintro b H2 ⟨rfl, rfl⟩
          exact iteT (q _ (Same.refl _))
        | some m =>
          have em := partsM_small hm
          have e : fitsO size count (some (V.str z :: r)) = partsFit size count m.cps.toList r := by
            show (match partsM z with | none => false | some m => partsFit size count m.cps.toList r) = _
            rw [hm]
          rw [e] at q
          have eml : m.length = m.cps.toList.length := by simp [Str.length]
          refine ⟨fun b H2 => b = !decide (m.cps.toList.length = r.length) ∧ H2 = H', ⟨_, rfl, rfl, _, rfl, iteF ?_⟩, ?_⟩
          · refine ⟨_, rfl, a, _, rfl, .inr hT, _, rfl, m, rfl, by omega, _, _, rfl, rfl, rfl, _, rfl, ?_, rfl⟩
            show (!decide (V.int (((V.str z :: r).length : Nat) : Int) = V.int ((m.length : Int) + 1))) = _
            congr 1
            apply decide_eq_decide.mpr
            rw [V.int.injEq, List.length_cons, eml]
            omega
          rintro b H2 ⟨rfl, rfl⟩
          refine iteN (fun c => ?_) (fun c => ?_)
          · rw [partsFit_len c] at q
            exact q _ (Same.refl _)
          -- for at in range(len(marks))
          refine ⟨_, rfl, m, rfl, by omega, (m.length : Int), rfl, by omega, by omega, ?_⟩
          have e0 : ((m.length : Int)).toNat = m.cps.toList.length := by rw [eml]; rfl
          rw [e0]
          refine for_range (lo := 0) (n := m.cps.toList.length) (fun i σ H3 => ∃ v4, σ = [some (.ref a), some (.int size), some (.int count), some (.str m), v4] ∧ H3 = H2 ∧ ∀ (j : Nat) (c : Nat) (x : V), j < i → m.cps.toList[j]? = some c → r[j]? = some x → partB c x size count = true) ⟨none, rfl, rfl, fun j _ _ hj => absurd hj (Nat.not_lt_zero _)⟩ ?_ ?_
          · rintro i σ H3 hi ⟨v4, rfl, rfl, hall⟩
            have hzi : (0 : Int) + (i : Int) = ((i : Nat) : Int) := Int.zero_add _
            obtain ⟨c1, hc1⟩ : ∃ c1, m.cps.toList[i]? = some c1 := ⟨m.cps.toList[i], List.getElem?_eq_getElem hi⟩
            obtain ⟨x, hx⟩ : ∃ x, r[i]? = some x := ⟨r[i]'(by omega), List.getElem?_eq_getElem _⟩
            have hx1 : (V.str z :: r)[i + 1]? = some x := hx
            refine ⟨_, rfl, _, rfl, m, _, c1, rfl, rfl, by omega, at_ofG hzi hc1, _, rfl, _, rfl, _, _, rfl, rfl, a, _, _, _, rfl, rfl, hT, at_of (j := i + 1) (by rw [Int.zero_add]; rfl) hx1, _, rfl, _, rfl, c1, x, size, count, rfl, hty x (List.mem_cons_of_mem _ (List.mem_of_getElem? hx)), _, rfl, iteBN (fun c2 => ?_) (fun c2 => ?_)⟩
            · rw [partsFit_at hc1 hx c2] at q
              exact q _ (Same.refl _)
            · refine ⟨_, rfl, rfl, fun j c' x' hj h1 h2 => ?_⟩
              by_cases ej : j = i
              · subst ej
                rw [hc1] at h1
                rw [hx] at h2
                cases h1
                cases h2
                exact c2
              · exact hall j c' x' (by omega) h1 h2
          · rintro σ H3 ⟨v4, rfl, rfl, hall⟩
            rw [partsFit_all c fun i c' x' h1 h2 => hall i c' x' ((List.getElem?_eq_some_iff.mp h1).1) h1 h2] at q
            exact q _ (Same.refl _)
/-! ### checked -/
/-- the things of a program -/
structure Things (K : PySem.W.Frag) (H : Hp) (ys : List V) (os : List (Option (List V))) : Prop where
  len : ys.length = os.length
  at_ : ∀ (i : Nat) (y : V) (o : Option (List V)), ys[i]? = some y → os[i]? = some o → Thing K H y o
theorem Things.same {K : PySem.W.Frag} {H H' : Hp} {ys : List V} {os : List (Option (List V))} (h : Things K H ys os) (s : Same H H') : Things K H' ys os := ⟨h.len, fun i y o h1 h2 => (h.at_ i y o h1 h2).same s⟩
def goodRows (size : Int) (os : List (Option (List V))) : Bool := decide (os.length ≤ 200) && os.all (fitsO size (os.length : Int))
def sp_checked (K : PySem.W.Frag) (cs : Cs) : Sp := fun vs H Q E => ∃ (a : Addr) (ys : List V) (os : List (Option (List V))) (size : Int), vs = [.ref a, .int size] ∧ SqL K H a ys ∧ Things K H ys os ∧ ys.length ≤ 1000 ∧
  (∀ H' p, goodRows size os = true → Same H H' → H p = none → H' p = some (.lst ys) → Q (.ref p) H') ∧ (∀ H', goodRows size os = false → Same H H' → E (.ref cs.C_BadRow) none H')
theorem ok_checked (T : Txt w K mg cs) (o_fits : Ok P w K mg base CX0 3 cs.f_fits cs.d_fits ["row", "size", "count"] (sp_fits K cs)) : Ok P w K mg base (L2.CX P w) 4 cs.f_checked cs.d_checked ["rows", "size"] (sp_checked K cs) := by
  refine T.fn_checked.okX sc_checked (fun vs H Q E h => ?_) (fun cdv A outer s H vs Q E hr h => ?_)
  · obtain ⟨a, ys, os, size, rfl, _⟩ := h
    rfl
  · obtain ⟨a, ys, os, size, rfl, hS, hT, hl, kQ, kE⟩ := h
    refine ⟨_, (pss_cons (ps_if (pt_cmpR op_gt (pe_callB call_len_seq (by rfl) T.no_len PySem.boot_len (pa_cons (pv 0) pa_nil)) (pe_glob (v := .int 200) (by rfl) (T.gl_MOST).choose_spec ⟨_, rfl⟩) (nomark _)) (pss_one (ps_raise rfl (takes_of rfl rfl rfl rfl) (pmk_own PySem.F.excBase_ValueError T.ex_BadRow.x T.ex_BadRow.g T.ex_BadRow.k (raises_own T.ex_BadRow.b T.ex_BadRow.t) (by rfl)))) pss_nil)
      (pss_cons (ps_for (passes_of rfl) rfl (pi_list (pv 0)) (pg_name (i := 2) sc_checked.nd rfl (Or.inl rfl)) (pss_one (ps_if (pt_not (pt_val (pe_callO o_fits hr (by rfl) T.gl_fits pass0 (pa_cons (pv 2) (pa_cons (pv 1) (pa_cons (pe_callB call_len_seq (by rfl) T.no_len PySem.boot_len (pa_cons (pv 0) pa_nil)) pa_nil)))))) (pss_one (ps_raise rfl (takes_of rfl rfl rfl rfl) (pmk_own PySem.F.excBase_ValueError T.ex_BadRow.x T.ex_BadRow.g T.ex_BadRow.k (raises_own T.ex_BadRow.b T.ex_BadRow.t) (by rfl)))) pss_nil)))
      (pss_one (ps_ret (pe_callTy call_list_of (by rfl) T.no_list boot_list (pa_cons (pv 0) pa_nil)))))), ?_⟩
    have hlen := hT.len
    refine ⟨_, rfl, a, _, rfl, .inl hS, _, _, rfl, rfl, _, rfl, iteD (fun c => ?_) (fun c => ?_)⟩
    · refine kE H ?_ (Same.refl _)
      unfold goodRows
      rw [decide_eq_false (by omega), Bool.false_and]
    have hle : os.length ≤ 200 := by omega
    have bad : ∀ (i : Nat) (o : Option (List V)), os[i]? = some o → fitsO size (os.length : Int) o = false → goodRows size os = false := fun i o ho hf => by
      unfold goodRows
      have : os.all (fitsO size (os.length : Int)) = false := by
        rw [← Bool.not_eq_true, List.all_eq_true]
        intro z
        have := z o (List.mem_of_getElem? ho)
        rw [hf] at this
        cases this
      rw [this, Bool.and_false]
    refine ⟨_, rfl, a, rfl, ⟨_, hS⟩, for_list (K := K) (a := a) (xs := ys) (fun i σ H' => ∃ v2, σ = [some (.ref a), some (.int size), v2] ∧ Same H H' ∧ ∀ (j : Nat) (o : Option (List V)), j < i → os[j]? = some o → fitsO size (os.length : Int) o = true)
      ⟨none, rfl, Same.refl _, fun j _ hj => absurd hj (Nat.not_lt_zero _)⟩ (fun i σ H' _ ⟨_, _, s1, _⟩ => s1.seq hS) ?_ ?_⟩
    · rintro i y σ H' hy ⟨v2, rfl, s1, hall⟩
      obtain ⟨o, ho⟩ : ∃ o, os[i]? = some o := ⟨os[i]'(by have := (List.getElem?_eq_some_iff.mp hy).1; omega), List.getElem?_eq_getElem _⟩
      have hth := (hT.at_ i y o hy ho).same s1
      refine ⟨_, rfl, _, rfl, _, rfl, a, _, rfl, .inl (s1.seq hS), y, o, size, (os.length : Int), by rw [hlen], hth, fun H2 s2 => ⟨_, rfl, iteBN (fun c2 => ?_) (fun c2 => ?_)⟩⟩
      · exact kE H2 (bad i o ho c2) (s1.trans s2)
      · refine ⟨_, rfl, s1.trans s2, fun j o' hj ho' => ?_⟩
        by_cases ej : j = i
        · subst ej
          rw [ho] at ho'
          cases ho'
          exact c2
        · exact hall j o' (by omega) ho'
    · rintro σ H' ⟨v2, rfl, s1, hall⟩
      refine ⟨_, rfl, a, _, rfl, .inl (s1.seq hS), fun p hp => ?_⟩
      refine kQ _ p ?_ (s1.trans (Same.new hp)) (s1.free hp) upd_same
      unfold goodRows
      rw [decide_eq_true hle, Bool.true_and, List.all_eq_true]
      intro o ho
      obtain ⟨j, hj, e⟩ := List.getElem_of_mem ho
      exact hall j o (by omega) (by rw [← e]; exact List.getElem?_eq_getElem hj)
/-! ### checked_boxes -/
def goodBoxes (ys : List V) : Bool := decide (1 ≤ ys.length ∧ ys.length ≤ 200) && ys.all fun y => wIn y 0 999999
def sp_checked_boxes (K : PySem.W.Frag) (cs : Cs) : Sp := fun vs H Q E => ∃ (a : Addr) (ys : List V), vs = [.ref a] ∧ SqL K H a ys ∧ (∀ y ∈ ys, Typ K H y) ∧ ys.length ≤ 1000 ∧
  (∀ H' p, goodBoxes ys = true → Same H H' → H p = none → H' p = some (.lst ys) → Q (.ref p) H') ∧ (∀ H', goodBoxes ys = false → Same H H' → E (.ref cs.C_BadBoxes) none H')
theorem ok_checked_boxes (T : Txt w K mg cs) (o_within : Ok P w K mg base CX0 1 cs.f_within cs.d_within ["number", "low", "high"] (sp_within K cs)) : Ok P w K mg base (L2.CX P w) 2 cs.f_checked_boxes cs.d_checked_boxes ["boxes"] (sp_checked_boxes K cs) := by
  refine T.fn_checked_boxes.okX sc_checked_boxes (fun vs H Q E h => ?_) (fun cdv A outer s H vs Q E hr h => ?_)
  · obtain ⟨a, ys, rfl, _⟩ := h
    rfl
  · obtain ⟨a, ys, rfl, hS, hT, hl, kQ, kE⟩ := h
    refine ⟨_, (pss_cons (ps_if (pt_jn (pt_not (pt_chain op_le op_le pe_int (pe_callB call_len_seq (by rfl) T.no_len PySem.boot_len (pa_cons (pv 0) pa_nil)) (pe_glob (v := .int 200) (by rfl) (T.gl_MOST).choose_spec ⟨_, rfl⟩)))) (pss_one (ps_raise rfl (takes_of rfl rfl rfl rfl) (pmk_own PySem.F.excBase_ValueError T.ex_BadBoxes.x T.ex_BadBoxes.g T.ex_BadBoxes.k (raises_own T.ex_BadBoxes.b T.ex_BadBoxes.t) (by rfl)))) pss_nil)
      (pss_cons (ps_for (passes_of rfl) rfl (pi_list (pv 0)) (pg_name (i := 1) sc_checked_boxes.nd rfl (Or.inl rfl)) (pss_one (ps_if (pt_not (pt_val (pe_callO o_within hr (by rfl) T.gl_within pass0 (pa_cons (pv 1) (pa_cons pe_int (pa_cons (pe_glob (v := .int 999999) (by rfl) (T.gl_GREATEST).choose_spec ⟨_, rfl⟩) pa_nil)))))) (pss_one (ps_raise rfl (takes_of rfl rfl rfl rfl) (pmk_own PySem.F.excBase_ValueError T.ex_BadBoxes.x T.ex_BadBoxes.g T.ex_BadBoxes.k (raises_own T.ex_BadBoxes.b T.ex_BadBoxes.t) (by rfl)))) pss_nil)))
      (pss_one (ps_ret (pe_callTy call_list_of (by rfl) T.no_list boot_list (pa_cons (pv 0) pa_nil)))))), ?_⟩
    refine ⟨fun b H' => b = !decide (1 ≤ ys.length ∧ ys.length ≤ 200) ∧ H' = H, ?_, ?_⟩
    · refine ⟨_, rfl, a, _, rfl, .inl hS, _, _, rfl, rfl, _, rfl, iteD (fun c => ?_) (fun c => ?_)⟩
      · have c' : 1 ≤ ys.length := by omega
        refine ⟨_, _, rfl, rfl, _, rfl, ?_, rfl⟩
        congr 1
        apply decide_eq_decide.mpr
        omega
      · refine ⟨_, rfl, ?_, rfl⟩
        rw [decide_eq_false (fun z => c (by omega))]
    rintro b H' ⟨rfl, rfl⟩
    refine iteN (fun c => ?_) (fun c => ?_)
    · refine kE _ ?_ (Same.refl _)
      unfold goodBoxes
      rw [decide_eq_false c, Bool.false_and]
    have bad : ∀ y ∈ ys, wIn y 0 999999 = false → goodBoxes ys = false := fun y hy hf => by
      unfold goodBoxes
      have : (ys.all fun y => wIn y 0 999999) = false := by
        rw [← Bool.not_eq_true, List.all_eq_true]
        intro z
        have := z y hy
        rw [hf] at this
        cases this
      rw [this, Bool.and_false]
    refine ⟨_, rfl, a, rfl, ⟨_, hS⟩, for_list (K := K) (a := a) (xs := ys) (fun i σ H2 => ∃ v1, σ = [some (.ref a), v1] ∧ H2 = H' ∧ ∀ (j : Nat) (y : V), j < i → ys[j]? = some y → wIn y 0 999999 = true)
      ⟨none, rfl, rfl, fun j _ hj => absurd hj (Nat.not_lt_zero _)⟩ (fun i σ H2 _ ⟨_, _, e, _⟩ => by rw [e]; exact hS) ?_ ?_⟩
    · rintro i y σ H2 hy ⟨v1, rfl, rfl, hall⟩
      have hm := List.mem_of_getElem? hy
      refine ⟨_, rfl, y, 0, 999999, rfl, hT y hm, _, rfl, iteBN (fun c2 => ?_) (fun c2 => ?_)⟩
      · exact kE _ (bad y hm c2) (Same.refl _)
      · refine ⟨_, rfl, rfl, fun j y' hj hy' => ?_⟩
        by_cases ej : j = i
        · subst ej
          rw [hy] at hy'
          cases hy'
          exact c2
        · exact hall j y' (by omega) hy'
    · rintro σ H2 ⟨v1, rfl, rfl, hall⟩
      refine ⟨_, rfl, a, _, rfl, .inl hS, fun p hp => ?_⟩
      refine kQ _ p ?_ (Same.new hp) hp upd_same
      unfold goodBoxes
      rw [decide_eq_true c, Bool.true_and, List.all_eq_true]
      intro y hy
      obtain ⟨j, hj, e⟩ := List.getElem_of_mem hy
      exact hall j y hj (by rw [← e]; exact List.getElem?_eq_getElem hj)
/-! ### boxes near: the state -/
/-- a line near: its number, the place of its numbers, these -/
structure NE where
  k : Int
  a : Addr
  ns : List Int
structure NS where
  far : List Int
  order : List Int
  near : List NE
  written : List Int
  found : Int
  missed : Int
  back : Int
/-- the fields of a holder -/
def nearFs (fa : Addr) (room width : Int) (rule : Str) (oa na wa : Addr) (f m b : Int) : List (Str × V) :=
  [("far", .ref fa), ("room", .int room), ("width", .int width), ("rule", .str rule), ("order", .ref oa), ("near", .ref na), ("written", .ref wa), ("found", .int f), ("missed", .int m), ("back", .int b)]
section
variable {fa oa na wa : Addr} {room width f m b : Int} {rule : Str}
theorem lk_far : (nearFs fa room width rule oa na wa f m b).lookup ("far" : Str) = some (.ref fa) := by rfl
theorem lk_room : (nearFs fa room width rule oa na wa f m b).lookup ("room" : Str) = some (.int room) := by rfl
theorem lk_width : (nearFs fa room width rule oa na wa f m b).lookup ("width" : Str) = some (.int width) := by rfl
theorem lk_rule : (nearFs fa room width rule oa na wa f m b).lookup ("rule" : Str) = some (.str rule) := by rfl
theorem lk_order : (nearFs fa room width rule oa na wa f m b).lookup ("order" : Str) = some (.ref oa) := by rfl
theorem lk_near : (nearFs fa room width rule oa na wa f m b).lookup ("near" : Str) = some (.ref na) := by rfl
theorem lk_written : (nearFs fa room width rule oa na wa f m b).lookup ("written" : Str) = some (.ref wa) := by rfl
theorem lk_found : (nearFs fa room width rule oa na wa f m b).lookup ("found" : Str) = some (.int f) := by rfl
theorem lk_missed : (nearFs fa room width rule oa na wa f m b).lookup ("missed" : Str) = some (.int m) := by rfl
theorem lk_back : (nearFs fa room width rule oa na wa f m b).lookup ("back" : Str) = some (.int b) := by rfl
theorem pf_found (x : Int) : putF "found" (.int x) (nearFs fa room width rule oa na wa f m b) = nearFs fa room width rule oa na wa x m b := by rfl
theorem pf_missed (x : Int) : putF "missed" (.int x) (nearFs fa room width rule oa na wa f m b) = nearFs fa room width rule oa na wa f x b := by rfl
theorem pf_back (x : Int) : putF "back" (.int x) (nearFs fa room width rule oa na wa f m b) = nearFs fa room width rule oa na wa f m x := by rfl
end
def neKV (e : NE) : Key × V := (.inl e.k, .ref e.a)
def wrKV (l : Int) : Key × V := (.inl l, .bl true)
/-- a holder stands at p, its parts at these places -/
def own (p fa oa na wa : Addr) (near : List NE) : List Addr := p :: fa :: oa :: na :: wa :: near.map NE.a
structure NearX (cs : Cs) (H : Hp) (p : Addr) (room width : Int) (rule : Str) (s : NS) (dx fa oa na wa : Addr) : Prop where
  nd : (own p fa oa na wa s.near).Nodup
  h1 : H p = some (.ins cs.C_Near dx (nearFs fa room width rule oa na wa s.found s.missed s.back))
  h2 : H fa = some (.lst (s.far.map V.int))
  h3 : H oa = some (.lst (s.order.map V.int))
  h4 : H na = some (.dK (s.near.map neKV))
  h5 : H wa = some (.dK (s.written.map wrKV))
  h6 : ∀ e ∈ s.near, H e.a = some (.lst (e.ns.map V.int))
/-- .., what it owns is F -/
def NearAt (cs : Cs) (H : Hp) (p : Addr) (room width : Int) (rule : Str) (s : NS) (F : List Addr) : Prop :=
  ∃ dx fa oa na wa, F = own p fa oa na wa s.near ∧ NearX cs H p room width rule s dx fa oa na wa
section
variable {cs : Cs} {H : Hp} {p : Addr} {room width : Int} {rule : Str} {s : NS} {dx fa oa na wa : Addr}
theorem NearX.kinds (h : NearX cs H p room width rule s dx fa oa na wa) : p ≠ fa ∧ p ≠ oa ∧ p ≠ na ∧ p ≠ wa ∧ fa ≠ oa ∧ fa ≠ na ∧ fa ≠ wa ∧ oa ≠ na ∧ oa ≠ wa ∧ na ≠ wa ∧ ∀ e ∈ s.near, p ≠ e.a ∧ fa ≠ e.a ∧ oa ≠ e.a ∧ na ≠ e.a ∧ wa ≠ e.a := by
  have nd := h.nd
  unfold own at nd
  simp only [List.nodup_cons, List.mem_cons, not_or, List.mem_map, not_exists, not_and] at nd
  obtain ⟨⟨a1, a2, a3, a4, a5⟩, ⟨b1, b2, b3, b4⟩, ⟨c1, c2, c3⟩, ⟨d1, d2⟩, e1, _⟩ := nd
  exact ⟨a1, a2, a3, a4, b1, b2, b3, c1, c2, d1, fun e he => ⟨fun z => a5 e he z.symm, fun z => b4 e he z.symm, fun z => c3 e he z.symm, fun z => d2 e he z.symm, fun z => e1 e he z.symm⟩⟩
theorem NearX.far (h : NearX cs H p room width rule s dx fa oa na wa) (far' : List Int) : NearX cs (upd H fa (.lst (far'.map V.int))) p room width rule { s with far := far' } dx fa oa na wa := by
  obtain ⟨a1, a2, a3, a4, b1, b2, b3, c1, c2, d1, e1⟩ := h.kinds
  exact ⟨h.nd, by rw [upd_ne a1]; exact h.h1, upd_same, by rw [upd_ne b1.symm]; exact h.h3, by rw [upd_ne b2.symm]; exact h.h4, by rw [upd_ne b3.symm]; exact h.h5, fun e he => by rw [upd_ne (e1 e he).2.1.symm]; exact h.h6 e he⟩
theorem NearX.order (h : NearX cs H p room width rule s dx fa oa na wa) (o' : List Int) : NearX cs (upd H oa (.lst (o'.map V.int))) p room width rule { s with order := o' } dx fa oa na wa := by
  obtain ⟨a1, a2, a3, a4, b1, b2, b3, c1, c2, d1, e1⟩ := h.kinds
  exact ⟨h.nd, by rw [upd_ne a2]; exact h.h1, by rw [upd_ne b1]; exact h.h2, upd_same, by rw [upd_ne c1.symm]; exact h.h4, by rw [upd_ne c2.symm]; exact h.h5, fun e he => by rw [upd_ne (e1 e he).2.2.1.symm]; exact h.h6 e he⟩
theorem NearX.wr (h : NearX cs H p room width rule s dx fa oa na wa) (w' : List Int) : NearX cs (upd H wa (.dK (w'.map wrKV))) p room width rule { s with written := w' } dx fa oa na wa := by
  obtain ⟨a1, a2, a3, a4, b1, b2, b3, c1, c2, d1, e1⟩ := h.kinds
  exact ⟨h.nd, by rw [upd_ne a4]; exact h.h1, by rw [upd_ne b3]; exact h.h2, by rw [upd_ne c2]; exact h.h3, by rw [upd_ne d1]; exact h.h4, upd_same, fun e he => by rw [upd_ne (e1 e he).2.2.2.2.symm]; exact h.h6 e he⟩
theorem NearX.fs (h : NearX cs H p room width rule s dx fa oa na wa) (f m b : Int) : NearX cs (upd H p (.ins cs.C_Near dx (nearFs fa room width rule oa na wa f m b))) p room width rule { s with found := f, missed := m, back := b } dx fa oa na wa := by
  obtain ⟨a1, a2, a3, a4, b1, b2, b3, c1, c2, d1, e1⟩ := h.kinds
  exact ⟨h.nd, upd_same, by rw [upd_ne a1.symm]; exact h.h2, by rw [upd_ne a2.symm]; exact h.h3, by rw [upd_ne a3.symm]; exact h.h4, by rw [upd_ne a4.symm]; exact h.h5, fun e he => by rw [upd_ne (e1 e he).1.symm]; exact h.h6 e he⟩
/-- fewer lines near -/
theorem NearX.less (h : NearX cs H p room width rule s dx fa oa na wa) (q : NE → Bool) : NearX cs (upd H na (.dK ((s.near.filter q).map neKV))) p room width rule { s with near := s.near.filter q } dx fa oa na wa := by
  obtain ⟨a1, a2, a3, a4, b1, b2, b3, c1, c2, d1, e1⟩ := h.kinds
  have nd : (own p fa oa na wa (s.near.filter q)).Nodup := h.nd.sublist (by
    unfold own
    exact List.Sublist.cons₂ _ (List.Sublist.cons₂ _ (List.Sublist.cons₂ _ (List.Sublist.cons₂ _ (List.Sublist.cons₂ _ (List.filter_sublist.map _))))))
  refine ⟨nd, by rw [upd_ne a3]; exact h.h1, by rw [upd_ne b2]; exact h.h2, by rw [upd_ne c1]; exact h.h3, upd_same, by rw [upd_ne d1.symm]; exact h.h5, fun e he => ?_⟩
  have he' := (List.mem_filter.mp he).1
  rw [upd_ne (e1 e he').2.2.2.1.symm]
  exact h.h6 e he'
/-- one line more -/
theorem NearX.more (h : NearX cs H p room width rule s dx fa oa na wa) {a : Addr} (k : Int) (ns : List Int) (hn : H a = none) :
    NearX cs (upd (upd H a (.lst (ns.map V.int))) na (.dK ((s.near ++ [NE.mk k a ns]).map neKV))) p room width rule { s with near := s.near ++ [⟨k, a, ns⟩] } dx fa oa na wa := by
  obtain ⟨a1, a2, a3, a4, b1, b2, b3, c1, c2, d1, e1⟩ := h.kinds
  have fr : ∀ b, H b ≠ none → b ≠ a := fun b hb z => hb (by rw [z]; exact hn)
  have m1 := fr p (by rw [h.h1]; intro z; cases z)
  have m2 := fr fa (by rw [h.h2]; intro z; cases z)
  have m3 := fr oa (by rw [h.h3]; intro z; cases z)
  have m4 := fr na (by rw [h.h4]; intro z; cases z)
  have m5 := fr wa (by rw [h.h5]; intro z; cases z)
  have m6 : ∀ e ∈ s.near, e.a ≠ a := fun e he => fr e.a (by rw [h.h6 e he]; intro z; cases z)
  refine ⟨?_, ?_, ?_, ?_, upd_same, ?_, fun e he => ?_⟩
  · have e : own p fa oa na wa (s.near ++ [⟨k, a, ns⟩]) = own p fa oa na wa s.near ++ [a] := by
      unfold own
      simp
    show (own p fa oa na wa (s.near ++ [⟨k, a, ns⟩])).Nodup
    rw [e, List.nodup_append]
    refine ⟨h.nd, by simp, fun x hx y hy => ?_⟩
    simp only [List.mem_cons, List.not_mem_nil, or_false] at hy
    subst hy
    unfold own at hx
    simp only [List.mem_cons, List.mem_map] at hx
    rcases hx with rfl | rfl | rfl | rfl | rfl | ⟨e, he, rfl⟩
    · exact m1
    · exact m2
    · exact m3
    · exact m4
    · exact m5
    · exact m6 e he
  · rw [upd_ne a3, upd_ne m1]; exact h.h1
  · rw [upd_ne b2, upd_ne m2]; exact h.h2
  · rw [upd_ne c1, upd_ne m3]; exact h.h3
  · rw [upd_ne d1.symm, upd_ne m5]; exact h.h5
  · rcases List.mem_append.mp he with z | z
    · rw [upd_ne (e1 e z).2.2.2.1.symm, upd_ne (m6 e z)]
      exact h.h6 e z
    · simp only [List.mem_cons, List.not_mem_nil, or_false] at z
      subst z
      show (upd (upd H a (.lst (ns.map V.int))) na _) a = _
      rw [upd_ne m4.symm, upd_same]
/-- the numbers of a line -/
def setNE (near : List NE) (k : Int) (ns : List Int) : List NE := near.map fun e => if e.k = k then { e with ns := ns } else e
theorem setNE_a (near : List NE) (k : Int) (ns : List Int) : (setNE near k ns).map NE.a = near.map NE.a := by
  unfold setNE
  rw [List.map_map]
  refine List.map_congr_left fun e _ => ?_
  show (if e.k = k then { e with ns := ns } else e).a = e.a
  split <;> rfl
theorem setNE_kv (near : List NE) (k : Int) (ns : List Int) : (setNE near k ns).map neKV = near.map neKV := by
  unfold setNE
  rw [List.map_map]
  refine List.map_congr_left fun e _ => ?_
  show neKV (if e.k = k then { e with ns := ns } else e) = neKV e
  split <;> rfl
theorem setNE_k (near : List NE) (k : Int) (ns : List Int) : (setNE near k ns).map NE.k = near.map NE.k := by
  unfold setNE
  rw [List.map_map]
  refine List.map_congr_left fun e _ => ?_
  show (if e.k = k then { e with ns := ns } else e).k = e.k
  split <;> rfl
theorem NearX.nums (h : NearX cs H p room width rule s dx fa oa na wa) (hk : (s.near.map NE.k).Nodup) {e : NE} (he : e ∈ s.near) (ns : List Int) :
    NearX cs (upd H e.a (.lst (ns.map V.int))) p room width rule { s with near := setNE s.near e.k ns } dx fa oa na wa := by
  obtain ⟨a1, a2, a3, a4, b1, b2, b3, c1, c2, d1, e1⟩ := h.kinds
  have ea := e1 e he
  have hna : (s.near.map NE.a).Nodup := by
    have := h.nd
    unfold own at this
    simp only [List.nodup_cons] at this
    exact this.2.2.2.2.2
  refine ⟨?_, by rw [upd_ne ea.1]; exact h.h1, by rw [upd_ne ea.2.1]; exact h.h2, by rw [upd_ne ea.2.2.1]; exact h.h3, ?_, by rw [upd_ne ea.2.2.2.2]; exact h.h5, fun f hf => ?_⟩
  · show (own p fa oa na wa (setNE s.near e.k ns)).Nodup
    unfold own
    rw [setNE_a]
    exact h.nd
  · show (upd H e.a _) na = some (.dK ((setNE s.near e.k ns).map neKV))
    rw [setNE_kv, upd_ne ea.2.2.2.1]
    exact h.h4
  · obtain ⟨g, hg, rfl⟩ := List.mem_map.mp (show f ∈ s.near.map (fun f => if f.k = e.k then { f with ns := ns } else f) from hf)
    by_cases q : g.k = e.k
    · have eg : g = e := nodup_map_inj hk hg he q
      subst eg
      rw [if_pos rfl]
      exact upd_same
    · rw [if_neg q]
      have : g.a ≠ e.a := fun z => q (by rw [nodup_map_inj hna hg he z])
      rw [upd_ne this]
      exact h.h6 g hg
end
/-- what others know stays -/
def Bey (F : List Addr) (H : Hp) (F' : List Addr) (H' : Hp) : Prop := ∀ G : Hp, Same G H → (∀ b ∈ F, G b = none) → Same G H' ∧ ∀ b ∈ F', G b = none
theorem Bey.refl {F : List Addr} {H : Hp} : Bey F H F H := fun G s f => ⟨s, f⟩
theorem Bey.trans {F F' F'' : List Addr} {H H' H'' : Hp} (a : Bey F H F' H') (b : Bey F' H' F'' H'') : Bey F H F'' H'' := fun G s f => let ⟨s', f'⟩ := a G s f; b G s' f'
theorem Bey.same {F : List Addr} {H H' : Hp} (s : Same H H') : Bey F H F H' := fun G g f => ⟨g.trans s, f⟩
/-- an own place changes -/
theorem Bey.own {F : List Addr} {H : Hp} {a : Addr} {o : HO} (h : a ∈ F) : Bey F H F (upd H a o) := fun G g f => ⟨g.mut (f a h), f⟩
/-- a new own place -/
theorem Bey.new {F : List Addr} {H : Hp} {a : Addr} {o : HO} (h : H a = none) : Bey F H (F ++ [a]) (upd H a o) := fun G g f => ⟨g.mut (g.free h), fun b hb => by
  rcases List.mem_append.mp hb with z | z
  · exact f b z
  · simp only [List.mem_cons, List.not_mem_nil, or_false] at z
    rw [z]
    exact g.free h⟩
theorem Bey.sub {F F' F'' : List Addr} {H H' : Hp} (a : Bey F H F' H') (h : ∀ b ∈ F'', b ∈ F') : Bey F H F'' H' := fun G g f => let ⟨s', f'⟩ := a G g f; ⟨s', fun b hb => f' b (h b hb)⟩
section
variable {cs : Cs} {H H' : Hp} {p : Addr} {room width : Int} {rule : Str} {s : NS} {F : List Addr}
theorem NearAt.same (h : NearAt cs H p room width rule s F) (q : Same H H') : NearAt cs H' p room width rule s F := by
  obtain ⟨dx, fa, oa, na, wa, e, h⟩ := h
  exact ⟨dx, fa, oa, na, wa, e, h.nd, q _ _ h.h1, q _ _ h.h2, q _ _ h.h3, q _ _ h.h4, q _ _ h.h5, fun z hz => q _ _ (h.h6 z hz)⟩
/-- what another changes that is not owned -/
theorem NearAt.but (h : NearAt cs H p room width rule s F) {D : Addr} {o : HO} (n : D ∉ F) : NearAt cs (upd H D o) p room width rule s F := by
  obtain ⟨dx, fa, oa, na, wa, e, h⟩ := h
  have m : ∀ b, b ∈ own p fa oa na wa s.near → upd H D o b = H b := fun b hb => upd_ne fun z => n (by rw [← z, e]; exact hb)
  unfold own at m
  refine ⟨dx, fa, oa, na, wa, e, h.nd, ?_, ?_, ?_, ?_, ?_, fun z hz => ?_⟩
  · rw [m p (by simp)]; exact h.h1
  · rw [m fa (by simp)]; exact h.h2
  · rw [m oa (by simp)]; exact h.h3
  · rw [m na (by simp)]; exact h.h4
  · rw [m wa (by simp)]; exact h.h5
  · rw [m z.a (by simp only [List.mem_cons]; exact .inr (.inr (.inr (.inr (.inr (List.mem_map_of_mem hz))))))]; exact h.h6 z hz
theorem NearAt.dom (h : NearAt cs H p room width rule s F) : ∀ b ∈ F, H b ≠ none := by
  obtain ⟨dx, fa, oa, na, wa, e, h⟩ := h
  intro b hb z
  rw [e] at hb
  unfold own at hb
  simp only [List.mem_cons, List.mem_map] at hb
  rcases hb with rfl | rfl | rfl | rfl | rfl | ⟨e, he, rfl⟩
  · rw [h.h1] at z; cases z
  · rw [h.h2] at z; cases z
  · rw [h.h3] at z; cases z
  · rw [h.h4] at z; cases z
  · rw [h.h5] at z; cases z
  · rw [h.h6 e he] at z; cases z
end
/-! ### the dicts of a holder -/
theorem near_get : ∀ {near : List NE} {e : NE}, (near.map NE.k).Nodup → e ∈ near → valV (near.map neKV) (.inl e.k) = some (.ref e.a)
  | [], _, _, h => by cases h
  | f :: r, e, nd, h => by
    rw [List.map_cons, List.nodup_cons] at nd
    rcases List.mem_cons.mp h with z | z
    · subst z
      exact valV_pos rfl
    · have : ¬ (neKV f).1 = Sum.inl e.k := fun q => nd.1 (by
        have : f.k = e.k := Sum.inl.inj q
        rw [this]
        exact List.mem_map_of_mem z)
      rw [List.map_cons, valV_neg this]
      exact near_get nd.2 z
theorem near_none : ∀ {near : List NE} {k : Int}, k ∉ near.map NE.k → valV (near.map neKV) (.inl k) = none
  | [], _, _ => rfl
  | f :: r, k, h => by
    rw [List.map_cons, List.mem_cons, not_or] at h
    have : ¬ (neKV f).1 = Sum.inl k := fun q => h.1 (Sum.inl.inj q).symm
    rw [List.map_cons, valV_neg this]
    exact near_none h.2
theorem wr_get {k : Int} : ∀ w : List Int, valV (w.map wrKV) (.inl k) = if k ∈ w then some (.bl true) else none
  | [] => rfl
  | x :: r => by
    by_cases h : x = k
    · subst h
      rw [List.map_cons, valV_pos (show (wrKV x).1 = (Sum.inl x : Key) from rfl), if_pos List.mem_cons_self]
      rfl
    · have n : ¬ (wrKV x).1 = (Sum.inl k : Key) := fun q => h (Sum.inl.inj q)
      rw [List.map_cons, valV_neg n, wr_get r]
      have e : (k ∈ x :: r) ↔ k ∈ r := by
        rw [List.mem_cons]
        exact ⟨fun z => z.elim (fun q => absurd q.symm h) id, Or.inr⟩
      simp only [e]
def cutI (l : List Int) (k : Int) : List Int := l.filter fun z => !decide (z = k)
def cutN (l : List NE) (k : Int) : List NE := l.filter fun e => !decide (e.k = k)
theorem wr_drop (w : List Int) (k : Int) : dropK (w.map wrKV) (.inl k) = (cutI w k).map wrKV := by
  unfold dropK cutI
  rw [List.filter_map]
  congr 1
  refine List.filter_congr fun z _ => ?_
  show decide ((wrKV z).1 ≠ Sum.inl k) = !decide (z = k)
  by_cases h : z = k
  · subst h
    simp [wrKV]
  · have : ¬ (Sum.inl z : Key) = Sum.inl k := fun q => h (Sum.inl.inj q)
    simp [wrKV, h]
theorem near_drop (w : List NE) (k : Int) : dropK (w.map neKV) (.inl k) = (cutN w k).map neKV := by
  unfold dropK cutN
  rw [List.filter_map]
  congr 1
  refine List.filter_congr fun z _ => ?_
  show decide ((neKV z).1 ≠ Sum.inl k) = !decide (z.k = k)
  by_cases h : z.k = k
  · subst h
    simp [neKV]
  · have : ¬ (Sum.inl z.k : Key) = Sum.inl k := fun q => h (Sum.inl.inj q)
    simp [neKV, h]
def addI (w : List Int) (k : Int) : List Int := if k ∈ w then w else w ++ [k]
theorem wr_put (w : List Int) (k : Int) : putK (w.map wrKV) (.inl k) (.bl true) = (addI w k).map wrKV := by
  unfold addI
  by_cases h : k ∈ w
  · rw [if_pos h]
    unfold putK
    have : ((w.map wrKV).any fun kv => decide (kv.1 = Sum.inl k)) = true := by
      rw [valV_any, wr_get, if_pos h]
      rfl
    rw [if_pos this, List.map_map]
    refine List.map_congr_left fun z _ => ?_
    show (if (wrKV z).1 = Sum.inl k then ((wrKV z).1, V.bl true) else wrKV z) = wrKV z
    split <;> rfl
  · rw [if_neg h, putK_new _ (by rw [wr_get, if_neg h]), List.map_append]
    rfl
theorem near_put {w : List NE} {k : Int} {a : Addr} (ns : List Int) (h : k ∉ w.map NE.k) : putK (w.map neKV) (.inl k) (.ref a) = (w ++ [NE.mk k a ns]).map neKV := by
  rw [putK_new _ (near_none h), List.map_append]
  rfl
/-- what a line writes far -/
def setR (far : List Int) (first : Nat) (ns : List Int) : List Int := far.take first ++ ns ++ far.drop (first + ns.length)
theorem setR_step {far ns : List Int} {first i : Nat} {x : Int} (hx : ns[i]? = some x) (hl : first + ns.length ≤ far.length) :
    (far.take first ++ ns.take i ++ far.drop (first + i)).set (first + i) x = far.take first ++ ns.take (i + 1) ++ far.drop (first + (i + 1)) := by
  have hi : i < ns.length := (List.getElem?_eq_some_iff.mp hx).1
  have e1 : far.drop (first + i) = far[first + i]'(by omega) :: far.drop (first + i + 1) := List.drop_eq_getElem_cons (by omega)
  have l1 : (far.take first ++ ns.take i).length = first + i := by
    rw [List.length_append, List.length_take, List.length_take]
    omega
  rw [e1, List.set_append_right _ _ (by omega), l1, Nat.sub_self, List.set_cons_zero, List.take_add_one, hx]
  simp [List.append_assoc, Nat.add_assoc]
theorem setR_len {far ns : List Int} {first : Nat} (hl : first + ns.length ≤ far.length) : (setR far first ns).length = far.length := by
  unfold setR
  simp only [List.length_append, List.length_take, List.length_drop]
  omega
/-- a line written back -/
def wbS (width : Int) (e : NE) (s : NS) : NS := { s with far := setR s.far (e.k * width).toNat e.ns, written := cutI s.written e.k, back := s.back + 1 }
def sp_Near_write_back (K : PySem.W.Frag) (cs : Cs) : Sp := fun vs H Q _ => ∃ (p : Addr) (e : NE) (room width : Int) (rule : Str) (s : NS) (F : List Addr), vs = [.ref p, .int e.k] ∧ NearAt cs H p room width rule s F ∧ e ∈ s.near ∧ (s.near.map NE.k).Nodup ∧ e.k ∈ s.written ∧
  0 ≤ e.k * width ∧ (e.k * width).toNat + e.ns.length ≤ s.far.length ∧ s.far.length ≤ 1000 ∧ 0 < width ∧ width ≤ 1000 ∧
  ∀ H', NearAt cs H' p room width rule (wbS width e s) F → Bey F H F H' → Q .non H'
theorem ok_Near_write_back (T : Txt w K mg cs)  : Ok P w K mg base CX0 1 cs.f_Near_write_back cs.d_Near_write_back ["self", "line"] (sp_Near_write_back K cs) := by
  refine T.fn_Near_write_back.ok sc_Near_write_back (fun vs H Q E h => ?_) (fun cdv A outer s H vs Q E hr h => ?_)
  · obtain ⟨p, e, room, width, rule, s, F, rfl, _⟩ := h
    rfl
  · obtain ⟨p, e, room, width, rule, s, F, rfl, hN, he, hk, hw, h0, hfar, hfl, hw0, hw1, q⟩ := h
    have hu := hu_of hr
    refine ⟨_, (pss_cons (ps_set (i := 2) sc_Near_write_back.nd rfl (Or.inl rfl) (pe_dget hu (pe_fld (pv 0) rfl) (pv 1) (fun _ _ => rfl)))
      (pss_cons (ps_for PassesOwn.never rfl (pi_range1 (by rfl) T.no_range (pa_cons (pe_callB call_len_seq (by rfl) T.no_len PySem.boot_len (pa_cons (pv 2) pa_nil)) pa_nil)) (pg_name (i := 3) sc_Near_write_back.nd rfl (Or.inl rfl)) (pss_one (ps_asg (pe_ix ix_list (pv 2) (pv 3) (fun _ _ => rfl)) (pg_sub (pe_fld (pv 0) rfl) (pe_op op_add (pe_op op_mul (pv 1) (pe_fld (pv 0) rfl)) (pv 3)) set_list))))
      (pss_cons (ps_expr (pe_dpop1 (pe_fld (pv 0) rfl) (pv 1) ⟨by rfl, by rfl, by rfl, by rfl⟩))
      (pss_one (ps_fld (pv 0) (pe_op op_add (pe_fld (pv 0) rfl) pe_int) rfl))))), ?_⟩
    obtain ⟨dx, fa, oa, na, wa, eF, X⟩ := hN
    have hget := near_get hk he
    have ha := X.h6 e he
    have heF : ∀ b, b ∈ own p fa oa na wa s.near → b ∈ F := fun b hb => by rw [eF]; exact hb
    -- numbers
    refine ⟨_, rfl, p, cs.C_Near, dx, _, _, rfl, X.h1, T.cl_Near, T.na_Near_near, lk_near, _, rfl, na, .ref e.a, rfl, (by rw [← hget]; exact DGet.k (k := .inl e.k) X.h4), ?_⟩
    refine ⟨_, rfl, e.a, _, rfl, .inl (SqL.of ha), ((e.ns.map V.int).length : Nat), rfl, by omega, by rw [List.length_map]; omega, ?_⟩
    have e0 : (((e.ns.map V.int).length : Nat) : Int).toNat = e.ns.length := by rw [List.length_map]; rfl
    rw [e0]
    refine for_range (lo := 0) (n := e.ns.length) (fun i σ H' => ∃ v3, σ = [some (.ref p), some (.int e.k), some (.ref e.a), v3] ∧ NearX cs H' p room width rule { s with far := s.far.take (e.k * width).toNat ++ e.ns.take i ++ s.far.drop ((e.k * width).toNat + i) } dx fa oa na wa ∧ Bey F H F H') ?_ ?_ ?_
    · refine ⟨none, rfl, ?_, Bey.refl⟩
      have : s.far.take (e.k * width).toNat ++ e.ns.take 0 ++ s.far.drop ((e.k * width).toNat + 0) = s.far := by simp
      rw [this]
      exact X
    · rintro i σ H' hi ⟨v3, rfl, X', B'⟩
      obtain ⟨x, hx⟩ : ∃ x, e.ns[i]? = some x := ⟨e.ns[i], List.getElem?_eq_getElem hi⟩
      have hzi : (0 : Int) + (i : Int) = ((i : Nat) : Int) := Int.zero_add _
      have hl : (s.far.take (e.k * width).toNat ++ e.ns.take i ++ s.far.drop ((e.k * width).toNat + i)).length = s.far.length := by
        simp only [List.length_append, List.length_take, List.length_drop]
        omega
      refine ⟨_, rfl, _, rfl, e.a, _, _, _, rfl, rfl, SqL.of (X'.h6 e he), at_of hzi (nl_get_map hx), ?_⟩
      refine ⟨_, rfl, p, cs.C_Near, dx, _, _, rfl, X'.h1, T.cl_Near, T.na_Near_far, lk_far, _, rfl, _, rfl, p, cs.C_Near, dx, _, _, rfl, X'.h1, T.cl_Near, T.na_Near_width, lk_width, _, _, rfl, rfl, .inr ⟨by omega, by omega⟩, _, rfl, _, _, rfl, rfl, ?_⟩
      refine ⟨fa, _, _, (e.k * width).toNat + i, rfl, rfl, X'.h2, ?_, ?_⟩
      · have := ix_nat (n := ((s.far.take (e.k * width).toNat ++ e.ns.take i ++ s.far.drop ((e.k * width).toNat + i)).map V.int).length) (j := (e.k * width).toNat + i) (by rw [List.length_map, hl]; omega)
        rw [← this]
        congr 1
        omega
      · refine ⟨_, rfl, ?_, B'.trans (Bey.own (heF fa (by unfold own; simp)))⟩
        have e2 := setR_step hx hfar
        have := X'.far (s.far.take (e.k * width).toNat ++ e.ns.take (i + 1) ++ s.far.drop ((e.k * width).toNat + (i + 1)))
        rw [← e2, List.map_set] at this
        rw [← e2]
        exact this
    · rintro σ H' ⟨v3, rfl, X', B'⟩
      rw [List.take_length] at X'
      have hwg : valV (s.written.map wrKV) (.inl e.k) = some (.bl true) := by rw [wr_get, if_pos hw]
      refine ⟨_, rfl, p, cs.C_Near, dx, _, _, rfl, X'.h1, T.cl_Near, T.na_Near_written, lk_written, wa, rfl, .inl ⟨_, .inl X'.h5⟩, _, rfl, _, .inl e.k, _, X'.h5, rfl, hwg, ?_⟩
      rw [wr_drop]
      have X2 := X'.wr (cutI s.written e.k)
      refine ⟨_, rfl, p, cs.C_Near, dx, _, _, rfl, X2.h1, T.cl_Near, T.na_Near_back, lk_back, _, _, rfl, rfl, _, rfl, p, cs.C_Near, dx, _, rfl, X2.h1, T.cl_Near, T.na_Near_back, (by show 10 < 1000; decide), ?_⟩
      rw [pf_back]
      refine q _ ⟨dx, fa, oa, na, wa, eF, X2.fs _ _ _⟩ ((B'.trans (Bey.own (heF wa (by unfold own; simp)))).trans (Bey.own (heF p (by unfold own; simp))))
/-! ### leave, touched -/
def numsK (near : List NE) (k : Int) : List Int := match near.find? (fun e => decide (e.k = k)) with
  | some e => e.ns
  | none => []
theorem numsK_of : ∀ {near : List NE} {e : NE}, (near.map NE.k).Nodup → e ∈ near → numsK near e.k = e.ns
  | [], _, _, h => by cases h
  | f :: r, e, nd, h => by
    unfold numsK
    rw [List.map_cons, List.nodup_cons] at nd
    rcases List.mem_cons.mp h with z | z
    · subst z
      rw [List.find?_cons_of_pos (by simp)]
    · have : ¬ f.k = e.k := fun q => nd.1 (by
        rw [q]
        exact List.mem_map_of_mem z)
      rw [List.find?_cons_of_neg (by simp [this])]
      exact numsK_of nd.2 z
def wbK (width k : Int) (s : NS) : NS := { s with far := setR s.far (k * width).toNat (numsK s.near k), written := cutI s.written k, back := s.back + 1 }
def leaveS (width k : Int) (s : NS) : NS :=
  { (if k ∈ s.written then wbK width k s else s) with order := cutI s.order k, near := cutN s.near k }
def sliceI (far : List Int) (first w : Nat) : List Int := (far.drop first).take w
/-- the state behind a touch; a: where a new line's numbers are laid -/
def missS (room width line : Int) (s : NS) : NS := if (s.order.length : Int) = room then leaveS width (s.order.getD 0 0) { s with missed := s.missed + 1 } else { s with missed := s.missed + 1 }
def touchS (room width : Int) (least : Bool) (box : Int) (a : Addr) (s : NS) : NS :=
  if box / width ∈ s.order then { s with found := s.found + 1, order := if least then cutI s.order (box / width) ++ [box / width] else s.order }
  else { missS room width (box / width) s with near := (missS room width (box / width) s).near ++ [NE.mk (box / width) a (sliceI (missS room width (box / width) s).far (box / width * width).toNat width.toNat)], order := (missS room width (box / width) s).order ++ [box / width] }
/-- what always holds of a holder -/
structure NOk (room width : Int) (size : Nat) (s : NS) : Prop where
  r0 : 0 < room
  r1 : room ≤ 1000
  w0 : 0 < width
  w1 : width ≤ 1000
  fl : s.far.length = size
  sz : size ≤ 1000
  keys : (s.near.map NE.k).Nodup
  ord : s.order.Nodup
  same : ∀ k, k ∈ s.order ↔ k ∈ s.near.map NE.k
  wr : ∀ k ∈ s.written, k ∈ s.order
  wnd : s.written.Nodup
  ent : ∀ e ∈ s.near, 0 ≤ e.k ∧ e.k * width < (size : Int) ∧ (e.ns.length : Int) = min width ((size : Int) - e.k * width)
  len : (s.order.length : Int) ≤ room
theorem cutI_mem {l : List Int} {k z : Int} : z ∈ cutI l k ↔ z ∈ l ∧ z ≠ k := by
  unfold cutI
  rw [List.mem_filter]
  simp
theorem cutN_keys (l : List NE) (k : Int) : (cutN l k).map NE.k = cutI (l.map NE.k) k := by
  unfold cutN cutI
  rw [List.filter_map]
  rfl
theorem cutI_nodup {l : List Int} (k : Int) (h : l.Nodup) : (cutI l k).Nodup := h.sublist List.filter_sublist
theorem NOk.near_of {room width : Int} {size : Nat} {s : NS} (h : NOk room width size s) {k : Int} (hk : k ∈ s.order) : ∃ e ∈ s.near, e.k = k := by
  obtain ⟨e, he, q⟩ := List.mem_map.mp ((h.same k).mp hk)
  exact ⟨e, he, q⟩
theorem NOk.fit {room width : Int} {size : Nat} {s : NS} (h : NOk room width size s) {e : NE} (he : e ∈ s.near) : 0 ≤ e.k * width ∧ (e.k * width).toNat + e.ns.length ≤ s.far.length := by
  obtain ⟨h1, h2, h3⟩ := h.ent e he
  have hw := h.w0
  have h0 : 0 ≤ e.k * width := Int.mul_nonneg h1 (by omega)
  refine ⟨h0, ?_⟩
  rw [h.fl]
  omega
theorem NOk.wb {room width : Int} {size : Nat} {s : NS} (h : NOk room width size s) {k : Int} (hk : k ∈ s.order) : NOk room width size (wbK width k s) := by
  obtain ⟨e, he, rfl⟩ := h.near_of hk
  obtain ⟨h0, hf⟩ := h.fit he
  refine ⟨h.r0, h.r1, h.w0, h.w1, ?_, h.sz, h.keys, h.ord, h.same, fun z hz => h.wr z (cutI_mem.mp hz).1, cutI_nodup _ h.wnd, h.ent, h.len⟩
  show (setR s.far (e.k * width).toNat (numsK s.near e.k)).length = size
  rw [numsK_of h.keys he, setR_len hf]
  exact h.fl
theorem NOk.leave {room width : Int} {size : Nat} {s : NS} (h : NOk room width size s) {k : Int} (hk : k ∈ s.order) : NOk room width size (leaveS width k s) := by
  have h' : NOk room width size (if k ∈ s.written then wbK width k s else s) := by
    split
    · exact h.wb hk
    · exact h
  refine ⟨h.r0, h.r1, h.w0, h.w1, h'.fl, h.sz, ?_, cutI_nodup _ h.ord, fun z => ?_, fun z hz => ?_, h'.wnd, fun e he => h.ent e (List.mem_filter.mp he).1, ?_⟩
  · show ((cutN s.near k).map NE.k).Nodup
    rw [cutN_keys]
    exact cutI_nodup _ h.keys
  · show z ∈ cutI s.order k ↔ z ∈ (cutN s.near k).map NE.k
    rw [cutN_keys, cutI_mem, cutI_mem, h.same]
  · have hz' : z ∈ (if k ∈ s.written then wbK width k s else s).written := hz
    split at hz'
    · obtain ⟨h1, h2⟩ := cutI_mem.mp (show z ∈ cutI s.written k from hz')
      exact cutI_mem.mpr ⟨h.wr z h1, h2⟩
    · rename_i hn
      exact cutI_mem.mpr ⟨h.wr z hz', fun q => hn (by rw [← q]; exact hz')⟩
  · have := h.len
    have h2 : (cutI s.order k).length ≤ s.order.length := List.length_filter_le _ _
    show ((cutI s.order k).length : Int) ≤ room
    omega
theorem cutI_len {l : List Int} {k : Int} (hn : l.Nodup) (h : k ∈ l) : (cutI l k).length + 1 = l.length := by
  have e : cutI l k = l.eraseIdx (l.idxOf k) := filter_erase hn h
  have hlt := List.idxOf_lt_length_of_mem h
  rw [e, List.length_eraseIdx_of_lt hlt]
  omega
theorem getD0_mem {l : List Int} (h : 0 < l.length) : l.getD 0 0 ∈ l := by
  cases l with
  | nil => exact absurd h (by decide)
  | cons x r => exact List.mem_cons_self
theorem NOk.missed {room width : Int} {size : Nat} {s : NS} (h : NOk room width size s) (m : Int) : NOk room width size { s with missed := m } := ⟨h.r0, h.r1, h.w0, h.w1, h.fl, h.sz, h.keys, h.ord, h.same, h.wr, h.wnd, h.ent, h.len⟩
theorem NOk.miss {room width : Int} {size : Nat} {s : NS} (h : NOk room width size s) (line : Int) : NOk room width size (missS room width line s) ∧ ((missS room width line s).order.length : Int) < room ∧ ∀ k ∈ (missS room width line s).order, k ∈ s.order := by
  unfold missS
  have hr := h.r0
  have hl := h.len
  split
  · rename_i c
    have hm := getD0_mem (l := s.order) (by omega)
    refine ⟨(h.missed _).leave hm, ?_, fun k hk => (cutI_mem.mp hk).1⟩
    have := cutI_len h.ord hm
    show ((cutI s.order (s.order.getD 0 0)).length : Int) < room
    omega
  · exact ⟨h.missed _, by show (s.order.length : Int) < room; omega, fun k hk => hk⟩
theorem NOk.touch {room width : Int} {size : Nat} {s : NS} (h : NOk room width size s) (least : Bool) {box : Int} (h0 : 0 ≤ box) (h1 : box < (size : Int)) (a : Addr) : NOk room width size (touchS room width least box a s) := by
  have hw := h.w0
  unfold touchS
  split
  · rename_i hin
    cases least with
    | false => exact ⟨h.r0, h.r1, h.w0, h.w1, h.fl, h.sz, h.keys, h.ord, h.same, h.wr, h.wnd, h.ent, h.len⟩
    | true =>
      have hmem : ∀ z, z ∈ cutI s.order (box / width) ++ [box / width] ↔ z ∈ s.order := fun z => by
        rw [List.mem_append, cutI_mem]
        simp only [List.mem_cons, List.not_mem_nil, or_false]
        constructor
        · rintro (⟨q, _⟩ | q)
          · exact q
          · rw [q]; exact hin
        · intro q
          by_cases e : z = box / width
          · exact .inr e
          · exact .inl ⟨q, e⟩
      refine ⟨h.r0, h.r1, h.w0, h.w1, h.fl, h.sz, h.keys, ?_, fun z => (hmem z).trans (h.same z), fun z hz => (hmem z).mpr (h.wr z hz), h.wnd, h.ent, ?_⟩
      · show (cutI s.order (box / width) ++ [box / width]).Nodup
        rw [List.nodup_append]
        refine ⟨cutI_nodup _ h.ord, by simp, fun x hx y hy => ?_⟩
        simp only [List.mem_cons, List.not_mem_nil, or_false] at hy
        rw [hy]
        exact (cutI_mem.mp hx).2
      · show ((cutI s.order (box / width) ++ [box / width]).length : Int) ≤ room
        have := cutI_len h.ord hin
        have := h.len
        rw [List.length_append]
        simp only [List.length_cons, List.length_nil]
        omega
  · rename_i hnot
    obtain ⟨g, hlt, hsub⟩ := h.miss (box / width)
    generalize missS room width (box / width) s = s1 at *
    have hno : box / width ∉ s1.order := fun z => hnot (hsub _ z)
    have hd0 : 0 ≤ box / width := Int.ediv_nonneg h0 (by omega)
    have hd1 : box / width * width ≤ box := Int.ediv_mul_le box (by omega)
    have hd2 : 0 ≤ box / width * width := Int.mul_nonneg hd0 (by omega)
    have hmem : ∀ z, z ∈ s1.order ++ [box / width] ↔ z ∈ s1.order ∨ z = box / width := fun z => by
      rw [List.mem_append]
      simp only [List.mem_cons, List.not_mem_nil, or_false]
    have hko : (s1.near ++ [NE.mk (box / width) a (sliceI s1.far (box / width * width).toNat width.toNat)]).map NE.k = s1.near.map NE.k ++ [box / width] := by
      rw [List.map_append]
      rfl
    refine ⟨h.r0, h.r1, h.w0, h.w1, g.fl, g.sz, ?_, ?_, fun z => ?_, fun z hz => (hmem z).mpr (.inl (g.wr z hz)), g.wnd, fun e he => ?_, ?_⟩
    · show ((s1.near ++ [NE.mk (box / width) a _]).map NE.k).Nodup
      rw [hko, List.nodup_append]
      refine ⟨g.keys, by simp, fun x hx y hy => ?_⟩
      simp only [List.mem_cons, List.not_mem_nil, or_false] at hy
      rw [hy]
      exact fun q => hno ((g.same _).mpr (by rw [← q]; exact hx))
    · show (s1.order ++ [box / width]).Nodup
      rw [List.nodup_append]
      refine ⟨g.ord, by simp, fun x hx y hy => ?_⟩
      simp only [List.mem_cons, List.not_mem_nil, or_false] at hy
      rw [hy]
      exact fun q => hno (by rw [← q]; exact hx)
    · show z ∈ s1.order ++ [box / width] ↔ z ∈ (s1.near ++ [NE.mk (box / width) a _]).map NE.k
      rw [hko, hmem, List.mem_append, g.same]
      simp only [List.mem_cons, List.not_mem_nil, or_false]
    · rcases List.mem_append.mp he with q | q
      · exact g.ent e q
      · simp only [List.mem_cons, List.not_mem_nil, or_false] at q
        subst q
        refine ⟨hd0, by show box / width * width < _; omega, ?_⟩
        show ((sliceI s1.far (box / width * width).toNat width.toNat).length : Int) = min width ((size : Int) - box / width * width)
        unfold sliceI
        rw [List.length_take, List.length_drop, g.fl]
        omega
    · show ((s1.order ++ [box / width]).length : Int) ≤ room
      rw [List.length_append]
      simp only [List.length_cons, List.length_nil]
      omega
theorem wbS_eq {width : Int} {e : NE} {s : NS} (hk : (s.near.map NE.k).Nodup) (he : e ∈ s.near) : wbS width e s = wbK width e.k s := by
  unfold wbS wbK
  rw [numsK_of hk he]
theorem idx_noI {x : Int} {xs : List Int} (m : Nat) (hm : m < xs.idxOf x) : xs[m]? ≠ some x := fun h => by
  have := idx_first hm h
  simp at this
theorem own_less {p fa oa na wa : Addr} {near : List NE} {q : NE → Bool} : ∀ b ∈ own p fa oa na wa (near.filter q), b ∈ own p fa oa na wa near := fun b hb => by
  unfold own at hb ⊢
  simp only [List.mem_cons, List.mem_map] at hb ⊢
  rcases hb with h | h | h | h | h | ⟨e, he, h⟩
  · exact .inl h
  · exact .inr (.inl h)
  · exact .inr (.inr (.inl h))
  · exact .inr (.inr (.inr (.inl h)))
  · exact .inr (.inr (.inr (.inr (.inl h))))
  · exact .inr (.inr (.inr (.inr (.inr ⟨e, (List.mem_filter.mp he).1, h⟩))))
def sp_Near_leave (K : PySem.W.Frag) (cs : Cs) : Sp := fun vs H Q _ => ∃ (p : Addr) (k room width : Int) (size : Nat) (rule : Str) (s : NS) (F : List Addr), vs = [.ref p, .int k] ∧ NearAt cs H p room width rule s F ∧ NOk room width size s ∧ k ∈ s.order ∧
  ∀ H' F', NearAt cs H' p room width rule (leaveS width k s) F' → Bey F H F' H' → Q .non H'
theorem ok_Near_leave (T : Txt w K mg cs) (o_Near_write_back : Ok P w K mg base CX0 1 cs.f_Near_write_back cs.d_Near_write_back ["self", "line"] (sp_Near_write_back K cs)) : Ok P w K mg base CX0 2 cs.f_Near_leave cs.d_Near_leave ["self", "line"] (sp_Near_leave K cs) := by
  refine T.fn_Near_leave.ok sc_Near_leave (fun vs H Q E h => ?_) (fun cdv A outer s H vs Q E hr h => ?_)
  · obtain ⟨p, k, room, width, size, rule, s, F, rfl, _⟩ := h
    rfl
  · obtain ⟨p, k, room, width, size, rule, s, F, rfl, hN, ok, hin, q⟩ := h
    have hu := hu_of hr
    refine ⟨_, (pss_cutS (ps_if (pt_cmp (pc_din hu (pv 1) (pe_fld (pv 0) rfl))) (pss_one (ps_expr (pe_methO o_Near_write_back T.cl_Near T.me_Near_write_back hr pass0 (pv 0) (pa_cons (pv 1) pa_nil)))) pss_nil)
      (pss_cons (ps_expr (pe_bm PySem.F.plainAttrs_list PySem.F.slot_list_remove PySem.F.type_list_remove mt_remove (pe_fld (pv 0) rfl) (pa_cons (pv 1) pa_nil)))
      (pss_one (ps_expr (pe_dpop1 (pe_fld (pv 0) rfl) (pv 1) ⟨by rfl, by rfl, by rfl, by rfl⟩))))), ?_⟩
    obtain ⟨e, he, rfl⟩ := ok.near_of hin
    obtain ⟨h0, hf⟩ := ok.fit he
    have w0 := ok.w0
    have w1 := ok.w1
    refine ⟨fun σ' H' => σ' = [some (.ref p), some (.int e.k)] ∧ NearAt cs H' p room width rule (if e.k ∈ s.written then wbK width e.k s else s) F ∧ Bey F H F H', ?_, ?_⟩
    · obtain ⟨dx, fa, oa, na, wa, eF, X⟩ := id hN
      refine ⟨_, rfl, _, rfl, p, cs.C_Near, dx, _, _, rfl, X.h1, T.cl_Near, T.na_Near_written, lk_written, wa, _, rfl, DGet.k (k := .inl e.k) X.h5, _, rfl, ?_⟩
      rw [wr_get]
      by_cases hw : e.k ∈ s.written
      · rw [show (if e.k ∈ s.written then some (V.bl true) else none).isSome = true by rw [if_pos hw]; rfl]
        refine iteT ⟨_, rfl, p, dx, _, rfl, X.h1, rfl, _, rfl, p, e, room, width, rule, s, F, rfl, hN, he, ok.keys, hw, h0, hf, by have := ok.fl; have := ok.sz; omega, w0, w1, fun H' hN' hB => ?_⟩
        rw [wbS_eq ok.keys he] at hN'
        rw [if_pos hw]
        exact ⟨rfl, hN', hB⟩
      · rw [show (if e.k ∈ s.written then some (V.bl true) else none).isSome = false by rw [if_neg hw]; rfl]
        refine iteF ⟨rfl, ?_, Bey.refl⟩
        rw [if_neg hw]
        exact hN
    rintro σ' H' ⟨rfl, hN', hB⟩
    obtain ⟨s1, hs1⟩ : ∃ s1, s1 = (if e.k ∈ s.written then wbK width e.k s else s) := ⟨_, rfl⟩
    have ho : s1.order = s.order := by rw [hs1]; split <;> rfl
    have hn : s1.near = s.near := by rw [hs1]; split <;> rfl
    have hfin : ({ s1 with order := cutI s1.order e.k, near := cutN s1.near e.k } : NS) = leaveS width e.k s := by
      rw [ho, hn, hs1]
      rfl
    rw [← hs1] at hN'
    obtain ⟨dx, fa, oa, na, wa, eF, X⟩ := hN'
    have hin1 : e.k ∈ s1.order := by rw [ho]; exact hin
    have nd1 : s1.order.Nodup := by rw [ho]; exact ok.ord
    refine ⟨_, rfl, p, cs.C_Near, dx, _, _, rfl, X.h1, T.cl_Near, T.na_Near_order, lk_order, .inl ⟨rfl, _, SqL.of X.h3⟩, _, rfl, oa, s1.order, e.k, _, rfl, rfl, X.h3, idx_get hin1, idx_noI, ?_⟩
    have X2 := X.order (cutI s1.order e.k)
    rw [← filter_erase nd1 hin1]
    have hget : valV (s1.near.map neKV) (.inl e.k) = some (.ref e.a) := by rw [hn]; exact near_get ok.keys he
    refine ⟨_, rfl, p, cs.C_Near, dx, _, _, rfl, X2.h1, T.cl_Near, T.na_Near_near, lk_near, na, rfl, .inl ⟨_, .inl X2.h4⟩, _, rfl, _, .inl e.k, _, X2.h4, rfl, hget, ?_⟩
    rw [near_drop]
    have X3 := X2.less (fun z => !decide (z.k = e.k))
    refine q _ _ ⟨dx, fa, oa, na, wa, rfl, ?_⟩ ?_
    · rw [← hfin]
      exact X3
    · have b1 : Bey F H' F (upd H' oa (.lst ((cutI s1.order e.k).map V.int))) := Bey.own (by rw [eF]; unfold own; simp)
      have b2 : Bey F (upd H' oa (.lst ((cutI s1.order e.k).map V.int))) F (upd (upd H' oa (.lst ((cutI s1.order e.k).map V.int))) na (.dK ((cutN s1.near e.k).map neKV))) := Bey.own (by rw [eF]; unfold own; simp)
      refine (hB.trans (b1.trans b2)).sub fun b hb => ?_
      rw [eF]
      have : (leaveS width e.k s).near = s1.near.filter (fun z => !decide (z.k = e.k)) := by rw [← hfin]; rfl
      rw [this] at hb
      exact own_less b hb
theorem cutV_slice (xs : List Int) (i j : Nat) : cutV (xs.map V.int) (some (i : Int)) (some ((i : Int) + (j : Int))) = (sliceI xs i j).map V.int := by
  have h1 : HT.sIx (xs.map V.int).length 0 (some (i : Int)) = min i xs.length := by rw [HT.sIx_nat, List.length_map]
  have h2 : HT.sIx (xs.map V.int).length (xs.map V.int).length (some ((i : Int) + (j : Int))) = min (i + j) xs.length := by
    rw [show (i : Int) + (j : Int) = ((i + j : Nat) : Int) by omega, HT.sIx_nat, List.length_map]
  unfold cutV sliceI
  rw [h1, h2, List.map_take, List.map_drop]
  by_cases h : i ≤ xs.length
  · rw [Nat.min_eq_left h]
    by_cases h3 : i + j ≤ xs.length
    · rw [Nat.min_eq_left h3, Nat.add_sub_cancel_left]
    · rw [Nat.min_eq_right (by omega), List.take_of_length_le (by rw [List.length_drop, List.length_map]; exact Nat.le_refl _), List.take_of_length_le (by rw [List.length_drop, List.length_map]; omega)]
  · rw [List.drop_eq_nil_of_le (by rw [List.length_map]; omega), List.drop_eq_nil_of_le (by rw [List.length_map]; omega)]
    simp
def leastB (rule : Str) : Bool := decide (rule = "least")
def sp_Near_touched (K : PySem.W.Frag) (cs : Cs) : Sp := fun vs H Q E => ∃ (p : Addr) (x : V) (room width : Int) (size : Nat) (rule : Str) (s : NS) (F : List Addr), vs = [.ref p, x] ∧ Typ K H x ∧ NearAt cs H p room width rule s F ∧ NOk room width size s ∧
  (∀ i, x = .int i → 0 ≤ i → i < (size : Int) → ∀ H' F' a, NearAt cs H' p room width rule (touchS room width (leastB rule) i a s) F' → Bey F H F' H' → Q (.int (i / width)) H') ∧
  (wIn x 0 ((size : Int) - 1) = false → ∀ H', Same H H' → E (.ref cs.C_NoBox) none H')
theorem ok_Near_touched (T : Txt w K mg cs) (o_within : Ok P w K mg base CX0 1 cs.f_within cs.d_within ["number", "low", "high"] (sp_within K cs)) (o_Near_leave : Ok P w K mg base CX0 2 cs.f_Near_leave cs.d_Near_leave ["self", "line"] (sp_Near_leave K cs)) : Ok P w K mg base (L2.CX P w) 3 cs.f_Near_touched cs.d_Near_touched ["self", "box"] (sp_Near_touched K cs) := by
  refine T.fn_Near_touched.okX sc_Near_touched (fun vs H Q E h => ?_) (fun cdv A outer s H vs Q E hr h => ?_)
  · obtain ⟨p, x, room, width, size, rule, s, F, rfl, _⟩ := h
    rfl
  · obtain ⟨p, x, room, width, size, rule, s, F, rfl, ty, hN, ok, kQ, kE⟩ := h
    have hu := hu_of hr
    refine ⟨_, (pss_cons (ps_if (pt_not (pt_val (pe_callO o_within (hr.mono (by decide)) (by rfl) T.gl_within pass0 (pa_cons (pv 1) (pa_cons pe_int (pa_cons (pe_op op_sub (pe_callB call_len_seq (by rfl) T.no_len PySem.boot_len (pa_cons (pe_fld (pv 0) rfl) pa_nil)) pe_int) pa_nil)))))) (pss_one (ps_raise rfl (takes_of rfl rfl rfl rfl) (pmk_own PySem.F.excBase_ValueError T.ex_NoBox.x T.ex_NoBox.g T.ex_NoBox.k (raises_own T.ex_NoBox.b T.ex_NoBox.t) (by rfl)))) pss_nil)
      (pss_cons (ps_set (i := 2) sc_Near_touched.nd rfl (Or.inl rfl) (pe_op op_fdiv (pv 1) (pe_fld (pv 0) rfl)))
      (pss_cutS (ps_if (pt_cmp (pc_din hu (pv 2) (pe_fld (pv 0) rfl))) (pss_cons (ps_fld (pv 0) (pe_op op_add (pe_fld (pv 0) rfl) pe_int) rfl)
      (pss_one (ps_if (pt_cmpR op_eq (pe_fld (pv 0) rfl) pe_str (nomark _)) (pss_cons (ps_expr (pe_bm PySem.F.plainAttrs_list PySem.F.slot_list_remove PySem.F.type_list_remove mt_remove (pe_fld (pv 0) rfl) (pa_cons (pv 2) pa_nil)))
      (pss_one (ps_expr (pe_bm PySem.F.plainAttrs_list PySem.F.slot_list_append PySem.F.type_list_append mt_append (pe_fld (pv 0) rfl) (pa_cons (pv 2) pa_nil))))) pss_nil))) (pss_cons (ps_fld (pv 0) (pe_op op_add (pe_fld (pv 0) rfl) pe_int) rfl)
      (pss_cutS (ps_if (pt_cmpR op_eq (pe_callB call_len_seq (by rfl) T.no_len PySem.boot_len (pa_cons (pe_fld (pv 0) rfl) pa_nil)) (pe_fld (pv 0) rfl) (nomark _)) (pss_one (ps_expr (pe_methO o_Near_leave T.cl_Near T.me_Near_leave hr pass0 (pv 0) (pa_cons (pe_ix ix_list (pe_fld (pv 0) rfl) pe_int (fun _ _ => rfl)) pa_nil)))) pss_nil)
      (pss_cons (ps_set (i := 3) sc_Near_touched.nd rfl (Or.inl rfl) (pe_op op_mul (pv 2) (pe_fld (pv 0) rfl)))
      (pss_cons (ps_dput hu (pe_fld (pv 0) rfl) (pv 2) (pe_slice sl_list (pe_fld (pv 0) rfl) (po_some (pv 3)) (po_some (pe_op op_add (pv 3) (pe_fld (pv 0) rfl)))) rfl)
      (pss_one (ps_expr (pe_bm PySem.F.plainAttrs_list PySem.F.slot_list_append PySem.F.type_list_append mt_append (pe_fld (pv 0) rfl) (pa_cons (pv 2) pa_nil)))))))))
      (pss_one (ps_ret (pv 2)))))), ?_⟩
    have w0 := ok.w0
    have w1 := ok.w1
    have hfl := ok.fl
    have hsz := ok.sz
    obtain ⟨dx, fa, oa, na, wa, eF, X⟩ := id hN
    refine ⟨_, rfl, _, rfl, p, cs.C_Near, dx, _, _, rfl, X.h1, T.cl_Near, T.na_Near_far, lk_far, fa, _, rfl, .inl (SqL.of X.h2), _, _, rfl, rfl, x, 0, (size : Int) - 1, ?_, ty, _, rfl, ?_⟩
    · rw [List.length_map, hfl]
    refine iteBN (fun c => kE c _ (Same.refl _)) (fun c => ?_)
    obtain ⟨i, rfl, hi0, hi1⟩ := wIn_int c
    have hi1' : i < (size : Int) := by omega
    -- line
    refine ⟨_, rfl, _, rfl, p, cs.C_Near, dx, _, _, rfl, X.h1, T.cl_Near, T.na_Near_width, lk_width, _, _, rfl, rfl, ⟨w0, by omega⟩, ?_⟩
    refine ⟨fun σ' H' => ∃ v3 F' a, σ' = [some (.ref p), some (.int i), some (.int (i / width)), v3] ∧ NearAt cs H' p room width rule (touchS room width (leastB rule) i a s) F' ∧ Bey F H F' H', ?_, ?_⟩
    · refine ⟨_, rfl, _, rfl, p, cs.C_Near, dx, _, _, rfl, X.h1, T.cl_Near, T.na_Near_near, lk_near, na, _, rfl, DGet.k (k := .inl (i / width)) X.h4, _, rfl, ?_⟩
      by_cases hin : i / width ∈ s.order
      · obtain ⟨e, he, hek⟩ := ok.near_of hin
        have hg : (valV (s.near.map neKV) (.inl (i / width))).isSome = true := by rw [← hek, near_get ok.keys he]; rfl
        rw [hg]
        refine iteT ?_
        -- found
        refine ⟨_, rfl, p, cs.C_Near, dx, _, _, rfl, X.h1, T.cl_Near, T.na_Near_found, lk_found, _, _, rfl, rfl, _, rfl, p, cs.C_Near, dx, _, rfl, X.h1, T.cl_Near, T.na_Near_found, (by show 10 < 1000; decide), ?_⟩
        rw [pf_found]
        have X2 := X.fs (s.found + 1) s.missed s.back
        have b1 : Bey F H F (upd H p (.ins cs.C_Near dx (nearFs fa room width rule oa na wa (s.found + 1) s.missed s.back))) := Bey.own (by rw [eF]; unfold own; simp)
        generalize upd H p (.ins cs.C_Near dx (nearFs fa room width rule oa na wa (s.found + 1) s.missed s.back)) = H2 at *
        refine ⟨_, rfl, p, cs.C_Near, dx, _, _, rfl, X2.h1, T.cl_Near, T.na_Near_rule, lk_rule, rfl, _, rfl, iteD (fun c2 => ?_) (fun c2 => ?_)⟩
        · have hl : leastB rule = true := decide_eq_true (V.str.inj c2)
          refine ⟨_, rfl, p, cs.C_Near, dx, _, _, rfl, X2.h1, T.cl_Near, T.na_Near_order, lk_order, .inl ⟨rfl, _, SqL.of X2.h3⟩, _, rfl, oa, s.order, i / width, _, rfl, rfl, X2.h3, idx_get hin, idx_noI, ?_⟩
          rw [← filter_erase ok.ord hin]
          have X3 := X2.order (cutI s.order (i / width))
          have b2 : Bey F H2 F (upd H2 oa (.lst ((cutI s.order (i / width)).map V.int))) := Bey.own (by rw [eF]; unfold own; simp)
          have hol := ok.len
          have hr1 := ok.r1
          refine ⟨_, rfl, p, cs.C_Near, dx, _, _, rfl, X3.h1, T.cl_Near, T.na_Near_order, lk_order, .inl ⟨rfl, _, SqL.of X3.h3⟩, _, rfl, oa, _, _, rfl, rfl, X3.h3, sizeL (by rw [List.length_map]; have : (cutI s.order (i / width)).length ≤ s.order.length := List.length_filter_le _ _; show (cutI s.order (i / width)).length < 1000000; omega), ?_⟩
          have X4 := X3.order (cutI s.order (i / width) ++ [i / width])
          have b3 : Bey F (upd H2 oa (.lst ((cutI s.order (i / width)).map V.int))) F (upd (upd H2 oa (.lst ((cutI s.order (i / width)).map V.int))) oa (.lst ((cutI s.order (i / width) ++ [i / width]).map V.int))) := Bey.own (by rw [eF]; unfold own; simp)
          rw [List.map_append] at X4 b3
          refine ⟨_, F, 0, rfl, ⟨dx, fa, oa, na, wa, ?_, ?_⟩, (b1.trans b2).trans b3⟩
          · rw [eF]
            unfold touchS
            rw [if_pos hin]
          · unfold touchS
            rw [if_pos hin, hl]
            exact X4
        · have hl : leastB rule = false := decide_eq_false fun z => c2 (congrArg V.str z)
          refine ⟨_, F, 0, rfl, ⟨dx, fa, oa, na, wa, ?_, ?_⟩, b1⟩
          · rw [eF]
            unfold touchS
            rw [if_pos hin]
          · unfold touchS
            rw [if_pos hin, hl]
            exact X2
      · have hnk : i / width ∉ s.near.map NE.k := fun z => hin ((ok.same _).mpr z)
        have hg : (valV (s.near.map neKV) (.inl (i / width))).isSome = false := by rw [near_none hnk]; rfl
        rw [hg]
        refine iteF ?_
        -- missed
        refine ⟨_, rfl, p, cs.C_Near, dx, _, _, rfl, X.h1, T.cl_Near, T.na_Near_missed, lk_missed, _, _, rfl, rfl, _, rfl, p, cs.C_Near, dx, _, rfl, X.h1, T.cl_Near, T.na_Near_missed, (by show 10 < 1000; decide), ?_⟩
        rw [pf_missed]
        have X2 := X.fs s.found (s.missed + 1) s.back
        have b1 : Bey F H F (upd H p (.ins cs.C_Near dx (nearFs fa room width rule oa na wa s.found (s.missed + 1) s.back))) := Bey.own (by rw [eF]; unfold own; simp)
        generalize upd H p (.ins cs.C_Near dx (nearFs fa room width rule oa na wa s.found (s.missed + 1) s.back)) = H2 at *
        have ok2 : NOk room width size { s with missed := s.missed + 1 } := ok.missed _
        have hN2 : NearAt cs H2 p room width rule { s with missed := s.missed + 1 } F := ⟨dx, fa, oa, na, wa, eF, X2⟩
        refine ⟨fun σ' H' => ∃ F', σ' = [some (.ref p), some (.int i), some (.int (i / width)), none] ∧ NearAt cs H' p room width rule (missS room width (i / width) s) F' ∧ Bey F H F' H', ?_, ?_⟩
        · refine ⟨_, rfl, p, cs.C_Near, dx, _, _, rfl, X2.h1, T.cl_Near, T.na_Near_order, lk_order, oa, _, rfl, .inl (SqL.of X2.h3), _, rfl, p, cs.C_Near, dx, _, _, rfl, X2.h1, T.cl_Near, T.na_Near_room, lk_room, rfl, _, rfl, iteD (fun c2 => ?_) (fun c2 => ?_)⟩
          · have c3 : (s.order.length : Int) = room := by
              have := V.int.inj c2
              rwa [List.length_map] at this
            have hr0 := ok.r0
            have hm := getD0_mem (l := s.order) (by omega)
            have hat : atI (s.order.map V.int) 0 = some (.int (s.order.getD 0 0)) := at_getD (i := 0) (by omega) (by omega)
            refine ⟨_, rfl, p, dx, _, rfl, X2.h1, rfl, _, rfl, p, cs.C_Near, dx, _, _, rfl, X2.h1, T.cl_Near, T.na_Near_order, lk_order, oa, _, _, _, rfl, rfl, SqL.of X2.h3, hat, p, _, room, width, size, rule, _, F, rfl, hN2, ok2, hm, fun H3 F3 hN3 hB3 => ?_⟩
            refine ⟨F3, rfl, ?_, b1.trans hB3⟩
            unfold missS
            rw [if_pos c3]
            exact hN3
          · have c3 : ¬ (s.order.length : Int) = room := fun z => c2 (by rw [List.length_map, z])
            refine ⟨F, rfl, ?_, b1⟩
            unfold missS
            rw [if_neg c3]
            exact hN2
        rintro σ' H3 ⟨F3, rfl, hN3, b3⟩
        obtain ⟨ok3, hlt, hsub⟩ := ok.miss (i / width)
        have hts : ∀ a, touchS room width (leastB rule) i a s = { missS room width (i / width) s with near := (missS room width (i / width) s).near ++ [NE.mk (i / width) a (sliceI (missS room width (i / width) s).far (i / width * width).toNat width.toNat)], order := (missS room width (i / width) s).order ++ [i / width] } := fun a => by
          unfold touchS
          rw [if_neg hin]
        generalize missS room width (i / width) s = s3 at *
        obtain ⟨dx3, fa3, oa3, na3, wa3, eF3, X3⟩ := hN3
        have hd0 : 0 ≤ i / width := Int.ediv_nonneg hi0 (by omega)
        have hd1 : i / width * width ≤ i := Int.ediv_mul_le i (by omega)
        have hd2 : 0 ≤ i / width * width := Int.mul_nonneg hd0 (by omega)
        have hnk3 : i / width ∉ s3.near.map NE.k := fun z => hin (hsub _ ((ok3.same _).mpr z))
        -- first, near[line] = far[first:first + width]
        refine ⟨_, rfl, _, rfl, p, cs.C_Near, dx3, _, _, rfl, X3.h1, T.cl_Near, T.na_Near_width, lk_width, _, _, rfl, rfl, .inr ⟨by omega, by omega⟩, ?_⟩
        have hcut : cutV (s3.far.map V.int) (some (i / width * width)) (some (i / width * width + width)) = (sliceI s3.far (i / width * width).toNat width.toNat).map V.int := by
          have := cutV_slice s3.far (i / width * width).toNat width.toNat
          rwa [Int.toNat_of_nonneg hd2, Int.toNat_of_nonneg (show 0 ≤ width by omega)] at this
        refine ⟨_, rfl, p, cs.C_Near, dx3, _, _, rfl, X3.h1, T.cl_Near, T.na_Near_far, lk_far, _, rfl, _, rfl, _, rfl, _, rfl, p, cs.C_Near, dx3, _, _, rfl, X3.h1, T.cl_Near, T.na_Near_width, lk_width, _, _, rfl, rfl, _, rfl, fa3, _, rfl, SqL.of X3.h2, fun g ng => ?_⟩
        rw [hcut]
        have b4 : Bey F3 H3 (F3 ++ [g]) (upd H3 g (.lst ((sliceI s3.far (i / width * width).toNat width.toNat).map V.int))) := Bey.new ng
        have s4 : Same H3 (upd H3 g (.lst ((sliceI s3.far (i / width * width).toNat width.toNat).map V.int))) := Same.new ng
        have X4 := X3.more (i / width) (sliceI s3.far (i / width * width).toNat width.toNat) ng
        have hnl : s3.near.length ≤ 1000 := by
          have h1 := (List.perm_ext_iff_of_nodup ok3.ord ok3.keys).mpr ok3.same
          have h2 := h1.length_eq
          rw [List.length_map] at h2
          have := ok3.len
          have := ok3.r1
          omega
        refine ⟨_, rfl, p, cs.C_Near, dx3, _, _, rfl, s4 _ _ X3.h1, T.cl_Near, T.na_Near_near, lk_near, _, rfl, na3, _, rfl, DPut.k (k := .inl (i / width)) (s4 _ _ X3.h4) (by rw [List.length_map]; exact sizeL (by omega)), ?_⟩
        rw [near_put (sliceI s3.far (i / width * width).toNat width.toNat) hnk3]
        have b5 : Bey (F3 ++ [g]) (upd H3 g (.lst ((sliceI s3.far (i / width * width).toNat width.toNat).map V.int))) (F3 ++ [g]) (upd (upd H3 g (.lst ((sliceI s3.far (i / width * width).toNat width.toNat).map V.int))) na3 (.dK ((s3.near ++ [NE.mk (i / width) g (sliceI s3.far (i / width * width).toNat width.toNat)]).map neKV))) := Bey.own (by rw [eF3]; unfold own; simp)
        have hol := ok3.len
        have hr1 := ok3.r1
        refine ⟨_, rfl, p, cs.C_Near, dx3, _, _, rfl, X4.h1, T.cl_Near, T.na_Near_order, lk_order, .inl ⟨rfl, _, SqL.of X4.h3⟩, _, rfl, oa3, _, _, rfl, rfl, X4.h3, sizeL (by rw [List.length_map]; show s3.order.length < 1000000; omega), ?_⟩
        have X5 := X4.order (s3.order ++ [i / width])
        rw [show (s3.order ++ [i / width]).map V.int = s3.order.map V.int ++ [V.int (i / width)] from List.map_append] at X5
        refine ⟨_, F3 ++ [g], g, rfl, ⟨dx3, fa3, oa3, na3, wa3, ?_, ?_⟩, b3.trans (b4.trans (b5.trans (Bey.own (by rw [eF3]; unfold own; simp))))⟩
        · rw [eF3, hts]
          unfold own
          simp
        · rw [hts]
          exact X5
    rintro σ' H' ⟨v3, F', a, rfl, hN', hB'⟩
    exact ⟨_, rfl, kQ i rfl hi0 hi1' _ F' a hN' hB'⟩
/-! ### need_shape, Near.__init__, look, put, held -/
/-! ### need_shape -/
def ruleOk : V → Bool
  | .str z => decide (z = "least") || decide (z = "first")
  | _ => false
def shapeOk (x y r : V) : Bool := wIn x 1 200 && wIn y 1 200 && ruleOk r
def sp_need_shape (K : PySem.W.Frag) (cs : Cs) : Sp := fun vs H Q E => ∃ x y r : V, vs = [x, y, r] ∧ Typ K H x ∧ Typ K H y ∧ Typ K H r ∧ (shapeOk x y r = true → Q .non H) ∧ (shapeOk x y r = false → ∀ H', Same H H' → E (.ref cs.C_BadShape) none H')
theorem rules_in (z : Str) : inV (.str z) [V.str "least", V.str "first"] = (decide (z = "least") || decide (z = "first")) := by
  have e : ∀ a : Str, eqV (.str a) (.str z) = decide (z = a) := fun a => by
    show (a == z) = _
    by_cases h : z = a
    · subst h
      simp
    · have : ¬ a = z := fun q => h q.symm
      simp [h, this]
  show ([V.str "least", V.str "first"].any fun y => eqV y (.str z)) = _
  simp only [List.any_cons, List.any_nil, e, Bool.or_false]
theorem ok_need_shape (T : Txt w K mg cs) (o_within : Ok P w K mg base CX0 1 cs.f_within cs.d_within ["number", "low", "high"] (sp_within K cs)) : Ok P w K mg base (L2.CX P w) 2 cs.f_need_shape cs.d_need_shape ["room", "width", "rule"] (sp_need_shape K cs) := by
  refine T.fn_need_shape.okX sc_need_shape (fun vs H Q E h => ?_) (fun cdv A outer s H vs Q E hr h => ?_)
  · obtain ⟨x, y, r, rfl, _⟩ := h
    rfl
  · obtain ⟨x, y, r, rfl, tx, ty, ⟨t, tr, ht⟩, kQ, kE⟩ := h
    refine ⟨_, (pss_cons (ps_if (pt_jn (PW.pt (pw_or (pt_not (pt_val (pe_callO o_within hr (by rfl) T.gl_within pass0 (pa_cons (pv 0) (pa_cons pe_int (pa_cons (pe_glob (v := .int 200) (by rfl) (T.gl_WIDEST).choose_spec ⟨_, rfl⟩) pa_nil)))))) (pw_or1 (pt_not (pt_val (pe_callO o_within hr (by rfl) T.gl_within pass0 (pa_cons (pv 1) (pa_cons pe_int (pa_cons (pe_glob (v := .int 200) (by rfl) (T.gl_WIDEST).choose_spec ⟨_, rfl⟩) pa_nil)))))))))) (pss_one (ps_raise rfl (takes_of rfl rfl rfl rfl) (pmk_own PySem.F.excBase_ValueError T.ex_BadShape.x T.ex_BadShape.g T.ex_BadShape.k (raises_own T.ex_BadShape.b T.ex_BadShape.t) (by rfl)))) pss_nil)
      (pss_one (ps_if (pt_jn (PW.pt (pw_or (pt_not (pt_val (pe_callB call_isi (by rfl) T.no_isinstance boot_isinstance (pa_cons (pv 2) (pa_cons (pe_bltn (v := .ty "str") (by rfl) T.no_str boot_str rfl) pa_nil))))) (pw_or1 (pt_cmpR op_notIn_seq (pv 2) (pe_glob (v := .ref cs.a_RULES) (by rfl) T.gl_RULES rfl) (by rfl)))))) (pss_one (ps_raise rfl (takes_of rfl rfl rfl rfl) (pmk_own PySem.F.excBase_ValueError T.ex_BadShape.x T.ex_BadShape.g T.ex_BadShape.k (raises_own T.ex_BadShape.b T.ex_BadShape.t) (by rfl)))) pss_nil))), ?_⟩
    refine ⟨fun b H' => H' = H ∧ b = !(wIn x 1 200 && wIn y 1 200), ?_, ?_⟩
    · refine ⟨_, rfl, x, 1, 200, rfl, tx, _, rfl, iteBN (fun c => ?_) (fun c => ?_)⟩
      · rw [c]
        exact ⟨rfl, rfl⟩
      · refine ⟨_, rfl, y, 1, 200, rfl, ty, _, rfl, rfl, ?_⟩
        rw [c, Bool.true_and]
    rintro b H' ⟨rfl, rfl⟩
    refine iteBN (fun c => ?_) (fun c => ?_)
    · refine kE ?_ _ (Same.refl _)
      unfold shapeOk
      rw [c, Bool.false_and]
    have es : shapeOk x y r = ruleOk r := by
      unfold shapeOk
      rw [c, Bool.true_and]
    refine ⟨fun b H2 => H2 = H' ∧ b = !(shapeOk x y r), ?_, ?_⟩
    · refine ⟨_, rfl, _, _, _, _, _, rfl, .ty "str", tr, kit_str ht, _, rfl, iteBN (fun c2 => ?_) (fun c2 => ?_)⟩
      · have e : shapeOk x y r = false := by
          rw [es]
          cases r with
          | str z =>
            rw [Value.type.inj (ty_of_str tr)] at c2
            exact absurd c2 (by decide)
          | _ => rfl
        rw [e]
        exact ⟨rfl, rfl⟩
      · have e : t = "str" := by simpa using c2
        subst e
        obtain ⟨z, rfl⟩ := typ_str tr
        refine ⟨_, rfl, cs.a_RULES, _, rfl, .inr (.inr T.tp_RULES), rfl, rfl, _, rfl, rfl, ?_⟩
        rw [es]
        exact congrArg Bool.not (rules_in z)
    rintro b H2 ⟨rfl, rfl⟩
    refine iteBN (fun c2 => kE c2 _ (Same.refl _)) (fun c2 => kQ c2)
def newS (far : List Int) : NS := ⟨far, [], [], [], 0, 0, 0⟩
theorem goodBoxes_ints : ∀ {ys : List V}, (ys.all fun y => wIn y 0 999999) = true → ∃ far : List Int, ys = far.map V.int ∧ ∀ i ∈ far, 0 ≤ i ∧ i ≤ 999999
  | [], _ => ⟨[], rfl, fun i h => by cases h⟩
  | y :: r, h => by
    rw [List.all_cons, Bool.and_eq_true] at h
    obtain ⟨i, rfl, h0, h1⟩ := wIn_int h.1
    obtain ⟨far, rfl, q⟩ := goodBoxes_ints h.2
    exact ⟨i :: far, rfl, fun j hj => (List.mem_cons.mp hj).elim (fun z => by rw [z]; exact ⟨h0, h1⟩) (q j)⟩
def sp_Near___init__ (K : PySem.W.Frag) (cs : Cs) : Sp := fun vs H Q E => ∃ (p dx b : Addr) (ys : List V) (x y r : V), vs = [.ref p, .ref b, x, y, r] ∧ H p = some (.ins cs.C_Near dx []) ∧ SqL K H b ys ∧ (∀ v ∈ ys, Typ K H v) ∧ ys.length ≤ 1000 ∧ Typ K H x ∧ Typ K H y ∧ Typ K H r ∧
  (goodBoxes ys = true → shapeOk x y r = true → ∀ H' F' room width rule far, x = .int room → y = .int width → r = .str rule → ys = far.map V.int → NearAt cs H' p room width rule (newS far) F' → Bey [p] H F' H' → Q .non H') ∧
  (goodBoxes ys = false → ∀ H', Same H H' → E (.ref cs.C_BadBoxes) none H') ∧ (goodBoxes ys = true → shapeOk x y r = false → ∀ H', Bey [p] H [p] H' → E (.ref cs.C_BadShape) none H')
theorem ok_Near___init__ (T : Txt w K mg cs) (o_checked_boxes : Ok P w K mg base (L2.CX P w) 2 cs.f_checked_boxes cs.d_checked_boxes ["boxes"] (sp_checked_boxes K cs)) (o_need_shape : Ok P w K mg base (L2.CX P w) 2 cs.f_need_shape cs.d_need_shape ["room", "width", "rule"] (sp_need_shape K cs)) : Ok P w K mg base (L2.CX P w) 3 cs.f_Near___init__ cs.d_Near___init__ ["self", "boxes", "room", "width", "rule"] (sp_Near___init__ K cs) := by
  refine T.fn_Near___init__.okX sc_Near___init__ (fun vs H Q E h => ?_) (fun cdv A outer s H vs Q E hr h => ?_)
  · obtain ⟨p, dx, b, ys, x, y, r, rfl, _⟩ := h
    rfl
  · obtain ⟨p, dx, b, ys, x, y, r, rfl, hp, hS, hT, hl, tx, ty, tr, kQ, kE1, kE2⟩ := h
    refine ⟨_, (pss_cons (ps_fld (pv 0) (pe_callO o_checked_boxes hr (by rfl) T.gl_checked_boxes (passes_call (takes_of rfl rfl rfl rfl) fun _ _ _ _ h => h) (pa_cons (pv 1) pa_nil)) rfl)
      (pss_cons (ps_expr (pe_callO o_need_shape hr (by rfl) T.gl_need_shape (passes_call (takes_of rfl rfl rfl rfl) fun _ _ _ _ h => h) (pa_cons (pv 2) (pa_cons (pv 3) (pa_cons (pv 4) pa_nil)))))
      (pss_cons (ps_fld (pv 0) (pv 2) rfl)
      (pss_cons (ps_fld (pv 0) (pv 3) rfl)
      (pss_cons (ps_fld (pv 0) (pv 4) rfl)
      (pss_cons (ps_fld (pv 0) (pe_lst pa_nil) rfl)
      (pss_cons (ps_fld (pv 0) pe_dnewK rfl)
      (pss_cons (ps_fld (pv 0) pe_dnewK rfl)
      (pss_cons (ps_fld (pv 0) pe_int rfl)
      (pss_cons (ps_fld (pv 0) pe_int rfl)
      (pss_one (ps_fld (pv 0) pe_int rfl)))))))))))), ?_⟩
    refine ⟨_, rfl, b, ys, rfl, hS, hT, hl, fun H1 q hgood s1 nq hq => ?_, fun H1 hb s1 => kE1 hb H1 s1⟩
    refine ⟨_, rfl, p, cs.C_Near, dx, [], rfl, s1 _ _ hp, T.cl_Near, T.na_Near_far, (by decide), ?_⟩
    have hqp : q ≠ p := fun e => by
      rw [e, hp] at nq
      cases nq
    have hp1 := s1 _ _ hp
    have ne : ∀ {o : HO}, Bey [p] H [p] (upd H1 p o) := fun {o} => (Bey.same s1).trans (Bey.own (by simp))
    refine ⟨_, rfl, _, rfl, _, rfl, x, y, r, rfl, (tx.same s1).but hp1, (ty.same s1).but hp1, (tr.same s1).but hp1, fun hok => ?_, fun hok H2 s2 => kE2 hgood hok H2 (ne.trans (Bey.same s2))⟩
    obtain ⟨room, width, rule, rfl, rfl, rfl⟩ : ∃ room width rule, x = .int room ∧ y = .int width ∧ r = .str rule := by
      unfold shapeOk at hok
      rw [Bool.and_eq_true, Bool.and_eq_true] at hok
      obtain ⟨⟨h1, h2⟩, h3⟩ := hok
      obtain ⟨i, rfl, _⟩ := wIn_int h1
      obtain ⟨j, rfl, _⟩ := wIn_int h2
      cases r with
      | str z => exact ⟨i, j, z, rfl, rfl, rfl⟩
      | _ => cases h3
    obtain ⟨far, hfar, _⟩ := goodBoxes_ints (ys := ys) (by
      unfold goodBoxes at hgood
      rw [Bool.and_eq_true] at hgood
      exact hgood.2)
    subst hfar
    -- the fields
    refine ⟨_, rfl, _, rfl, p, cs.C_Near, dx, _, rfl, upd_same, T.cl_Near, T.na_Near_room, (by show 1 < 1000; decide), ?_⟩
    refine ⟨_, rfl, _, rfl, p, cs.C_Near, dx, _, rfl, upd_same, T.cl_Near, T.na_Near_width, (by show 2 < 1000; decide), ?_⟩
    refine ⟨_, rfl, _, rfl, p, cs.C_Near, dx, _, rfl, upd_same, T.cl_Near, T.na_Near_rule, (by show 3 < 1000; decide), ?_⟩
    refine ⟨Nat.zero_le _, fun oa noa => ?_⟩
    have hop : p ≠ oa := ne_of_none upd_same noa
    have hoq : q ≠ oa := ne_of_none (by simp only [upd_ne hqp]; exact hq) noa
    refine ⟨_, rfl, p, cs.C_Near, dx, _, rfl, (by rw [upd_ne hop]; exact upd_same), T.cl_Near, T.na_Near_order, (by show 4 < 1000; decide), fun na nna => ?_⟩
    have hnp : p ≠ na := ne_of_none upd_same nna
    have hnq : q ≠ na := ne_of_none (by simp only [upd_ne hqp, upd_ne hoq]; exact hq) nna
    have hno : oa ≠ na := ne_of_none (by rw [upd_ne hop.symm]; exact upd_same) nna
    refine ⟨_, rfl, p, cs.C_Near, dx, _, rfl, (by rw [upd_ne hnp]; exact upd_same), T.cl_Near, T.na_Near_near, (by show 5 < 1000; decide), fun wa nwa => ?_⟩
    have hwp : p ≠ wa := ne_of_none upd_same nwa
    have hwq : q ≠ wa := ne_of_none (by simp only [upd_ne hqp, upd_ne hoq, upd_ne hnq]; exact hq) nwa
    have hwo : oa ≠ wa := ne_of_none (by simp only [upd_ne hop.symm, upd_ne hno]; exact upd_same) nwa
    have hwn : na ≠ wa := ne_of_none (by rw [upd_ne hnp.symm]; exact upd_same) nwa
    refine ⟨_, rfl, p, cs.C_Near, dx, _, rfl, (by rw [upd_ne hwp]; exact upd_same), T.cl_Near, T.na_Near_written, (by show 6 < 1000; decide), ?_⟩
    refine ⟨_, rfl, p, cs.C_Near, dx, _, rfl, upd_same, T.cl_Near, T.na_Near_found, (by show 7 < 1000; decide), ?_⟩
    refine ⟨_, rfl, p, cs.C_Near, dx, _, rfl, upd_same, T.cl_Near, T.na_Near_missed, (by show 8 < 1000; decide), ?_⟩
    refine ⟨_, rfl, p, cs.C_Near, dx, _, rfl, upd_same, T.cl_Near, T.na_Near_back, (by show 9 < 1000; decide), ?_⟩
    refine kQ hgood hok _ (own p q oa na wa []) room width rule far rfl rfl rfl rfl ⟨dx, q, oa, na, wa, rfl, ?_, ?_, ?_, ?_, ?_, ?_, fun e he => by cases he⟩ ?_
    · show [p, q, oa, na, wa].Nodup
      simp only [List.nodup_cons, List.mem_cons, List.not_mem_nil, or_false, not_or, not_false_eq_true, List.nodup_nil, and_true]
      exact ⟨⟨hqp.symm, hop, hnp, hwp⟩, ⟨hoq, hnq, hwq⟩, ⟨hno, hwo⟩, hwn⟩
    · exact upd_same
    · simp only [upd_ne hqp, upd_ne hoq, upd_ne hnq, upd_ne hwq]
      exact hq
    · simp only [upd_ne hop.symm, upd_ne hno, upd_ne hwo]
      exact upd_same
    · simp only [upd_ne hnp.symm, upd_ne hwn]
      exact upd_same
    · simp only [upd_ne hwp.symm]
      exact upd_same
    · intro G g f
      have fp : G p = none := f p (by simp)
      have fq : G q = none := g.free nq
      have fo : G oa = none := (((((g.trans s1).mut fp).mut fp).mut fp).mut fp).free noa
      have fn : G na = none := (((((((g.trans s1).mut fp).mut fp).mut fp).mut fp).mut fo).mut fp).free nna
      have fw : G wa = none := (((((((((g.trans s1).mut fp).mut fp).mut fp).mut fp).mut fo).mut fp).mut fn).mut fp).free nwa
      refine ⟨(((((((((((((g.trans s1).mut fp).mut fp).mut fp).mut fp).mut fo).mut fp).mut fn).mut fp).mut fw).mut fp).mut fp).mut fp).mut fp, fun b hb => ?_⟩
      unfold own at hb
      simp only [List.mem_cons, List.map_nil, List.not_mem_nil, or_false] at hb
      rcases hb with rfl | rfl | rfl | rfl | rfl
      · exact fp
      · exact fq
      · exact fo
      · exact fn
      · exact fw
/-! ### look, put, held -/
def offN (width i : Int) : Nat := (i - i / width * width).toNat
/-- the number read -/
def lookV (width i : Int) (s : NS) : Int := (numsK s.near (i / width)).getD (offN width i) 0
def putS (width i n : Int) (s : NS) : NS := { s with near := setNE s.near (i / width) ((numsK s.near (i / width)).set (offN width i) n), written := addI s.written (i / width) }
theorem touch_has {room width : Int} {least : Bool} {i : Int} {a : Addr} {s : NS} : i / width ∈ (touchS room width least i a s).order := by
  unfold touchS
  split
  · rename_i h
    cases least with
    | true => exact List.mem_append_right _ List.mem_cons_self
    | false => exact h
  · exact List.mem_append_right _ List.mem_cons_self
theorem off_ok {room width : Int} {size : Nat} {s : NS} (ok : NOk room width size s) {e : NE} (he : e ∈ s.near) {i : Int} (h1 : i < (size : Int)) (hk : e.k = i / width) : 0 ≤ i - i / width * width ∧ offN width i < e.ns.length ∧ ((offN width i : Nat) : Int) = i - i / width * width := by
  have w0 := ok.w0
  obtain ⟨_, _, h⟩ := ok.ent e he
  rw [hk] at h
  have h2 : i / width * width ≤ i := Int.ediv_mul_le i (by omega)
  have h3 : i - i / width * width < width := by
    have h4 := Int.emod_lt_of_pos i w0
    have h5 := Int.emod_def i width
    rw [Int.mul_comm] at h5
    omega
  unfold offN
  omega
def sp_Near_look (K : PySem.W.Frag) (cs : Cs) : Sp := fun vs H Q E => ∃ (p : Addr) (x : V) (room width : Int) (size : Nat) (rule : Str) (s : NS) (F : List Addr), vs = [.ref p, x] ∧ Typ K H x ∧ NearAt cs H p room width rule s F ∧ NOk room width size s ∧
  (∀ i, x = .int i → 0 ≤ i → i < (size : Int) → ∀ H' F' a, NearAt cs H' p room width rule (touchS room width (leastB rule) i a s) F' → Bey F H F' H' → Q (.int (lookV width i (touchS room width (leastB rule) i a s))) H') ∧
  (wIn x 0 ((size : Int) - 1) = false → ∀ H', Same H H' → E (.ref cs.C_NoBox) none H')
theorem ok_Near_look (T : Txt w K mg cs) (o_Near_touched : Ok P w K mg base (L2.CX P w) 3 cs.f_Near_touched cs.d_Near_touched ["self", "box"] (sp_Near_touched K cs)) : Ok P w K mg base (L2.CX P w) 4 cs.f_Near_look cs.d_Near_look ["self", "box"] (sp_Near_look K cs) := by
  refine T.fn_Near_look.okX sc_Near_look (fun vs H Q E h => ?_) (fun cdv A outer s H vs Q E hr h => ?_)
  · obtain ⟨p, x, room, width, size, rule, s, F, rfl, _⟩ := h
    rfl
  · obtain ⟨p, x, room, width, size, rule, s, F, rfl, ty, hN, ok, kQ, kE⟩ := h
    have hu := hu_of hr
    refine ⟨_, (pss_cons (ps_set (i := 2) sc_Near_look.nd rfl (Or.inl rfl) (pe_methO o_Near_touched T.cl_Near T.me_Near_touched hr (passes_call (takes_of rfl rfl rfl rfl) fun _ _ _ _ h => h) (pv 0) (pa_cons (pv 1) pa_nil)))
      (pss_one (ps_ret (pe_ix ix_list (pe_dget hu (pe_fld (pv 0) rfl) (pv 2) (fun _ _ => rfl)) (pe_op op_sub (pv 1) (pe_op op_mul (pv 2) (pe_fld (pv 0) rfl))) (fun _ _ => rfl))))), ?_⟩
    have hdom := fun (H' : Hp) (h : H' p = H' p) => h
    obtain ⟨dx0, fa0, oa0, na0, wa0, eF0, X0⟩ := id hN
    refine ⟨_, rfl, p, dx0, _, rfl, X0.h1, rfl, _, rfl, p, x, room, width, size, rule, s, F, rfl, ty, hN, ok, fun i ex h0 h1 H' F' a hN' hB' => ?_, kE⟩
    subst ex
    have ok' := ok.touch (leastB rule) h0 h1 a
    have hin : i / width ∈ (touchS room width (leastB rule) i a s).order := touch_has
    have kq := kQ i rfl h0 h1 H' F' a hN' hB'
    generalize touchS room width (leastB rule) i a s = s' at *
    obtain ⟨dx, fa, oa, na, wa, eF, X⟩ := hN'
    obtain ⟨e, he, hek⟩ := ok'.near_of hin
    have w0 := ok.w0
    have w1 := ok.w1
    obtain ⟨o1, o2, o3⟩ := off_ok ok' he h1 hek
    have hget := near_get ok'.keys he
    rw [hek] at hget
    have hnum := numsK_of ok'.keys he
    rw [hek] at hnum
    have hat : atI (e.ns.map V.int) (i - i / width * width) = some (.int (lookV width i s')) := by
      unfold lookV
      rw [hnum]
      exact at_of o3.symm (int_getD o2)
    refine ⟨_, rfl, p, cs.C_Near, dx, _, _, rfl, X.h1, T.cl_Near, T.na_Near_near, lk_near, _, rfl, na, .ref e.a, rfl, (by rw [← hget]; exact DGet.k (k := .inl (i / width)) X.h4), ?_⟩
    exact ⟨_, rfl, _, rfl, _, rfl, p, cs.C_Near, dx, _, _, rfl, X.h1, T.cl_Near, T.na_Near_width, lk_width, _, _, rfl, rfl, .inr ⟨by omega, by omega⟩, _, _, rfl, rfl, e.a, _, _, _, rfl, rfl, SqL.of (X.h6 e he), hat, kq⟩
def sp_Near_put (K : PySem.W.Frag) (cs : Cs) : Sp := fun vs H Q E => ∃ (p : Addr) (x : V) (n room width : Int) (size : Nat) (rule : Str) (s : NS) (F : List Addr), vs = [.ref p, x, .int n] ∧ Typ K H x ∧ NearAt cs H p room width rule s F ∧ NOk room width size s ∧
  (∀ i, x = .int i → 0 ≤ i → i < (size : Int) → ∀ H' F' a, NearAt cs H' p room width rule (putS width i n (touchS room width (leastB rule) i a s)) F' → Bey F H F' H' → Q .non H') ∧
  (wIn x 0 ((size : Int) - 1) = false → ∀ H', Same H H' → E (.ref cs.C_NoBox) none H')
theorem ok_Near_put (T : Txt w K mg cs) (o_Near_touched : Ok P w K mg base (L2.CX P w) 3 cs.f_Near_touched cs.d_Near_touched ["self", "box"] (sp_Near_touched K cs)) : Ok P w K mg base (L2.CX P w) 4 cs.f_Near_put cs.d_Near_put ["self", "box", "number"] (sp_Near_put K cs) := by
  refine T.fn_Near_put.okX sc_Near_put (fun vs H Q E h => ?_) (fun cdv A outer s H vs Q E hr h => ?_)
  · obtain ⟨p, x, n, room, width, size, rule, s, F, rfl, _⟩ := h
    rfl
  · obtain ⟨p, x, n, room, width, size, rule, s, F, rfl, ty, hN, ok, kQ, kE⟩ := h
    have hu := hu_of hr
    refine ⟨_, (pss_cons (ps_set (i := 3) sc_Near_put.nd rfl (Or.inl rfl) (pe_methO o_Near_touched T.cl_Near T.me_Near_touched hr (passes_call (takes_of rfl rfl rfl rfl) fun _ _ _ _ h => h) (pv 0) (pa_cons (pv 1) pa_nil)))
      (pss_cons (ps_asg (pv 2) (pg_sub (pe_dget hu (pe_fld (pv 0) rfl) (pv 3) (fun _ _ => rfl)) (pe_op op_sub (pv 1) (pe_op op_mul (pv 3) (pe_fld (pv 0) rfl))) set_list))
      (pss_one (ps_dput hu (pe_fld (pv 0) rfl) (pv 3) pe_bl rfl)))), ?_⟩
    obtain ⟨dx0, fa0, oa0, na0, wa0, eF0, X0⟩ := id hN
    refine ⟨_, rfl, p, dx0, _, rfl, X0.h1, rfl, _, rfl, p, x, room, width, size, rule, s, F, rfl, ty, hN, ok, fun i ex h0 h1 H' F' a hN' hB' => ?_, kE⟩
    subst ex
    have ok' := ok.touch (leastB rule) h0 h1 a
    have hin : i / width ∈ (touchS room width (leastB rule) i a s).order := touch_has
    have kq := fun H2 F2 h b => kQ i rfl h0 h1 H2 F2 a h (hB'.trans b)
    generalize touchS room width (leastB rule) i a s = s' at *
    obtain ⟨dx, fa, oa, na, wa, eF, X⟩ := hN'
    obtain ⟨e, he, hek⟩ := ok'.near_of hin
    have w0 := ok.w0
    have w1 := ok.w1
    obtain ⟨o1, o2, o3⟩ := off_ok ok' he h1 hek
    have hget := near_get ok'.keys he
    rw [hek] at hget
    have hnum := numsK_of ok'.keys he
    rw [hek] at hnum
    refine ⟨_, rfl, _, rfl, p, cs.C_Near, dx, _, _, rfl, X.h1, T.cl_Near, T.na_Near_near, lk_near, _, rfl, na, .ref e.a, rfl, (by rw [← hget]; exact DGet.k (k := .inl (i / width)) X.h4), ?_⟩
    refine ⟨_, rfl, _, rfl, _, rfl, p, cs.C_Near, dx, _, _, rfl, X.h1, T.cl_Near, T.na_Near_width, lk_width, _, _, rfl, rfl, .inr ⟨by omega, by omega⟩, _, _, rfl, rfl, ?_⟩
    refine ⟨e.a, _, _, offN width i, rfl, rfl, X.h6 e he, ?_, ?_⟩
    · have := ix_nat (n := (e.ns.map V.int).length) (j := offN width i) (by rw [List.length_map]; exact o2)
      rw [← this, o3]
    have X2 := X.nums ok'.keys he (e.ns.set (offN width i) n)
    rw [List.map_set] at X2
    have b1 : Bey F' H' F' (upd H' e.a (.lst ((e.ns.map V.int).set (offN width i) (.int n)))) := Bey.own (by rw [eF]; unfold own; simp only [List.mem_cons, List.mem_map]; exact .inr (.inr (.inr (.inr (.inr ⟨e, he, rfl⟩)))))
    have hwl : s'.written.length ≤ 1000 := by
      have h1 := sub_len ok'.wnd ok'.wr
      have := ok'.len
      have := ok'.r1
      omega
    refine ⟨_, rfl, p, cs.C_Near, dx, _, _, rfl, X2.h1, T.cl_Near, T.na_Near_written, lk_written, _, rfl, wa, _, rfl, DPut.k (k := .inl (i / width)) X2.h5 (by rw [List.length_map]; exact sizeL (by show s'.written.length < 1000000; omega)), ?_⟩
    have X3 := X2.wr (addI s'.written (i / width))
    rw [← wr_put] at X3
    refine kq _ F' ⟨dx, fa, oa, na, wa, ?_, ?_⟩ (b1.trans (Bey.own (by rw [eF]; unfold own; simp)))
    · rw [eF]
      unfold own putS
      show _ = _ :: _ :: _ :: _ :: _ :: (setNE s'.near (i / width) _).map NE.a
      rw [setNE_a]
    · unfold putS
      rw [hnum, ← hek]
      rw [← hek] at X3
      exact X3
/-! ### what the law knows beside a holder -/
structure Part (G H : Hp) (F : List Addr) : Prop where
  same : Same G H
  free : ∀ b ∈ F, G b = none
theorem Part.bey {G H H' : Hp} {F F' : List Addr} (p : Part G H F) (b : Bey F H F' H') : Part G H' F' := let ⟨s, f⟩ := b G p.same p.free; ⟨s, f⟩
theorem Part.keep {G H H' : Hp} {F : List Addr} (p : Part G H F) (s : Same H H') : Part G H' F := ⟨p.same.trans s, p.free⟩
theorem Part.new {G H H' : Hp} {F : List Addr} (p : Part G H F) {a : Addr} {o : HO} (s : Same H H') (n : H a = none) (e : H' a = some o) (d : ∀ b ∈ F, H b ≠ none) : Part (upd G a o) H' F := by
  refine ⟨fun b x hb => ?_, fun b hb => ?_⟩
  · by_cases q : b = a
    · subst q
      rw [upd_same] at hb
      rw [← hb]
      exact e
    · rw [upd_ne q] at hb
      exact s _ _ (p.same _ _ hb)
  · rw [upd_ne (fun q => d b hb (by rw [q]; exact n))]
    exact p.free b hb
theorem Part.mut {G H : Hp} {F : List Addr} (p : Part G H F) {a : Addr} {o o' : HO} (h : G a = some o') : Part (upd G a o) (upd H a o) F ∧ a ∉ F := by
  have hn : a ∉ F := fun z => by
    rw [p.free a z] at h
    cases h
  refine ⟨⟨fun b x hb => ?_, fun b hb => ?_⟩, hn⟩
  · by_cases q : b = a
    · subst q
      rw [upd_same] at hb ⊢
      exact hb
    · rw [upd_ne q] at hb ⊢
      exact p.same _ _ hb
  · rw [upd_ne (fun q => hn (by rw [← q]; exact hb))]
    exact p.free b hb
theorem NOk.put {room width : Int} {size : Nat} {s : NS} (h : NOk room width size s) {i : Int} (hin : i / width ∈ s.order) (n : Int) : NOk room width size (putS width i n s) := by
  refine ⟨h.r0, h.r1, h.w0, h.w1, h.fl, h.sz, ?_, h.ord, fun k => ?_, fun k hk => ?_, ?_, fun e he => ?_, h.len⟩
  · show ((setNE s.near _ _).map NE.k).Nodup
    rw [setNE_k]
    exact h.keys
  · show k ∈ s.order ↔ k ∈ (setNE s.near _ _).map NE.k
    rw [setNE_k]
    exact h.same k
  · have hk' : k ∈ addI s.written (i / width) := hk
    unfold addI at hk'
    split at hk'
    · exact h.wr k hk'
    · rcases List.mem_append.mp hk' with z | z
      · exact h.wr k z
      · simp only [List.mem_cons, List.not_mem_nil, or_false] at z
        rw [z]
        exact hin
  · show (addI s.written (i / width)).Nodup
    unfold addI
    split
    · exact h.wnd
    · rename_i hn
      rw [List.nodup_append]
      refine ⟨h.wnd, by simp, fun x hx y hy => ?_⟩
      simp only [List.mem_cons, List.not_mem_nil, or_false] at hy
      rw [hy]
      exact fun q => hn (by rw [← q]; exact hx)
  · obtain ⟨g, hg, rfl⟩ := List.mem_map.mp (show e ∈ s.near.map (fun f => if f.k = i / width then { f with ns := (numsK s.near (i / width)).set (offN width i) n } else f) from he)
    obtain ⟨h1, h2, h3⟩ := h.ent g hg
    by_cases q : g.k = i / width
    · rw [if_pos q]
      refine ⟨h1, h2, ?_⟩
      show (((numsK s.near (i / width)).set (offN width i) n).length : Int) = _
      rw [List.length_set, ← q, numsK_of h.keys hg]
      exact h3
    · rw [if_neg q]
      exact ⟨h1, h2, h3⟩
/-! ### settle -/
def wbAll (width : Int) (ks : List Int) (s : NS) : NS := ks.foldl (fun s k => wbK width k s) s
theorem wbAll_keep (width : Int) : ∀ (ks : List Int) (s : NS), (wbAll width ks s).order = s.order ∧ (wbAll width ks s).near = s.near ∧ (wbAll width ks s).found = s.found ∧ (wbAll width ks s).missed = s.missed ∧ (wbAll width ks s).back = s.back + (ks.length : Int) ∧ (∀ z, z ∈ (wbAll width ks s).written ↔ z ∈ s.written ∧ z ∉ ks)
  | [], s => ⟨rfl, rfl, rfl, rfl, by show s.back = s.back + ((0 : Nat) : Int); omega, fun z => by show z ∈ s.written ↔ _; simp⟩
  | k :: r, s => by
    obtain ⟨h1, h2, h3, h4, h5, h6⟩ := wbAll_keep width r (wbK width k s)
    refine ⟨h1, h2, h3, h4, ?_, fun z => (h6 z).trans ?_⟩
    · show (wbAll width r (wbK width k s)).back = _
      rw [h5, List.length_cons]
      show s.back + 1 + _ = _
      omega
    · show z ∈ cutI s.written k ∧ z ∉ r ↔ _
      rw [cutI_mem, List.mem_cons, not_or]
      exact ⟨fun ⟨⟨a, b⟩, c⟩ => ⟨a, b, c⟩, fun ⟨a, b, c⟩ => ⟨⟨a, b⟩, c⟩⟩
theorem wbAll_ok {room width : Int} {size : Nat} : ∀ {ks : List Int} {s : NS}, NOk room width size s → (∀ k ∈ ks, k ∈ s.order) → NOk room width size (wbAll width ks s)
  | [], _, h, _ => h
  | k :: r, s, h, hk => wbAll_ok (ks := r) (s := wbK width k s) (h.wb (hk k List.mem_cons_self)) fun z hz => hk z (List.mem_cons_of_mem _ hz)
def sp_Near_settle (K : PySem.W.Frag) (cs : Cs) : Sp := fun vs H Q _ => ∃ (p : Addr) (room width : Int) (size : Nat) (rule : Str) (s : NS) (F : List Addr), vs = [.ref p] ∧ NearAt cs H p room width rule s F ∧ NOk room width size s ∧ s.written.length < 64 ∧
  ∀ H' ks, ks.Perm s.written → NearAt cs H' p room width rule (wbAll width ks s) F → Bey F H F H' → Q .non H'
theorem ok_Near_settle (T : Txt w K mg cs) (o_Near_write_back : Ok P w K mg base CX0 1 cs.f_Near_write_back cs.d_Near_write_back ["self", "line"] (sp_Near_write_back K cs)) : Ok P w K mg base CX0 2 cs.f_Near_settle cs.d_Near_settle ["self"] (sp_Near_settle K cs) := by
  refine T.fn_Near_settle.ok sc_Near_settle (fun vs H Q E h => ?_) (fun cdv A outer s H vs Q E hr h => ?_)
  · obtain ⟨p, room, width, size, rule, s, F, rfl, _⟩ := h
    rfl
  · obtain ⟨p, room, width, size, rule, s, F, rfl, hN, ok, hw, q⟩ := h
    refine ⟨_, (pss_one (ps_for PassesOwn.never rfl (pi_list (pe_callB (call_sortedDI rfl) (by rfl) T.no_sorted (by decide +kernel) (pa_cons (pe_fld (pv 0) rfl) pa_nil))) (pg_name (i := 1) sc_Near_settle.nd rfl (Or.inl rfl)) (pss_one (ps_expr (pe_methO o_Near_write_back T.cl_Near T.me_Near_write_back hr pass0 (pv 0) (pa_cons (pv 1) pa_nil)))))), ?_⟩
    obtain ⟨dx, fa, oa, na, wa, eF, X⟩ := id hN
    refine ⟨_, rfl, p, cs.C_Near, dx, _, _, rfl, X.h1, T.cl_Near, T.na_Near_written, lk_written, wa, _, s.written, rfl, .inl X.h5, ?_, hw, fun ks g hp hs ng => ?_⟩
    · rw [List.map_map]
      rfl
    have hg : g ∉ F := fun z => hN.dom g z ng
    have hN1 : NearAt cs (upd H g (.lst (ks.map V.int))) p room width rule s F := hN.same (Same.new ng)
    have b1 : Bey F H F (upd H g (.lst (ks.map V.int))) := Bey.same (Same.new ng)
    have hgl : (upd H g (.lst (ks.map V.int))) g = some (.lst (ks.map V.int)) := upd_same
    generalize upd H g (.lst (ks.map V.int)) = H1 at *
    have P1 : Part (upd (fun _ => none) g (.lst (ks.map V.int))) H1 F := by
      refine ⟨fun b x hb => ?_, fun b hb => ?_⟩
      · by_cases e : b = g
        · subst e
          rw [upd_same] at hb
          rw [← hb]
          exact hgl
        · rw [upd_ne e] at hb
          cases hb
      · rw [upd_ne (fun e => hg (by rw [← e]; exact hb))]
    have hin : ∀ k ∈ ks, k ∈ s.order := fun k hk => ok.wr k (hp.mem_iff.mp hk)
    have hnd : ks.Nodup := hp.nodup_iff.mpr ok.wnd
    refine ⟨g, rfl, ⟨_, SqL.of hgl⟩, for_list (K := K) (a := g) (xs := ks.map V.int) (fun i σ H' => ∃ v, σ = [some (.ref p), v] ∧ Part (upd (fun _ => none) g (.lst (ks.map V.int))) H' F ∧ NearAt cs H' p room width rule (wbAll width (ks.take i) s) F ∧ Bey F H F H') ?_ ?_ ?_ ?_⟩
    · exact ⟨none, rfl, P1, hN1, b1⟩
    · rintro i σ H' _ ⟨v, _, P2, _⟩
      exact SqL.of (P2.same _ _ upd_same)
    · rintro i x σ H' hx ⟨v, rfl, P2, hN2, b2⟩
      obtain ⟨k, hk, rfl⟩ := of_get_map hx
      have hkm : k ∈ ks := List.mem_of_getElem? hk
      have hsub : ∀ z ∈ ks.take i, z ∈ s.order := fun z hz => hin z (List.mem_of_mem_take hz)
      have ok2 := wbAll_ok ok hsub
      obtain ⟨k1, k2, k3, k4, k5, k6⟩ := wbAll_keep width (ks.take i) s
      have hni : k ∉ ks.take i := by
        have := hnd
        rw [← List.take_append_drop i ks, List.nodup_append] at this
        have hd : k ∈ ks.drop i := by
          rw [List.drop_eq_getElem_cons (List.getElem?_eq_some_iff.mp hk).1]
          rw [(List.getElem?_eq_some_iff.mp hk).2]
          exact List.mem_cons_self
        exact fun z => this.2.2 _ z _ hd rfl
      have hkw : k ∈ (wbAll width (ks.take i) s).written := (k6 k).mpr ⟨hp.mem_iff.mp hkm, hni⟩
      obtain ⟨e, he, rfl⟩ := ok2.near_of (by rw [k1]; exact hin k hkm)
      obtain ⟨h0, hf⟩ := ok2.fit he
      obtain ⟨dx2, fa2, oa2, na2, wa2, eF2, X2⟩ := id hN2
      refine ⟨_, rfl, p, dx2, _, rfl, X2.h1, rfl, _, rfl, p, e, room, width, rule, _, F, rfl, hN2, he, ok2.keys, hkw, h0, hf, by have := ok2.fl; have := ok2.sz; omega, ok2.w0, ok2.w1, fun H3 hN3 b3 => ?_⟩
      rw [wbS_eq ok2.keys he] at hN3
      have ef : wbAll width (ks.take (i + 1)) s = wbK width e.k (wbAll width (ks.take i) s) := fold_take _ s hk
      refine ⟨_, rfl, P2.bey b3, ?_, b2.trans b3⟩
      rw [ef]
      exact hN3
    · rintro σ H' ⟨v, rfl, _, hN2, b2⟩
      rw [List.length_map, List.take_length] at hN2
      exact q H' ks hp hN2 b2
/-! ### what the boxes hold -/
theorem setR_get {far ns : List Int} {first : Nat} (hl : first + ns.length ≤ far.length) (j : Nat) : (setR far first ns).getD j 0 = if first ≤ j ∧ j < first + ns.length then ns.getD (j - first) 0 else far.getD j 0 := by
  unfold setR
  simp only [List.getD_eq_getElem?_getD]
  have l1 : (far.take first).length = first := by rw [List.length_take]; omega
  by_cases h1 : j < first
  · rw [if_neg (by omega), List.append_assoc, List.getElem?_append_left (by omega), List.getElem?_take_of_lt h1]
  · by_cases h2 : j < first + ns.length
    · rw [if_pos ⟨by omega, h2⟩, List.getElem?_append_left (by rw [List.length_append]; omega), List.getElem?_append_right (by omega), l1]
    · rw [if_neg (by omega), List.getElem?_append_right (by rw [List.length_append]; omega), List.getElem?_drop, List.length_append, l1]
      congr 2
      omega
theorem slice_get {far : List Int} {first w j : Nat} (h : j < w) : (sliceI far first w).getD j 0 = far.getD (first + j) 0 := by
  unfold sliceI
  simp only [List.getD_eq_getElem?_getD]
  rw [List.getElem?_take_of_lt h, List.getElem?_drop]
section
variable {room width : Int} {size : Nat} {s : NS}
/-- the boxes of a line -/
theorem line_iff {e : NE} (ok : NOk room width size s) (he : e ∈ s.near) {k : Int} (h0 : 0 ≤ k) (h1 : k < (size : Int)) : k / width = e.k ↔ ((e.k * width).toNat ≤ k.toNat ∧ k.toNat < (e.k * width).toNat + e.ns.length) := by
  obtain ⟨e0, e1, e2⟩ := ok.ent e he
  have w0 := ok.w0
  have hp : 0 ≤ e.k * width := Int.mul_nonneg e0 (by omega)
  constructor
  · intro h
    have h2 : k / width * width ≤ k := Int.ediv_mul_le k (by omega)
    have h4 := Int.emod_lt_of_pos k w0
    have h5 := Int.emod_def k width
    rw [Int.mul_comm] at h5
    rw [h] at h2 h5
    omega
  · rintro ⟨h2, h3⟩
    have a : e.k * width ≤ k := by omega
    have b : k < e.k * width + width := by omega
    have c : k = (k - e.k * width) + e.k * width := by omega
    rw [c, Int.add_mul_ediv_right _ _ (by omega), Int.ediv_eq_zero_of_lt (by omega) (by omega), Int.zero_add]
theorem off_eq (ok : NOk room width size s) {k : Int} (h0 : 0 ≤ k) : offN width k = k.toNat - (k / width * width).toNat ∧ (k / width * width).toNat ≤ k.toNat ∧ offN width k < width.toNat := by
  have w0 := ok.w0
  have hd0 : 0 ≤ k / width := Int.ediv_nonneg h0 (by omega)
  have hd1 : k / width * width ≤ k := Int.ediv_mul_le k (by omega)
  have hd2 : 0 ≤ k / width * width := Int.mul_nonneg hd0 (by omega)
  have h4 := Int.emod_lt_of_pos k w0
  have h5 := Int.emod_def k width
  rw [Int.mul_comm] at h5
  unfold offN
  omega
/-- what box k holds -/
def valS (width : Int) (s : NS) (k : Int) : Int := if k / width ∈ s.order then lookV width k s else s.far.getD k.toNat 0
/-- lines near that were not written lie far so -/
def Clean (width : Int) (size : Nat) (s : NS) : Prop := ∀ k : Int, 0 ≤ k → k < (size : Int) → k / width ∈ s.order → k / width ∉ s.written → s.far.getD k.toNat 0 = lookV width k s
theorem wbK_far (ok : NOk room width size s) {l : Int} (hl : l ∈ s.order) {k : Int} (h0 : 0 ≤ k) (h1 : k < (size : Int)) : (wbK width l s).far.getD k.toNat 0 = if k / width = l then lookV width k s else s.far.getD k.toNat 0 := by
  obtain ⟨e, he, rfl⟩ := ok.near_of hl
  obtain ⟨f0, f1⟩ := ok.fit he
  show (setR s.far (e.k * width).toNat (numsK s.near e.k)).getD k.toNat 0 = _
  rw [numsK_of ok.keys he, setR_get f1]
  have hi := line_iff ok he h0 h1
  by_cases h : k / width = e.k
  · rw [if_pos h, if_pos (hi.mp h)]
    unfold lookV
    rw [h, numsK_of ok.keys he, (off_eq ok h0).1, h]
  · rw [if_neg h, if_neg (fun z => h (hi.mpr z))]
theorem wbK_val (ok : NOk room width size s) {l : Int} (hl : l ∈ s.order) {k : Int} (h0 : 0 ≤ k) (h1 : k < (size : Int)) : valS width (wbK width l s) k = valS width s k := by
  unfold valS
  show (if k / width ∈ s.order then lookV width k s else (wbK width l s).far.getD k.toNat 0) = _
  by_cases h : k / width ∈ s.order
  · rw [if_pos h, if_pos h]
  · rw [if_neg h, if_neg h, wbK_far ok hl h0 h1, if_neg (fun e => h (by rw [e]; exact hl))]
theorem wbK_clean (ok : NOk room width size s) (c : Clean width size s) {l : Int} (hl : l ∈ s.order) : Clean width size (wbK width l s) := fun k h0 h1 hk hn => by
  rw [wbK_far ok hl h0 h1]
  by_cases h : k / width = l
  · rw [if_pos h]
    rfl
  · rw [if_neg h]
    exact c k h0 h1 hk fun z => hn (cutI_mem.mpr ⟨z, h⟩)
theorem numsK_cut {near : List NE} {l k : Int} (h : k ≠ l) : numsK (cutN near l) k = numsK near k := by
  unfold numsK cutN
  have e : (fun a : NE => decide ((!decide (a.k = l)) = true ∧ decide (a.k = k) = true)) = fun a => decide (a.k = k) := by
    funext x
    by_cases e : x.k = k
    · simp [e, h]
    · simp [e]
  rw [List.find?_filter, e]
theorem numsK_snoc {near : List NE} {e : NE} {k : Int} (h : e.k ≠ k) : numsK (near ++ [e]) k = numsK near k := by
  unfold numsK
  rw [List.find?_append]
  have : List.find? (fun x => decide (x.k = k)) [e] = none := by
    rw [List.find?_cons_of_neg (by simp [h])]
    rfl
  rw [this, Option.or_none]
theorem numsK_new {near : List NE} {e : NE} (h : e.k ∉ near.map NE.k) : numsK (near ++ [e]) e.k = e.ns := by
  unfold numsK
  rw [List.find?_append]
  have h1 : List.find? (fun x => decide (x.k = e.k)) near = none := by
    rw [List.find?_eq_none]
    intro x hx z
    exact h (List.mem_map.mpr ⟨x, hx, of_decide_eq_true z⟩)
  have h2 : List.find? (fun x => decide (x.k = e.k)) [e] = some e := List.find?_cons_of_pos (by simp)
  rw [h1, h2]
  rfl
/-- the state in leave, behind writing back -/
def leftS (width l : Int) (s : NS) : NS := if l ∈ s.written then wbK width l s else s
theorem left_keep (width l : Int) (s : NS) : (leftS width l s).order = s.order ∧ (leftS width l s).near = s.near ∧ l ∉ (leftS width l s).written ∧ (∀ z, z ∈ (leftS width l s).written ↔ z ∈ s.written ∧ z ≠ l) := by
  unfold leftS
  by_cases h : l ∈ s.written
  · rw [if_pos h]
    exact ⟨rfl, rfl, fun z => (cutI_mem.mp (show l ∈ cutI s.written l from z)).2 rfl, fun z => cutI_mem⟩
  · rw [if_neg h]
    exact ⟨rfl, rfl, h, fun z => ⟨fun q => ⟨q, fun e => h (by rw [← e]; exact q)⟩, fun q => q.1⟩⟩
theorem left_ok (ok : NOk room width size s) (c : Clean width size s) {l : Int} (hl : l ∈ s.order) : NOk room width size (leftS width l s) ∧ Clean width size (leftS width l s) ∧ ∀ k, 0 ≤ k → k < (size : Int) → valS width (leftS width l s) k = valS width s k := by
  unfold leftS
  split
  · exact ⟨ok.wb hl, wbK_clean ok c hl, fun k h0 h1 => wbK_val ok hl h0 h1⟩
  · exact ⟨ok, c, fun k _ _ => rfl⟩
theorem leave_val (ok : NOk room width size s) (c : Clean width size s) {l : Int} (hl : l ∈ s.order) : Clean width size (leaveS width l s) ∧ ∀ k, 0 ≤ k → k < (size : Int) → valS width (leaveS width l s) k = valS width s k := by
  obtain ⟨k1, k2, k3, k4⟩ := left_keep width l s
  obtain ⟨o1, c1, v1⟩ := left_ok ok c hl
  have e : leaveS width l s = { leftS width l s with order := cutI s.order l, near := cutN s.near l } := rfl
  have hlook : ∀ k : Int, k / width ≠ l → lookV width k (leaveS width l s) = lookV width k (leftS width l s) := fun k hk => by
    rw [e]
    unfold lookV
    show (numsK (cutN s.near l) (k / width)).getD _ 0 = (numsK (leftS width l s).near (k / width)).getD _ 0
    rw [numsK_cut hk, k2]
  refine ⟨fun k h0 h1 hk hn => ?_, fun k h0 h1 => ?_⟩
  · have hk' := cutI_mem.mp (show k / width ∈ cutI s.order l from hk)
    rw [hlook k hk'.2]
    exact c1 k h0 h1 (by rw [k1]; exact hk'.1) hn
  · rw [← v1 k h0 h1]
    unfold valS
    show (if k / width ∈ cutI s.order l then lookV width k (leaveS width l s) else (leftS width l s).far.getD k.toNat 0) = _
    by_cases h : k / width = l
    · rw [if_neg (fun z => (cutI_mem.mp z).2 h), if_pos (by rw [k1, h]; exact hl)]
      exact c1 k h0 h1 (by rw [k1, h]; exact hl) (by rw [h]; exact k3)
    · by_cases h2 : k / width ∈ s.order
      · rw [if_pos (cutI_mem.mpr ⟨h2, h⟩), if_pos (by rw [k1]; exact h2), hlook k h]
      · rw [if_neg (fun z => h2 (cutI_mem.mp z).1), if_neg (by rw [k1]; exact h2)]
theorem miss_val (ok : NOk room width size s) (c : Clean width size s) (line : Int) : Clean width size (missS room width line s) ∧ ∀ k, 0 ≤ k → k < (size : Int) → valS width (missS room width line s) k = valS width s k := by
  unfold missS
  split
  · rename_i hl
    have hr := ok.r0
    have hm := getD0_mem (l := s.order) (by omega)
    exact leave_val (s := { s with missed := s.missed + 1 }) (ok.missed _) c hm
  · exact ⟨c, fun k _ _ => rfl⟩
theorem touch_val (ok : NOk room width size s) (c : Clean width size s) (least : Bool) {i : Int} (hi0 : 0 ≤ i) (hi1 : i < (size : Int)) (a : Addr) : Clean width size (touchS room width least i a s) ∧ ∀ k, 0 ≤ k → k < (size : Int) → valS width (touchS room width least i a s) k = valS width s k := by
  by_cases hin : i / width ∈ s.order
  · have hmem : ∀ z, z ∈ (if least then cutI s.order (i / width) ++ [i / width] else s.order) ↔ z ∈ s.order := fun z => by
      cases least with
      | false => exact Iff.rfl
      | true =>
        show z ∈ cutI s.order (i / width) ++ [i / width] ↔ _
        rw [List.mem_append, cutI_mem]
        simp only [List.mem_cons, List.not_mem_nil, or_false]
        constructor
        · rintro (⟨q, _⟩ | q)
          · exact q
          · rw [q]; exact hin
        · intro q
          by_cases e : z = i / width
          · exact .inr e
          · exact .inl ⟨q, e⟩
    unfold touchS
    rw [if_pos hin]
    refine ⟨fun k h0 h1 hk hn => c k h0 h1 ((hmem _).mp hk) hn, fun k h0 h1 => ?_⟩
    unfold valS
    show (if k / width ∈ (if least then cutI s.order (i / width) ++ [i / width] else s.order) then lookV width k s else s.far.getD k.toNat 0) = _
    by_cases h : k / width ∈ s.order
    · rw [if_pos h, if_pos ((hmem _).mpr h)]
    · rw [if_neg h, if_neg (fun z => h ((hmem _).mp z))]
  · obtain ⟨g, hlt, hsub⟩ := ok.miss (i / width)
    obtain ⟨c1, v1⟩ := miss_val ok c (i / width)
    have hts : touchS room width least i a s = { missS room width (i / width) s with near := (missS room width (i / width) s).near ++ [NE.mk (i / width) a (sliceI (missS room width (i / width) s).far (i / width * width).toNat width.toNat)], order := (missS room width (i / width) s).order ++ [i / width] } := by
      unfold touchS
      rw [if_neg hin]
    rw [hts]
    generalize missS room width (i / width) s = s1 at *
    have hno : i / width ∉ s1.near.map NE.k := fun z => hin (hsub _ ((g.same _).mpr z))
    have hlook1 : ∀ k : Int, k / width ≠ i / width → lookV width k { s1 with near := s1.near ++ [NE.mk (i / width) a (sliceI s1.far (i / width * width).toNat width.toNat)], order := s1.order ++ [i / width] } = lookV width k s1 := fun k hk => by
      unfold lookV
      show (numsK (s1.near ++ [_]) (k / width)).getD _ 0 = _
      rw [numsK_snoc (fun e => hk e.symm)]
    have hlook2 : ∀ k : Int, 0 ≤ k → k / width = i / width → lookV width k { s1 with near := s1.near ++ [NE.mk (i / width) a (sliceI s1.far (i / width * width).toNat width.toNat)], order := s1.order ++ [i / width] } = s1.far.getD k.toNat 0 := fun k h0 hk => by
      unfold lookV
      show (numsK (s1.near ++ [_]) (k / width)).getD _ 0 = _
      have := numsK_new (near := s1.near) (e := NE.mk (i / width) a (sliceI s1.far (i / width * width).toNat width.toNat)) hno
      rw [hk, this]
      obtain ⟨o1, o2, o3⟩ := off_eq g h0
      rw [slice_get o3, o1, ← hk]
      congr 1
      omega
    refine ⟨fun k h0 h1 hk hn => ?_, fun k h0 h1 => ?_⟩
    · by_cases e : k / width = i / width
      · rw [hlook2 k h0 e]
      · rw [hlook1 k e]
        refine c1 k h0 h1 ?_ hn
        rcases List.mem_append.mp (show k / width ∈ s1.order ++ [i / width] from hk) with z | z
        · exact z
        · simp only [List.mem_cons, List.not_mem_nil, or_false] at z
          exact absurd z e
    · rw [← v1 k h0 h1]
      show (if k / width ∈ s1.order ++ [i / width] then lookV width k _ else s1.far.getD k.toNat 0) = if k / width ∈ s1.order then lookV width k s1 else s1.far.getD k.toNat 0
      by_cases e : k / width = i / width
      · rw [if_pos (by rw [e]; exact List.mem_append_right _ List.mem_cons_self), hlook2 k h0 e, if_neg (fun z => hin (by rw [← e]; exact hsub _ z))]
      · by_cases h : k / width ∈ s1.order
        · rw [if_pos (List.mem_append_left _ h), if_pos h, hlook1 k e]
        · rw [if_neg h, if_neg (fun z => ?_)]
          rcases List.mem_append.mp z with z | z
          · exact h z
          · simp only [List.mem_cons, List.not_mem_nil, or_false] at z
            exact e z
theorem numsK_set {near : List NE} {l k : Int} {ns : List Int} (hl : l ∈ near.map NE.k) : numsK (setNE near l ns) k = if k = l then ns else numsK near k := by
  induction near with
  | nil => cases hl
  | cons e r ih =>
    have hc : setNE (e :: r) l ns = (if e.k = l then { e with ns := ns } else e) :: setNE r l ns := rfl
    unfold numsK
    rw [hc]
    by_cases h : e.k = l
    · rw [if_pos h]
      by_cases h2 : k = l
      · rw [if_pos h2, List.find?_cons_of_pos (by simp [h, h2])]
      · rw [if_neg h2, List.find?_cons_of_neg (by simp [h]; exact fun q => h2 q.symm), List.find?_cons_of_neg (by simp [h]; exact fun q => h2 q.symm)]
        show numsK (setNE r l ns) k = numsK r k
        by_cases h3 : l ∈ r.map NE.k
        · rw [ih h3, if_neg h2]
        · have : setNE r l ns = r := by
            unfold setNE
            conv => rhs; rw [← List.map_id r]
            refine List.map_congr_left fun x hx => ?_
            rw [if_neg (fun q => h3 (by rw [← q]; exact List.mem_map_of_mem hx))]
            rfl
          rw [this]
    · rw [if_neg h]
      have h3 : l ∈ r.map NE.k := by
        rcases List.mem_cons.mp hl with q | q
        · exact absurd q.symm h
        · exact q
      by_cases h4 : e.k = k
      · rw [if_neg (fun q => h (by rw [h4, q])), List.find?_cons_of_pos (by simp [h4]), List.find?_cons_of_pos (by simp [h4])]
      · rw [List.find?_cons_of_neg (by simp [h4]), List.find?_cons_of_neg (by simp [h4])]
        exact ih h3
theorem put_look (ok : NOk room width size s) {i : Int} (hi0 : 0 ≤ i) (hi1 : i < (size : Int)) (hin : i / width ∈ s.order) (n : Int) {k : Int} (h0 : 0 ≤ k) (h1 : k < (size : Int)) (hk : k / width ∈ s.order) : lookV width k (putS width i n s) = if k = i then n else lookV width k s := by
  obtain ⟨e, he, hek⟩ := ok.near_of hin
  obtain ⟨o1, o2, o3⟩ := off_ok ok he hi1 hek
  unfold lookV
  show (numsK (setNE s.near (i / width) _) (k / width)).getD _ 0 = _
  rw [numsK_set ((ok.same _).mp hin)]
  by_cases h : k / width = i / width
  · rw [if_pos h, h]
    have hn : numsK s.near (i / width) = e.ns := by rw [← hek]; exact numsK_of ok.keys he
    rw [hn]
    simp only [List.getD_eq_getElem?_getD]
    rw [List.getElem?_set]
    by_cases hki : k = i
    · subst hki
      rw [if_pos rfl, if_pos rfl, if_pos o2]
      rfl
    · rw [if_neg hki, if_neg]
      intro z
      have q1 := (off_eq ok hi0)
      have q2 := (off_eq ok h0)
      rw [h] at q2
      omega
  · rw [if_neg h, if_neg (fun z => h (by rw [z]))]
theorem put_val (ok : NOk room width size s) (c : Clean width size s) {i : Int} (hi0 : 0 ≤ i) (hi1 : i < (size : Int)) (hin : i / width ∈ s.order) (n : Int) : Clean width size (putS width i n s) ∧ ∀ k, 0 ≤ k → k < (size : Int) → valS width (putS width i n s) k = if k = i then n else valS width s k := by
  have hw : ∀ z, z ∈ (putS width i n s).written ↔ z ∈ s.written ∨ z = i / width := fun z => by
    show z ∈ addI s.written (i / width) ↔ _
    unfold addI
    split
    · rename_i h
      exact ⟨.inl, fun q => q.elim id fun e => by rw [e]; exact h⟩
    · rw [List.mem_append]
      simp only [List.mem_cons, List.not_mem_nil, or_false]
  refine ⟨fun k h0 h1 hk hn => ?_, fun k h0 h1 => ?_⟩
  · have hk' : k / width ∈ s.order := hk
    rw [hw, not_or] at hn
    rw [put_look ok hi0 hi1 hin n h0 h1 hk', if_neg (fun z => hn.2 (by rw [z]))]
    exact c k h0 h1 hk' hn.1
  · unfold valS
    show (if k / width ∈ s.order then lookV width k (putS width i n s) else s.far.getD k.toNat 0) = _
    by_cases h : k / width ∈ s.order
    · rw [if_pos h, put_look ok hi0 hi1 hin n h0 h1 h, if_pos h]
    · rw [if_neg h, if_neg (fun z => h (by rw [z]; exact hin)), if_neg h]
theorem wbAll_val : ∀ {ks : List Int} {s : NS}, NOk room width size s → Clean width size s → (∀ k ∈ ks, k ∈ s.order) → Clean width size (wbAll width ks s) ∧ ∀ k, 0 ≤ k → k < (size : Int) → valS width (wbAll width ks s) k = valS width s k
  | [], _, _, c, _ => ⟨c, fun _ _ _ => rfl⟩
  | l :: r, s, ok, c, h => by
    have hl := h l List.mem_cons_self
    obtain ⟨c1, v1⟩ := wbAll_val (ks := r) (ok.wb hl) (wbK_clean ok c hl) fun z hz => h z (List.mem_cons_of_mem _ hz)
    exact ⟨c1, fun k h0 h1 => (v1 k h0 h1).trans (wbK_val ok hl h0 h1)⟩
/-- nothing is written: all lies far -/
theorem far_all (ok : NOk room width size s) (c : Clean width size s) (hw : ∀ z, z ∉ s.written) {plain : List Int} (hl : plain.length = size) (hp : ∀ k : Int, 0 ≤ k → k < (size : Int) → plain.getD k.toNat 0 = valS width s k) : s.far = plain := by
  refine List.ext_getElem (by rw [ok.fl, hl]) fun k h1 h2 => ?_
  have hv := hp (k : Int) (by omega) (by rw [← hl]; omega)
  rw [Int.toNat_natCast] at hv
  have e : valS width s (k : Int) = s.far.getD k 0 := by
    unfold valS
    split
    · rename_i h
      have := c (k : Int) (by omega) (by rw [← hl]; omega) h (hw _)
      rw [← this]
      rfl
    · rfl
  rw [e, List.getD_eq_getElem?_getD, List.getD_eq_getElem?_getD, List.getElem?_eq_getElem h1, List.getElem?_eq_getElem h2] at hv
  exact hv.symm
theorem val_fresh (width : Int) (far : List Int) (k : Int) : valS width (newS far) k = far.getD k.toNat 0 := if_neg (fun z => by cases z)
theorem clean_fresh (width : Int) (size : Nat) (far : List Int) : Clean width size (newS far) := fun _ _ _ h => by cases h
end
/-! ### how many are written -/
theorem cutI_le (l : List Int) (k : Int) : (cutI l k).length ≤ l.length := List.length_filter_le _ _
theorem leave_wr (width l : Int) (s : NS) : (leaveS width l s).written.length ≤ s.written.length := by
  show (leftS width l s).written.length ≤ _
  unfold leftS
  split
  · exact cutI_le _ _
  · exact Nat.le_refl _
theorem miss_wr (room width line : Int) (s : NS) : (missS room width line s).written.length ≤ s.written.length := by
  unfold missS
  split
  · exact leave_wr width _ { s with missed := s.missed + 1 }
  · exact Nat.le_refl _
theorem touch_wr (room width : Int) (least : Bool) (i : Int) (a : Addr) (s : NS) : (touchS room width least i a s).written.length ≤ s.written.length := by
  unfold touchS
  split
  · exact Nat.le_refl _
  · exact miss_wr room width (i / width) s
theorem put_wr (width i n : Int) (s : NS) : (putS width i n s).written.length ≤ s.written.length + 1 := by
  show (addI s.written (i / width)).length ≤ _
  unfold addI
  split
  · omega
  · rw [List.length_append]
    exact Nat.le_refl _
theorem wbAll_none {width : Int} {ks : List Int} {s : NS} (h : ks.Perm s.written) : (wbAll width ks s).written = [] := by
  obtain ⟨_, _, _, _, _, k6⟩ := wbAll_keep width ks s
  refine List.eq_nil_iff_forall_not_mem.mpr fun z hz => ?_
  obtain ⟨a, b⟩ := (k6 z).mp hz
  exact b (h.mem_iff.mpr a)
/-- the boxes hold plain -/
structure Holds (width : Int) (size : Nat) (s : NS) (plain : List Int) : Prop where
  c : Clean width size s
  l : plain.length = size
  v : ∀ k : Int, 0 ≤ k → k < (size : Int) → plain.getD k.toNat 0 = valS width s k
theorem Holds.fresh (width : Int) (far : List Int) : Holds width far.length (newS far) far := ⟨clean_fresh _ _ _, rfl, fun k _ _ => (val_fresh width far k).symm⟩
section
variable {room width : Int} {size : Nat} {s : NS} {plain : List Int}
theorem Holds.touch (h : Holds width size s plain) (ok : NOk room width size s) (least : Bool) {i : Int} (h0 : 0 ≤ i) (h1 : i < (size : Int)) (a : Addr) : Holds width size (touchS room width least i a s) plain :=
  let ⟨c, v⟩ := touch_val ok h.c least h0 h1 a
  ⟨c, h.l, fun k k0 k1 => (h.v k k0 k1).trans (v k k0 k1).symm⟩
/-- the number read -/
theorem Holds.look (h : Holds width size s plain) {i : Int} (h0 : 0 ≤ i) (h1 : i < (size : Int)) (hin : i / width ∈ s.order) : lookV width i s = plain.getD i.toNat 0 := by
  rw [h.v i h0 h1]
  exact (if_pos hin).symm
theorem Holds.put (h : Holds width size s plain) (ok : NOk room width size s) {i : Int} (h0 : 0 ≤ i) (h1 : i < (size : Int)) (hin : i / width ∈ s.order) (n : Int) : Holds width size (putS width i n s) (plain.set i.toNat n) := by
  obtain ⟨c, v⟩ := put_val ok h.c h0 h1 hin n
  refine ⟨c, by rw [List.length_set]; exact h.l, fun k k0 k1 => ?_⟩
  rw [v k k0 k1, ← h.v k k0 k1]
  simp only [List.getD_eq_getElem?_getD]
  rw [List.getElem?_set]
  by_cases e : k = i
  · subst e
    rw [if_pos rfl, if_pos rfl, if_pos (by rw [h.l]; omega)]
    rfl
  · rw [if_neg e, if_neg (by omega)]
theorem Holds.settle (h : Holds width size s plain) (ok : NOk room width size s) {ks : List Int} (hp : ks.Perm s.written) : Holds width size (wbAll width ks s) plain ∧ (wbAll width ks s).far = plain ∧ NOk room width size (wbAll width ks s) := by
  have hin : ∀ k ∈ ks, k ∈ s.order := fun k hk => ok.wr k (hp.mem_iff.mp hk)
  obtain ⟨c, v⟩ := wbAll_val ok h.c hin
  have ok' := wbAll_ok ok hin
  have hv : ∀ k : Int, 0 ≤ k → k < (size : Int) → plain.getD k.toNat 0 = valS width (wbAll width ks s) k := fun k k0 k1 => (h.v k k0 k1).trans (v k k0 k1).symm
  exact ⟨⟨c, h.l, hv⟩, far_all ok' c (fun z hz => by rw [wbAll_none hp] at hz; cases hz) h.l hv, ok'⟩
/-- the boxes of lines that are not near lie far so -/
theorem Holds.far_so (h : Holds width size s plain) (k : Nat) (hk : k < plain.length) : s.far.getD k 0 = plain.getD k 0 ∨ (k : Int) / width ∈ s.order := by
  by_cases q : (k : Int) / width ∈ s.order
  · exact .inr q
  · have := h.v (k : Int) (by omega) (by rw [← h.l]; omega)
    rw [Int.toNat_natCast] at this
    refine .inl (Eq.symm (this.trans (if_neg q)))
end
theorem head_cut {l : List Int} (nd : l.Nodup) (h : 0 < l.length) : cutI l (l.getD 0 0) = l.drop 1 := by
  cases l with
  | nil => exact absurd h (by decide)
  | cons x r =>
    have h1 := (List.nodup_cons.mp nd).1
    show (x :: r).filter (fun z => !decide (z = x)) = r
    rw [List.filter_cons, if_neg (by simp), List.filter_eq_self]
    intro z hz
    have : ¬ z = x := fun q => h1 (by rw [← q]; exact hz)
    simp [this]
/-! ### rows, the machine -/
inductive Rw where
  | set (b n : Int)
  | copy (b c : Int)
  | add (b c d : Int)
  | sub (b c d : Int)
  | fetch (b c : Int)
  | store (b c : Int)
  | less (b c p : Int)
  | jump (p : Int)
  | tell (b : Int)
def Rw.vs : Rw → List V
  | .set b n => [.str "set", .int b, .int n]
  | .copy b c => [.str "copy", .int b, .int c]
  | .add b c d => [.str "add", .int b, .int c, .int d]
  | .sub b c d => [.str "sub", .int b, .int c, .int d]
  | .fetch b c => [.str "fetch", .int b, .int c]
  | .store b c => [.str "store", .int b, .int c]
  | .less b c p => [.str "less", .int b, .int c, .int p]
  | .jump p => [.str "jump", .int p]
  | .tell b => [.str "tell", .int b]
/-- i is a box -/
def Bx (size i : Int) : Prop := 0 ≤ i ∧ i < size
def Pl (count p : Int) : Prop := 0 ≤ p ∧ p ≤ count
def Rw.Fit (size count : Int) : Rw → Prop
  | .set b n => Bx size b ∧ Pl 999999 n
  | .copy b c => Bx size b ∧ Bx size c
  | .add b c d => Bx size b ∧ Bx size c ∧ Bx size d
  | .sub b c d => Bx size b ∧ Bx size c ∧ Bx size d
  | .fetch b c => Bx size b ∧ Bx size c
  | .store b c => Bx size b ∧ Bx size c
  | .less b c p => Bx size b ∧ Bx size c ∧ Pl count p
  | .jump p => Pl count p
  | .tell b => Bx size b
structure MS where
  bx : List Int
  log : List Tch
  told : List Int
  place : Int
def rd (bx : List Int) (i : Int) : Int := bx.getD i.toNat 0
def wrt (bx : List Int) (i n : Int) : List Int := bx.set i.toNat n
/-- the boxes behind a row -/
def Rw.bx' (size : Int) (bx : List Int) : Rw → List Int
  | .set b n => wrt bx b n
  | .copy b c => wrt bx b (rd bx c)
  | .add b c d => wrt bx b ((rd bx c + rd bx d) % 1000000)
  | .sub b c d => wrt bx b ((rd bx c - rd bx d) % 1000000)
  | .fetch b c => wrt bx b (rd bx (rd bx c % size))
  | .store b c => wrt bx (rd bx b % size) (rd bx c)
  | _ => bx
/-- the touches of a row -/
def Rw.tch (size : Int) (bx : List Int) : Rw → List Tch
  | .set b _ => [(true, b)]
  | .copy b c => [(false, c), (true, b)]
  | .add b c d => [(false, c), (false, d), (true, b)]
  | .sub b c d => [(false, c), (false, d), (true, b)]
  | .fetch b c => [(false, c), (false, rd bx c % size), (true, b)]
  | .store b c => [(false, b), (false, c), (true, rd bx b % size)]
  | .less b c _ => [(false, b), (false, c)]
  | .jump _ => []
  | .tell b => [(false, b)]
def Rw.out (bx : List Int) : Rw → List Int
  | .tell b => [rd bx b]
  | _ => []
def Rw.nxt (bx : List Int) (place : Int) : Rw → Int
  | .jump p => p
  | .less b c p => if rd bx b < rd bx c then p else place + 1
  | _ => place + 1
def Rw.step (size : Int) (m : MS) (r : Rw) : MS := ⟨r.bx' size m.bx, m.log ++ r.tch size m.bx, m.told ++ r.out m.bx, r.nxt m.bx m.place⟩
def goM (rs : List Rw) (size : Int) : Nat → MS → MS
  | 0, m => m
  | k + 1, m => match rs[m.place.toNat]? with
    | some r => goM rs size k (r.step size m)
    | none => m
def endS (rs : List Rw) (m : MS) : Str := if m.place < (rs.length : Int) then "steps" else "over"
theorem wrt_len (bx : List Int) (i n : Int) : (wrt bx i n).length = bx.length := List.length_set
theorem bx_len (size : Int) (bx : List Int) (r : Rw) : (r.bx' size bx).length = bx.length := by
  cases r <;> first | rfl | exact wrt_len _ _ _
theorem rd_at {bx : List Int} {i : Int} (h : Bx (bx.length : Int) i) : atI (bx.map V.int) i = some (.int (rd bx i)) := at_getD h.1 h.2
/-- the touches ahead of going on, and those in it -/
def Rw.pre (size : Int) (bx : List Int) : Rw → List Tch
  | .less _ _ _ => []
  | r => r.tch size bx
def Rw.g : Rw → List Tch
  | .less b c _ => [(false, b), (false, c)]
  | _ => []
theorem pre_g (size : Int) (bx : List Int) (r : Rw) : r.pre size bx ++ r.g = r.tch size bx := by
  cases r <;> first | rfl | exact List.append_nil _
theorem nxt_bx (size : Int) (bx : List Int) (r : Rw) (place : Int) : r.nxt (r.bx' size bx) place = r.nxt bx place := by
  cases r <;> rfl
theorem nxt_ok {size count : Int} {r : Rw} (hf : r.Fit size count) (bx : List Int) {place : Int} (h0 : 0 ≤ place) (h1 : place < count) : 0 ≤ r.nxt bx place ∧ r.nxt bx place ≤ count := by
  cases r with
  | jump p => exact hf
  | less b c p =>
    show 0 ≤ (if rd bx b < rd bx c then p else place + 1) ∧ (if rd bx b < rd bx c then p else place + 1) ≤ count
    by_cases q : rd bx b < rd bx c
    · rw [if_pos q]
      exact hf.2.2
    · rw [if_neg q]
      omega
  | _ => exact ⟨by show 0 ≤ place + 1; omega, by show place + 1 ≤ count; omega⟩
theorem out_len (bx : List Int) (r : Rw) : (r.out bx).length ≤ 1 := by
  cases r <;> first | exact Nat.zero_le _ | exact Nat.le_refl _
theorem tch_len (size : Int) (bx : List Int) (r : Rw) : (r.tch size bx).length ≤ 3 := by
  cases r <;> simp [Rw.tch]
/-- rows that fit -/
theorem lit_p : ("p" : Str) = ⟨#[112]⟩ := by decide +kernel
theorem wIn_iff {x : V} {lo hi : Int} (h : wIn x lo hi = true) : ∃ i, x = .int i ∧ lo ≤ i ∧ i ≤ hi := by
  obtain ⟨i, e, a, b⟩ := wIn_int h
  exact ⟨i, e, a, b⟩
theorem wIn_of {i lo hi : Int} (h : lo ≤ i ∧ i ≤ hi) : wIn (.int i) lo hi = true := by
  show (decide (lo ≤ i) && decide (i ≤ hi)) = true
  rw [decide_eq_true h.1, decide_eq_true h.2]
  rfl
theorem pf_b {size count : Int} {cs : List Nat} {xs : List V} (h : partsFit size count (98 :: cs) xs = true) : ∃ i r, xs = .int i :: r ∧ Bx size i ∧ partsFit size count cs r = true := by
  cases xs with
  | nil => cases h
  | cons x r =>
    have h' : (partB 98 x size count && partsFit size count cs r) = true := h
    rw [Bool.and_eq_true] at h'
    obtain ⟨i, e, a, b⟩ := wIn_iff (show wIn x 0 (size - 1) = true from h'.1)
    exact ⟨i, r, by rw [e], ⟨a, by omega⟩, h'.2⟩
theorem pf_n {size count : Int} {cs : List Nat} {xs : List V} (h : partsFit size count (110 :: cs) xs = true) : ∃ i r, xs = .int i :: r ∧ Pl 999999 i ∧ partsFit size count cs r = true := by
  cases xs with
  | nil => cases h
  | cons x r =>
    have h' : (partB 110 x size count && partsFit size count cs r) = true := h
    rw [Bool.and_eq_true] at h'
    obtain ⟨i, e, a, b⟩ := wIn_iff (show wIn x 0 999999 = true from h'.1)
    exact ⟨i, r, by rw [e], ⟨a, by omega⟩, h'.2⟩
theorem pf_p {size count : Int} {cs : List Nat} {xs : List V} (h : partsFit size count (112 :: cs) xs = true) : ∃ i r, xs = .int i :: r ∧ Pl count i ∧ partsFit size count cs r = true := by
  cases xs with
  | nil => cases h
  | cons x r =>
    have h' : (partB 112 x size count && partsFit size count cs r) = true := h
    rw [Bool.and_eq_true] at h'
    obtain ⟨i, e, a, b⟩ := wIn_iff (show wIn x 0 count = true from h'.1)
    exact ⟨i, r, by rw [e], ⟨a, by omega⟩, h'.2⟩
theorem pf_nil {size count : Int} {xs : List V} (h : partsFit size count [] xs = true) : xs = [] := by
  cases xs with
  | nil => rfl
  | cons x r => cases h
theorem m_bn : ("bn" : Str).cps.toList = [98, 110] := by decide +kernel
theorem m_bb : ("bb" : Str).cps.toList = [98, 98] := by decide +kernel
theorem m_bbb : ("bbb" : Str).cps.toList = [98, 98, 98] := by decide +kernel
theorem m_bbp : ("bbp" : Str).cps.toList = [98, 98, 112] := by decide +kernel
theorem m_p : ("p" : Str).cps.toList = [112] := by decide +kernel
theorem m_b : ("b" : Str).cps.toList = [98] := by decide +kernel
theorem fits_row {size count : Int} {xs : List V} (h : fitsV size count xs = true) : ∃ r : Rw, xs = r.vs ∧ r.Fit size count := by
  cases xs with
  | nil => cases h
  | cons v xs =>
    cases v with
    | str z =>
      have h' : (match partsM z with
        | none => false
        | some m => partsFit size count m.cps.toList xs) = true := h
      unfold partsM at h'
      by_cases e1 : z = "set"
      · rw [if_pos e1] at h'
        have h' : partsFit size count ("bn" : Str).cps.toList xs = true := h'
        rw [m_bn] at h'
        obtain ⟨b, r, rfl, f1, h'⟩ := pf_b h'
        obtain ⟨n, r, rfl, f2, h'⟩ := pf_n h'
        cases pf_nil h'
        exact ⟨.set b n, by rw [e1]; rfl, f1, f2⟩
      rw [if_neg e1] at h'
      by_cases e2 : z = "copy"
      · rw [if_pos e2] at h'
        have h' : partsFit size count ("bb" : Str).cps.toList xs = true := h'
        rw [m_bb] at h'
        obtain ⟨b, r, rfl, f1, h'⟩ := pf_b h'
        obtain ⟨n, r, rfl, f2, h'⟩ := pf_b h'
        cases pf_nil h'
        exact ⟨.copy b n, by rw [e2]; rfl, f1, f2⟩
      rw [if_neg e2] at h'
      by_cases e3 : z = "add"
      · rw [if_pos e3] at h'
        have h' : partsFit size count ("bbb" : Str).cps.toList xs = true := h'
        rw [m_bbb] at h'
        obtain ⟨b, r, rfl, f1, h'⟩ := pf_b h'
        obtain ⟨c, r, rfl, f2, h'⟩ := pf_b h'
        obtain ⟨d, r, rfl, f3, h'⟩ := pf_b h'
        cases pf_nil h'
        exact ⟨.add b c d, by rw [e3]; rfl, f1, f2, f3⟩
      rw [if_neg e3] at h'
      by_cases e4 : z = "sub"
      · rw [if_pos e4] at h'
        have h' : partsFit size count ("bbb" : Str).cps.toList xs = true := h'
        rw [m_bbb] at h'
        obtain ⟨b, r, rfl, f1, h'⟩ := pf_b h'
        obtain ⟨c, r, rfl, f2, h'⟩ := pf_b h'
        obtain ⟨d, r, rfl, f3, h'⟩ := pf_b h'
        cases pf_nil h'
        exact ⟨.sub b c d, by rw [e4]; rfl, f1, f2, f3⟩
      rw [if_neg e4] at h'
      by_cases e5 : z = "fetch"
      · rw [if_pos e5] at h'
        have h' : partsFit size count ("bb" : Str).cps.toList xs = true := h'
        rw [m_bb] at h'
        obtain ⟨b, r, rfl, f1, h'⟩ := pf_b h'
        obtain ⟨n, r, rfl, f2, h'⟩ := pf_b h'
        cases pf_nil h'
        exact ⟨.fetch b n, by rw [e5]; rfl, f1, f2⟩
      rw [if_neg e5] at h'
      by_cases e6 : z = "store"
      · rw [if_pos e6] at h'
        have h' : partsFit size count ("bb" : Str).cps.toList xs = true := h'
        rw [m_bb] at h'
        obtain ⟨b, r, rfl, f1, h'⟩ := pf_b h'
        obtain ⟨n, r, rfl, f2, h'⟩ := pf_b h'
        cases pf_nil h'
        exact ⟨.store b n, by rw [e6]; rfl, f1, f2⟩
      rw [if_neg e6] at h'
      by_cases e7 : z = "less"
      · rw [if_pos e7] at h'
        have h' : partsFit size count ("bbp" : Str).cps.toList xs = true := h'
        rw [m_bbp] at h'
        obtain ⟨b, r, rfl, f1, h'⟩ := pf_b h'
        obtain ⟨c, r, rfl, f2, h'⟩ := pf_b h'
        obtain ⟨d, r, rfl, f3, h'⟩ := pf_p h'
        cases pf_nil h'
        exact ⟨.less b c d, by rw [e7]; rfl, f1, f2, f3⟩
      rw [if_neg e7] at h'
      by_cases e8 : z = "jump"
      · rw [if_pos e8] at h'
        have h' : partsFit size count ("p" : Str).cps.toList xs = true := h'
        rw [m_p] at h'
        obtain ⟨b, r, rfl, f1, h'⟩ := pf_p h'
        cases pf_nil h'
        exact ⟨.jump b, by rw [e8]; rfl, f1⟩
      rw [if_neg e8] at h'
      by_cases e9 : z = "tell"
      · rw [if_pos e9] at h'
        have h' : partsFit size count ("b" : Str).cps.toList xs = true := h'
        rw [m_b] at h'
        obtain ⟨b, r, rfl, f1, h'⟩ := pf_b h'
        cases pf_nil h'
        exact ⟨.tell b, by rw [e9]; rfl, f1⟩
      rw [if_neg e9] at h'
      cases h'
    | _ => cases h
theorem fb {size count i : Int} {cs : List Nat} {r : List V} (h : Bx size i) (q : partsFit size count cs r = true) : partsFit size count (98 :: cs) (.int i :: r) = true := by
  show (wIn (.int i) 0 (size - 1) && partsFit size count cs r) = true
  rw [wIn_of ⟨h.1, by have := h.2; omega⟩, q]
  rfl
theorem fn {size count i : Int} {cs : List Nat} {r : List V} (h : Pl 999999 i) (q : partsFit size count cs r = true) : partsFit size count (110 :: cs) (.int i :: r) = true := by
  show (wIn (.int i) 0 999999 && partsFit size count cs r) = true
  rw [wIn_of h, q]
  rfl
theorem fp {size count i : Int} {cs : List Nat} {r : List V} (h : Pl count i) (q : partsFit size count cs r = true) : partsFit size count (112 :: cs) (.int i :: r) = true := by
  show (wIn (.int i) 0 count && partsFit size count cs r) = true
  rw [wIn_of h, q]
  rfl
theorem parts_of {size count : Int} {z m : Str} {cs : List Nat} {xs : List V} (h : partsM z = some m) (hm : m.cps.toList = cs) (q : partsFit size count cs xs = true) : fitsV size count (.str z :: xs) = true := by
  show (match partsM z with
    | none => false
    | some m => partsFit size count m.cps.toList xs) = true
  rw [h]
  show partsFit size count m.cps.toList xs = true
  rw [hm]
  exact q
theorem row_fits {size count : Int} {r : Rw} (h : r.Fit size count) : fitsV size count r.vs = true := by
  cases r with
  | set b n => exact parts_of (m := "bn") (by decide +kernel) m_bn (fb h.1 (fn h.2 rfl))
  | copy b c => exact parts_of (m := "bb") (by decide +kernel) m_bb (fb h.1 (fb h.2 rfl))
  | add b c d => exact parts_of (m := "bbb") (by decide +kernel) m_bbb (fb h.1 (fb h.2.1 (fb h.2.2 rfl)))
  | sub b c d => exact parts_of (m := "bbb") (by decide +kernel) m_bbb (fb h.1 (fb h.2.1 (fb h.2.2 rfl)))
  | fetch b c => exact parts_of (m := "bb") (by decide +kernel) m_bb (fb h.1 (fb h.2 rfl))
  | store b c => exact parts_of (m := "bb") (by decide +kernel) m_bb (fb h.1 (fb h.2 rfl))
  | less b c p => exact parts_of (m := "bbp") (by decide +kernel) m_bbp (fb h.1 (fb h.2.1 (fp h.2.2 rfl)))
  | jump p => exact parts_of (m := "p") (by decide +kernel) m_p (fp h rfl)
  | tell b => exact parts_of (m := "b") (by decide +kernel) m_b (fb h rfl)
/-- at the items of a list the rows rs -/
structure RL (H : Hp) (ys : List V) (rs : List Rw) : Prop where
  len : ys.length = rs.length
  at_ : ∀ (i : Nat) (r : Rw), rs[i]? = some r → ∃ a, ys[i]? = some (.ref a) ∧ H a = some (.tup r.vs)
theorem RL.same {H H' : Hp} {ys : List V} {rs : List Rw} (h : RL H ys rs) (s : Same H H') : RL H' ys rs := ⟨h.len, fun i r e => let ⟨a, e1, q⟩ := h.at_ i r e; ⟨a, e1, s _ _ q⟩⟩
theorem RL.but {H : Hp} {ys : List V} {rs : List Rw} {l : Addr} {zs : List V} {o : HO} (h : RL H ys rs) (hl : H l = some (.lst zs)) : RL (upd H l o) ys rs := ⟨h.len, fun i r e => let ⟨a, e1, q⟩ := h.at_ i r e; ⟨a, e1, by rw [upd_ne (ne_of q hl (by intro z; cases z))]; exact q⟩⟩
theorem RL.nil {H : Hp} : RL H [] [] := ⟨rfl, fun i r e => by simp at e⟩
theorem RL.snoc {H : Hp} {ys : List V} {rs : List Rw} {a : Addr} {r : Rw} (h : RL H ys rs) (q : H a = some (.tup r.vs)) : RL H (ys ++ [.ref a]) (rs ++ [r]) := by
  refine ⟨by rw [List.length_append, List.length_append, h.len]; rfl, fun i u e => ?_⟩
  by_cases hi : i < rs.length
  · rw [List.getElem?_append_left hi] at e
    obtain ⟨x, e1, q1⟩ := h.at_ i u e
    exact ⟨x, by rw [List.getElem?_append_left (by rw [h.len]; exact hi)]; exact e1, q1⟩
  · have hlt := (List.getElem?_eq_some_iff.mp e).1
    rw [List.length_append] at hlt
    have hi2 : i = rs.length := by
      simp only [List.length_cons, List.length_nil] at hlt
      omega
    subst hi2
    rw [List.getElem?_append_right (Nat.le_refl _), Nat.sub_self] at e
    have et : r = u := Option.some.inj e
    subst et
    refine ⟨a, ?_, q⟩
    rw [← h.len, List.getElem?_append_right (Nat.le_refl _), Nat.sub_self]
    rfl
def rowO (r : Rw) : Option (List V) := some r.vs
theorem vs_typ {K : PySem.W.Frag} {H : Hp} (r : Rw) : ∀ v ∈ r.vs, Typ K H v := by
  intro v hv
  cases r <;> (simp only [Rw.vs, List.mem_cons, List.not_mem_nil, or_false] at hv) <;> (repeat' (rcases hv with rfl | hv)) <;> first | exact typ_s _ | exact typ_i _ | (subst hv; exact typ_i _) | skip
theorem vs_len (r : Rw) : r.vs.length ≤ 4 := by
  cases r <;> simp [Rw.vs]
theorem RL.things {K : PySem.W.Frag} {H : Hp} {ys : List V} {rs : List Rw} (h : RL H ys rs) : Things K H ys (rs.map rowO) := by
  refine ⟨by rw [h.len, List.length_map], fun i y o e1 e2 => ?_⟩
  obtain ⟨r, hr, rfl⟩ := of_get_mapG e2
  obtain ⟨a, e3, q⟩ := h.at_ i r hr
  rw [e1] at e3
  cases e3
  exact ⟨a, rfl, q, vs_typ r, by have := vs_len r; omega⟩
theorem good_rows {size : Int} {rs : List Rw} (hl : rs.length ≤ 200) (h : ∀ r ∈ rs, r.Fit size (rs.length : Int)) : goodRows size (rs.map rowO) = true := by
  unfold goodRows
  rw [List.length_map, decide_eq_true hl, Bool.true_and, List.all_eq_true]
  intro o ho
  obtain ⟨r, hr, rfl⟩ := List.mem_map.mp ho
  exact row_fits (h r hr)
/-- good rows are rows -/
theorem rows_good {size : Int} {os : List (Option (List V))} (h : goodRows size os = true) : ∃ rs : List Rw, os = rs.map rowO ∧ rs.length ≤ 200 ∧ ∀ r ∈ rs, r.Fit size (rs.length : Int) := by
  unfold goodRows at h
  rw [Bool.and_eq_true] at h
  have hl : os.length ≤ 200 := of_decide_eq_true h.1
  have main : ∀ (c : Int) (os : List (Option (List V))), os.all (fitsO size c) = true → ∃ rs : List Rw, os = rs.map rowO ∧ ∀ r ∈ rs, r.Fit size c := by
    intro c os
    induction os with
    | nil => exact fun _ => ⟨[], rfl, fun r hr => by cases hr⟩
    | cons o t ih =>
      intro h
      rw [List.all_cons, Bool.and_eq_true] at h
      obtain ⟨rs, e, f⟩ := ih h.2
      cases o with
      | none => exact nomatch (show false = true from h.1)
      | some xs =>
        obtain ⟨r, er, fr⟩ := fits_row (show fitsV size c xs = true from h.1)
        exact ⟨r :: rs, by rw [e, er]; rfl, fun z hz => (List.mem_cons.mp hz).elim (fun q => by rw [q]; exact fr) (f z)⟩
  obtain ⟨rs, e, f⟩ := main _ os h.2
  have el : os.length = rs.length := by rw [e, List.length_map]
  exact ⟨rs, e, by omega, by rw [← el]; exact f⟩
theorem Things.rows {K : PySem.W.Frag} {H : Hp} {ys : List V} {rs : List Rw} (h : Things K H ys (rs.map rowO)) : RL H ys rs := by
  have hl : ys.length = rs.length := by rw [h.len, List.length_map]
  refine ⟨hl, fun i r e => ?_⟩
  have hi := (List.getElem?_eq_some_iff.mp e).1
  obtain ⟨a, e1, e2, _⟩ := h.at_ i ys[i] (rowO r) (List.getElem?_eq_getElem (by omega)) (by rw [List.getElem?_map, e]; rfl)
  exact ⟨a, by rw [List.getElem?_eq_getElem (by omega), e1], e2⟩
/-! ### Plain -/
def plFs (ba ta : Addr) : List (Str × V) := [("boxes", .ref ba), ("touches", .ref ta)]
theorem lk_boxes {ba ta : Addr} : (plFs ba ta).lookup ("boxes" : Str) = some (.ref ba) := by rfl
theorem lk_touches {ba ta : Addr} : (plFs ba ta).lookup ("touches" : Str) = some (.ref ta) := by rfl
structure PlainX (cs : Cs) (K : PySem.W.Frag) (H : Hp) (p : Addr) (bx : List Int) (log : List Tch) (dx ba ta : Addr) (xs : List V) : Prop where
  n1 : p ≠ ba
  n2 : p ≠ ta
  n3 : ba ≠ ta
  h1 : H p = some (.ins cs.C_Plain dx (plFs ba ta))
  h2 : H ba = some (.lst (bx.map V.int))
  h3 : H ta = some (.lst xs)
  tl : TL K H xs log
def PlainAt (cs : Cs) (K : PySem.W.Frag) (H : Hp) (p : Addr) (bx : List Int) (log : List Tch) (F : List Addr) : Prop := ∃ dx ba ta xs, F = [p, ba, ta] ∧ PlainX cs K H p bx log dx ba ta xs
theorem PlainAt.same {cs : Cs} {K : PySem.W.Frag} {H H' : Hp} {p : Addr} {bx : List Int} {log : List Tch} {F : List Addr} (h : PlainAt cs K H p bx log F) (s : Same H H') : PlainAt cs K H' p bx log F := by
  obtain ⟨dx, ba, ta, xs, e, X⟩ := h
  exact ⟨dx, ba, ta, xs, e, X.n1, X.n2, X.n3, s _ _ X.h1, s _ _ X.h2, s _ _ X.h3, X.tl.same s⟩
theorem PlainAt.but {cs : Cs} {K : PySem.W.Frag} {H : Hp} {p : Addr} {bx : List Int} {log : List Tch} {F : List Addr} (h : PlainAt cs K H p bx log F) {D : Addr} {ys : List V} {o : HO} (n : D ∉ F) (hl : H D = some (.lst ys)) : PlainAt cs K (upd H D o) p bx log F := by
  obtain ⟨dx, ba, ta, xs, e, X⟩ := h
  rw [e] at n
  simp only [List.mem_cons, List.not_mem_nil, or_false, not_or] at n
  exact ⟨dx, ba, ta, xs, e, X.n1, X.n2, X.n3, by rw [upd_ne (fun z => n.1 z.symm)]; exact X.h1, by rw [upd_ne (fun z => n.2.1 z.symm)]; exact X.h2, by rw [upd_ne (fun z => n.2.2 z.symm)]; exact X.h3, X.tl.but hl⟩
theorem PlainAt.dom {cs : Cs} {K : PySem.W.Frag} {H : Hp} {p : Addr} {bx : List Int} {log : List Tch} {F : List Addr} (h : PlainAt cs K H p bx log F) : ∀ b ∈ F, H b ≠ none := by
  obtain ⟨dx, ba, ta, xs, e, X⟩ := h
  intro b hb z
  rw [e] at hb
  simp only [List.mem_cons, List.not_mem_nil, or_false] at hb
  rcases hb with rfl | rfl | rfl
  · rw [X.h1] at z; cases z
  · rw [X.h2] at z; cases z
  · rw [X.h3] at z; cases z
def sp_Plain___init__ (K : PySem.W.Frag) (cs : Cs) : Sp := fun vs H Q _ => ∃ (p dx b : Addr) (bx : List Int), vs = [.ref p, .ref b] ∧ H p = some (.ins cs.C_Plain dx []) ∧ SqL K H b (bx.map V.int) ∧
  ∀ H' F', PlainAt cs K H' p bx [] F' → Bey [p] H F' H' → Q .non H'
theorem ok_Plain___init__ (T : Txt w K mg cs)  : Ok P w K mg base CX0 1 cs.f_Plain___init__ cs.d_Plain___init__ ["self", "boxes"] (sp_Plain___init__ K cs) := by
  refine T.fn_Plain___init__.ok sc_Plain___init__ (fun vs H Q E h => ?_) (fun cdv A outer s H vs Q E hr h => ?_)
  · obtain ⟨p, dx, b, bx, rfl, _⟩ := h
    rfl
  · obtain ⟨p, dx, b, bx, rfl, hp, hS, q⟩ := h
    refine ⟨_, (pss_cons (ps_fld (pv 0) (pe_callTy call_list_of (by rfl) T.no_list boot_list (pa_cons (pv 1) pa_nil)) rfl)
      (pss_one (ps_fld (pv 0) (pe_lst pa_nil) rfl))), ?_⟩
    refine ⟨_, rfl, b, _, rfl, .inl hS, fun ba nba => ?_⟩
    have n1 : p ≠ ba := ne_of_none hp nba
    have s1 : Same H (upd H ba (.lst (bx.map V.int))) := Same.new nba
    refine ⟨_, rfl, p, cs.C_Plain, dx, [], rfl, s1 _ _ hp, T.cl_Plain, T.na_Plain_boxes, (by decide), ?_⟩
    refine ⟨Nat.zero_le _, fun ta nta => ?_⟩
    have n2 : p ≠ ta := ne_of_none upd_same nta
    have n3 : ba ≠ ta := ne_of_none (by rw [upd_ne n1.symm]; exact upd_same) nta
    refine ⟨_, rfl, p, cs.C_Plain, dx, _, rfl, (by rw [upd_ne n2]; exact upd_same), T.cl_Plain, T.na_Plain_touches, (by show 1 < 1000; decide), ?_⟩
    refine q _ [p, ba, ta] ⟨dx, ba, ta, [], rfl, n1, n2, n3, upd_same, ?_, ?_, TL.nil⟩ ?_
    · simp only [upd_ne n1.symm, upd_ne n3]
      exact upd_same
    · simp only [upd_ne n2.symm]
      exact upd_same
    · intro G g f
      have fp : G p = none := f p (by simp)
      have fb : G ba = none := g.free nba
      have ft : G ta = none := ((g.trans s1).mut fp).free nta
      refine ⟨((((g.trans s1).mut fp).mut ft)).mut fp, fun b hb => ?_⟩
      simp only [List.mem_cons, List.not_mem_nil, or_false] at hb
      rcases hb with rfl | rfl | rfl
      · exact fp
      · exact fb
      · exact ft
def sp_Plain_look (K : PySem.W.Frag) (cs : Cs) : Sp := fun vs H Q _ => ∃ (p : Addr) (i : Int) (bx : List Int) (log : List Tch) (F : List Addr), vs = [.ref p, .int i] ∧ PlainAt cs K H p bx log F ∧ Bx (bx.length : Int) i ∧ log.length < 100000 ∧
  ∀ H' F', PlainAt cs K H' p bx (log ++ [(false, i)]) F' → Bey F H F' H' → Q (.int (rd bx i)) H'
/-- a touch more -/
theorem PlainX.touch {cs : Cs} {K : PySem.W.Frag} {H : Hp} {p : Addr} {bx : List Int} {log : List Tch} {dx ba ta : Addr} {xs : List V} (X : PlainX cs K H p bx log dx ba ta xs) {t : Addr} (w : Bool) (i : Int) (nt : H t = none) :
    PlainX cs K (upd (upd H t (.tup [.str (kindS w), .int i])) ta (.lst (xs ++ [.ref t]))) p bx (log ++ [(w, i)]) dx ba ta (xs ++ [.ref t]) ∧ Bey [p, ba, ta] H [p, ba, ta] (upd (upd H t (.tup [.str (kindS w), .int i])) ta (.lst (xs ++ [.ref t]))) := by
  have s1 : Same H (upd H t (.tup [.str (kindS w), .int i])) := Same.new nt
  have h3 := s1 _ _ X.h3
  refine ⟨⟨X.n1, X.n2, X.n3, ?_, ?_, upd_same, ?_⟩, (Bey.same s1).trans (Bey.own (by simp))⟩
  · rw [upd_ne X.n2]
    exact s1 _ _ X.h1
  · rw [upd_ne X.n3]
    exact s1 _ _ X.h2
  · exact ((X.tl.same s1).but h3).snoc ⟨t, rfl, (SqT.of upd_same).but h3⟩
theorem ok_Plain_look (T : Txt w K mg cs)  : Ok P w K mg base CX0 1 cs.f_Plain_look cs.d_Plain_look ["self", "box"] (sp_Plain_look K cs) := by
  refine T.fn_Plain_look.ok sc_Plain_look (fun vs H Q E h => ?_) (fun cdv A outer s H vs Q E hr h => ?_)
  · obtain ⟨p, i, bx, log, F, rfl, _⟩ := h
    rfl
  · obtain ⟨p, i, bx, log, F, rfl, ⟨dx, ba, ta, xs, rfl, X⟩, hi, hl, q⟩ := h
    refine ⟨_, (pss_cons (ps_expr (pe_bm PySem.F.plainAttrs_list PySem.F.slot_list_append PySem.F.type_list_append mt_append (pe_fld (pv 0) rfl) (pa_cons (pe_tup (pa_cons pe_str (pa_cons (pv 1) pa_nil))) pa_nil)))
      (pss_one (ps_ret (pe_ix ix_list (pe_fld (pv 0) rfl) (pv 1) (fun _ _ => rfl))))), ?_⟩
    have hxl := X.tl.len
    refine ⟨_, rfl, p, cs.C_Plain, dx, _, _, rfl, X.h1, T.cl_Plain, T.na_Plain_touches, lk_touches, .inl ⟨rfl, _, SqL.of X.h3⟩, _, rfl, (by show 2 ≤ sizeLine; decide), fun t nt => ?_⟩
    have s1 : Same H (upd H t (.tup [.str "read", .int i])) := Same.new nt
    refine ⟨ta, _, _, rfl, rfl, s1 _ _ X.h3, sizeL (by omega), ?_⟩
    obtain ⟨X2, b2⟩ := X.touch false i nt
    exact ⟨_, rfl, p, cs.C_Plain, dx, _, _, rfl, X2.h1, T.cl_Plain, T.na_Plain_boxes, lk_boxes, _, rfl, ba, _, _, _, rfl, rfl, SqL.of X2.h2, rd_at hi, q _ _ ⟨dx, ba, ta, _, rfl, X2⟩ b2⟩
def sp_Plain_put (K : PySem.W.Frag) (cs : Cs) : Sp := fun vs H Q _ => ∃ (p : Addr) (i n : Int) (bx : List Int) (log : List Tch) (F : List Addr), vs = [.ref p, .int i, .int n] ∧ PlainAt cs K H p bx log F ∧ Bx (bx.length : Int) i ∧ log.length < 100000 ∧
  ∀ H' F', PlainAt cs K H' p (wrt bx i n) (log ++ [(true, i)]) F' → Bey F H F' H' → Q .non H'
theorem ok_Plain_put (T : Txt w K mg cs)  : Ok P w K mg base CX0 1 cs.f_Plain_put cs.d_Plain_put ["self", "box", "number"] (sp_Plain_put K cs) := by
  refine T.fn_Plain_put.ok sc_Plain_put (fun vs H Q E h => ?_) (fun cdv A outer s H vs Q E hr h => ?_)
  · obtain ⟨p, i, n, bx, log, F, rfl, _⟩ := h
    rfl
  · obtain ⟨p, i, n, bx, log, F, rfl, ⟨dx, ba, ta, xs, rfl, X⟩, hi, hl, q⟩ := h
    refine ⟨_, (pss_cons (ps_expr (pe_bm PySem.F.plainAttrs_list PySem.F.slot_list_append PySem.F.type_list_append mt_append (pe_fld (pv 0) rfl) (pa_cons (pe_tup (pa_cons pe_str (pa_cons (pv 1) pa_nil))) pa_nil)))
      (pss_one (ps_asg (pv 2) (pg_sub (pe_fld (pv 0) rfl) (pv 1) set_list)))), ?_⟩
    have hxl := X.tl.len
    refine ⟨_, rfl, p, cs.C_Plain, dx, _, _, rfl, X.h1, T.cl_Plain, T.na_Plain_touches, lk_touches, .inl ⟨rfl, _, SqL.of X.h3⟩, _, rfl, (by show 2 ≤ sizeLine; decide), fun t nt => ?_⟩
    have s1 : Same H (upd H t (.tup [.str "write", .int i])) := Same.new nt
    refine ⟨ta, _, _, rfl, rfl, s1 _ _ X.h3, sizeL (by omega), ?_⟩
    obtain ⟨X2, b2⟩ := X.touch true i nt
    have hix : ixN (bx.map V.int).length i = some i.toNat := by
      have := ix_nat (n := (bx.map V.int).length) (j := i.toNat) (by rw [List.length_map]; have := hi.1; have := hi.2; omega)
      rwa [Int.toNat_of_nonneg hi.1] at this
    refine ⟨_, rfl, _, rfl, p, cs.C_Plain, dx, _, _, rfl, X2.h1, T.cl_Plain, T.na_Plain_boxes, lk_boxes, _, rfl, ba, _, _, i.toNat, rfl, rfl, X2.h2, hix, ?_⟩
    rw [← List.map_set]
    refine q _ [p, ba, ta] ⟨dx, ba, ta, _, rfl, X2.n1, X2.n2, X2.n3, ?_, upd_same, ?_, X2.tl.but X2.h2⟩ (b2.trans (Bey.own (by simp)))
    · rw [upd_ne X2.n1]
      exact X2.h1
    · rw [upd_ne X2.n3.symm]
      exact X2.h3
/-! ### the law's own walk over touches -/
structure WK where
  near : List Int
  dirty : List Int
  c0 : Int
  c1 : Int
  c2 : Int
/-- a line goes, if there is no room -/
def wkGo (room : Int) (s : WK) : WK := if (s.near.length : Int) = room then { s with near := s.near.drop 1, dirty := cutI s.dirty (s.near.getD 0 0), c2 := s.c2 + if s.near.getD 0 0 ∈ s.dirty then 1 else 0 } else s
/-- a line is touched -/
def wkLine (room : Int) (least : Bool) (line : Int) (s : WK) : WK :=
  if line ∈ s.near then { s with near := if least then cutI s.near line ++ [line] else s.near, c0 := s.c0 + 1 }
  else { wkGo room { s with c1 := s.c1 + 1 } with near := (wkGo room { s with c1 := s.c1 + 1 }).near ++ [line] }
def wkDirt (line : Int) (s : WK) : WK := { s with dirty := addI s.dirty line }
def wkStep (room width : Int) (least : Bool) (s : WK) (t : Tch) : WK := if t.1 then wkDirt (t.2 / width) (wkLine room least (t.2 / width) s) else wkLine room least (t.2 / width) s
def walkW (room width : Int) (least : Bool) (ts : List Tch) : WK := ts.foldl (wkStep room width least) ⟨[], [], 0, 0, 0⟩
/-- what the walk knows of a holder -/
def wkOf (s : NS) : WK := ⟨s.order, s.written, s.found, s.missed, s.back⟩
theorem cutI_not {l : List Int} {k : Int} (h : k ∉ l) : cutI l k = l := by
  unfold cutI
  rw [List.filter_eq_self]
  intro z hz
  have : ¬ z = k := fun q => h (by rw [← q]; exact hz)
  simp [this]
theorem leave_wk {width : Int} {s : NS} (k : Int) : wkOf (leaveS width k s) = { wkOf s with near := cutI s.order k, dirty := cutI s.written k, c2 := s.back + if k ∈ s.written then 1 else 0 } := by
  unfold leaveS
  by_cases h : k ∈ s.written
  · rw [if_pos h, if_pos h]
    rfl
  · rw [if_neg h, if_neg h, cutI_not h]
    show WK.mk _ _ _ _ _ = WK.mk _ _ _ _ _
    simp [wkOf]
theorem miss_wk {room width : Int} {size : Nat} {s : NS} (ok : NOk room width size s) (line : Int) : wkOf (missS room width line s) = wkGo room { wkOf s with c1 := s.missed + 1 } := by
  unfold missS wkGo
  by_cases h : (s.order.length : Int) = room
  · have hr := ok.r0
    have e1 : ((({ wkOf s with c1 := s.missed + 1 } : WK).near.length : Nat) : Int) = room := h
    rw [if_pos h, if_pos e1, leave_wk]
    show WK.mk _ _ _ _ _ = WK.mk _ _ _ _ _
    have e2 : cutI s.order (s.order.getD 0 0) = s.order.drop 1 := head_cut ok.ord (by omega)
    have e3 : ({ s with missed := s.missed + 1 } : NS).order = s.order := rfl
    rw [e2]
    rfl
  · have e1 : ¬ ((({ wkOf s with c1 := s.missed + 1 } : WK).near.length : Nat) : Int) = room := h
    rw [if_neg h, if_neg e1]
    rfl
theorem touch_wk {room width : Int} {size : Nat} {s : NS} (ok : NOk room width size s) (least : Bool) (i : Int) (a : Addr) : wkOf (touchS room width least i a s) = wkLine room least (i / width) (wkOf s) := by
  by_cases h : i / width ∈ s.order
  · have e : touchS room width least i a s = { s with found := s.found + 1, order := if least then cutI s.order (i / width) ++ [i / width] else s.order } := if_pos h
    have e2 : wkLine room least (i / width) (wkOf s) = { wkOf s with near := if least then cutI s.order (i / width) ++ [i / width] else s.order, c0 := s.found + 1 } := if_pos h
    rw [e, e2]
    rfl
  · have e : touchS room width least i a s = { missS room width (i / width) s with near := (missS room width (i / width) s).near ++ [NE.mk (i / width) a (sliceI (missS room width (i / width) s).far (i / width * width).toNat width.toNat)], order := (missS room width (i / width) s).order ++ [i / width] } := if_neg h
    have e2 : wkLine room least (i / width) (wkOf s) = { wkGo room { wkOf s with c1 := s.missed + 1 } with near := (wkGo room { wkOf s with c1 := s.missed + 1 }).near ++ [i / width] } := if_neg h
    rw [e, e2, ← miss_wk ok (i / width)]
    rfl
theorem put_wk (width i n : Int) (s : NS) : wkOf (putS width i n s) = wkDirt (i / width) (wkOf s) := rfl
theorem walk_snoc (room width : Int) (least : Bool) (ts : List Tch) (t : Tch) : walkW room width least (ts ++ [t]) = wkStep room width least (walkW room width least ts) t := by
  unfold walkW
  rw [List.foldl_append]
  rfl
/-- how many are written -/
def wcount (ts : List Tch) : Nat := ts.countP fun t => t.1
theorem wkGo_dirty (room : Int) (s : WK) : (wkGo room s).dirty.length ≤ s.dirty.length := by
  unfold wkGo
  split
  · exact List.length_filter_le _ _
  · exact Nat.le_refl _
theorem wkLine_dirty (room : Int) (least : Bool) (line : Int) (s : WK) : (wkLine room least line s).dirty.length ≤ s.dirty.length := by
  unfold wkLine
  split
  · exact Nat.le_refl _
  · exact wkGo_dirty room { s with c1 := s.c1 + 1 }
theorem walk_dirty (room width : Int) (least : Bool) (ts : List Tch) : (walkW room width least ts).dirty.length ≤ wcount ts := by
  have h : ∀ (ts : List Tch) (s : WK), (ts.foldl (wkStep room width least) s).dirty.length ≤ s.dirty.length + wcount ts := by
    intro ts
    induction ts with
    | nil => exact fun s => Nat.le_refl _
    | cons t r ih =>
      intro s
      refine Nat.le_trans (ih (wkStep room width least s t)) ?_
      unfold wcount
      rw [List.countP_cons]
      unfold wkStep
      have h1 := wkLine_dirty room least (t.2 / width) s
      by_cases q : t.1 = true
      · rw [if_pos q, if_pos q]
        have h2 : (wkDirt (t.2 / width) (wkLine room least (t.2 / width) s)).dirty.length ≤ (wkLine room least (t.2 / width) s).dirty.length + 1 := by
          show (addI _ _).length ≤ _
          unfold addI
          split
          · omega
          · rw [List.length_append]
            exact Nat.le_refl _
        omega
      · rw [if_neg q, if_neg q]
        omega
  have := h ts ⟨[], [], 0, 0, 0⟩
  unfold walkW
  simpa using this
/-! ### the holder of a run: Plain, or Near -/
inductive Kd where
  | plain
  | near (room width : Int) (rule : Str)
def kdP : Kd := .plain
def clsOf (cs : Cs) : Kd → Addr
  | .plain => cs.C_Plain
  | .near _ _ _ => cs.C_Near
/-- a holder of lines holds these boxes behind these touches -/
def NearHold (cs : Cs) (H : Hp) (p : Addr) (room width : Int) (rule : Str) (bx : List Int) (log : List Tch) (F : List Addr) : Prop :=
  ∃ s : NS, NearAt cs H p room width rule s F ∧ NOk room width bx.length s ∧ Holds width bx.length s bx ∧ wkOf s = walkW room width (leastB rule) log
def Hold (cs : Cs) (K : PySem.W.Frag) (kd : Kd) (H : Hp) (p : Addr) (bx : List Int) (log : List Tch) (F : List Addr) : Prop :=
  match kd with
  | .plain => PlainAt cs K H p bx log F
  | .near room width rule => NearHold cs H p room width rule bx log F
section
variable {kd : Kd} {H H' : Hp} {p : Addr} {bx : List Int} {log : List Tch} {F : List Addr}
theorem Hold.same (h : Hold cs K kd H p bx log F) (s : Same H H') : Hold cs K kd H' p bx log F := by
  cases kd with
  | plain => exact PlainAt.same h s
  | near room width rule =>
    obtain ⟨st, h1, h2⟩ := h
    exact ⟨st, h1.same s, h2⟩
theorem Hold.but (h : Hold cs K kd H p bx log F) {D : Addr} {ys : List V} {o : HO} (n : D ∉ F) (hl : H D = some (.lst ys)) : Hold cs K kd (upd H D o) p bx log F := by
  cases kd with
  | plain => exact PlainAt.but h n hl
  | near room width rule =>
    obtain ⟨st, h1, h2⟩ := h
    exact ⟨st, h1.but n, h2⟩
theorem Hold.dom (h : Hold cs K kd H p bx log F) : ∀ b ∈ F, H b ≠ none := by
  cases kd with
  | plain => exact PlainAt.dom h
  | near room width rule =>
    obtain ⟨st, h1, h2⟩ := h
    exact h1.dom
theorem Hold.ins (h : Hold cs K kd H p bx log F) : ∃ dx fs, H p = some (.ins (clsOf cs kd) dx fs) ∧ fs.lookup ("look" : Str) = none ∧ fs.lookup ("put" : Str) = none := by
  cases kd with
  | plain =>
    obtain ⟨dx, ba, ta, xs, e, X⟩ := h
    exact ⟨dx, _, X.h1, rfl, rfl⟩
  | near room width rule =>
    obtain ⟨st, ⟨dx, fa, oa, na, wa, e, X⟩, _⟩ := h
    exact ⟨dx, _, X.h1, rfl, rfl⟩
end
def spHLook (K : PySem.W.Frag) (cs : Cs) (kd : Kd) : Sp := fun vs H Q _ => ∃ (p : Addr) (i : Int) (bx : List Int) (log : List Tch) (F : List Addr), vs = [.ref p, .int i] ∧ Hold cs K kd H p bx log F ∧ Bx (bx.length : Int) i ∧ log.length < 100000 ∧
  ∀ H' F', Hold cs K kd H' p bx (log ++ [(false, i)]) F' → Bey F H F' H' → Q (.int (rd bx i)) H'
def spHPut (K : PySem.W.Frag) (cs : Cs) (kd : Kd) : Sp := fun vs H Q _ => ∃ (p : Addr) (i n : Int) (bx : List Int) (log : List Tch) (F : List Addr), vs = [.ref p, .int i, .int n] ∧ Hold cs K kd H p bx log F ∧ Bx (bx.length : Int) i ∧ log.length < 100000 ∧
  ∀ H' F', Hold cs K kd H' p (wrt bx i n) (log ++ [(true, i)]) F' → Bey F H F' H' → Q .non H'
theorem box_in {size i : Int} (h : Bx size i) {x : Prop} (hw : wIn (.int i) 0 (size - 1) = false) : x := by
  have : wIn (.int i) 0 (size - 1) = true := wIn_of ⟨h.1, by have := h.2; omega⟩
  rw [hw] at this
  cases this
section
variable {X : Cx} {k k2 : Nat} {p pos apos : Pos} {e o : Expr} {es : List Expr} {ta : TE} {t : TA}
theorem pe_look {cs : Cs} (kd : Kd) {pl : Sem Bool} (OP : Ok X.prog X.w X.K X.mg X.base CX0 k cs.f_Plain_look cs.d_Plain_look ["self", "box"] (sp_Plain_look X.K cs)) (c : Cls X.K cs.C_Plain) (hm : Meth X.K cs.C_Plain "look" cs.f_Plain_look) (hr : Room k X.A)
    (ON : Ok X.prog X.w X.K X.mg X.base (L2.CX X.prog X.w) k2 cs.f_Near_look cs.d_Near_look ["self", "box"] (sp_Near_look X.K cs)) (c2 : Cls X.K cs.C_Near) (hm2 : Meth X.K cs.C_Near "look" cs.f_Near_look) (hr2 : Room k2 X.A) (he : PE X o ta) (ha : PA X (e :: es) t)
    (hst : starEach (e :: es) X.env = (false, eval e X.env) :: starEach es X.env := by rfl) (hpl : (backTo pos (starEach es X.env)).any (·.1) = false := by rfl)
    (ht : eval (.Call (.Attribute o "look" apos) (e :: es) [] pos) X.env = (do
      let ov ← eval o X.env
      standAt apos.atName
      let (f, first) ← holding [ov] (getMethod ov "look" pl)
      callWith pos f first (backTo pos (starEach (e :: es) X.env)) (backToKw pos (keywordEach [] X.env))) := by rfl) :
    PE X (.Call (.Attribute o "look" apos) (e :: es) [] pos) (tMethO (clsOf cs kd) "look" (spHLook X.K cs kd) E0 ta t) := by
  cases kd with
  | plain => exact pe_methO (OP.imp fun vs H Q E h => h) c hm hr pass0 he ha hst hpl ht
  | near room width rule =>
    refine pe_methO (ON.imp fun vs H Q E h => ?_) c2 hm2 hr2 passL he ha hst hpl ht
    obtain ⟨p, i, bx, log, F, rfl, ⟨s, hN, ok, ho, hw⟩, hi, hl, q⟩ := h
    refine ⟨p, .int i, room, width, bx.length, rule, s, F, rfl, typ_i _, hN, ok, fun i2 ex h0 h1 H' F' a hN' hB' => ?_, fun hwx => box_in hi hwx⟩
    cases ex
    have ho' := ho.touch ok (leastB rule) h0 h1 a
    have hlk := ho'.look h0 h1 touch_has
    rw [hlk]
    refine q H' F' ⟨_, hN', ok.touch _ h0 h1 a, ho', ?_⟩ hB'
    rw [walk_snoc, ← hw, touch_wk ok]
    rfl
theorem pe_put {cs : Cs} (kd : Kd) {pl : Sem Bool} (OP : Ok X.prog X.w X.K X.mg X.base CX0 k cs.f_Plain_put cs.d_Plain_put ["self", "box", "number"] (sp_Plain_put X.K cs)) (c : Cls X.K cs.C_Plain) (hm : Meth X.K cs.C_Plain "put" cs.f_Plain_put) (hr : Room k X.A)
    (ON : Ok X.prog X.w X.K X.mg X.base (L2.CX X.prog X.w) k2 cs.f_Near_put cs.d_Near_put ["self", "box", "number"] (sp_Near_put X.K cs)) (c2 : Cls X.K cs.C_Near) (hm2 : Meth X.K cs.C_Near "put" cs.f_Near_put) (hr2 : Room k2 X.A) (he : PE X o ta) (ha : PA X (e :: es) t)
    (hst : starEach (e :: es) X.env = (false, eval e X.env) :: starEach es X.env := by rfl) (hpl : (backTo pos (starEach es X.env)).any (·.1) = false := by rfl)
    (ht : eval (.Call (.Attribute o "put" apos) (e :: es) [] pos) X.env = (do
      let ov ← eval o X.env
      standAt apos.atName
      let (f, first) ← holding [ov] (getMethod ov "put" pl)
      callWith pos f first (backTo pos (starEach (e :: es) X.env)) (backToKw pos (keywordEach [] X.env))) := by rfl) :
    PE X (.Call (.Attribute o "put" apos) (e :: es) [] pos) (tMethO (clsOf cs kd) "put" (spHPut X.K cs kd) E0 ta t) := by
  cases kd with
  | plain => exact pe_methO (OP.imp fun vs H Q E h => h) c hm hr pass0 he ha hst hpl ht
  | near room width rule =>
    refine pe_methO (ON.imp fun vs H Q E h => ?_) c2 hm2 hr2 passL he ha hst hpl ht
    obtain ⟨p, i, n, bx, log, F, rfl, ⟨s, hN, ok, ho, hw⟩, hi, hl, q⟩ := h
    refine ⟨p, .int i, n, room, width, bx.length, rule, s, F, rfl, typ_i _, hN, ok, fun i2 ex h0 h1 H' F' a hN' hB' => ?_, fun hwx => box_in hi hwx⟩
    cases ex
    have okt := ok.touch (leastB rule) h0 h1 a
    have ho' := (ho.touch ok (leastB rule) h0 h1 a).put okt h0 h1 touch_has n
    have ok' := okt.put touch_has n
    refine q H' F' ⟨_, hN', by rw [wrt_len]; exact ok', by rw [wrt_len]; exact ho', ?_⟩ hB'
    rw [walk_snoc, ← hw, put_wk, touch_wk ok]
    rfl
end
/-! ### reckoned, moved, goes_on -/
theorem log_le {l m : List Tch} {n k j : Nat} (h : l.length < n) (hm : m.length ≤ j) (e : n + j ≤ k := by decide) : (l ++ m).length < k := by
  rw [List.length_append]
  omega
def sp_reckoned (K : PySem.W.Frag) (cs : Cs) : Sp := fun vs H Q _ => ∃ (kd : Kd) (p b : Addr) (r : Rw) (bx : List Int) (log : List Tch) (F : List Addr) (G : Hp) (count : Int), vs = [.ref b, .ref p] ∧ Part G H F ∧ G b = some (.tup r.vs) ∧ Hold cs K kd H p bx log F ∧ r.Fit (bx.length : Int) count ∧ log.length < 90000 ∧
  ((∃ b c d, r = .add b c d) ∨ ∃ b c d, r = .sub b c d) ∧ ∀ H' F', Hold cs K kd H' p (r.bx' (bx.length : Int) bx) (log ++ r.pre (bx.length : Int) bx) F' → Bey F H F' H' → Q .non H'
theorem ok_reckoned (T : Txt w K mg cs) (o_Plain_look : Ok P w K mg base CX0 1 cs.f_Plain_look cs.d_Plain_look ["self", "box"] (sp_Plain_look K cs)) (o_Near_look : Ok P w K mg base (L2.CX P w) 4 cs.f_Near_look cs.d_Near_look ["self", "box"] (sp_Near_look K cs)) (o_Plain_put : Ok P w K mg base CX0 1 cs.f_Plain_put cs.d_Plain_put ["self", "box", "number"] (sp_Plain_put K cs)) (o_Near_put : Ok P w K mg base (L2.CX P w) 4 cs.f_Near_put cs.d_Near_put ["self", "box", "number"] (sp_Near_put K cs)) : Ok P w K mg base CX0 5 cs.f_reckoned cs.d_reckoned ["row", "holder"] (sp_reckoned K cs) := by
  refine T.fn_reckoned.ok sc_reckoned (fun vs H Q E h => ?_) (fun cdv A outer s H vs Q E hr h => ?_)
  · obtain ⟨kd, p, b, r, bx, log, F, G, count, rfl, _⟩ := h
    rfl
  · obtain ⟨kd, p, b, r, bx, log, F, G, count, rfl, P0, hb, hH, hf, hl, hr2, q⟩ := h
    refine ⟨_, (pss_cons (ps_set (i := 2) sc_reckoned.nd rfl (Or.inl rfl) (pe_look kd o_Plain_look T.cl_Plain T.me_Plain_look (hr.mono (by decide)) o_Near_look T.cl_Near T.me_Near_look hr (pv 1) (pa_cons (pe_ix ix_tup (pv 0) pe_int (fun _ _ => rfl)) pa_nil)))
      (pss_cons (ps_set (i := 3) sc_reckoned.nd rfl (Or.inl rfl) (pe_look kd o_Plain_look T.cl_Plain T.me_Plain_look (hr.mono (by decide)) o_Near_look T.cl_Near T.me_Near_look hr (pv 1) (pa_cons (pe_ix ix_tup (pv 0) pe_int (fun _ _ => rfl)) pa_nil)))
      (pss_one (ps_if (pt_cmpR op_eq (pe_ix ix_tup (pv 0) pe_int (fun _ _ => rfl)) pe_str (nomark _)) (pss_one (ps_expr (pe_put kd o_Plain_put T.cl_Plain T.me_Plain_put (hr.mono (by decide)) o_Near_put T.cl_Near T.me_Near_put hr (pv 1) (pa_cons (pe_ix ix_tup (pv 0) pe_int (fun _ _ => rfl)) (pa_cons (pe_op op_mod (pe_op op_add (pv 2) (pv 3)) (pe_glob (v := .int 1000000) (by rfl) (T.gl_MODULUS).choose_spec ⟨_, rfl⟩)) pa_nil))))) (pss_one (ps_expr (pe_put kd o_Plain_put T.cl_Plain T.me_Plain_put (hr.mono (by decide)) o_Near_put T.cl_Near T.me_Near_put hr (pv 1) (pa_cons (pe_ix ix_tup (pv 0) pe_int (fun _ _ => rfl)) (pa_cons (pe_op op_mod (pe_op op_sub (pv 2) (pv 3)) (pe_glob (v := .int 1000000) (by rfl) (T.gl_MODULUS).choose_spec ⟨_, rfl⟩)) pa_nil))))))))), ?_⟩
    obtain ⟨dx, fs, hp, f1, f2⟩ := hH.ins
    rcases hr2 with ⟨b1, c, d, rfl⟩ | ⟨b1, c, d, rfl⟩
    · obtain ⟨hf1, hf2, hf3⟩ := hf
      refine ⟨_, rfl, p, dx, fs, rfl, hp, f1, _, rfl, b, _, _, _, rfl, rfl, SqT.of (P0.same _ _ hb), (by rfl), p, c, bx, log, F, rfl, hH, hf2, by omega, fun H1 F1 h1 b1' => ?_⟩
      have P1 := P0.bey b1'
      obtain ⟨dx1, fs1, hp1, f11, f21⟩ := h1.ins
      refine ⟨_, rfl, p, dx1, fs1, rfl, hp1, f11, _, rfl, b, _, _, _, rfl, rfl, SqT.of (P1.same _ _ hb), (by rfl), p, d, bx, _, F1, rfl, h1, hf3, log_le hl (Nat.le_refl 1), fun H2 F2 h2 b2 => ?_⟩
      have P2 := P1.bey b2
      obtain ⟨dx2, fs2, hp2, f12, f22⟩ := h2.ins
      refine ⟨_, rfl, b, _, _, _, rfl, rfl, SqT.of (P2.same _ _ hb), (by rfl), rfl, _, rfl, iteD (fun _ => ?_) (fun z => absurd rfl z)⟩
      refine ⟨_, rfl, p, dx2, fs2, rfl, hp2, f22, _, rfl, b, _, _, _, rfl, rfl, SqT.of (P2.same _ _ hb), (by rfl), _, rfl, _, rfl, _, _, rfl, rfl, _, _, rfl, rfl, (by show (0 : Int) < _; decide), p, b1, _, bx, _, F2, rfl, h2, hf1, log_le (log_le hl (Nat.le_refl 1) (k := 90001)) (Nat.le_refl 1), fun H3 F3 h3 b3 => ?_⟩
      rw [List.append_assoc, List.append_assoc] at h3
      exact q _ _ h3 ((b1'.trans b2).trans b3)
    · obtain ⟨hf1, hf2, hf3⟩ := hf
      refine ⟨_, rfl, p, dx, fs, rfl, hp, f1, _, rfl, b, _, _, _, rfl, rfl, SqT.of (P0.same _ _ hb), (by rfl), p, c, bx, log, F, rfl, hH, hf2, by omega, fun H1 F1 h1 b1' => ?_⟩
      have P1 := P0.bey b1'
      obtain ⟨dx1, fs1, hp1, f11, f21⟩ := h1.ins
      refine ⟨_, rfl, p, dx1, fs1, rfl, hp1, f11, _, rfl, b, _, _, _, rfl, rfl, SqT.of (P1.same _ _ hb), (by rfl), p, d, bx, _, F1, rfl, h1, hf3, log_le hl (Nat.le_refl 1), fun H2 F2 h2 b2 => ?_⟩
      have P2 := P1.bey b2
      obtain ⟨dx2, fs2, hp2, f12, f22⟩ := h2.ins
      refine ⟨_, rfl, b, _, _, _, rfl, rfl, SqT.of (P2.same _ _ hb), (by rfl), rfl, _, rfl, iteD (fun z => absurd (V.str.inj z) (by decide +kernel)) (fun _ => ?_)⟩
      refine ⟨_, rfl, p, dx2, fs2, rfl, hp2, f22, _, rfl, b, _, _, _, rfl, rfl, SqT.of (P2.same _ _ hb), (by rfl), _, rfl, _, rfl, _, _, rfl, rfl, _, _, rfl, rfl, (by show (0 : Int) < _; decide), p, b1, _, bx, _, F2, rfl, h2, hf1, log_le (log_le hl (Nat.le_refl 1) (k := 90001)) (Nat.le_refl 1), fun H3 F3 h3 b3 => ?_⟩
      rw [List.append_assoc, List.append_assoc] at h3
      exact q _ _ h3 ((b1'.trans b2).trans b3)
theorem bx_mod {size : Int} (h : 0 < size) (z : Int) : Bx size (z % size) := ⟨Int.emod_nonneg _ (by omega), Int.emod_lt_of_pos _ h⟩
def sp_moved (K : PySem.W.Frag) (cs : Cs) : Sp := fun vs H Q _ => ∃ (kd : Kd) (p b : Addr) (r : Rw) (bx : List Int) (log : List Tch) (F : List Addr) (G : Hp) (count : Int), vs = [.ref b, .ref p, .int (bx.length : Int)] ∧ Part G H F ∧ G b = some (.tup r.vs) ∧ Hold cs K kd H p bx log F ∧ r.Fit (bx.length : Int) count ∧ log.length < 90000 ∧ 0 < bx.length ∧
  ((∃ b c, r = .copy b c) ∨ (∃ b c, r = .fetch b c) ∨ ∃ b c, r = .store b c) ∧ ∀ H' F', Hold cs K kd H' p (r.bx' (bx.length : Int) bx) (log ++ r.pre (bx.length : Int) bx) F' → Bey F H F' H' → Q .non H'
theorem ok_moved (T : Txt w K mg cs) (o_Plain_look : Ok P w K mg base CX0 1 cs.f_Plain_look cs.d_Plain_look ["self", "box"] (sp_Plain_look K cs)) (o_Near_look : Ok P w K mg base (L2.CX P w) 4 cs.f_Near_look cs.d_Near_look ["self", "box"] (sp_Near_look K cs)) (o_Plain_put : Ok P w K mg base CX0 1 cs.f_Plain_put cs.d_Plain_put ["self", "box", "number"] (sp_Plain_put K cs)) (o_Near_put : Ok P w K mg base (L2.CX P w) 4 cs.f_Near_put cs.d_Near_put ["self", "box", "number"] (sp_Near_put K cs)) : Ok P w K mg base CX0 5 cs.f_moved cs.d_moved ["row", "holder", "size"] (sp_moved K cs) := by
  refine T.fn_moved.ok sc_moved (fun vs H Q E h => ?_) (fun cdv A outer s H vs Q E hr h => ?_)
  · obtain ⟨kd, p, b, r, bx, log, F, G, count, rfl, _⟩ := h
    rfl
  · obtain ⟨kd, p, b, r, bx, log, F, G, count, rfl, P0, hb, hH, hf, hl, hsz, hr2, q⟩ := h
    refine ⟨_, (pss_one (ps_if (pt_cmpR op_eq (pe_ix ix_tup (pv 0) pe_int (fun _ _ => rfl)) pe_str (nomark _)) (pss_cons (ps_set (i := 3) sc_moved.nd rfl (Or.inl rfl) (pe_look kd o_Plain_look T.cl_Plain T.me_Plain_look (hr.mono (by decide)) o_Near_look T.cl_Near T.me_Near_look hr (pv 1) (pa_cons (pe_ix ix_tup (pv 0) pe_int (fun _ _ => rfl)) pa_nil)))
      (pss_one (ps_expr (pe_put kd o_Plain_put T.cl_Plain T.me_Plain_put (hr.mono (by decide)) o_Near_put T.cl_Near T.me_Near_put hr (pv 1) (pa_cons (pe_ix ix_tup (pv 0) pe_int (fun _ _ => rfl)) (pa_cons (pv 3) pa_nil)))))) (pss_one (ps_if (pt_cmpR op_eq (pe_ix ix_tup (pv 0) pe_int (fun _ _ => rfl)) pe_str (nomark _)) (pss_cons (ps_set (i := 4) sc_moved.nd rfl (Or.inl rfl) (pe_look kd o_Plain_look T.cl_Plain T.me_Plain_look (hr.mono (by decide)) o_Near_look T.cl_Near T.me_Near_look hr (pv 1) (pa_cons (pe_ix ix_tup (pv 0) pe_int (fun _ _ => rfl)) pa_nil)))
      (pss_cons (ps_set (i := 3) sc_moved.nd rfl (Or.inl rfl) (pe_look kd o_Plain_look T.cl_Plain T.me_Plain_look (hr.mono (by decide)) o_Near_look T.cl_Near T.me_Near_look hr (pv 1) (pa_cons (pe_op op_mod (pv 4) (pv 2)) pa_nil)))
      (pss_one (ps_expr (pe_put kd o_Plain_put T.cl_Plain T.me_Plain_put (hr.mono (by decide)) o_Near_put T.cl_Near T.me_Near_put hr (pv 1) (pa_cons (pe_ix ix_tup (pv 0) pe_int (fun _ _ => rfl)) (pa_cons (pv 3) pa_nil))))))) (pss_cons (ps_set (i := 4) sc_moved.nd rfl (Or.inl rfl) (pe_look kd o_Plain_look T.cl_Plain T.me_Plain_look (hr.mono (by decide)) o_Near_look T.cl_Near T.me_Near_look hr (pv 1) (pa_cons (pe_ix ix_tup (pv 0) pe_int (fun _ _ => rfl)) pa_nil)))
      (pss_cons (ps_set (i := 3) sc_moved.nd rfl (Or.inl rfl) (pe_look kd o_Plain_look T.cl_Plain T.me_Plain_look (hr.mono (by decide)) o_Near_look T.cl_Near T.me_Near_look hr (pv 1) (pa_cons (pe_ix ix_tup (pv 0) pe_int (fun _ _ => rfl)) pa_nil)))
      (pss_one (ps_expr (pe_put kd o_Plain_put T.cl_Plain T.me_Plain_put (hr.mono (by decide)) o_Near_put T.cl_Near T.me_Near_put hr (pv 1) (pa_cons (pe_op op_mod (pv 4) (pv 2)) (pa_cons (pv 3) pa_nil))))))))))), ?_⟩
    obtain ⟨dx, fs, hp, f1, f2⟩ := hH.ins
    have hs0 : 0 < (bx.length : Int) := by omega
    rcases hr2 with ⟨b1, c, rfl⟩ | ⟨b1, c, rfl⟩ | ⟨b1, c, rfl⟩
    · obtain ⟨hf1, hf2⟩ := hf
      refine ⟨_, rfl, b, _, _, _, rfl, rfl, SqT.of (P0.same _ _ hb), (by rfl), rfl, _, rfl, iteD (fun _ => ?_) (fun z => absurd rfl z)⟩
      refine ⟨_, rfl, p, dx, fs, rfl, hp, f1, _, rfl, b, _, _, _, rfl, rfl, SqT.of (P0.same _ _ hb), (by rfl), p, c, bx, log, F, rfl, hH, hf2, by omega, fun H1 F1 h1 b1' => ?_⟩
      have P1 := P0.bey b1'
      obtain ⟨dx1, fs1, hp1, f11, f21⟩ := h1.ins
      refine ⟨_, rfl, p, dx1, fs1, rfl, hp1, f21, _, rfl, b, _, _, _, rfl, rfl, SqT.of (P1.same _ _ hb), (by rfl), _, rfl, p, b1, _, bx, _, F1, rfl, h1, hf1, log_le hl (Nat.le_refl 1), fun H3 F3 h3 b3 => ?_⟩
      rw [List.append_assoc] at h3
      exact q _ _ h3 (b1'.trans b3)
    · obtain ⟨hf1, hf2⟩ := hf
      refine ⟨_, rfl, b, _, _, _, rfl, rfl, SqT.of (P0.same _ _ hb), (by rfl), rfl, _, rfl, iteD (fun z => absurd (V.str.inj z) (by decide +kernel)) (fun _ => ?_)⟩
      refine ⟨_, rfl, b, _, _, _, rfl, rfl, SqT.of (P0.same _ _ hb), (by rfl), rfl, _, rfl, iteD (fun _ => ?_) (fun z => absurd rfl z)⟩
      refine ⟨_, rfl, p, dx, fs, rfl, hp, f1, _, rfl, b, _, _, _, rfl, rfl, SqT.of (P0.same _ _ hb), (by rfl), p, c, bx, log, F, rfl, hH, hf2, by omega, fun H1 F1 h1 b1' => ?_⟩
      have P1 := P0.bey b1'
      obtain ⟨dx1, fs1, hp1, f11, f21⟩ := h1.ins
      refine ⟨_, rfl, p, dx1, fs1, rfl, hp1, f11, _, rfl, _, rfl, _, _, rfl, rfl, hs0, p, _, bx, _, F1, rfl, h1, bx_mod hs0 (rd bx c), log_le hl (Nat.le_refl 1), fun H2 F2 h2 b2 => ?_⟩
      have P2 := P1.bey b2
      obtain ⟨dx2, fs2, hp2, f12, f22⟩ := h2.ins
      refine ⟨_, rfl, p, dx2, fs2, rfl, hp2, f22, _, rfl, b, _, _, _, rfl, rfl, SqT.of (P2.same _ _ hb), (by rfl), _, rfl, p, b1, _, bx, _, F2, rfl, h2, hf1, log_le (log_le hl (Nat.le_refl 1) (k := 90001)) (Nat.le_refl 1), fun H3 F3 h3 b3 => ?_⟩
      rw [List.append_assoc, List.append_assoc] at h3
      exact q _ _ h3 ((b1'.trans b2).trans b3)
    · obtain ⟨hf1, hf2⟩ := hf
      refine ⟨_, rfl, b, _, _, _, rfl, rfl, SqT.of (P0.same _ _ hb), (by rfl), rfl, _, rfl, iteD (fun z => absurd (V.str.inj z) (by decide +kernel)) (fun _ => ?_)⟩
      refine ⟨_, rfl, b, _, _, _, rfl, rfl, SqT.of (P0.same _ _ hb), (by rfl), rfl, _, rfl, iteD (fun z => absurd (V.str.inj z) (by decide +kernel)) (fun _ => ?_)⟩
      refine ⟨_, rfl, p, dx, fs, rfl, hp, f1, _, rfl, b, _, _, _, rfl, rfl, SqT.of (P0.same _ _ hb), (by rfl), p, b1, bx, log, F, rfl, hH, hf1, by omega, fun H1 F1 h1 b1' => ?_⟩
      have P1 := P0.bey b1'
      obtain ⟨dx1, fs1, hp1, f11, f21⟩ := h1.ins
      refine ⟨_, rfl, p, dx1, fs1, rfl, hp1, f11, _, rfl, b, _, _, _, rfl, rfl, SqT.of (P1.same _ _ hb), (by rfl), p, c, bx, _, F1, rfl, h1, hf2, log_le hl (Nat.le_refl 1), fun H2 F2 h2 b2 => ?_⟩
      obtain ⟨dx2, fs2, hp2, f12, f22⟩ := h2.ins
      refine ⟨_, rfl, p, dx2, fs2, rfl, hp2, f22, _, rfl, _, rfl, _, _, rfl, rfl, hs0, _, rfl, p, _, _, bx, _, F2, rfl, h2, bx_mod hs0 (rd bx b1), log_le (log_le hl (Nat.le_refl 1) (k := 90001)) (Nat.le_refl 1), fun H3 F3 h3 b3 => ?_⟩
      rw [List.append_assoc, List.append_assoc] at h3
      exact q _ _ h3 ((b1'.trans b2).trans b3)
def sp_goes_on (K : PySem.W.Frag) (cs : Cs) : Sp := fun vs H Q _ => ∃ (kd : Kd) (p b : Addr) (r : Rw) (bx : List Int) (log : List Tch) (F : List Addr) (G : Hp) (count place : Int), vs = [.ref b, .int place, .ref p] ∧ Part G H F ∧ G b = some (.tup r.vs) ∧ Hold cs K kd H p bx log F ∧ r.Fit (bx.length : Int) count ∧ log.length < 90003 ∧
  ∀ H' F', Hold cs K kd H' p bx (log ++ r.g) F' → Bey F H F' H' → Q (.int (r.nxt bx place)) H'
theorem ok_goes_on (T : Txt w K mg cs) (o_Plain_look : Ok P w K mg base CX0 1 cs.f_Plain_look cs.d_Plain_look ["self", "box"] (sp_Plain_look K cs)) (o_Near_look : Ok P w K mg base (L2.CX P w) 4 cs.f_Near_look cs.d_Near_look ["self", "box"] (sp_Near_look K cs)) : Ok P w K mg base CX0 5 cs.f_goes_on cs.d_goes_on ["row", "place", "holder"] (sp_goes_on K cs) := by
  refine T.fn_goes_on.ok sc_goes_on (fun vs H Q E h => ?_) (fun cdv A outer s H vs Q E hr h => ?_)
  · obtain ⟨kd, p, b, r, bx, log, F, G, count, place, rfl, _⟩ := h
    rfl
  · obtain ⟨kd, p, b, r, bx, log, F, G, count, place, rfl, P0, hb, hH, hf, hl, q⟩ := h
    refine ⟨_, (pss_cons (ps_if (pt_cmpR op_eq (pe_ix ix_tup (pv 0) pe_int (fun _ _ => rfl)) pe_str (nomark _)) (pss_one (ps_ret (pe_ix ix_tup (pv 0) pe_int (fun _ _ => rfl)))) pss_nil)
      (pss_cons (ps_if (pt_cmpR op_eq (pe_ix ix_tup (pv 0) pe_int (fun _ _ => rfl)) pe_str (nomark _)) (pss_cons (ps_set (i := 3) sc_goes_on.nd rfl (Or.inl rfl) (pe_look kd o_Plain_look T.cl_Plain T.me_Plain_look (hr.mono (by decide)) o_Near_look T.cl_Near T.me_Near_look hr (pv 2) (pa_cons (pe_ix ix_tup (pv 0) pe_int (fun _ _ => rfl)) pa_nil)))
      (pss_cons (ps_set (i := 4) sc_goes_on.nd rfl (Or.inl rfl) (pe_look kd o_Plain_look T.cl_Plain T.me_Plain_look (hr.mono (by decide)) o_Near_look T.cl_Near T.me_Near_look hr (pv 2) (pa_cons (pe_ix ix_tup (pv 0) pe_int (fun _ _ => rfl)) pa_nil)))
      (pss_one (ps_if (pt_cmpR op_lt (pv 3) (pv 4) (nomark _)) (pss_one (ps_ret (pe_ix ix_tup (pv 0) pe_int (fun _ _ => rfl)))) pss_nil)))) pss_nil)
      (pss_one (ps_ret (pe_op op_add (pv 1) pe_int))))), ?_⟩
    obtain ⟨dx, fs, hp, f1, f2⟩ := hH.ins
    have other : ∀ {w : Str} {xs : List V}, r.vs = .str w :: xs → (∀ H' F', Hold cs K kd H' p bx (log ++ []) F' → Bey F H F' H' → Q (.int (place + 1)) H') → Q (.int (place + 1)) H := fun _ q => q H F (by rw [List.append_nil]; exact hH) Bey.refl
    cases r with
    | jump t =>
      refine ⟨_, rfl, b, _, _, _, rfl, rfl, SqT.of (P0.same _ _ hb), (by rfl), rfl, _, rfl, iteD (fun _ => ?_) (fun z => absurd rfl z)⟩
      exact ⟨_, rfl, b, _, _, _, rfl, rfl, SqT.of (P0.same _ _ hb), (by rfl), q H F (by rw [show Rw.g (.jump t) = [] from rfl, List.append_nil]; exact hH) Bey.refl⟩
    | less b1 c t =>
      obtain ⟨hf1, hf2, hf3⟩ := hf
      refine ⟨_, rfl, b, _, _, _, rfl, rfl, SqT.of (P0.same _ _ hb), (by rfl), rfl, _, rfl, iteD (fun z => absurd (V.str.inj z) (by decide +kernel)) (fun _ => ?_)⟩
      refine ⟨_, rfl, b, _, _, _, rfl, rfl, SqT.of (P0.same _ _ hb), (by rfl), rfl, _, rfl, iteD (fun _ => ?_) (fun z => absurd rfl z)⟩
      refine ⟨_, rfl, p, dx, fs, rfl, hp, f1, _, rfl, b, _, _, _, rfl, rfl, SqT.of (P0.same _ _ hb), (by rfl), p, b1, bx, log, F, rfl, hH, hf1, by omega, fun H1 F1 h1 b1' => ?_⟩
      have P1 := P0.bey b1'
      obtain ⟨dx1, fs1, hp1, f11, f21⟩ := h1.ins
      refine ⟨_, rfl, p, dx1, fs1, rfl, hp1, f11, _, rfl, b, _, _, _, rfl, rfl, SqT.of (P1.same _ _ hb), (by rfl), p, c, bx, _, F1, rfl, h1, hf2, log_le hl (Nat.le_refl 1), fun H2 F2 h2 b2 => ?_⟩
      have P2 := P1.bey b2
      rw [List.append_assoc] at h2
      have q2 := q _ _ h2 (b1'.trans b2)
      refine ⟨_, rfl, _, rfl, _, _, rfl, rfl, _, rfl, iteD (fun c2 => ?_) (fun c2 => ?_)⟩
      · have e : (Rw.less b1 c t).nxt bx place = t := if_pos c2
        rw [e] at q2
        exact ⟨_, rfl, b, _, _, _, rfl, rfl, SqT.of (P2.same _ _ hb), (by rfl), q2⟩
      · have e : (Rw.less b1 c t).nxt bx place = place + 1 := if_neg c2
        rw [e] at q2
        exact ⟨_, rfl, _, _, rfl, rfl, q2⟩
    | _ =>
      refine ⟨_, rfl, b, _, _, _, rfl, rfl, SqT.of (P0.same _ _ hb), (by rfl), rfl, _, rfl, iteD (fun z => absurd (V.str.inj z) (by decide +kernel)) (fun _ => ?_)⟩
      refine ⟨_, rfl, b, _, _, _, rfl, rfl, SqT.of (P0.same _ _ hb), (by rfl), rfl, _, rfl, iteD (fun z => absurd (V.str.inj z) (by decide +kernel)) (fun _ => ?_)⟩
      exact ⟨_, rfl, _, _, rfl, rfl, other rfl q⟩
/-! ### gone -/
def sp_gone (K : PySem.W.Frag) (cs : Cs) : Sp := fun vs H Q _ => ∃ (kd : Kd) (p ra : Addr) (ys : List V) (rs : List Rw) (bx : List Int) (F : List Addr) (G : Hp) (k : Nat), vs = [.ref ra, .ref p, .int (bx.length : Int), .int (k : Int)] ∧ Part G H F ∧ G ra = some (.lst ys) ∧ RL G ys rs ∧ Hold cs K kd H p bx [] F ∧ 0 < bx.length ∧
  (∀ r ∈ rs, r.Fit (bx.length : Int) (rs.length : Int)) ∧ rs.length ≤ 1000 ∧ k ≤ 1000 ∧
  ∀ H' F' G' t ta, Part G' H' F' → Same G G' → G' t = some (.tup [.ref ta, .str (endS rs (goM rs (bx.length : Int) k ⟨bx, [], [], 0⟩))]) → G' ta = some (.lst ((goM rs (bx.length : Int) k ⟨bx, [], [], 0⟩).told.map V.int)) →
    Hold cs K kd H' p (goM rs (bx.length : Int) k ⟨bx, [], [], 0⟩).bx (goM rs (bx.length : Int) k ⟨bx, [], [], 0⟩).log F' → Q (.ref t) H'
theorem Part.put2 {G H : Hp} {F : List Addr} (p : Part G H F) {a : Addr} {o : HO} (n : H a = none) (d : ∀ b ∈ F, H b ≠ none) : Part (upd G a o) (upd H a o) F ∧ Same G (upd G a o) := ⟨p.new (Same.new n) n upd_same d, Same.new (p.same.free n)⟩
theorem ok_gone (T : Txt w K mg cs) (o_goes_on : Ok P w K mg base CX0 5 cs.f_goes_on cs.d_goes_on ["row", "place", "holder"] (sp_goes_on K cs)) (o_Plain_put : Ok P w K mg base CX0 1 cs.f_Plain_put cs.d_Plain_put ["self", "box", "number"] (sp_Plain_put K cs)) (o_Near_put : Ok P w K mg base (L2.CX P w) 4 cs.f_Near_put cs.d_Near_put ["self", "box", "number"] (sp_Near_put K cs)) (o_reckoned : Ok P w K mg base CX0 5 cs.f_reckoned cs.d_reckoned ["row", "holder"] (sp_reckoned K cs)) (o_moved : Ok P w K mg base CX0 5 cs.f_moved cs.d_moved ["row", "holder", "size"] (sp_moved K cs)) (o_Plain_look : Ok P w K mg base CX0 1 cs.f_Plain_look cs.d_Plain_look ["self", "box"] (sp_Plain_look K cs)) (o_Near_look : Ok P w K mg base (L2.CX P w) 4 cs.f_Near_look cs.d_Near_look ["self", "box"] (sp_Near_look K cs)) : Ok P w K mg base CX0 6 cs.f_gone cs.d_gone ["rows", "holder", "size", "steps"] (sp_gone K cs) := by
  refine T.fn_gone.ok sc_gone (fun vs H Q E h => ?_) (fun cdv A outer s H vs Q E hr h => ?_)
  · obtain ⟨kd, p, ra, ys, rs, bx, F, G, k, rfl, _⟩ := h
    rfl
  · obtain ⟨kd, p, ra, ys, rs, bx, F, G, k, rfl, P0, hra, hR, hH, hsz, hfits, hrl, hk, q⟩ := h
    refine ⟨_, (pss_cons (ps_set (i := 4) sc_gone.nd rfl (Or.inl rfl) (pe_lst pa_nil))
      (pss_cons (ps_set (i := 5) sc_gone.nd rfl (Or.inl rfl) pe_int)
      (pss_cons (ps_while PassesOwn.never (pt_jn (PW.pt (pw_and (pt_cmpR op_lt (pv 5) (pe_callB call_len_seq (by rfl) T.no_len PySem.boot_len (pa_cons (pv 0) pa_nil)) (nomark _)) (pw_and1 (pt_cmpR op_gt (pv 3) pe_int (nomark _)))))) (pss_cons (ps_set (i := 6) sc_gone.nd rfl (Or.inl rfl) (pe_ix ix_list (pv 0) (pv 5) (fun _ _ => rfl)))
      (pss_cutS (ps_if (pt_cmpR op_eq (pe_ix ix_tup (pv 6) pe_int (fun _ _ => rfl)) pe_str (nomark _)) (pss_one (ps_expr (pe_put kd o_Plain_put T.cl_Plain T.me_Plain_put (hr.mono (by decide)) o_Near_put T.cl_Near T.me_Near_put (hr.mono (by decide)) (pv 1) (pa_cons (pe_ix ix_tup (pv 6) pe_int (fun _ _ => rfl)) (pa_cons (pe_ix ix_tup (pv 6) pe_int (fun _ _ => rfl)) pa_nil))))) (pss_one (ps_if (pt_cmpR op_in_seq (pe_ix ix_tup (pv 6) pe_int (fun _ _ => rfl)) (pe_tup (pa_cons pe_str (pa_cons pe_str pa_nil))) (by rfl)) (pss_one (ps_expr (pe_callO o_reckoned hr (by rfl) T.gl_reckoned pass0 (pa_cons (pv 6) (pa_cons (pv 1) pa_nil))))) (pss_one (ps_if (pt_cmpR op_in_seq (pe_ix ix_tup (pv 6) pe_int (fun _ _ => rfl)) (pe_tup (pa_cons pe_str (pa_cons pe_str (pa_cons pe_str pa_nil)))) (by rfl)) (pss_one (ps_expr (pe_callO o_moved hr (by rfl) T.gl_moved pass0 (pa_cons (pv 6) (pa_cons (pv 1) (pa_cons (pv 2) pa_nil)))))) (pss_one (ps_if (pt_cmpR op_eq (pe_ix ix_tup (pv 6) pe_int (fun _ _ => rfl)) pe_str (nomark _)) (pss_one (ps_expr (pe_bm PySem.F.plainAttrs_list PySem.F.slot_list_append PySem.F.type_list_append mt_append (pv 4) (pa_cons (pe_look kd o_Plain_look T.cl_Plain T.me_Plain_look (hr.mono (by decide)) o_Near_look T.cl_Near T.me_Near_look (hr.mono (by decide)) (pv 1) (pa_cons (pe_ix ix_tup (pv 6) pe_int (fun _ _ => rfl)) pa_nil)) pa_nil)))) pss_nil)))))))
      (pss_cons (ps_set (i := 5) sc_gone.nd rfl (Or.inl rfl) (pe_callO o_goes_on hr (by rfl) T.gl_goes_on pass0 (pa_cons (pv 6) (pa_cons (pv 5) (pa_cons (pv 1) pa_nil)))))
      (pss_one (ps_set (i := 3) sc_gone.nd rfl (Or.inl rfl) (pe_op op_sub (pv 3) pe_int)))))))
      (pss_cons (ps_if (pt_cmpR op_lt (pv 5) (pe_callB call_len_seq (by rfl) T.no_len PySem.boot_len (pa_cons (pv 0) pa_nil)) (nomark _)) (pss_one (ps_ret (pe_tup (pa_cons (pv 4) (pa_cons pe_str pa_nil))))) pss_nil)
      (pss_one (ps_ret (pe_tup (pa_cons (pv 4) (pa_cons pe_str pa_nil))))))))), ?_⟩
    generalize hsize : (bx.length : Int) = size at *
    have hs0 : 0 < size := by omega
    refine ⟨Nat.zero_le _, fun ta nta => ?_⟩
    obtain ⟨Pa, sa⟩ := P0.put2 (o := .lst []) nta hH.dom
    have hH0 := hH.same (Same.new (o := .lst []) nta)
    have hGta : G ta = none := P0.same.free nta
    have hta0 : (upd G ta (.lst [])) ta = some (.lst (([] : List Int).map V.int)) := upd_same
    generalize hm0 : (⟨bx, [], [], 0⟩ : MS) = m0 at *
    have eb : bx = m0.bx := by rw [← hm0]
    have el : [] = m0.log := by rw [← hm0]
    have et : [] = m0.told := by rw [← hm0]
    have ep : (0 : Int) = m0.place := by rw [← hm0]
    rw [el] at hH0
    rw [et] at hta0
    have hbx0 : (m0.bx.length : Int) = size := by rw [← eb, hsize]
    have hlog0 : m0.log.length + 3 * k ≤ 3000 := by
      rw [← el]
      show 0 + 3 * k ≤ 3000
      omega
    have htold0 : m0.told.length + k ≤ 1000 := by
      rw [← et]
      show 0 + k ≤ 1000
      omega
    rw [eb] at hH0
    refine ⟨fun j σ H' => ∃ (m : MS) (v6 : Option V) (F1 : List Addr) (G1 : Hp), σ = [some (.ref ra), some (.ref p), some (.int size), some (.int (j : Int)), some (.ref ta), some (.int m.place), v6] ∧ Part G1 H' F1 ∧ Same G G1 ∧ G1 ta = some (.lst (m.told.map V.int)) ∧ Hold cs K kd H' p m.bx m.log F1 ∧
      (m.bx.length : Int) = size ∧ goM rs size j m = goM rs size k m0 ∧ m.log.length + 3 * j ≤ 3000 ∧ m.told.length + j ≤ 1000 ∧ 0 ≤ m.place ∧ m.place ≤ (rs.length : Int), ⟨k, m0, none, F, _, (by rw [← ep]; rfl), Pa, sa, hta0, hH0, hbx0, rfl, hlog0, htold0, by omega, by omega⟩, ?_⟩
    rintro j σ H' ⟨m, v6, F1, G1, rfl, P1, hsG, hta, hH, hbl, hgo, hlg, htd, hp0, hp1⟩
    have hylen := hR.len
    refine ⟨fun c H6 => c = decide (m.place < (rs.length : Int) ∧ 0 < j) ∧ H6 = H', ?_, ?_⟩
    · refine ⟨_, rfl, _, rfl, ra, _, rfl, .inl (SqL.of (P1.same _ _ (hsG _ _ hra))), _, _, rfl, rfl, _, rfl, iteD (fun c => ?_) (fun c => ?_)⟩
      · refine ⟨_, rfl, _, _, rfl, rfl, _, rfl, ?_, rfl⟩
        apply decide_eq_decide.mpr
        constructor
        · exact fun z => ⟨by omega, by omega⟩
        · exact fun z => by omega
      · refine ⟨?_, rfl⟩
        rw [decide_eq_false (fun z => c (by omega))]
    rintro c H6 ⟨rfl, rfl⟩
    refine iteD (fun c => ?_) (fun c => ?_)
    · obtain ⟨c1, c2⟩ := c
      obtain ⟨j, rfl⟩ : ∃ j', j = j' + 1 := ⟨j - 1, by omega⟩
      have hpl : m.place.toNat < rs.length := by omega
      obtain ⟨r, hr'⟩ : ∃ r, rs[m.place.toNat]? = some r := ⟨_, List.getElem?_eq_getElem hpl⟩
      obtain ⟨b, hyb, hbG⟩ := hR.at_ _ r hr'
      have hb := hsG _ _ hbG
      have hbt : b ≠ ta := ne_of_none hbG hGta
      have hfit := hfits r (List.mem_of_getElem? hr')
      have hst : goM rs size (j + 1) m = goM rs size j (r.step size m) := by
        show (match rs[m.place.toNat]? with
          | some r => goM rs size j (r.step size m)
          | none => m) = _
        rw [hr']
      rw [hst] at hgo
      refine ⟨fun σ2 H2 => ∃ (m : MS) (v6 : Option V) (F1 : List Addr) (G1 : Hp), σ2 = [some (.ref ra), some (.ref p), some (.int size), some (.int (j : Int)), some (.ref ta), some (.int m.place), v6] ∧ Part G1 H2 F1 ∧ Same G G1 ∧ G1 ta = some (.lst (m.told.map V.int)) ∧ Hold cs K kd H2 p m.bx m.log F1 ∧
        (m.bx.length : Int) = size ∧ goM rs size j m = goM rs size k m0 ∧ m.log.length + 3 * j ≤ 3000 ∧ m.told.length + j ≤ 1000 ∧ 0 ≤ m.place ∧ m.place ≤ (rs.length : Int), fun σ2 H2 hw => ⟨j, Nat.lt_succ_self _, hw⟩, ?_⟩
      refine ⟨_, rfl, _, rfl, ra, _, _, _, rfl, rfl, SqL.of (P1.same _ _ (hsG _ _ hra)), at_ofG (j := m.place.toNat) (by omega) hyb, ?_⟩
      refine ⟨fun σ' H7 => ∃ (F6 : List Addr) (G6 : Hp), σ' = [some (.ref ra), some (.ref p), some (.int size), some (.int ((j + 1 : Nat) : Int)), some (.ref ta), some (.int m.place), some (.ref b)] ∧ Part G6 H7 F6 ∧ Same G G6 ∧ G6 ta = some (.lst ((m.told ++ r.out m.bx).map V.int)) ∧ G6 b = some (.tup r.vs) ∧ Hold cs K kd H7 p (r.bx' size m.bx) (m.log ++ r.pre size m.bx) F6, ?_, ?_⟩
      · cases r with
      | set b1 n1 =>
        refine ⟨_, rfl, b, _, _, _, rfl, rfl, SqT.of (P1.same _ _ hb), (by rfl), rfl, _, rfl, iteD (fun _ => ?_) (fun z => absurd rfl z)⟩
        obtain ⟨dx, fs, hp, f1, f2⟩ := hH.ins
        refine ⟨_, rfl, p, dx, fs, rfl, hp, f2, _, rfl, b, _, _, _, rfl, rfl, SqT.of (P1.same _ _ hb), (by rfl), _, rfl, b, _, _, _, rfl, rfl, SqT.of (P1.same _ _ hb), (by rfl), p, b1, n1, m.bx, m.log, F1, rfl, hH, (by rw [hbl]; exact hfit.1), by omega, fun H6 F6 h6 b6 => ?_⟩
        exact ⟨F6, G1, rfl, P1.bey b6, hsG, by rw [show Rw.out m.bx (.set b1 n1) = [] from rfl, List.append_nil]; exact hta, hb, h6⟩
      | add b1 c1 d1 =>
        refine ⟨_, rfl, b, _, _, _, rfl, rfl, SqT.of (P1.same _ _ hb), (by rfl), rfl, _, rfl, iteD (fun z => absurd (V.str.inj z) (by decide +kernel)) (fun _ => ?_)⟩
        refine ⟨_, rfl, b, _, _, _, rfl, rfl, SqT.of (P1.same _ _ hb), (by rfl), (by show 2 ≤ sizeLine; decide), fun x2 y2 => ⟨x2, _, rfl, .inr (SqT.of upd_same), rfl, rfl, _, rfl, iteB (fun _ => ?_) (fun z => absurd z (by decide +kernel))⟩⟩
        have z2 := Same.new (o := .tup [.str "add", .str "sub"]) y2
        have P2 := P1.keep z2
        have h2 := hH.same z2
        refine ⟨_, rfl, _, rfl, kd, p, b, _, m.bx, m.log, F1, G1, (rs.length : Int), rfl, P2, hb, h2, (by rw [hbl]; exact hfit), by omega, .inl ⟨_, _, _, rfl⟩, fun H6 F6 h6 b6 => ?_⟩
        rw [hbl] at h6
        exact ⟨F6, G1, rfl, P2.bey b6, hsG, by rw [show Rw.out m.bx (.add b1 c1 d1) = [] from rfl, List.append_nil]; exact hta, hb, h6⟩
      | sub b1 c1 d1 =>
        refine ⟨_, rfl, b, _, _, _, rfl, rfl, SqT.of (P1.same _ _ hb), (by rfl), rfl, _, rfl, iteD (fun z => absurd (V.str.inj z) (by decide +kernel)) (fun _ => ?_)⟩
        refine ⟨_, rfl, b, _, _, _, rfl, rfl, SqT.of (P1.same _ _ hb), (by rfl), (by show 2 ≤ sizeLine; decide), fun x2 y2 => ⟨x2, _, rfl, .inr (SqT.of upd_same), rfl, rfl, _, rfl, iteB (fun _ => ?_) (fun z => absurd z (by decide +kernel))⟩⟩
        have z2 := Same.new (o := .tup [.str "add", .str "sub"]) y2
        have P2 := P1.keep z2
        have h2 := hH.same z2
        refine ⟨_, rfl, _, rfl, kd, p, b, _, m.bx, m.log, F1, G1, (rs.length : Int), rfl, P2, hb, h2, (by rw [hbl]; exact hfit), by omega, .inr ⟨_, _, _, rfl⟩, fun H6 F6 h6 b6 => ?_⟩
        rw [hbl] at h6
        exact ⟨F6, G1, rfl, P2.bey b6, hsG, by rw [show Rw.out m.bx (.sub b1 c1 d1) = [] from rfl, List.append_nil]; exact hta, hb, h6⟩
      | copy b1 c1 =>
        refine ⟨_, rfl, b, _, _, _, rfl, rfl, SqT.of (P1.same _ _ hb), (by rfl), rfl, _, rfl, iteD (fun z => absurd (V.str.inj z) (by decide +kernel)) (fun _ => ?_)⟩
        refine ⟨_, rfl, b, _, _, _, rfl, rfl, SqT.of (P1.same _ _ hb), (by rfl), (by show 2 ≤ sizeLine; decide), fun x2 y2 => ⟨x2, _, rfl, .inr (SqT.of upd_same), rfl, rfl, _, rfl, iteB (fun z => absurd z (by decide +kernel)) (fun _ => ?_)⟩⟩
        have z2 := Same.new (o := .tup [.str "add", .str "sub"]) y2
        have P2 := P1.keep z2
        have h2 := hH.same z2
        refine ⟨_, rfl, b, _, _, _, rfl, rfl, SqT.of (P2.same _ _ hb), (by rfl), (by show 3 ≤ sizeLine; decide), fun x3 y3 => ⟨x3, _, rfl, .inr (SqT.of upd_same), rfl, rfl, _, rfl, iteB (fun _ => ?_) (fun z => absurd z (by decide +kernel))⟩⟩
        have z3 := Same.new (o := .tup [.str "copy", .str "fetch", .str "store"]) y3
        have P3 := P2.keep z3
        have h3 := h2.same z3
        refine ⟨_, rfl, _, rfl, _, rfl, kd, p, b, _, m.bx, m.log, F1, G1, (rs.length : Int), (by rw [hbl]), P3, hb, h3, (by rw [hbl]; exact hfit), by omega, by omega, .inl ⟨_, _, rfl⟩, fun H6 F6 h6 b6 => ?_⟩
        rw [hbl] at h6
        exact ⟨F6, G1, rfl, P3.bey b6, hsG, by rw [show Rw.out m.bx (.copy b1 c1) = [] from rfl, List.append_nil]; exact hta, hb, h6⟩
      | fetch b1 c1 =>
        refine ⟨_, rfl, b, _, _, _, rfl, rfl, SqT.of (P1.same _ _ hb), (by rfl), rfl, _, rfl, iteD (fun z => absurd (V.str.inj z) (by decide +kernel)) (fun _ => ?_)⟩
        refine ⟨_, rfl, b, _, _, _, rfl, rfl, SqT.of (P1.same _ _ hb), (by rfl), (by show 2 ≤ sizeLine; decide), fun x2 y2 => ⟨x2, _, rfl, .inr (SqT.of upd_same), rfl, rfl, _, rfl, iteB (fun z => absurd z (by decide +kernel)) (fun _ => ?_)⟩⟩
        have z2 := Same.new (o := .tup [.str "add", .str "sub"]) y2
        have P2 := P1.keep z2
        have h2 := hH.same z2
        refine ⟨_, rfl, b, _, _, _, rfl, rfl, SqT.of (P2.same _ _ hb), (by rfl), (by show 3 ≤ sizeLine; decide), fun x3 y3 => ⟨x3, _, rfl, .inr (SqT.of upd_same), rfl, rfl, _, rfl, iteB (fun _ => ?_) (fun z => absurd z (by decide +kernel))⟩⟩
        have z3 := Same.new (o := .tup [.str "copy", .str "fetch", .str "store"]) y3
        have P3 := P2.keep z3
        have h3 := h2.same z3
        refine ⟨_, rfl, _, rfl, _, rfl, kd, p, b, _, m.bx, m.log, F1, G1, (rs.length : Int), (by rw [hbl]), P3, hb, h3, (by rw [hbl]; exact hfit), by omega, by omega, .inr <| .inl ⟨_, _, rfl⟩, fun H6 F6 h6 b6 => ?_⟩
        rw [hbl] at h6
        exact ⟨F6, G1, rfl, P3.bey b6, hsG, by rw [show Rw.out m.bx (.fetch b1 c1) = [] from rfl, List.append_nil]; exact hta, hb, h6⟩
      | store b1 c1 =>
        refine ⟨_, rfl, b, _, _, _, rfl, rfl, SqT.of (P1.same _ _ hb), (by rfl), rfl, _, rfl, iteD (fun z => absurd (V.str.inj z) (by decide +kernel)) (fun _ => ?_)⟩
        refine ⟨_, rfl, b, _, _, _, rfl, rfl, SqT.of (P1.same _ _ hb), (by rfl), (by show 2 ≤ sizeLine; decide), fun x2 y2 => ⟨x2, _, rfl, .inr (SqT.of upd_same), rfl, rfl, _, rfl, iteB (fun z => absurd z (by decide +kernel)) (fun _ => ?_)⟩⟩
        have z2 := Same.new (o := .tup [.str "add", .str "sub"]) y2
        have P2 := P1.keep z2
        have h2 := hH.same z2
        refine ⟨_, rfl, b, _, _, _, rfl, rfl, SqT.of (P2.same _ _ hb), (by rfl), (by show 3 ≤ sizeLine; decide), fun x3 y3 => ⟨x3, _, rfl, .inr (SqT.of upd_same), rfl, rfl, _, rfl, iteB (fun _ => ?_) (fun z => absurd z (by decide +kernel))⟩⟩
        have z3 := Same.new (o := .tup [.str "copy", .str "fetch", .str "store"]) y3
        have P3 := P2.keep z3
        have h3 := h2.same z3
        refine ⟨_, rfl, _, rfl, _, rfl, kd, p, b, _, m.bx, m.log, F1, G1, (rs.length : Int), (by rw [hbl]), P3, hb, h3, (by rw [hbl]; exact hfit), by omega, by omega, .inr <| .inr ⟨_, _, rfl⟩, fun H6 F6 h6 b6 => ?_⟩
        rw [hbl] at h6
        exact ⟨F6, G1, rfl, P3.bey b6, hsG, by rw [show Rw.out m.bx (.store b1 c1) = [] from rfl, List.append_nil]; exact hta, hb, h6⟩
      | tell b1 =>
        refine ⟨_, rfl, b, _, _, _, rfl, rfl, SqT.of (P1.same _ _ hb), (by rfl), rfl, _, rfl, iteD (fun z => absurd (V.str.inj z) (by decide +kernel)) (fun _ => ?_)⟩
        refine ⟨_, rfl, b, _, _, _, rfl, rfl, SqT.of (P1.same _ _ hb), (by rfl), (by show 2 ≤ sizeLine; decide), fun x2 y2 => ⟨x2, _, rfl, .inr (SqT.of upd_same), rfl, rfl, _, rfl, iteB (fun z => absurd z (by decide +kernel)) (fun _ => ?_)⟩⟩
        have z2 := Same.new (o := .tup [.str "add", .str "sub"]) y2
        have P2 := P1.keep z2
        have h2 := hH.same z2
        refine ⟨_, rfl, b, _, _, _, rfl, rfl, SqT.of (P2.same _ _ hb), (by rfl), (by show 3 ≤ sizeLine; decide), fun x3 y3 => ⟨x3, _, rfl, .inr (SqT.of upd_same), rfl, rfl, _, rfl, iteB (fun z => absurd z (by decide +kernel)) (fun _ => ?_)⟩⟩
        have z3 := Same.new (o := .tup [.str "copy", .str "fetch", .str "store"]) y3
        have P3 := P2.keep z3
        have h3 := h2.same z3
        refine ⟨_, rfl, b, _, _, _, rfl, rfl, SqT.of (P3.same _ _ hb), (by rfl), rfl, _, rfl, iteD (fun _ => ?_) (fun z => absurd rfl z)⟩
        obtain ⟨dx, fs, hp, f1, f2⟩ := h3.ins
        refine ⟨_, rfl, .inl ⟨rfl, _, SqL.of (P3.same _ _ hta)⟩, _, rfl, p, dx, fs, rfl, hp, f1, _, rfl, b, _, _, _, rfl, rfl, SqT.of (P3.same _ _ hb), (by rfl), p, b1, m.bx, m.log, F1, rfl, h3, (by rw [hbl]; exact hfit), by omega, fun H6 F6 h6 b6 => ?_⟩
        have P6 := P3.bey b6
        refine ⟨ta, _, _, rfl, rfl, P6.same _ _ hta, sizeL (by rw [List.length_map]; omega), ?_⟩
        obtain ⟨P7, n7⟩ := P6.mut (o := .lst ((m.told ++ [rd m.bx b1]).map V.int)) hta
        have h7 := h6.but (o := .lst ((m.told ++ [rd m.bx b1]).map V.int)) n7 (P6.same _ _ hta)
        have e7 : (m.told.map V.int ++ [V.int (rd m.bx b1)]) = (m.told ++ [rd m.bx b1]).map V.int := by rw [List.map_append]; rfl
        rw [e7]
        exact ⟨F6, _, rfl, P7, hsG.mut hGta, upd_same, by rw [upd_ne hbt]; exact hb, h7⟩
      | less b1 c1 t1 =>
        refine ⟨_, rfl, b, _, _, _, rfl, rfl, SqT.of (P1.same _ _ hb), (by rfl), rfl, _, rfl, iteD (fun z => absurd (V.str.inj z) (by decide +kernel)) (fun _ => ?_)⟩
        refine ⟨_, rfl, b, _, _, _, rfl, rfl, SqT.of (P1.same _ _ hb), (by rfl), (by show 2 ≤ sizeLine; decide), fun x2 y2 => ⟨x2, _, rfl, .inr (SqT.of upd_same), rfl, rfl, _, rfl, iteB (fun z => absurd z (by decide +kernel)) (fun _ => ?_)⟩⟩
        have z2 := Same.new (o := .tup [.str "add", .str "sub"]) y2
        have P2 := P1.keep z2
        have h2 := hH.same z2
        refine ⟨_, rfl, b, _, _, _, rfl, rfl, SqT.of (P2.same _ _ hb), (by rfl), (by show 3 ≤ sizeLine; decide), fun x3 y3 => ⟨x3, _, rfl, .inr (SqT.of upd_same), rfl, rfl, _, rfl, iteB (fun z => absurd z (by decide +kernel)) (fun _ => ?_)⟩⟩
        have z3 := Same.new (o := .tup [.str "copy", .str "fetch", .str "store"]) y3
        have P3 := P2.keep z3
        have h3 := h2.same z3
        refine ⟨_, rfl, b, _, _, _, rfl, rfl, SqT.of (P3.same _ _ hb), (by rfl), rfl, _, rfl, iteD (fun z => absurd (V.str.inj z) (by decide +kernel)) (fun _ => ?_)⟩
        exact ⟨F1, G1, rfl, P3, hsG, by rw [show Rw.out m.bx (.less b1 c1 t1) = [] from rfl, List.append_nil]; exact hta, hb, by rw [show Rw.pre size m.bx (.less b1 c1 t1) = [] from rfl, List.append_nil]; exact h3⟩
      | jump t1 =>
        refine ⟨_, rfl, b, _, _, _, rfl, rfl, SqT.of (P1.same _ _ hb), (by rfl), rfl, _, rfl, iteD (fun z => absurd (V.str.inj z) (by decide +kernel)) (fun _ => ?_)⟩
        refine ⟨_, rfl, b, _, _, _, rfl, rfl, SqT.of (P1.same _ _ hb), (by rfl), (by show 2 ≤ sizeLine; decide), fun x2 y2 => ⟨x2, _, rfl, .inr (SqT.of upd_same), rfl, rfl, _, rfl, iteB (fun z => absurd z (by decide +kernel)) (fun _ => ?_)⟩⟩
        have z2 := Same.new (o := .tup [.str "add", .str "sub"]) y2
        have P2 := P1.keep z2
        have h2 := hH.same z2
        refine ⟨_, rfl, b, _, _, _, rfl, rfl, SqT.of (P2.same _ _ hb), (by rfl), (by show 3 ≤ sizeLine; decide), fun x3 y3 => ⟨x3, _, rfl, .inr (SqT.of upd_same), rfl, rfl, _, rfl, iteB (fun z => absurd z (by decide +kernel)) (fun _ => ?_)⟩⟩
        have z3 := Same.new (o := .tup [.str "copy", .str "fetch", .str "store"]) y3
        have P3 := P2.keep z3
        have h3 := h2.same z3
        refine ⟨_, rfl, b, _, _, _, rfl, rfl, SqT.of (P3.same _ _ hb), (by rfl), rfl, _, rfl, iteD (fun z => absurd (V.str.inj z) (by decide +kernel)) (fun _ => ?_)⟩
        exact ⟨F1, G1, rfl, P3, hsG, by rw [show Rw.out m.bx (.jump t1) = [] from rfl, List.append_nil]; exact hta, hb, by rw [show Rw.pre size m.bx (.jump t1) = [] from rfl, List.append_nil]; exact h3⟩
      rintro σ' H7 ⟨F6, G6, rfl, P6, s6, hta6, hb6, h6⟩
      have hbl6 : (((r.bx' size m.bx).length : Nat) : Int) = size := by rw [bx_len, hbl]
      have hpre : (m.log ++ r.pre size m.bx).length ≤ m.log.length + 3 := by
        have h1 := tch_len size m.bx r
        have h2 : (r.tch size m.bx).length = (r.pre size m.bx).length + r.g.length := by rw [← pre_g, List.length_append]
        rw [List.length_append]
        omega
      refine ⟨_, rfl, _, rfl, _, rfl, kd, p, b, r, _, _, F6, G6, (rs.length : Int), m.place, rfl, P6, hb6, h6, (by rw [hbl6]; exact hfit), by omega, fun H8 F8 h8 b8 => ?_⟩
      rw [List.append_assoc, pre_g] at h8
      rw [nxt_bx]
      have hstep : r.step size m = ⟨r.bx' size m.bx, m.log ++ r.tch size m.bx, m.told ++ r.out m.bx, r.nxt m.bx m.place⟩ := rfl
      obtain ⟨n0, n1⟩ := nxt_ok hfit m.bx hp0 c1
      have ho := out_len m.bx r
      have ht3 := tch_len size m.bx r
      have ej : ((j + 1 : Nat) : Int) - 1 = (j : Int) := by omega
      refine ⟨_, rfl, _, _, rfl, rfl, r.step size m, some (.ref b), F8, G6, ?_, P6.bey b8, s6, hta6, h8, hbl6, hgo, ?_, ?_, n0, n1⟩
      · exact congrArg (fun z => [some (V.ref ra), some (V.ref p), some (V.int size), some (V.int z), some (V.ref ta), some (V.int (r.nxt m.bx m.place)), some (V.ref b)]) ej
      · rw [hstep]
        show (m.log ++ r.tch size m.bx).length + 3 * j ≤ 3000
        rw [List.length_append]
        omega
      · rw [hstep]
        show (m.told ++ r.out m.bx).length + j ≤ 1000
        rw [List.length_append]
        omega
    · have hend : goM rs size j m = m := by
        cases j with
        | zero => rfl
        | succ j =>
          have : ¬ m.place < (rs.length : Int) := fun z => c ⟨z, by omega⟩
          show (match rs[m.place.toNat]? with
            | some r => goM rs size j (r.step size m)
            | none => m) = _
          rw [List.getElem?_eq_none (by omega)]
      rw [hend] at hgo
      rw [← hgo] at q
      refine ⟨_, rfl, _, rfl, ra, _, rfl, .inl (SqL.of (P1.same _ _ (hsG _ _ hra))), _, _, rfl, rfl, _, rfl, iteD (fun c => ?_) (fun c => ?_)⟩
      · have ee : endS rs m = "steps" := if_pos (by omega)
        rw [ee] at q
        refine ⟨_, rfl, (by show 2 ≤ sizeLine; decide), fun t nt => ?_⟩
        obtain ⟨P9, s9⟩ := P1.put2 (o := .tup [.ref ta, .str "steps"]) nt hH.dom
        exact q _ F1 _ t ta P9 (hsG.trans s9) upd_same (s9 _ _ hta) (hH.same (Same.new nt))
      · have ee : endS rs m = "over" := if_neg (by omega)
        rw [ee] at q
        refine ⟨_, rfl, (by show 2 ≤ sizeLine; decide), fun t nt => ?_⟩
        obtain ⟨P9, s9⟩ := P1.put2 (o := .tup [.ref ta, .str "over"]) nt hH.dom
        exact q _ F1 _ t ta P9 (hsG.trans s9) upd_same (s9 _ _ hta) (hH.same (Same.new nt))
/-! ### run -/
def finM (rs : List Rw) (bx : List Int) (k : Nat) : MS := goM rs (bx.length : Int) k ⟨bx, [], [], 0⟩
def sp_run (K : PySem.W.Frag) (cs : Cs) : Sp := fun vs H Q E => ∃ (a b : Addr) (ys : List V) (os : List (Option (List V))) (bs : List V) (k : Nat), vs = [.ref a, .ref b, .int (k : Int)] ∧ SqL K H a ys ∧ Things K H ys os ∧ ys.length ≤ 1000 ∧ SqL K H b bs ∧ (∀ y ∈ bs, Typ K H y) ∧ bs.length ≤ 1000 ∧ k ≤ 1000 ∧
  (∀ (rs : List Rw) (bx : List Int), os = rs.map rowO → bs = bx.map V.int → goodBoxes bs = true → goodRows (bs.length : Int) os = true → ∀ H' t ta ba la xs, Same H H' → H' t = some (.tup [.ref ta, .str (endS rs (finM rs bx k)), .ref ba, .ref la]) → H' ta = some (.lst ((finM rs bx k).told.map V.int)) →
    H' ba = some (.lst ((finM rs bx k).bx.map V.int)) → H' la = some (.lst xs) → TL K H' xs (finM rs bx k).log → Q (.ref t) H') ∧
  (goodBoxes bs = false → ∀ H', Same H H' → E (.ref cs.C_BadBoxes) none H') ∧ (goodBoxes bs = true → goodRows (bs.length : Int) os = false → ∀ H', Same H H' → E (.ref cs.C_BadRow) none H')
theorem good_len {bs : List V} (h : goodBoxes bs = true) : 1 ≤ bs.length ∧ bs.length ≤ 200 := by
  unfold goodBoxes at h
  rw [Bool.and_eq_true] at h
  exact of_decide_eq_true h.1
theorem good_ints_of {bs : List V} (h : goodBoxes bs = true) : ∃ bx : List Int, bs = bx.map V.int := by
  unfold goodBoxes at h
  rw [Bool.and_eq_true] at h
  have main : ∀ ys : List V, (ys.all fun y => wIn y 0 999999) = true → ∃ bx : List Int, ys = bx.map V.int := by
    intro ys
    induction ys with
    | nil => exact fun _ => ⟨[], rfl⟩
    | cons y r ih =>
      intro h
      rw [List.all_cons, Bool.and_eq_true] at h
      obtain ⟨i, e, _⟩ := wIn_int h.1
      obtain ⟨bx, e2⟩ := ih h.2
      exact ⟨i :: bx, by rw [e, e2]; rfl⟩
  exact main bs h.2
theorem ok_run (T : Txt w K mg cs) (o_checked_boxes : Ok P w K mg base (L2.CX P w) 2 cs.f_checked_boxes cs.d_checked_boxes ["boxes"] (sp_checked_boxes K cs)) (o_checked : Ok P w K mg base (L2.CX P w) 4 cs.f_checked cs.d_checked ["rows", "size"] (sp_checked K cs)) (o_Plain___init__ : Ok P w K mg base CX0 1 cs.f_Plain___init__ cs.d_Plain___init__ ["self", "boxes"] (sp_Plain___init__ K cs)) (o_gone : Ok P w K mg base CX0 6 cs.f_gone cs.d_gone ["rows", "holder", "size", "steps"] (sp_gone K cs)) : Ok P w K mg base (L2.CX P w) 7 cs.f_run cs.d_run ["rows", "boxes", "steps"] (sp_run K cs) := by
  refine T.fn_run.okX sc_run (fun vs H Q E h => ?_) (fun cdv A outer s H vs Q E hr h => ?_)
  · obtain ⟨a, b, ys, os, bs, k, rfl, _⟩ := h
    rfl
  · obtain ⟨a, b, ys, os, bs, k, rfl, hA, hTh, hyl, hB, hT, hbl, hk, kQ, kE1, kE2⟩ := h
    refine ⟨_, (pss_cons (ps_set (i := 3) sc_run.nd rfl (Or.inl rfl) (pe_callO o_checked_boxes (hr.mono (by decide)) (by rfl) T.gl_checked_boxes (passes_call (takes_of rfl rfl rfl rfl) fun _ _ _ _ h => h) (pa_cons (pv 1) pa_nil)))
      (pss_cons (ps_set (i := 4) sc_run.nd rfl (Or.inl rfl) (pe_callO o_checked (hr.mono (by decide)) (by rfl) T.gl_checked (passes_call (takes_of rfl rfl rfl rfl) fun _ _ _ _ h => h) (pa_cons (pv 0) (pa_cons (pe_callB call_len_seq (by rfl) T.no_len PySem.boot_len (pa_cons (pv 3) pa_nil)) pa_nil))))
      (pss_cons (ps_set (i := 5) sc_run.nd rfl (Or.inl rfl) (pe_makeO o_Plain___init__ T.mk_Plain (hr.mono (by decide)) (by rfl) T.gl_Plain pass0 (pa_cons (pv 3) pa_nil)))
      (pss_cons (ps_set (i := 6) sc_run.nd rfl (Or.inl rfl) (pe_callO o_gone hr (by rfl) T.gl_gone pass0 (pa_cons (pv 4) (pa_cons (pv 5) (pa_cons (pe_callB call_len_seq (by rfl) T.no_len PySem.boot_len (pa_cons (pv 3) pa_nil)) (pa_cons (pv 2) pa_nil))))))
      (pss_one (ps_ret (pe_tup (pa_cons (pe_ix ix_tup (pv 6) pe_int (fun _ _ => rfl)) (pa_cons (pe_ix ix_tup (pv 6) pe_int (fun _ _ => rfl)) (pa_cons (pe_fld (pv 5) rfl) (pa_cons (pe_fld (pv 5) rfl) pa_nil))))))))))), ?_⟩
    refine ⟨_, rfl, b, bs, rfl, hB, hT, hbl, fun H1 hd hgood s1 nh hhd => ?_, fun H1 hb s1 => kE1 hb H1 s1⟩
    refine ⟨_, rfl, _, rfl, hd, _, rfl, .inl (SqL.of hhd), a, ys, os, (bs.length : Int), rfl, s1.seq hA, hTh.same s1, hyl, fun H2 pr hg2 s2 npr hpr => ?_, fun H2 hb2 s2 => kE2 hgood hb2 H2 (s1.trans s2)⟩
    obtain ⟨rs, eos, hrl, hfit⟩ := rows_good hg2
    obtain ⟨bx, ebs⟩ := good_ints_of hgood
    obtain ⟨hb1, hb2⟩ := good_len hgood
    have hbl2 : bs.length = bx.length := by rw [ebs, List.length_map]
    have hR : RL H2 ys rs := Things.rows (by rw [← eos]; exact hTh.same (s1.trans s2))
    have hhd2 := s2 _ _ hhd
    refine ⟨_, rfl, fun p dx hp hdx hne => ?_⟩
    have s7 := (Same.new (o := .own p) hdx).mut (p := p) (o := .ins cs.C_Plain dx []) hp
    refine ⟨p, dx, hd, bx, rfl, upd_same, SqL.of (by rw [← ebs]; exact s7 _ _ hhd2), fun H8 F8 hP8 hB8 => ⟨rfl, ?_⟩⟩
    obtain ⟨s8, f8⟩ := hB8 H2 s7 (fun b hb => by
      simp only [List.mem_cons, List.not_mem_nil, or_false] at hb
      rw [hb]
      exact hp)
    have P8 : Part H2 H8 F8 := ⟨s8, f8⟩
    have hl8 : (V.int (bs.length : Int)) = .int (bx.length : Int) := by rw [hbl2]
    refine ⟨_, rfl, _, rfl, _, rfl, hd, _, rfl, .inl (SqL.of (P8.same _ _ hhd2)), _, rfl, kdP, p, pr, ys, rs, bx, F8, H2, k, (by rw [hbl2]), P8, hpr, hR, hP8, by omega, (by rw [← hbl2]; exact hfit), by omega, hk, fun H9 F9 G9 t ta P9 s9 ht hta hH9 => ?_⟩
    obtain ⟨dx9, ba, la, xs, eF, X⟩ := hH9
    have kq := kQ rs bx eos ebs hgood hg2
    refine ⟨_, rfl, t, _, _, _, rfl, rfl, SqT.of (P9.same _ _ ht), (by rfl), _, rfl, t, _, _, _, rfl, rfl, SqT.of (P9.same _ _ ht), (by rfl), _, rfl, p, cs.C_Plain, dx9, _, _, rfl, X.h1, T.cl_Plain, T.na_Plain_boxes, lk_boxes, _, rfl, p, cs.C_Plain, dx9, _, _, rfl, X.h1, T.cl_Plain, T.na_Plain_touches, lk_touches, (by show 4 ≤ sizeLine; decide), fun tt ntt => ?_⟩
    have s10 := Same.new (o := .tup [.ref ta, .str (endS rs (finM rs bx k)), .ref ba, .ref la]) ntt
    exact kq _ tt ta ba la xs ((((s1.trans s2).trans s9).trans P9.same).trans s10) upd_same (s10 _ _ (P9.same _ _ hta)) (s10 _ _ X.h2) (s10 _ _ X.h3) (X.tl.same s10)
/-! ### the law -/
theorem good_zero (n : Nat) (h1 : 1 ≤ n) (h2 : n ≤ 200) : goodBoxes (List.replicate n (V.int 0)) = true := by
  unfold goodBoxes
  rw [List.length_replicate, decide_eq_true ⟨h1, h2⟩, Bool.true_and, List.all_eq_true]
  intro y hy
  rw [(List.mem_replicate.mp hy).2]
  rfl
theorem shape_ok {room width : Int} {rule : Str} (h1 : 1 ≤ room ∧ room ≤ 200) (h2 : 1 ≤ width ∧ width ≤ 200) (h3 : rule = "least" ∨ rule = "first") : shapeOk (.int room) (.int width) (.str rule) = true := by
  unfold shapeOk
  have e1 : wIn (.int room) 1 200 = true := by
    show (decide (1 ≤ room) && decide (room ≤ 200)) = true
    rw [decide_eq_true h1.1, decide_eq_true h1.2]
    rfl
  have e2 : wIn (.int width) 1 200 = true := by
    show (decide (1 ≤ width) && decide (width ≤ 200)) = true
    rw [decide_eq_true h2.1, decide_eq_true h2.2]
    rfl
  rw [e1, e2]
  show (decide (rule = "least") || decide (rule = "first")) = true
  rcases h3 with rfl | rfl
  · rw [decide_eq_true rfl, Bool.true_or]
  · rw [decide_eq_true (p := ("first" : Str) = "first") rfl, Bool.or_true]
theorem NOk.fresh {room width : Int} {far : List Int} (h1 : 1 ≤ room ∧ room ≤ 200) (h2 : 1 ≤ width ∧ width ≤ 200) (h3 : far.length ≤ 1000) : NOk room width far.length (newS far) :=
  ⟨by omega, by omega, by omega, by omega, rfl, h3, List.nodup_nil, List.nodup_nil, fun k => Iff.rfl, (fun k hk => by cases hk), List.nodup_nil, (fun e he => by cases he), by show ((0 : Nat) : Int) ≤ room; omega⟩
theorem replicate_flat (n : Nat) (x : V) : (List.replicate n [x]).flatten = List.replicate n x := by
  induction n with
  | zero => rfl
  | succ n ih =>
    rw [List.replicate_succ, List.flatten_cons, ih]
    rfl
theorem replicate_int (n : Nat) : List.replicate n (V.int 0) = (List.replicate n (0 : Int)).map V.int := by rw [List.map_replicate]
def intsD (ns : List Int) : PyData := .list (ns.map PyData.int)
theorem intsD_sh (ns : List Int) : Sh 1 (intsD ns) := sh_list fun d hd => by
  obtain ⟨n, _, rfl⟩ := List.mem_map.mp hd
  exact sh_int _
theorem ints_dpA {K : PySem.W.Frag} {H : Hp} : ∀ ns : List Int, DpAll K H (ns.map V.int) (ns.map PyData.int)
  | [] => .nil
  | n :: r => .cons (.int _) (ints_dpA r)
theorem intsD_dp {K : PySem.W.Frag} {H : Hp} {p : Addr} {ns : List Int} (h : H p = some (.lst (ns.map V.int))) : Dp K H (.ref p) (intsD ns) := .lst (SqL.of h) (ints_dpA ns)
/-! ### lengths; rows as data -/
theorem goM_len (rs : List Rw) (size : Int) : ∀ (k : Nat) (m : MS), (goM rs size k m).bx.length = m.bx.length ∧ (goM rs size k m).told.length ≤ m.told.length + k ∧ (goM rs size k m).log.length ≤ m.log.length + 3 * k
  | 0, m => ⟨rfl, Nat.le_refl _, Nat.le_refl _⟩
  | k + 1, m => by
    show (match rs[m.place.toNat]? with
      | some r => goM rs size k (r.step size m)
      | none => m).bx.length = _ ∧ (match rs[m.place.toNat]? with
      | some r => goM rs size k (r.step size m)
      | none => m).told.length ≤ _ ∧ (match rs[m.place.toNat]? with
      | some r => goM rs size k (r.step size m)
      | none => m).log.length ≤ _
    cases rs[m.place.toNat]? with
    | none => exact ⟨rfl, by show m.told.length ≤ _; omega, by show m.log.length ≤ _; omega⟩
    | some r =>
      obtain ⟨h1, h2, h3⟩ := goM_len rs size k (r.step size m)
      have e1 : (r.step size m).bx.length = m.bx.length := bx_len size m.bx r
      have e2 : (r.step size m).told.length ≤ m.told.length + 1 := by
        show (m.told ++ r.out m.bx).length ≤ _
        have := out_len m.bx r
        rw [List.length_append]
        omega
      have e3 : (r.step size m).log.length ≤ m.log.length + 3 := by
        show (m.log ++ r.tch size m.bx).length ≤ _
        have := tch_len size m.bx r
        rw [List.length_append]
        omega
      exact ⟨h1.trans e1, by show (goM rs size k (r.step size m)).told.length ≤ _; omega, by show (goM rs size k (r.step size m)).log.length ≤ _; omega⟩
theorem finM_len (rs : List Rw) (bx : List Int) (k : Nat) : (finM rs bx k).bx.length = bx.length ∧ (finM rs bx k).told.length ≤ k ∧ (finM rs bx k).log.length ≤ 3 * k := by
  have h := goM_len rs (bx.length : Int) k ⟨bx, [], [], 0⟩
  refine ⟨h.1, ?_, ?_⟩
  · have := h.2.1
    unfold finM
    simpa using this
  · have := h.2.2
    unfold finM
    simpa using this
def Rw.ds : Rw → List PyData
  | .set b n => [.str "set", .int b, .int n]
  | .copy b c => [.str "copy", .int b, .int c]
  | .add b c d => [.str "add", .int b, .int c, .int d]
  | .sub b c d => [.str "sub", .int b, .int c, .int d]
  | .fetch b c => [.str "fetch", .int b, .int c]
  | .store b c => [.str "store", .int b, .int c]
  | .less b c p => [.str "less", .int b, .int c, .int p]
  | .jump p => [.str "jump", .int p]
  | .tell b => [.str "tell", .int b]
def Rw.d (r : Rw) : PyData := .tuple r.ds
def rowsD (rs : List Rw) : PyData := .list (rs.map Rw.d)
theorem row_sh (r : Rw) : Sh 1 r.d := sh_tup fun d hd => by
  cases r <;> (simp only [Rw.ds, List.mem_cons, List.not_mem_nil, or_false] at hd) <;> (repeat' (rcases hd with rfl | hd)) <;> first | exact sh_str (by decide +kernel) | exact sh_int _ | (subst hd; exact sh_int _)
theorem rowsD_sh (rs : List Rw) : Sh 2 (rowsD rs) := sh_list fun d hd => by
  obtain ⟨r, _, rfl⟩ := List.mem_map.mp hd
  exact row_sh r
theorem vs_dp {K : PySem.W.Frag} {H : Hp} (r : Rw) : DpAll K H r.vs r.ds := by
  cases r <;> first | exact .cons (.str _) (.cons (.int _) .nil) | exact .cons (.str _) (.cons (.int _) (.cons (.int _) .nil)) | exact .cons (.str _) (.cons (.int _) (.cons (.int _) (.cons (.int _) .nil)))
theorem RL.dp {K : PySem.W.Frag} {H : Hp} {a : Addr} {ys : List V} {rs : List Rw} (h : RL H ys rs) (q : SqL K H a ys) : Dp K H (.ref a) (rowsD rs) := by
  refine .lst q (dpAll_of (by rw [h.len, List.length_map]) fun i v d hv hd => ?_)
  obtain ⟨r, hr, rfl⟩ := of_get_mapG hd
  obtain ⟨b, e1, e2⟩ := h.at_ i r hr
  rw [hv] at e1
  cases e1
  exact .tup (SqT.of e2) (vs_dp r)
theorem cons_eq {x y : V} {xs ys : List V} (h : x :: xs = y :: ys) : x = y ∧ xs = ys := by
  cases h
  exact ⟨rfl, rfl⟩
theorem vs_inj {r r' : Rw} (h : r.vs = r'.vs) : r = r' := by
  cases r <;> cases r' <;> first | exact absurd (V.str.inj (cons_eq h).1) (by decide +kernel) | (have h2 := (cons_eq h).2; cases h2; rfl)
theorem rows_inj : ∀ {rs rs' : List Rw}, rs.map rowO = rs'.map rowO → rs = rs'
  | [], [], _ => rfl
  | [], _ :: _, h => by cases h
  | _ :: _, [], h => by cases h
  | r :: rs, r' :: rs', h => by
    have h1 : rowO r :: rs.map rowO = rowO r' :: rs'.map rowO := h
    injection h1 with a b
    rw [vs_inj (Option.some.inj a), rows_inj b]
theorem tch_w (size : Int) (bx : List Int) (r : Rw) : wcount (r.tch size bx) ≤ 1 := by
  cases r <;> simp [Rw.tch, wcount]
theorem goM_w (rs : List Rw) (size : Int) : ∀ (k : Nat) (m : MS), wcount (goM rs size k m).log ≤ wcount m.log + k
  | 0, m => Nat.le_refl _
  | k + 1, m => by
    show wcount (match rs[m.place.toNat]? with
      | some r => goM rs size k (r.step size m)
      | none => m).log ≤ _
    cases rs[m.place.toNat]? with
    | none => show wcount m.log ≤ _; omega
    | some r =>
      have h := goM_w rs size k (r.step size m)
      have e : wcount (r.step size m).log ≤ wcount m.log + 1 := by
        show wcount (m.log ++ r.tch size m.bx) ≤ _
        have := tch_w size m.bx r
        unfold wcount at *
        rw [List.countP_append]
        omega
      show wcount (goM rs size k (r.step size m)).log ≤ _
      omega
theorem finM_w (rs : List Rw) (bx : List Int) (k : Nat) : wcount (finM rs bx k).log ≤ k := by
  have := goM_w rs (bx.length : Int) k ⟨bx, [], [], 0⟩
  unfold finM
  have e : wcount (⟨bx, [], [], 0⟩ : MS).log = 0 := rfl
  rw [e] at this
  omega
/-- lines are fewer than boxes -/
theorem lines_le {room width : Int} {size : Nat} {s : NS} (ok : NOk room width size s) : s.written.length ≤ size := by
  have h1 := sub_len ok.wnd ok.wr
  have h2 : s.order.length ≤ ((List.range size).map fun (k : Nat) => (k : Int)).length := sub_len ok.ord fun k hk => by
    obtain ⟨e, he, rfl⟩ := ok.near_of hk
    obtain ⟨a, b, _⟩ := ok.ent e he
    have w0 := ok.w0
    have : e.k * 1 ≤ e.k * width := Int.mul_le_mul_of_nonneg_left (by omega) a
    exact List.mem_map.mpr ⟨e.k.toNat, List.mem_range.mpr (by omega), by omega⟩
  rw [List.length_map, List.length_range] at h2
  omega
/-! ### run_near -/
def sp_run_near (K : PySem.W.Frag) (cs : Cs) : Sp := fun vs H Q E => ∃ (a b : Addr) (ys : List V) (os : List (Option (List V))) (bs : List V) (k : Nat) (x y r : V), vs = [.ref a, .ref b, .int (k : Int), x, y, r] ∧ SqL K H a ys ∧ Things K H ys os ∧ ys.length ≤ 1000 ∧ SqL K H b bs ∧ (∀ y ∈ bs, Typ K H y) ∧ bs.length ≤ 1000 ∧ k ≤ 1000 ∧ Typ K H x ∧ Typ K H y ∧ Typ K H r ∧ (k ≤ 63 ∨ bs.length ≤ 63) ∧
  (∀ (rs : List Rw) (bx : List Int) (room width : Int) (rule : Str), os = rs.map rowO → bs = bx.map V.int → x = .int room → y = .int width → r = .str rule → shapeOk x y r = true → goodBoxes bs = true → goodRows (bs.length : Int) os = true → ∀ H' t ta fa ca, Same H H' → H' t = some (.tup [.ref ta, .str (endS rs (finM rs bx k)), .ref fa, .ref ca]) → H' ta = some (.lst ((finM rs bx k).told.map V.int)) →
    H' fa = some (.lst ((finM rs bx k).bx.map V.int)) → H' ca = some (.tup [.int (walkW room width (leastB rule) (finM rs bx k).log).c0, .int (walkW room width (leastB rule) (finM rs bx k).log).c1, .int ((walkW room width (leastB rule) (finM rs bx k).log).c2 + ((walkW room width (leastB rule) (finM rs bx k).log).dirty.length : Int))]) → Q (.ref t) H') ∧
  (goodBoxes bs = false → ∀ H', Same H H' → E (.ref cs.C_BadBoxes) none H') ∧ (goodBoxes bs = true → goodRows (bs.length : Int) os = false → ∀ H', Same H H' → E (.ref cs.C_BadRow) none H') ∧
  (goodBoxes bs = true → goodRows (bs.length : Int) os = true → shapeOk x y r = false → ∀ H', Same H H' → E (.ref cs.C_BadShape) none H')
theorem shape_of {x y r : V} (h : shapeOk x y r = true) : ∃ room width rule, x = .int room ∧ y = .int width ∧ r = .str rule ∧ (1 ≤ room ∧ room ≤ 200) ∧ 1 ≤ width ∧ width ≤ 200 := by
  unfold shapeOk at h
  rw [Bool.and_eq_true, Bool.and_eq_true] at h
  obtain ⟨⟨h1, h2⟩, h3⟩ := h
  obtain ⟨i, rfl, a, b⟩ := wIn_int h1
  obtain ⟨j, rfl, c, d⟩ := wIn_int h2
  cases r with
  | str z => exact ⟨i, j, z, rfl, rfl, rfl, ⟨a, b⟩, c, d⟩
  | _ => cases h3
theorem ok_run_near (T : Txt w K mg cs) (o_checked_boxes : Ok P w K mg base (L2.CX P w) 2 cs.f_checked_boxes cs.d_checked_boxes ["boxes"] (sp_checked_boxes K cs)) (o_checked : Ok P w K mg base (L2.CX P w) 4 cs.f_checked cs.d_checked ["rows", "size"] (sp_checked K cs)) (o_Near___init__ : Ok P w K mg base (L2.CX P w) 3 cs.f_Near___init__ cs.d_Near___init__ ["self", "boxes", "room", "width", "rule"] (sp_Near___init__ K cs)) (o_gone : Ok P w K mg base CX0 6 cs.f_gone cs.d_gone ["rows", "holder", "size", "steps"] (sp_gone K cs)) (o_Near_settle : Ok P w K mg base CX0 2 cs.f_Near_settle cs.d_Near_settle ["self"] (sp_Near_settle K cs)) : Ok P w K mg base (L2.CX P w) 7 cs.f_run_near cs.d_run_near ["rows", "boxes", "steps", "room", "width", "rule"] (sp_run_near K cs) := by
  refine T.fn_run_near.okX sc_run_near (fun vs H Q E h => ?_) (fun cdv A outer s H vs Q E hr h => ?_)
  · obtain ⟨a, b, ys, os, bs, k, x, y, r, rfl, _⟩ := h
    rfl
  · obtain ⟨a, b, ys, os, bs, k, x, y, r, rfl, hA, hTh, hyl, hB, hT, hbl, hk, tx, ty, tr, hk63, kQ, kE1, kE2, kE3⟩ := h
    refine ⟨_, (pss_cons (ps_set (i := 6) sc_run_near.nd rfl (Or.inl rfl) (pe_callO o_checked_boxes (hr.mono (by decide)) (by rfl) T.gl_checked_boxes (passes_call (takes_of rfl rfl rfl rfl) fun _ _ _ _ h => h) (pa_cons (pv 1) pa_nil)))
      (pss_cons (ps_set (i := 7) sc_run_near.nd rfl (Or.inl rfl) (pe_callO o_checked (hr.mono (by decide)) (by rfl) T.gl_checked (passes_call (takes_of rfl rfl rfl rfl) fun _ _ _ _ h => h) (pa_cons (pv 0) (pa_cons (pe_callB call_len_seq (by rfl) T.no_len PySem.boot_len (pa_cons (pv 6) pa_nil)) pa_nil))))
      (pss_cons (ps_set (i := 8) sc_run_near.nd rfl (Or.inl rfl) (pe_makeO o_Near___init__ T.mk_Near (hr.mono (by decide)) (by rfl) T.gl_Near (passes_call (takes_of rfl rfl rfl rfl) fun _ _ _ _ h => h) (pa_cons (pv 6) (pa_cons (pv 3) (pa_cons (pv 4) (pa_cons (pv 5) pa_nil))))))
      (pss_cons (ps_set (i := 9) sc_run_near.nd rfl (Or.inl rfl) (pe_callO o_gone hr (by rfl) T.gl_gone pass0 (pa_cons (pv 7) (pa_cons (pv 8) (pa_cons (pe_callB call_len_seq (by rfl) T.no_len PySem.boot_len (pa_cons (pv 6) pa_nil)) (pa_cons (pv 2) pa_nil))))))
      (pss_cons (ps_expr (pe_methO0 o_Near_settle T.cl_Near T.me_Near_settle (hr.mono (by decide)) pass0 (pv 8) ))
      (pss_one (ps_ret (pe_tup (pa_cons (pe_ix ix_tup (pv 9) pe_int (fun _ _ => rfl)) (pa_cons (pe_ix ix_tup (pv 9) pe_int (fun _ _ => rfl)) (pa_cons (pe_callTy call_list_of (by rfl) T.no_list boot_list (pa_cons (pe_fld (pv 8) rfl) pa_nil)) (pa_cons (pe_tup (pa_cons (pe_fld (pv 8) rfl) (pa_cons (pe_fld (pv 8) rfl) (pa_cons (pe_fld (pv 8) rfl) pa_nil)))) pa_nil)))))))))))), ?_⟩
    refine ⟨_, rfl, b, bs, rfl, hB, hT, hbl, fun H1 hd hgood s1 nh hhd => ?_, fun H1 hb s1 => kE1 hb H1 s1⟩
    refine ⟨_, rfl, _, rfl, hd, _, rfl, .inl (SqL.of hhd), a, ys, os, (bs.length : Int), rfl, s1.seq hA, hTh.same s1, hyl, fun H2 pr hg2 s2 npr hpr => ?_, fun H2 hb2 s2 => kE2 hgood hb2 H2 (s1.trans s2)⟩
    obtain ⟨rs, eos, hrl, hfit⟩ := rows_good hg2
    obtain ⟨bx, ebs⟩ := good_ints_of hgood
    obtain ⟨hb1, hb2⟩ := good_len hgood
    have hbl2 : bs.length = bx.length := by rw [ebs, List.length_map]
    have hR : RL H2 ys rs := Things.rows (by rw [← eos]; exact hTh.same (s1.trans s2))
    have hhd2 := s2 _ _ hhd
    have s12 := s1.trans s2
    refine ⟨_, rfl, _, rfl, _, rfl, _, rfl, fun p dx hp hdx hne => ?_⟩
    have s7 := (Same.new (o := .own p) hdx).mut (p := p) (o := .ins cs.C_Near dx []) hp
    refine ⟨p, dx, hd, bs, x, y, r, rfl, upd_same, SqL.of (s7 _ _ hhd2), fun v hv => (hT v hv).same (s12.trans s7), hbl, tx.same (s12.trans s7), ty.same (s12.trans s7), tr.same (s12.trans s7), fun _ hsh H8 F8 room width rule far ex ey er efar hN8 hB8 => ⟨rfl, ?_⟩, fun hb => absurd (hgood.symm.trans hb) (by decide), fun _ hsh H8 hB8 => kE3 hgood hg2 hsh H8 ?_⟩
    · subst ex ey er
      have ef : far = bx := (List.map_inj_right (fun x y z => V.int.inj z)).mp (efar.symm.trans ebs)
      subst ef
      obtain ⟨_, _, _, e1, e2, e3, hrm, hwd⟩ := shape_of hsh
      cases e1
      cases e2
      cases e3
      obtain ⟨s8, f8⟩ := hB8 H2 s7 (fun b hb => by
        simp only [List.mem_cons, List.not_mem_nil, or_false] at hb
        rw [hb]
        exact hp)
      have P8 : Part H2 H8 F8 := ⟨s8, f8⟩
      have hH8 : Hold cs K (.near room width rule) H8 p far [] F8 := ⟨_, hN8, NOk.fresh hrm hwd (by omega), Holds.fresh width far, rfl⟩
      refine ⟨_, rfl, _, rfl, _, rfl, hd, _, rfl, .inl (SqL.of (P8.same _ _ hhd2)), _, rfl, .near room width rule, p, pr, ys, rs, far, F8, H2, k, (by rw [hbl2]), P8, hpr, hR, hH8, by omega, (by rw [← hbl2]; exact hfit), by omega, hk, fun H9 F9 G9 t ta P9 s9 ht hta hH9 => ?_⟩
      have kq := kQ rs far room width rule eos ebs rfl rfl rfl hsh hgood hg2
      obtain ⟨st, hN9, ok9, ho9, hw9⟩ := hH9
      have hfl := (finM_len rs far k).1
      have hwl : st.written.length < 64 := by
        have h1 : st.written.length ≤ k := by
          have e : (wkOf st).dirty = st.written := rfl
          rw [← e, hw9]
          exact Nat.le_trans (walk_dirty _ _ _ _) (finM_w rs far k)
        have h2 := lines_le ok9
        have h3 : (goM rs (far.length : Int) k ⟨far, [], [], 0⟩).bx.length = far.length := hfl
        rw [h3] at h2
        omega
      obtain ⟨dx9, _, _, _, _, _, X9⟩ := id hN9
      -- settle
      refine ⟨_, rfl, p, dx9, _, rfl, X9.h1, rfl, p, room, width, _, rule, st, F9, rfl, hN9, ok9, hwl, fun H10 ks hp10 hN10 hB10 => ?_⟩
      obtain ⟨ho10, hf10, ok10⟩ := ho9.settle ok9 hp10
      obtain ⟨w1, w2, w3, w4, w5, w6⟩ := wbAll_keep width ks st
      have P10 := P9.bey hB10
      obtain ⟨dx10, fa10, _, _, _, _, X10⟩ := id hN10
      have hfar := X10.h2
      rw [hf10] at hfar
      have ec0 : (walkW room width (leastB rule) (finM rs far k).log).c0 = (wbAll width ks st).found := by
        rw [w3]
        show (walkW room width (leastB rule) (goM rs (far.length : Int) k ⟨far, [], [], 0⟩).log).c0 = _
        rw [← hw9]
        rfl
      have ec1 : (walkW room width (leastB rule) (finM rs far k).log).c1 = (wbAll width ks st).missed := by
        rw [w4]
        show (walkW room width (leastB rule) (goM rs (far.length : Int) k ⟨far, [], [], 0⟩).log).c1 = _
        rw [← hw9]
        rfl
      have ec2 : (walkW room width (leastB rule) (finM rs far k).log).c2 + ((walkW room width (leastB rule) (finM rs far k).log).dirty.length : Int) = (wbAll width ks st).back := by
        rw [w5, hp10.length_eq]
        show (walkW room width (leastB rule) (goM rs (far.length : Int) k ⟨far, [], [], 0⟩).log).c2 + ((walkW room width (leastB rule) (goM rs (far.length : Int) k ⟨far, [], [], 0⟩).log).dirty.length : Int) = _
        rw [← hw9]
        rfl
      rw [ec0, ec1, ec2] at kq
      generalize wbAll width ks st = st2 at *
      refine ⟨_, rfl, t, _, _, _, rfl, rfl, SqT.of (P10.same _ _ ht), (by rfl), _, rfl, t, _, _, _, rfl, rfl, SqT.of (P10.same _ _ ht), (by rfl), _, rfl, p, cs.C_Near, dx10, _, _, rfl, X10.h1, T.cl_Near, T.na_Near_far, lk_far, fa10, _, rfl, .inl (SqL.of hfar), fun lf nlf => ?_⟩
      have y1 := Same.new (o := .lst ((finM rs far k).bx.map V.int)) nlf
      have X11 := y1 _ _ X10.h1
      refine ⟨_, rfl, p, cs.C_Near, dx10, _, _, rfl, X11, T.cl_Near, T.na_Near_found, lk_found, _, rfl, p, cs.C_Near, dx10, _, _, rfl, X11, T.cl_Near, T.na_Near_missed, lk_missed, _, rfl, p, cs.C_Near, dx10, _, _, rfl, X11, T.cl_Near, T.na_Near_back, lk_back, (by show 3 ≤ sizeLine; decide), fun tc ntc => ⟨(by show 4 ≤ sizeLine; decide), fun tt ntt => ?_⟩⟩
      have y2 := Same.new (o := .tup [.int st2.found, .int st2.missed, .int st2.back]) ntc
      have y3 := Same.new (o := .tup [.ref ta, .str (endS rs (finM rs far k)), .ref lf, .ref tc]) ntt
      exact kq _ tt ta lf tc ((((s12.trans s9).trans P10.same).trans y1).trans (y2.trans y3)) upd_same ((y1.trans (y2.trans y3)) _ _ (P10.same _ _ hta)) ((y2.trans y3) _ _ upd_same) (y3 _ _ upd_same)
    · obtain ⟨s8, f8⟩ := hB8 H2 s7 (fun b hb => by
        simp only [List.mem_cons, List.not_mem_nil, or_false] at hb
        rw [hb]
        exact hp)
      exact s12.trans s8
/-! ### the law's own helpers -/
def mixed (c : Int) : Int := c * 48271 % 2147483647
def sp__law_mixed (K : PySem.W.Frag) (cs : Cs) : Sp := fun vs H Q _ => ∃ c : Int, vs = [.int c] ∧ Q (.int (mixed c)) H
theorem ok__law_mixed (T : Txt w K mg cs)  : Ok P w K mg base CX0 1 cs.f__law_mixed cs.d__law_mixed ["_law_cell"] (sp__law_mixed K cs) := by
  refine T.fn__law_mixed.ok sc__law_mixed (fun vs H Q E h => ?_) (fun cdv A outer s H vs Q E hr h => ?_)
  · obtain ⟨c, rfl, _⟩ := h
    rfl
  · obtain ⟨c, rfl, k⟩ := h
    refine ⟨_, (pss_one (ps_ret (pe_op op_mod (pe_op op_mul (pv 0) pe_int) pe_int))), ?_⟩
    refine ⟨_, rfl, _, _, rfl, rfl, .inr ⟨by decide, by decide⟩, _, _, rfl, rfl, (by show (0 : Int) < _; decide), k⟩
def sp__law_cell_at (K : PySem.W.Frag) (cs : Cs) : Sp := spCell K
theorem ok__law_cell_at (T : Txt w K mg cs)  : Ok P w K mg base CX0 1 cs.f__law_cell_at cs.d__law_cell_at ["_law_script", "_law_k"] (sp__law_cell_at K cs) := by
  refine T.fn__law_cell_at.ok sc__law_cell_at (fun vs H Q E h => ?_) (fun cdv A outer s H vs Q E hr h => ?_)
  · obtain ⟨l, ns, j, rfl, _⟩ := h
    rfl
  · obtain ⟨l, ns, j, rfl, hs, q⟩ := h
    refine ⟨_, (pss_cons (ps_if (pt_cmpR op_lt (pv 1) (pe_callB call_len_seq (by rfl) T.no_len PySem.boot_len (pa_cons (pv 0) pa_nil)) (nomark _)) (pss_one (ps_ret (pe_ix ix_list (pv 0) (pv 1) (fun _ _ => rfl)))) pss_nil)
      (pss_one (ps_ret pe_int))), ?_⟩
    refine ⟨_, rfl, _, rfl, l, _, rfl, .inl hs, _, _, rfl, rfl, _, rfl, iteD (fun c => ?_) (fun c => ?_)⟩
    · have hj : j < ns.length := by
        rw [List.length_map] at c
        omega
      exact ⟨_, rfl, _, rfl, l, _, _, _, rfl, rfl, hs, atI_cell hj, q⟩
    · have hj : ¬ j < ns.length := by
        rw [List.length_map] at c
        omega
      rw [cell_out hj] at q
      exact q
def sp__law_whole (K : PySem.W.Frag) (cs : Cs) : Sp := fun vs H Q _ => ∃ (x : V) (t : String), vs = [x] ∧ TyX K H x (.type t) ∧ t ∈ tyNames ∧ Q (.bl (t == "int")) H
theorem ok__law_whole (T : Txt w K mg cs)  : Ok P w K mg base CX0 1 cs.f__law_whole cs.d__law_whole ["_law_found"] (sp__law_whole K cs) := by
  refine T.fn__law_whole.ok sc__law_whole (fun vs H Q E h => ?_) (fun cdv A outer s H vs Q E hr h => ?_)
  · obtain ⟨x, t, rfl, _⟩ := h
    rfl
  · obtain ⟨x, t, rfl, ty, ht, q⟩ := h
    refine ⟨_, (pss_one (ps_ret (pe_and (pe_callB call_isi (by rfl) T.no_isinstance boot_isinstance (pa_cons (pv 0) (pa_cons (pe_bltn (v := .ty "int") (by rfl) T.no_int boot_int rfl) pa_nil))) (pe_one (pe_not (pe_callB call_isi (by rfl) T.no_isinstance boot_isinstance (pa_cons (pv 0) (pa_cons (pe_bltn (v := .ty "bool") (by rfl) T.no_bool boot_bool rfl) pa_nil)))))))), ?_⟩
    refine ⟨_, rfl, _, _, _, _, _, rfl, .ty "int", ty, kit_int ht, _, rfl, iteB (fun c => ?_) (fun c => ?_)⟩
    · refine ⟨_, rfl, _, _, _, _, _, rfl, .ty "bool", ty, kit_bool ht, _, rfl, ?_⟩
      have e : (!(t == "bool")) = (t == "int") := by
        simp only [tyNames, List.mem_cons, List.not_mem_nil, or_false] at ht
        rcases ht with rfl | rfl | rfl | rfl | rfl | rfl | rfl <;> first | decide | (exfalso; revert c; decide)
      rw [e]
      exact q
    · have e : (t == "int") = false := by
        cases h : (t == "int") with
        | false => rfl
        | true =>
          rw [h] at c
          cases c
      rw [e] at q
      exact q
/-! ### _law_edge, _law_marks, _law_thing_by, _law_fits -/
def edgeM (c last : Int) : Int := [0 - 1, 0, last, last + 1, mixed c % (last + 1), mixed c % (last + 1)].getD (c % 6).toNat 0
def sp__law_edge (K : PySem.W.Frag) (cs : Cs) : Sp := fun vs H Q _ => ∃ c last : Int, vs = [.int c, .int last] ∧ 0 ≤ last ∧ ∀ H', Same H H' → Q (.int (edgeM c last)) H'
theorem ok__law_edge (T : Txt w K mg cs) (o__law_mixed : Ok P w K mg base CX0 1 cs.f__law_mixed cs.d__law_mixed ["_law_cell"] (sp__law_mixed K cs)) : Ok P w K mg base CX0 2 cs.f__law_edge cs.d__law_edge ["_law_cell", "_law_last"] (sp__law_edge K cs) := by
  refine T.fn__law_edge.ok sc__law_edge (fun vs H Q E h => ?_) (fun cdv A outer s H vs Q E hr h => ?_)
  · obtain ⟨c, last, rfl, _⟩ := h
    rfl
  · obtain ⟨c, last, rfl, hl, q⟩ := h
    refine ⟨_, (pss_one (ps_ret (pe_ix ix_list (pe_lst (pa_cons (pe_op op_sub pe_int pe_int) (pa_cons pe_int (pa_cons (pv 1) (pa_cons (pe_op op_add (pv 1) pe_int) (pa_cons (pe_op op_mod (pe_callO o__law_mixed hr (by rfl) T.gl__law_mixed pass0 (pa_cons (pv 0) pa_nil)) (pe_op op_add (pv 1) pe_int)) (pa_cons (pe_op op_mod (pe_callO o__law_mixed hr (by rfl) T.gl__law_mixed pass0 (pa_cons (pv 0) pa_nil)) (pe_op op_add (pv 1) pe_int)) pa_nil))))))) (pe_op op_mod (pv 0) pe_int) (fun _ _ => rfl)))), ?_⟩
    have hp : 0 < last + 1 := by omega
    refine ⟨_, _, rfl, rfl, _, rfl, _, rfl, _, _, rfl, rfl, _, rfl, c, rfl, _, rfl, _, _, rfl, rfl, _, _, rfl, rfl, hp, _, rfl, c, rfl, _, rfl, _, _, rfl, rfl, _, _, rfl, rfl, hp, (by show 6 ≤ sizeLine; decide), fun l1 h1 => ?_⟩
    refine ⟨_, rfl, _, _, rfl, rfl, (by show (0 : Int) < _; decide), l1, _, _, _, rfl, rfl, SqL.of upd_same, mod_at (xs := [0 - 1, 0, last, last + 1, mixed c % (last + 1), mixed c % (last + 1)]) c 6 rfl (by decide), ?_⟩
    exact q _ (Same.new h1)
def sp__law_marks (K : PySem.W.Frag) (cs : Cs) : Sp := fun vs H Q _ => ∃ z : Str, vs = [.str z] ∧ ∀ H', Same H H' → Q (.str (marksM z)) H'
theorem ok__law_marks (T : Txt w K mg cs)  : Ok P w K mg base CX0 1 cs.f__law_marks cs.d__law_marks ["_law_word"] (sp__law_marks K cs) := by
  refine T.fn__law_marks.ok sc__law_marks (fun vs H Q E h => ?_) (fun cdv A outer s H vs Q E hr h => ?_)
  · obtain ⟨z, rfl, _⟩ := h
    rfl
  · obtain ⟨z, rfl, q⟩ := h
    refine ⟨_, (pss_cons (ps_set (i := 1) sc__law_marks.nd rfl (Or.inl rfl) (pe_lst (pa_cons pe_str (pa_cons pe_str (pa_cons pe_str (pa_cons pe_str (pa_cons pe_str (pa_cons pe_str (pa_cons pe_str (pa_cons pe_str (pa_cons pe_str pa_nil)))))))))))
      (pss_cons (ps_if (pt_cmpR op_notIn_seq (pv 0) (pv 1) (by rfl)) (pss_one (ps_ret pe_str)) pss_nil)
      (pss_one (ps_ret (pe_ix ix_list (pe_lst (pa_cons pe_str (pa_cons pe_str (pa_cons pe_str (pa_cons pe_str (pa_cons pe_str (pa_cons pe_str (pa_cons pe_str (pa_cons pe_str (pa_cons pe_str pa_nil)))))))))) (pe_bm PySem.F.plainAttrs_list PySem.F.slot_list_index PySem.F.type_list_index mt_index (pv 1) (pa_cons (pv 0) pa_nil)) (fun _ _ => rfl)))))), ?_⟩
    refine ⟨(by show 9 ≤ sizeLine; decide), fun l hl => ?_⟩
    have s1 : Same H (upd H l (.lst (nineW.map V.str))) := Same.new hl
    have hll : (upd H l (.lst (nineW.map V.str))) l = some (.lst (nineW.map V.str)) := upd_same
    refine ⟨_, rfl, _, rfl, l, _, rfl, .inl (SqL.of hll), rfl, nine_flat, _, rfl, iteB (fun c => ?_) (fun c => ?_)⟩
    · have c2 : (!inV (.str z) (nineW.map V.str)) = true := c
      rw [nine_in] at c2
      have e : marksM z = "" := by
        unfold marksM
        cases h : partsM z with
        | none => rfl
        | some m =>
          rw [h] at c2
          cases c2
      rw [e] at q
      exact q _ s1
    · have c2 : (!inV (.str z) (nineW.map V.str)) = false := c
      rw [nine_in] at c2
      cases h : partsM z with
      | none =>
        rw [h] at c2
        cases c2
      | some m =>
        have e : marksM z = m := by
          unfold marksM
          rw [h]
          rfl
        rw [e] at q
        obtain ⟨j, hj, h1, h2, h3⟩ := nine_at h
        refine ⟨(by show 9 ≤ sizeLine; decide), fun l2 hl2 => ?_⟩
        have s2 : Same (upd H l (.lst (nineW.map V.str))) (upd (upd H l (.lst (nineW.map V.str))) l2 (.lst (nineM.map V.str))) := Same.new hl2
        have ez : eqV (.str z) (.str z) = true := by
          show (z == z) = true
          simp
        refine ⟨_, rfl, .inl ⟨rfl, _, SqL.of (s2 _ _ hll)⟩, _, rfl, l, _, _, j, _, rfl, rfl, SqL.of (s2 _ _ hll), rfl, nine_flat, h1, ez, h2, ?_⟩
        exact ⟨l2, _, _, _, rfl, rfl, SqL.of upd_same, atI_nat h3, q _ (s1.trans s2)⟩
/-! ### things drawn -/
/-- an item of a thing -/
def It (K : PySem.W.Frag) (H : Hp) (v : V) : Prop := Typ K H v ∧ ∃ d, Dp K H v d ∧ Sh 1 d
theorem It.same {K : PySem.W.Frag} {H H' : Hp} {v : V} (h : It K H v) (s : Same H H') : It K H' v := by
  obtain ⟨h1, d, h2, h3⟩ := h
  exact ⟨h1.same s, d, dp_same s _ _ h2, h3⟩
theorem it_int {K : PySem.W.Frag} {H : Hp} (i : Int) : It K H (.int i) := ⟨typ_i i, _, .int i, sh_int i⟩
theorem it_non {K : PySem.W.Frag} {H : Hp} : It K H .non := ⟨typ_n, _, .non, sh_non⟩
theorem it_bl {K : PySem.W.Frag} {H : Hp} (b : Bool) : It K H (.bl b) := ⟨typ_b b, _, .bl b, sh_bool b⟩
theorem it_str {K : PySem.W.Frag} {H : Hp} {z : Str} (h : PyData.strOk z = true) : It K H (.str z) := ⟨typ_s z, _, .str z, sh_str h⟩
theorem it_lst0 {K : PySem.W.Frag} {H : Hp} {a : Addr} (h : H a = some (.lst [.int 0])) : It K H (.ref a) :=
  ⟨typ_l h, _, .lst (SqL.of h) (.cons (.int 0) .nil), sh_list fun d hd => by
    simp only [List.mem_cons, List.not_mem_nil, or_false] at hd
    subst hd
    exact sh_int 0⟩
theorem its_dp {K : PySem.W.Frag} {H : Hp} : ∀ {xs : List V}, (∀ v ∈ xs, It K H v) → ∃ ds, DpAll K H xs ds ∧ ∀ d ∈ ds, Sh 1 d
  | [], _ => ⟨[], .nil, fun d hd => by simp at hd⟩
  | x :: r, h => by
    obtain ⟨_, d, h1, h2⟩ := h x List.mem_cons_self
    obtain ⟨ds, h3, h4⟩ := its_dp (xs := r) fun v hv => h v (List.mem_cons_of_mem _ hv)
    exact ⟨d :: ds, .cons h1 h3, fun e he => (List.mem_cons.mp he).elim (fun z => by rw [z]; exact h2) (h4 e)⟩
/-- a thing, of which == can tell -/
def Drawn (K : PySem.W.Frag) (H : Hp) (x : V) (o : Option (List V)) : Prop := Thing K H x o ∧ ∃ d, Dp K H x d ∧ Sh 2 d
theorem Drawn.same {K : PySem.W.Frag} {H H' : Hp} {x : V} {o : Option (List V)} (h : Drawn K H x o) (s : Same H H') : Drawn K H' x o := by
  obtain ⟨h1, d, h2, h3⟩ := h
  exact ⟨h1.same s, d, dp_same s _ _ h2, h3⟩
theorem drawn_tup {K : PySem.W.Frag} {H : Hp} {a : Addr} {xs : List V} (h : H a = some (.tup xs)) (hi : ∀ v ∈ xs, It K H v) (hl : xs.length ≤ 1000) : Drawn K H (.ref a) (some xs) := by
  obtain ⟨ds, h1, h2⟩ := its_dp hi
  exact ⟨⟨a, rfl, h, fun v hv => (hi v hv).1, hl⟩, _, .tup (SqT.of h) h1, sh_tup h2⟩
theorem drawn_lst {K : PySem.W.Frag} {H : Hp} {a : Addr} {xs : List V} (h : H a = some (.lst xs)) (hi : ∀ v ∈ xs, It K H v) : Drawn K H (.ref a) none := by
  obtain ⟨ds, h1, h2⟩ := its_dp hi
  exact ⟨⟨"list", .base (.lst h), by decide, by decide⟩, _, .lst (SqL.of h) h1, sh_list h2⟩
theorem drawn_it {K : PySem.W.Frag} {H : Hp} {x : V} (h : It K H x) (hn : ∀ t, TyX K H x (.type t) → t ≠ "tuple") : Drawn K H x none := by
  obtain ⟨⟨t, h1, h2⟩, d, h3, h4⟩ := h
  exact ⟨⟨t, h1, h2, hn t h1⟩, d, h3, h4.1, Nat.le_succ_of_le h4.2⟩
/-- the last number that fits a mark -/
def lastM (size count : Int) (c : Nat) : Int := if c = 98 then size - 1 else if c = 110 then 999999 else count
theorem partB_last (c : Nat) (x : V) (size count : Int) : partB c x size count = wIn x 0 (lastM size count c) := by
  unfold partB lastM
  repeat' split
  all_goals rfl
def MarkOk (c : Nat) : Prop := c = 98 ∨ c = 110 ∨ c = 112
theorem occ_bnp {c : Nat} (h : MarkOk c) (size count : Int) : ∃ (i : Nat) (rest : List Nat), Builtin.Str.occurrences ("bnp" : Str) ⟨#[c]⟩ 0 ("bnp" : Str).length 1 = i :: rest ∧ atI [V.int (size - 1), .int 999999, .int count] (i : Int) = some (.int (lastM size count c)) := by
  rcases h with rfl | rfl | rfl
  · exact ⟨0, [], by decide +kernel, rfl⟩
  · exact ⟨1, [], by decide +kernel, rfl⟩
  · exact ⟨2, [], by decide +kernel, rfl⟩
def MarksOk (m : Str) : Prop := m.length ≤ 4 ∧ ∀ c ∈ m.cps.toList, MarkOk c
theorem partsM_marks {z m : Str} (h : partsM z = some m) : 1 ≤ m.length ∧ m.length ≤ 3 ∧ ∀ c ∈ m.cps.toList, MarkOk c := by
  have hb : ∀ c, (c == 98 || c == 110 || c == 112) = true → MarkOk c := by
    intro c hc
    simp only [Bool.or_eq_true, beq_iff_eq] at hc
    rcases hc with (h | h) | h
    · exact .inl h
    · exact .inr (.inl h)
    · exact .inr (.inr h)
  suffices 1 ≤ m.length ∧ m.length ≤ 3 ∧ (m.cps.toList.all fun c => c == 98 || c == 110 || c == 112) = true from
    ⟨this.1, this.2.1, fun c hc => hb c (List.all_eq_true.mp this.2.2 c hc)⟩
  unfold partsM at h
  repeat' split at h
  all_goals (first | (cases h; decide +kernel) | cases h)
theorem marksM_ok (z : Str) : (marksM z).length ≤ 3 ∧ ∀ c ∈ (marksM z).cps.toList, MarkOk c := by
  unfold marksM
  cases h : partsM z with
  | none =>
    have e : ((none : Option Str).getD "").cps.toList = [] := by decide +kernel
    refine ⟨by decide +kernel, fun c hc => ?_⟩
    rw [e] at hc
    cases hc
  | some m => exact ⟨(partsM_marks h).2.1, (partsM_marks h).2.2⟩
theorem cutS_ok {m : Str} {hi : Option Int} (h : m.length ≤ 3 ∧ ∀ c ∈ m.cps.toList, MarkOk c) : MarksOk (cutS m none hi) := by
  have e : (cutS m none hi).cps.toList = m.cps.toList.take (HT.sIx m.length m.length hi - 0) := by
    unfold cutS
    rw [HT.sIx_none]
    rfl
  have el : m.cps.toList.length = m.length := by simp [Str.length]
  have el2 : (cutS m none hi).cps.toList.length = (cutS m none hi).length := by simp [Str.length]
  refine ⟨?_, fun c hc => h.2 c ?_⟩
  · rw [← el2, e, List.length_take]
    omega
  · rw [e] at hc
    exact List.mem_of_mem_take hc
theorem catS_ok {m : Str} (h : m.length ≤ 3 ∧ ∀ c ∈ m.cps.toList, MarkOk c) : MarksOk (m ++ "b") := by
  have e : (m ++ ("b" : Str)).cps.toList = m.cps.toList ++ [98] := by
    have : ("b" : Str).cps = #[98] := by decide +kernel
    show (m.cps ++ ("b" : Str).cps).toList = _
    rw [this]
    simp
  have el : m.cps.toList.length = m.length := by simp [Str.length]
  have el2 : (m ++ ("b" : Str)).cps.toList.length = (m ++ ("b" : Str)).length := by simp [Str.length]
  refine ⟨?_, fun c hc => ?_⟩
  · rw [← el2, e, List.length_append]
    simp only [List.length_cons, List.length_nil]
    omega
  · rw [e] at hc
    rcases List.mem_append.mp hc with q | q
    · exact h.2 c q
    · simp only [List.mem_cons, List.not_mem_nil, or_false] at q
      exact .inl q
def tenW : List Str := ["set", "copy", "add", "sub", "fetch", "store", "less", "jump", "tell", "halt"]
theorem tenW_ok {z : Str} (h : z ∈ tenW) : PyData.strOk z = true := by
  have : tenW.all PyData.strOk = true := by decide +kernel
  exact List.all_eq_true.mp this z h
/-- what is new in H' -/
def newP (H H' : Hp) : Hp := fun b => if H b = none then H' b else none
theorem newP_of {H H' : Hp} {b : Addr} {o : HO} (n : H b = none) (e : H' b = some o) : newP H H' b = some o := by
  unfold newP
  rw [if_pos n]
  exact e
theorem newP_mono {H H1 H2 : Hp} (s : Same H1 H2) : Same (newP H H1) (newP H H2) := fun b o e => by
  unfold newP at *
  by_cases n : H b = none
  · rw [if_pos n] at e ⊢
    exact s _ _ e
  · rw [if_neg n] at e
    cases e
theorem newP_same {H H' : Hp} : Same (newP H H') H' := fun b o e => by
  unfold newP at e
  by_cases n : H b = none
  · rw [if_pos n] at e
    exact e
  · rw [if_neg n] at e
    cases e
/-- what H knows may change -/
theorem newP_but {H H' : Hp} {D : Addr} {o : HO} (h : H D ≠ none) : Same (newP H H') (upd H' D o) := fun b x e => by
  unfold newP at e
  by_cases n : H b = none
  · rw [if_pos n] at e
    rw [upd_ne (fun z => h (by rw [← z]; exact n))]
    exact e
  · rw [if_neg n] at e
    cases e
def sp__law_thing_by (K : PySem.W.Frag) (cs : Cs) : Sp := fun vs H Q _ => ∃ (a : Addr) (ns : List Int) (size count : Int), vs = [.ref a, .int size, .int count] ∧ SqL K H a (ns.map V.int) ∧ ns.length ≤ 63 ∧ 1 ≤ size ∧ 0 ≤ count ∧
  ∀ H' x o, Same H H' → Drawn K (newP H H') x o → Q x H'
theorem ok__law_thing_by (T : Txt w K mg cs) (o__law_cell_at : Ok P w K mg base CX0 1 cs.f__law_cell_at cs.d__law_cell_at ["_law_script", "_law_k"] (sp__law_cell_at K cs)) (o__law_marks : Ok P w K mg base CX0 1 cs.f__law_marks cs.d__law_marks ["_law_word"] (sp__law_marks K cs)) (o__law_edge : Ok P w K mg base CX0 2 cs.f__law_edge cs.d__law_edge ["_law_cell", "_law_last"] (sp__law_edge K cs)) : Ok P w K mg base CX0 3 cs.f__law_thing_by cs.d__law_thing_by ["_law_script", "_law_size", "_law_count"] (sp__law_thing_by K cs) := by
  refine T.fn__law_thing_by.ok sc__law_thing_by (fun vs H Q E h => ?_) (fun cdv A outer s H vs Q E hr h => ?_)
  · obtain ⟨a, ns, size, count, rfl, _⟩ := h
    rfl
  · obtain ⟨a, ns, size, count, rfl, hS, hl, hsz, hct, q⟩ := h
    refine ⟨_, (pss_cons (ps_set (i := 3) sc__law_thing_by.nd rfl (Or.inl rfl) (pe_callO o__law_cell_at (hr.mono (by decide)) (by rfl) T.gl__law_cell_at pass0 (pa_cons (pv 0) (pa_cons pe_int pa_nil))))
      (pss_cons (ps_set (i := 4) sc__law_thing_by.nd rfl (Or.inl rfl) (pe_ix ix_list (pe_lst (pa_cons pe_str (pa_cons pe_str (pa_cons pe_str (pa_cons pe_str (pa_cons pe_str (pa_cons pe_str (pa_cons pe_str (pa_cons pe_str (pa_cons pe_str (pa_cons pe_str pa_nil))))))))))) (pe_op op_mod (pv 3) pe_int) (fun _ _ => rfl)))
      (pss_cons (ps_set (i := 5) sc__law_thing_by.nd rfl (Or.inl rfl) (pe_callO o__law_marks (hr.mono (by decide)) (by rfl) T.gl__law_marks pass0 (pa_cons (pv 4) pa_nil)))
      (pss_cutS (ps_if (pt_cmpR op_eq (pe_op op_mod (pe_op op_fdiv (pv 3) pe_int) pe_int) pe_int (nomark _)) (pss_one (ps_set (i := 5) sc__law_thing_by.nd rfl (Or.inl rfl) (pe_slice sl_str (pv 5) po_none (po_some (pe_un un_neg pe_int))))) pss_nil)
      (pss_cutS (ps_if (pt_cmpR op_eq (pe_op op_mod (pe_op op_fdiv (pv 3) pe_int) pe_int) pe_int (nomark _)) (pss_one (ps_set (i := 5) sc__law_thing_by.nd rfl (Or.inl rfl) (pe_op op_add_str (pv 5) pe_str))) pss_nil)
      (pss_cons (ps_set (i := 6) sc__law_thing_by.nd rfl (Or.inl rfl) (pe_lst (pa_cons (pv 4) pa_nil)))
      (pss_cons (ps_for PassesOwn.never rfl (pi_range1 (by rfl) T.no_range (pa_cons (pe_callB call_len_str (by rfl) T.no_len PySem.boot_len (pa_cons (pv 5) pa_nil)) pa_nil)) (pg_name (i := 7) sc__law_thing_by.nd rfl (Or.inl rfl)) (pss_cons (ps_set (i := 8) sc__law_thing_by.nd rfl (Or.inl rfl) (pe_ix ix_list (pe_lst (pa_cons (pe_op op_sub (pv 1) pe_int) (pa_cons pe_int (pa_cons (pv 2) pa_nil)))) (pe_m1 PySem.F.slot_str_index PySem.F.type_str_index mt_sindex pe_str (pe_ix ix_str (pv 5) (pv 7) (fun _ _ => rfl))) (fun _ _ => rfl)))
      (pss_one (ps_expr (pe_bm PySem.F.plainAttrs_list PySem.F.slot_list_append PySem.F.type_list_append mt_append (pv 6) (pa_cons (pe_callO o__law_edge hr (by rfl) T.gl__law_edge pass0 (pa_cons (pe_callO o__law_cell_at (hr.mono (by decide)) (by rfl) T.gl__law_cell_at pass0 (pa_cons (pv 0) (pa_cons (pe_op op_add pe_int (pv 7)) pa_nil))) (pa_cons (pv 8) pa_nil))) pa_nil))))))
      (pss_cons (ps_set (i := 9) sc__law_thing_by.nd rfl (Or.inl rfl) (pe_op op_mod (pe_op op_fdiv (pv 3) pe_int) pe_int))
      (pss_cutS (ps_if (pt_jn (PW.pt (pw_and (pt_cmpR op_in_seq (pv 9) (pe_tup (pa_cons pe_int (pa_cons pe_int pa_nil))) (by rfl)) (pw_and1 (pt_cmpR op_gt (pe_callB call_len_seq (by rfl) T.no_len PySem.boot_len (pa_cons (pv 6) pa_nil)) pe_int (nomark _)))))) (pss_one (ps_asg (pe_ix ix_list (pe_lst (pa_cons pe_bl (pa_cons pe_str (pa_cons (pe_lst (pa_cons pe_int pa_nil)) (pa_cons pe_non pa_nil))))) (pe_op op_mod (pe_callO o__law_cell_at (hr.mono (by decide)) (by rfl) T.gl__law_cell_at pass0 (pa_cons (pv 0) (pa_cons pe_int pa_nil))) pe_int) (fun _ _ => rfl)) (pg_sub (pv 6) (pe_op op_add pe_int (pe_op op_mod (pe_op op_fdiv (pv 3) pe_int) (pe_op op_sub (pe_callB call_len_seq (by rfl) T.no_len PySem.boot_len (pa_cons (pv 6) pa_nil)) pe_int))) set_list))) pss_nil)
      (pss_cons (ps_if (pt_cmpR op_eq (pv 9) pe_int (nomark _)) (pss_one (ps_ret (pe_ix ix_list (pe_lst (pa_cons (pv 6) (pa_cons (pe_tup (pa_cons pe_int (pa_cons pe_int pa_nil))) (pa_cons (pe_tup pa_nil) (pa_cons pe_non (pa_cons (pv 4) (pa_cons (pe_tup (pa_cons pe_non (pa_cons pe_int pa_nil))) pa_nil))))))) (pe_op op_mod (pe_op op_fdiv (pv 3) pe_int) pe_int) (fun _ _ => rfl)))) pss_nil)
      (pss_one (ps_ret (pe_callTy call_tuple_of (by rfl) T.no_tuple boot_tuple (pa_cons (pv 6) pa_nil)))))))))))))), ?_⟩
    -- first, word, marks
    refine ⟨_, rfl, a, ns, 2, rfl, hS, ?_⟩
    generalize cellOf ns 2 = f
    refine ⟨(by show 10 ≤ sizeLine; decide), fun l1 h1 => ?_⟩
    have s1 : Same H (upd H l1 (.lst (tenW.map V.str))) := Same.new h1
    have h10a := Int.emod_nonneg f (show (10 : Int) ≠ 0 by decide)
    have h10b := Int.emod_lt_of_pos f (show (0 : Int) < 10 by decide)
    obtain ⟨wd, hwd⟩ : ∃ wd, tenW[(f % 10).toNat]? = some wd := ⟨tenW[(f % 10).toNat]'(by show _ < 10; omega), List.getElem?_eq_getElem _⟩
    have hok := tenW_ok (List.mem_of_getElem? hwd)
    refine ⟨_, rfl, _, _, rfl, rfl, (by show (0 : Int) < _; decide), l1, _, _, _, rfl, rfl, SqL.of upd_same, at_of (j := (f % 10).toNat) (by omega) (nl_get_map (f := V.str) hwd), ?_⟩
    refine ⟨_, rfl, wd, rfl, fun H2 s2' => ?_⟩
    have s2 := s1.trans s2'
    have hm0 := marksM_ok wd
    generalize marksM wd = m0 at hm0
    -- the marks turned
    refine ⟨fun σ' H3 => ∃ m1, σ' = [some (.ref a), some (.int size), some (.int count), some (.int f), some (.str wd), some (.str m1), none, none, none, none] ∧ H3 = H2 ∧ (m1 = m0 ∨ ∃ hi, m1 = cutS m0 none hi) ∧ (f / 10 % 6 = 1 ∨ m1 = m0), ?_, ?_⟩
    · refine ⟨_, rfl, _, _, rfl, rfl, ⟨by decide, by decide⟩, _, _, rfl, rfl, (by show (0 : Int) < _; decide), rfl, _, rfl, iteD (fun c => ?_) (fun c => ?_)⟩
      · refine ⟨_, rfl, _, rfl, _, rfl, m0, rfl, Nat.le_trans hm0.1 (by decide), ?_⟩
        exact ⟨_, rfl, rfl, .inr ⟨_, rfl⟩, .inl (V.int.inj c)⟩
      · exact ⟨m0, rfl, rfl, .inl rfl, .inr rfl⟩
    rintro σ' H3 ⟨m1, rfl, rfl, hm1, hf1⟩
    refine ⟨fun σ' H4 => ∃ m2, σ' = [some (.ref a), some (.int size), some (.int count), some (.int f), some (.str wd), some (.str m2), none, none, none, none] ∧ H4 = H3 ∧ MarksOk m2, ?_, ?_⟩
    · refine ⟨_, rfl, _, _, rfl, rfl, ⟨by decide, by decide⟩, _, _, rfl, rfl, (by show (0 : Int) < _; decide), rfl, _, rfl, iteD (fun c => ?_) (fun c => ?_)⟩
      · have c' := V.int.inj c
        have e : m1 = m0 := by
          rcases hf1 with z | z
          · omega
          · exact z
        subst e
        have hcat := catS_ok hm0
        refine ⟨_, rfl, m1, "b", rfl, rfl, ?_, ?_⟩
        · have : ("b" : Str).length = 1 := by decide +kernel
          rw [this]
          exact Nat.le_trans (Nat.succ_le_succ hm0.1) (by decide)
        · exact ⟨_, rfl, rfl, hcat⟩
      · refine ⟨m1, rfl, rfl, ?_⟩
        rcases hm1 with rfl | ⟨hi, rfl⟩
        · exact ⟨by omega, hm0.2⟩
        · exact cutS_ok hm0
    rintro σ' H4 ⟨m, rfl, rfl, hm⟩
    -- parts = [word]
    refine ⟨_, rfl, (by show 1 ≤ sizeLine; decide), fun pl npl => ?_⟩
    have npl0 : H pl = none := s2.free npl
    have s3 := s2.trans (Same.new (o := .lst [V.str wd]) npl)
    have el : m.cps.toList.length = m.length := by simp [Str.length]
    refine ⟨_, rfl, m, rfl, Nat.le_of_lt (sizeL (by have := hm.1; omega)), (m.length : Int), rfl, by omega, by have := hm.1; omega, ?_⟩
    have e0 : ((m.length : Int)).toNat = m.cps.toList.length := by rw [el]; rfl
    rw [e0]
    refine for_range (lo := 0) (n := m.cps.toList.length) (fun i σ H5 => ∃ (v7 v8 : Option V) (is : List Int), σ = [some (.ref a), some (.int size), some (.int count), some (.int f), some (.str wd), some (.str m), some (.ref pl), v7, v8, none] ∧ Same H H5 ∧ H5 pl = some (.lst (V.str wd :: is.map V.int)) ∧ is.length = i) ?_ ?_ ?_
    · exact ⟨none, none, [], rfl, s3, upd_same, rfl⟩
    · rintro i σ H5 hi ⟨v7, v8, is, rfl, s5, hp5, hxl⟩
      have hzi : (0 : Int) + (i : Int) = ((i : Nat) : Int) := Int.zero_add _
      obtain ⟨c, hc⟩ : ∃ c, m.cps.toList[i]? = some c := ⟨m.cps.toList[i], List.getElem?_eq_getElem hi⟩
      have hcm := hm.2 c (List.mem_of_getElem? hc)
      obtain ⟨j, rest, ho, hat⟩ := occ_bnp hcm size count
      have hl0 : 0 ≤ lastM size count c := by
        unfold lastM
        repeat' split
        all_goals omega
      refine ⟨_, rfl, _, _, rfl, rfl, _, rfl, (by show 3 ≤ sizeLine; decide), fun l6 h6 => ?_⟩
      have s6 : Same H5 (upd H5 l6 (.lst [.int (size - 1), .int 999999, .int count])) := Same.new h6
      refine ⟨⟨_, rfl⟩, _, rfl, _, rfl, m, _, c, rfl, rfl, Nat.le_of_lt (sizeL (by have := hm.1; omega)), at_ofG hzi hc, _, _, j, rest, rfl, rfl, ho, l6, _, _, _, rfl, rfl, SqL.of upd_same, hat, ?_⟩
      refine ⟨_, rfl, .inl ⟨rfl, _, SqL.of (s6 _ _ hp5)⟩, _, rfl, _, rfl, _, _, rfl, rfl, a, ns, 3 + i, congrArg (fun z => [V.ref a, V.int z]) (show (3 : Int) + (0 + (i : Int)) = ((3 + i : Nat) : Int) by omega), (s5.trans s6).seq hS, _, rfl, _, _, rfl, hl0, fun H7 s7' => ?_⟩
      have s7 := s6.trans s7'
      refine ⟨pl, _, _, rfl, rfl, s7 _ _ hp5, sizeL (by rw [List.length_cons, List.length_map]; have := hm.1; omega), ?_⟩
      refine ⟨_, _, is ++ [edgeM (cellOf ns (3 + i)) (lastM size count c)], rfl, (s5.trans s7).mut npl0, ?_, by rw [List.length_append, hxl]; rfl⟩
      rw [upd_same, List.map_append]
      rfl
    · rintro σ H5 ⟨v7, v8, is, rfl, s5, hp5, hxl⟩
      have hml := hm.1
      -- odd
      refine ⟨_, rfl, _, _, rfl, rfl, ⟨by decide, by decide⟩, _, _, rfl, rfl, (by show (0 : Int) < _; decide), ?_⟩
      -- an item turned
      refine ⟨fun σ' H6 => ∃ (v7 v8 : Option V) (ys : List V), σ' = [some (.ref a), some (.int size), some (.int count), some (.int f), some (.str wd), some (.str m), some (.ref pl), v7, v8, some (.int (f / 60 % 16))] ∧ Same H H6 ∧ H6 pl = some (.lst ys) ∧ (∀ v ∈ ys, It K (newP H H6) v) ∧ ys.length ≤ 5, ?_, ?_⟩
      · refine ⟨fun b H6 => Same H5 H6 ∧ (b = true → 0 < is.length), ?_, ?_⟩
        · refine ⟨_, rfl, (by show 2 ≤ sizeLine; decide), fun t6 nt6 => ?_⟩
          have st : Same H5 (upd H5 t6 (.tup [.int 1, .int 2])) := Same.new nt6
          refine ⟨_, _, rfl, .inr (SqT.of upd_same), rfl, rfl, _, rfl, iteB (fun _ => ?_) (fun _ => ?_)⟩
          · refine ⟨_, rfl, pl, _, rfl, .inl (SqL.of (st _ _ hp5)), _, _, rfl, rfl, _, rfl, st, fun hb => ?_⟩
            have := of_decide_eq_true hb
            rw [List.length_cons, List.length_map] at this
            omega
          · exact ⟨st, fun z => nomatch z⟩
        rintro b H6 ⟨s6, hb⟩
        refine iteB (fun c => ?_) (fun c => ?_)
        · have hpos := hb c
          have hp6 := s6 _ _ hp5
          have s6a := s5.trans s6
          refine ⟨(by show 1 ≤ sizeLine; decide), fun l7 h7 => ?_⟩
          have s7a : Same H6 (upd H6 l7 (.lst [.int 0])) := Same.new h7
          refine ⟨(by show 4 ≤ sizeLine; decide), fun l8 h8 => ?_⟩
          have s8a : Same (upd H6 l7 (.lst [.int 0])) (upd (upd H6 l7 (.lst [.int 0])) l8 (.lst [.bl true, .str "0", .ref l7, .non])) := Same.new h8
          have s8 := s7a.trans s8a
          have f7 : H l7 = none := s6a.free h7
          have n7 : l7 ≠ pl := fun e => by
            rw [e, hp6] at h7
            cases h7
          have hl7 := s8a _ _ (show (upd H6 l7 (.lst [.int 0])) l7 = some (.lst [.int 0]) from upd_same)
          refine ⟨_, rfl, a, ns, 8, rfl, (s6a.trans s8).seq hS, _, _, rfl, rfl, (by show (0 : Int) < _; decide), ?_⟩
          obtain ⟨nv, hnv, hni⟩ : ∃ nv, atI [V.bl true, .str "0", .ref l7, .non] (cellOf ns 8 % 4) = some nv ∧ ∀ H' : Hp, H' l7 = some (.lst [.int 0]) → It K H' nv := by
            rcases mod4 (cellOf ns 8) with e | e | e | e <;> rw [e]
            · exact ⟨_, rfl, fun _ _ => it_bl true⟩
            · exact ⟨_, rfl, fun _ _ => it_str (by decide +kernel)⟩
            · exact ⟨_, rfl, fun _ z => it_lst0 z⟩
            · exact ⟨_, rfl, fun _ _ => it_non⟩
          refine ⟨l8, _, _, _, rfl, rfl, SqL.of upd_same, hnv, ?_⟩
          generalize upd (upd H6 l7 (.lst [.int 0])) l8 (.lst [.bl true, .str "0", .ref l7, .non]) = H8 at *
          have hp8 := s8 _ _ hp6
          have elen : (((V.str wd :: is.map V.int).length : Nat) : Int) - 1 = (is.length : Int) := by rw [List.length_cons, List.length_map]; omega
          refine ⟨_, rfl, _, rfl, _, _, rfl, rfl, ⟨by decide, by decide⟩, _, rfl, pl, _, rfl, .inl (SqL.of hp8), _, _, rfl, rfl, _, _, rfl, rfl, (by rw [elen]; omega), _, _, rfl, rfl, ?_⟩
          rw [elen]
          have hnn := Int.emod_nonneg (f / 960) (show (is.length : Int) ≠ 0 by omega)
          have hlt := Int.emod_lt_of_pos (f / 960) (show 0 < (is.length : Int) by omega)
          obtain ⟨j, hj⟩ : ∃ j : Nat, 1 + f / 960 % (is.length : Int) = (j : Int) := ⟨(1 + f / 960 % (is.length : Int)).toNat, by omega⟩
          have hjl : j < (V.str wd :: is.map V.int).length := by rw [List.length_cons, List.length_map]; omega
          refine ⟨pl, _, _, j, rfl, rfl, hp8, (by rw [hj]; exact ix_nat hjl), ?_⟩
          refine ⟨_, _, _, rfl, (s6a.trans s8).mut npl0, upd_same, fun v hv => ?_, by rw [List.length_set, List.length_cons, List.length_map]; omega⟩
          rcases List.mem_or_eq_of_mem_set hv with q' | rfl
          · rcases List.mem_cons.mp q' with rfl | q'
            · exact it_str hok
            · obtain ⟨i, _, rfl⟩ := List.mem_map.mp q'
              exact it_int i
          · exact hni _ (newP_of f7 (by rw [upd_ne n7]; exact hl7))
        · refine ⟨_, _, _, rfl, s5.trans s6, s6 _ _ hp5, fun v hv => ?_, by rw [List.length_cons, List.length_map]; omega⟩
          rcases List.mem_cons.mp hv with rfl | q'
          · exact it_str hok
          · obtain ⟨i, _, rfl⟩ := List.mem_map.mp q'
            exact it_int i
      rintro σ' H6 ⟨w7, w8, ys, rfl, s6, hp6, hit, hyl⟩
      refine ⟨_, rfl, rfl, _, rfl, iteD (fun _ => ?_) (fun _ => ?_)⟩
      · -- another kind of thing
        refine ⟨_, rfl, (by show 2 ≤ sizeLine; decide), fun t1 nt1 => ⟨(by show 0 ≤ sizeLine; decide), fun t2 nt2 => ⟨_, rfl, (by show 2 ≤ sizeLine; decide), fun t3 nt3 => ?_⟩⟩⟩
        have z1 : Same H6 (upd H6 t1 (.tup [.int 1, .int 0])) := Same.new nt1
        have z2 : Same (upd H6 t1 (.tup [.int 1, .int 0])) (upd (upd H6 t1 (.tup [.int 1, .int 0])) t2 (.tup [])) := Same.new nt2
        have z3 : Same (upd (upd H6 t1 (.tup [.int 1, .int 0])) t2 (.tup [])) (upd (upd (upd H6 t1 (.tup [.int 1, .int 0])) t2 (.tup [])) t3 (.tup [.non, .int 0])) := Same.new nt3
        have g1 := (z2.trans z3) _ _ (show (upd H6 t1 (.tup [.int 1, .int 0])) t1 = some (.tup [.int 1, .int 0]) from upd_same)
        have g2 := z3 _ _ (show (upd (upd H6 t1 (.tup [.int 1, .int 0])) t2 (.tup [])) t2 = some (.tup []) from upd_same)
        have g3 : (upd (upd (upd H6 t1 (.tup [.int 1, .int 0])) t2 (.tup [])) t3 (.tup [.non, .int 0])) t3 = some (.tup [.non, .int 0]) := upd_same
        have z := (z1.trans z2).trans z3
        have f1 : H t1 = none := s6.free nt1
        have f2 : H t2 = none := (s6.trans z1).free nt2
        have f3 : H t3 = none := (s6.trans (z1.trans z2)).free nt3
        generalize upd (upd (upd H6 t1 (.tup [.int 1, .int 0])) t2 (.tup [])) t3 (.tup [.non, .int 0]) = H9 at *
        refine ⟨(by show 6 ≤ sizeLine; decide), fun l9 h9 => ?_⟩
        have z9 : Same H9 (upd H9 l9 (.lst [.ref pl, .ref t1, .ref t2, .non, .str wd, .ref t3])) := Same.new h9
        have zz := z.trans z9
        obtain ⟨x, o, hx, hd⟩ : ∃ x o, atI [V.ref pl, .ref t1, .ref t2, .non, .str wd, .ref t3] (f / 960 % 6) = some x ∧ Drawn K (newP H (upd H9 l9 (.lst [.ref pl, .ref t1, .ref t2, .non, .str wd, .ref t3]))) x o := by
          have : f / 960 % 6 = 0 ∨ f / 960 % 6 = 1 ∨ f / 960 % 6 = 2 ∨ f / 960 % 6 = 3 ∨ f / 960 % 6 = 4 ∨ f / 960 % 6 = 5 := by omega
          rcases this with e | e | e | e | e | e <;> rw [e]
          · exact ⟨_, _, rfl, drawn_lst (newP_of npl0 (zz _ _ hp6)) fun v hv => (hit v hv).same (newP_mono zz)⟩
          · refine ⟨_, _, rfl, drawn_tup (newP_of f1 (z9 _ _ g1)) (fun v hv => ?_) (by decide)⟩
            simp only [List.mem_cons, List.not_mem_nil, or_false] at hv
            rcases hv with rfl | rfl <;> exact it_int _
          · exact ⟨_, _, rfl, drawn_tup (newP_of f2 (z9 _ _ g2)) (fun v hv => by cases hv) (by decide)⟩
          · exact ⟨_, none, rfl, drawn_it it_non fun t ht => by cases ht with | base b => cases b; decide⟩
          · exact ⟨_, none, rfl, drawn_it (it_str hok) fun t ht => by rw [Value.type.inj (ty_of_str ht)]; decide⟩
          · refine ⟨_, _, rfl, drawn_tup (newP_of f3 (z9 _ _ g3)) (fun v hv => ?_) (by decide)⟩
            simp only [List.mem_cons, List.not_mem_nil, or_false] at hv
            rcases hv with rfl | rfl
            · exact it_non
            · exact it_int _
        refine ⟨_, rfl, _, _, rfl, rfl, ⟨by decide, by decide⟩, _, _, rfl, rfl, (by show (0 : Int) < _; decide), l9, _, _, _, rfl, rfl, SqL.of upd_same, hx, ?_⟩
        exact q _ _ _ (s6.trans zz) hd
      · exact ⟨_, rfl, pl, ys, rfl, .inl ⟨SqL.of hp6, fun p np => q _ _ (some ys) (s6.trans (Same.new np)) (drawn_tup (newP_of (s6.free np) upd_same) (fun v hv => (hit v hv).same (newP_mono (Same.new np))) (by omega))⟩⟩
/-! ### _law_fits -/
theorem marksM_none {z : Str} (h : partsM z = none) : marksM z = "" := by
  unfold marksM
  rw [h]
  rfl
theorem marksM_some {z m : Str} (h : partsM z = some m) : marksM z = m := by
  unfold marksM
  rw [h]
  rfl
theorem str_len_ne {m : Str} (h : 1 ≤ m.length) : ¬ (V.str m = V.str "") := fun z => by
  have e := V.str.inj z
  rw [e] at h
  revert h
  decide +kernel
def sp__law_fits (K : PySem.W.Frag) (cs : Cs) : Sp := fun vs H Q _ => ∃ (x : V) (o : Option (List V)) (size count : Int), vs = [x, .int size, .int count] ∧ Thing K H x o ∧ ∀ H', Same H H' → Q (.bl (fitsO size count o)) H'
theorem ok__law_fits (T : Txt w K mg cs) (o__law_marks : Ok P w K mg base CX0 1 cs.f__law_marks cs.d__law_marks ["_law_word"] (sp__law_marks K cs)) (o__law_whole : Ok P w K mg base CX0 1 cs.f__law_whole cs.d__law_whole ["_law_found"] (sp__law_whole K cs)) : Ok P w K mg base CX0 2 cs.f__law_fits cs.d__law_fits ["_law_row", "_law_size", "_law_count"] (sp__law_fits K cs) := by
  refine T.fn__law_fits.ok sc__law_fits (fun vs H Q E h => ?_) (fun cdv A outer s H vs Q E hr h => ?_)
  · obtain ⟨x, o, size, count, rfl, _⟩ := h
    rfl
  · obtain ⟨x, o, size, count, rfl, hx, q⟩ := h
    refine ⟨_, (pss_cons (ps_if (pt_jn (PW.pt (pw_or (pt_not (pt_val (pe_callB call_isi (by rfl) T.no_isinstance boot_isinstance (pa_cons (pv 0) (pa_cons (pe_bltn (v := .ty "tuple") (by rfl) T.no_tuple boot_tuple rfl) pa_nil))))) (pw_or (pt_cmpR op_eq (pe_callB call_len_seq (by rfl) T.no_len PySem.boot_len (pa_cons (pv 0) pa_nil)) pe_int (nomark _)) (pw_or1 (pt_not (pt_val (pe_callB call_isi (by rfl) T.no_isinstance boot_isinstance (pa_cons (pe_ix ix_tup (pv 0) pe_int (fun _ _ => rfl)) (pa_cons (pe_bltn (v := .ty "str") (by rfl) T.no_str boot_str rfl) pa_nil)))))))))) (pss_one (ps_ret pe_bl)) pss_nil)
      (pss_cons (ps_set (i := 3) sc__law_fits.nd rfl (Or.inl rfl) (pe_callO o__law_marks hr (by rfl) T.gl__law_marks pass0 (pa_cons (pe_ix ix_tup (pv 0) pe_int (fun _ _ => rfl)) pa_nil)))
      (pss_cons (ps_if (pt_jn (PW.pt (pw_or (pt_cmpR op_eq (pv 3) pe_str (nomark _)) (pw_or1 (pt_cmpR op_ne (pe_callB call_len_seq (by rfl) T.no_len PySem.boot_len (pa_cons (pv 0) pa_nil)) (pe_op op_add pe_int (pe_callB call_len_str (by rfl) T.no_len PySem.boot_len (pa_cons (pv 3) pa_nil))) (nomark _)))))) (pss_one (ps_ret pe_bl)) pss_nil)
      (pss_cons (ps_for PassesOwn.never rfl (pi_range1 (by rfl) T.no_range (pa_cons (pe_callB call_len_str (by rfl) T.no_len PySem.boot_len (pa_cons (pv 3) pa_nil)) pa_nil)) (pg_name (i := 4) sc__law_fits.nd rfl (Or.inl rfl)) (pss_cons (ps_set (i := 5) sc__law_fits.nd rfl (Or.inl rfl) (pe_ix ix_list (pe_lst (pa_cons (pe_op op_sub (pv 1) pe_int) (pa_cons pe_int (pa_cons (pv 2) pa_nil)))) (pe_m1 PySem.F.slot_str_index PySem.F.type_str_index mt_sindex pe_str (pe_ix ix_str (pv 3) (pv 4) (fun _ _ => rfl))) (fun _ _ => rfl)))
      (pss_one (ps_if (pt_jn (PW.pt (pw_or (pt_not (pt_val (pe_callO o__law_whole hr (by rfl) T.gl__law_whole pass0 (pa_cons (pe_ix ix_tup (pv 0) (pe_op op_add pe_int (pv 4)) (fun _ _ => rfl)) pa_nil)))) (pw_or1 (pt_not (pt_chain op_le op_le pe_int (pe_ix ix_tup (pv 0) (pe_op op_add pe_int (pv 4)) (fun _ _ => rfl)) (pv 5))))))) (pss_one (ps_ret pe_bl)) pss_nil))))
      (pss_one (ps_ret pe_bl)))))), ?_⟩
    cases o with
    | none =>
      obtain ⟨t, ty, ht, hn⟩ := hx
      refine ⟨fun b H' => b = true ∧ H' = H, ?_, ?_⟩
      · refine ⟨_, rfl, _, _, _, _, _, rfl, .ty "tuple", ty, kit_tup ht, _, rfl, iteBN (fun _ => ⟨rfl, rfl⟩) (fun c => absurd (by simpa using c) hn)⟩
      · rintro b H' ⟨rfl, rfl⟩
        exact iteT (q _ (Same.refl _))
    | some xs =>
      obtain ⟨a, rfl, ha, hty, hl⟩ := hx
      have hT : SqT K H a xs := SqT.of ha
      cases xs with
      | nil =>
        refine ⟨fun b H' => b = true ∧ H' = H, ?_, ?_⟩
        · refine ⟨_, rfl, _, _, _, _, _, rfl, .ty "tuple", .base (.tup ha), kit_ty (r := true) (by decide +kernel), _, rfl, iteF ?_⟩
          exact ⟨_, rfl, a, _, rfl, .inr hT, rfl, _, rfl, iteT ⟨rfl, rfl⟩⟩
        · rintro b H' ⟨rfl, rfl⟩
          exact iteT (q _ (Same.refl _))
      | cons v r =>
        obtain ⟨t, ty, ht⟩ := hty v List.mem_cons_self
        have hne : ¬ (V.int (((v :: r).length : Nat) : Int) = V.int 0) := fun z => by
          have := V.int.inj z
          simp only [List.length_cons] at this
          omega
        refine ⟨fun b H' => b = !(t == "str") ∧ H' = H, ?_, ?_⟩
        · refine ⟨_, rfl, _, _, _, _, _, rfl, .ty "tuple", .base (.tup ha), kit_ty (r := true) (by decide +kernel), _, rfl, iteF ?_⟩
          refine ⟨_, rfl, a, _, rfl, .inr hT, rfl, _, rfl, iteD (fun c => absurd c hne) (fun _ => ?_)⟩
          exact ⟨_, rfl, a, _, _, _, rfl, rfl, hT, at_of (j := 0) rfl rfl, _, _, _, _, _, rfl, .ty "str", ty, kit_str ht, _, rfl, rfl, rfl⟩
        rintro b H' ⟨rfl, rfl⟩
        refine iteBN (fun c => ?_) (fun c => ?_)
        · have e : fitsO size count (some (v :: r)) = false := by
            cases v with
            | str z =>
              have := Value.type.inj (ty_of_str ty)
              rw [this] at c
              exact absurd c (by decide)
            | _ => rfl
          rw [e] at q
          exact q _ (Same.refl _)
        have e : t = "str" := by simpa using c
        subst e
        obtain ⟨z, rfl⟩ := typ_str ty
        refine ⟨_, rfl, a, _, _, _, rfl, rfl, hT, at_of (j := 0) rfl rfl, z, rfl, fun H2 s2 => ?_⟩
        have ha2 := s2 _ _ ha
        have hT2 : SqT K H2 a (V.str z :: r) := SqT.of ha2
        cases hm : partsM z with
        | none =>
          have e : fitsO size count (some (V.str z :: r)) = false := by
            show (match partsM z with | none => false | some m => partsFit size count m.cps.toList r) = false
            rw [hm]
          rw [e] at q
          rw [marksM_none hm]
          refine ⟨fun b H3 => b = true ∧ H3 = H2, ⟨_, rfl, rfl, _, rfl, iteD (fun _ => ⟨rfl, rfl⟩) (fun z => absurd rfl z)⟩, ?_⟩
          rintro b H3 ⟨rfl, rfl⟩
          exact iteT (q _ s2)
        | some m =>
          have em := partsM_small hm
          have emk := partsM_marks hm
          rw [marksM_some hm]
          have e : fitsO size count (some (V.str z :: r)) = partsFit size count m.cps.toList r := by
            show (match partsM z with | none => false | some m => partsFit size count m.cps.toList r) = _
            rw [hm]
          rw [e] at q
          have eml : m.length = m.cps.toList.length := by simp [Str.length]
          refine ⟨fun b H3 => b = !decide (m.cps.toList.length = r.length) ∧ H3 = H2, ⟨_, rfl, rfl, _, rfl, iteD (fun z => absurd z (str_len_ne emk.1)) (fun _ => ?_)⟩, ?_⟩
          · refine ⟨_, rfl, a, _, rfl, .inr hT2, _, rfl, m, rfl, by omega, _, _, rfl, rfl, rfl, _, rfl, ?_, rfl⟩
            show (!decide (V.int (((V.str z :: r).length : Nat) : Int) = V.int (1 + (m.length : Int)))) = _
            congr 1
            apply decide_eq_decide.mpr
            rw [V.int.injEq, List.length_cons, eml]
            omega
          rintro b H3 ⟨rfl, rfl⟩
          refine iteN (fun c => ?_) (fun c => ?_)
          · rw [partsFit_len c] at q
            exact q _ s2
          refine ⟨_, rfl, m, rfl, by omega, (m.length : Int), rfl, by omega, by omega, ?_⟩
          have e0 : ((m.length : Int)).toNat = m.cps.toList.length := by rw [eml]; rfl
          rw [e0]
          refine for_range (lo := 0) (n := m.cps.toList.length) (fun i σ H4 => ∃ v4 v5, σ = [some (.ref a), some (.int size), some (.int count), some (.str m), v4, v5] ∧ Same H3 H4 ∧ ∀ (j : Nat) (c : Nat) (x : V), j < i → m.cps.toList[j]? = some c → r[j]? = some x → partB c x size count = true) ⟨none, none, rfl, Same.refl _, fun j _ _ hj => absurd hj (Nat.not_lt_zero _)⟩ ?_ ?_
          · rintro i σ H4 hi ⟨v4, v5, rfl, s4, hall⟩
            have hzi : (0 : Int) + (i : Int) = ((i : Nat) : Int) := Int.zero_add _
            obtain ⟨c1, hc1⟩ : ∃ c1, m.cps.toList[i]? = some c1 := ⟨m.cps.toList[i], List.getElem?_eq_getElem hi⟩
            obtain ⟨x, hx⟩ : ∃ x, r[i]? = some x := ⟨r[i]'(by omega), List.getElem?_eq_getElem _⟩
            have hx1 : (V.str z :: r)[i + 1]? = some x := hx
            obtain ⟨j, rest, ho, hat⟩ := occ_bnp (emk.2.2 c1 (List.mem_of_getElem? hc1)) size count
            obtain ⟨tx, tyx, htx⟩ := hty x (List.mem_cons_of_mem _ (List.mem_of_getElem? hx))
            have hp := partB_last c1 x size count
            refine ⟨_, rfl, _, _, rfl, rfl, _, rfl, (by show 3 ≤ sizeLine; decide), fun l6 h6 => ?_⟩
            have s6 : Same H4 (upd H4 l6 (.lst [.int (size - 1), .int 999999, .int count])) := Same.new h6
            refine ⟨⟨_, rfl⟩, _, rfl, _, rfl, m, _, c1, rfl, rfl, by omega, at_ofG hzi hc1, _, _, j, rest, rfl, rfl, ho, l6, _, _, _, rfl, rfl, SqL.of upd_same, hat, ?_⟩
            have s7 := (s2.trans s4).trans s6
            have hT7 : SqT K (upd H4 l6 (.lst [.int (size - 1), .int 999999, .int count])) a (V.str z :: r) := SqT.of (s7 _ _ ha)
            have tyx7 := tyx.same s7
            have hat1 : ∀ k : Int, k = ((i + 1 : Nat) : Int) → atI (V.str z :: r) k = some x := fun k hk => at_of hk hx1
            refine ⟨fun b H5 => b = !partB c1 x size count ∧ H5 = upd H4 l6 (.lst [.int (size - 1), .int 999999, .int count]), ?_, ?_⟩
            · refine ⟨_, rfl, _, rfl, _, _, rfl, rfl, a, _, _, _, rfl, rfl, hT7, hat1 _ (by omega), _, _, rfl, tyx7, htx, _, rfl, iteBN (fun c2 => ?_) (fun c2 => ?_)⟩
              · refine ⟨?_, rfl⟩
                rw [hp, wIn_not tyx (fun e => by rw [e] at c2; revert c2; decide)]
                rfl
              · have e : tx = "int" := by simpa using c2
                subst e
                obtain ⟨n, rfl⟩ := typ_int tyx
                have ew : ∀ lo hi : Int, wIn (.int n) lo hi = (decide (lo ≤ n) && decide (n ≤ hi)) := fun _ _ => rfl
                refine ⟨_, rfl, _, rfl, _, _, rfl, rfl, a, _, _, _, rfl, rfl, hT7, hat1 _ (by omega), _, _, rfl, rfl, _, rfl, iteD (fun c3 => ?_) (fun c3 => ?_)⟩
                · refine ⟨_, rfl, _, _, rfl, rfl, _, rfl, ?_, rfl⟩
                  rw [hp, ew, decide_eq_true c3, Bool.true_and]
                · refine ⟨_, rfl, ?_, rfl⟩
                  rw [hp, ew, decide_eq_false c3, Bool.false_and]
            rintro b H5 ⟨rfl, rfl⟩
            refine iteBN (fun c2 => ?_) (fun c2 => ?_)
            · rw [partsFit_at hc1 hx c2] at q
              exact q _ s7
            · refine ⟨_, _, rfl, s4.trans s6, fun j c' x' hj h1 h2 => ?_⟩
              by_cases ej : j = i
              · subst ej
                rw [hc1] at h1
                rw [hx] at h2
                cases h1
                cases h2
                exact c2
              · exact hall j c' x' (by omega) h1 h2
          · rintro σ H4 ⟨v4, v5, rfl, s4, hall⟩
            rw [partsFit_all c fun i c' x' h1 h2 => hall i c' x' ((List.getElem?_eq_some_iff.mp h1).1) h1 h2] at q
            exact q _ (s2.trans s4)
/-! ### the law -/
structure Rws (K : PySem.W.Frag) (H : Hp) (xs : List V) (os : List (Option (List V))) : Prop where
  len : xs.length = os.length
  at_ : ∀ (i : Nat) (x : V) (o : Option (List V)), xs[i]? = some x → os[i]? = some o → Drawn K H x o
theorem Rws.same {K : PySem.W.Frag} {H H' : Hp} {xs : List V} {os : List (Option (List V))} (h : Rws K H xs os) (s : Same H H') : Rws K H' xs os := ⟨h.len, fun i x o h1 h2 => (h.at_ i x o h1 h2).same s⟩
theorem Rws.nil {K : PySem.W.Frag} {H : Hp} : Rws K H [] [] := ⟨rfl, fun i x o h _ => by simp at h⟩
theorem Rws.snoc {K : PySem.W.Frag} {H : Hp} {xs : List V} {os : List (Option (List V))} {x : V} {o : Option (List V)} (h : Rws K H xs os) (q : Drawn K H x o) : Rws K H (xs ++ [x]) (os ++ [o]) := by
  refine ⟨by rw [List.length_append, List.length_append, h.len]; rfl, fun i y p e1 e2 => ?_⟩
  by_cases hi : i < os.length
  · rw [List.getElem?_append_left hi] at e2
    rw [List.getElem?_append_left (by rw [h.len]; exact hi)] at e1
    exact h.at_ i y p e1 e2
  · rw [List.getElem?_append_right (by omega)] at e2
    rw [List.getElem?_append_right (by have := h.len; omega), h.len] at e1
    have hz : i - os.length = 0 := by
      have := (List.getElem?_eq_some_iff.mp e2).1
      simp only [List.length_cons, List.length_nil] at this
      omega
    rw [hz] at e1 e2
    cases e1
    cases e2
    exact q
theorem Rws.set {K : PySem.W.Frag} {H : Hp} {xs : List V} {os : List (Option (List V))} {x : V} {o : Option (List V)} (h : Rws K H xs os) (j : Nat) (q : Drawn K H x o) : Rws K H (xs.set j x) (os.set j o) := by
  refine ⟨by rw [List.length_set, List.length_set, h.len], fun i y p e1 e2 => ?_⟩
  rw [List.getElem?_set] at e1 e2
  by_cases e : j = i
  · subst e
    rw [if_pos rfl] at e1 e2
    split at e1
    · split at e2
      · cases e1
        cases e2
        exact q
      · cases e2
    · cases e1
  · rw [if_neg e] at e1 e2
    exact h.at_ i y p e1 e2
theorem Rws.things {K : PySem.W.Frag} {H : Hp} {xs : List V} {os : List (Option (List V))} (h : Rws K H xs os) : Things K H xs os := ⟨h.len, fun i x o h1 h2 => (h.at_ i x o h1 h2).1⟩
theorem rws_dp {K : PySem.W.Frag} {H : Hp} : ∀ {xs : List V} {os : List (Option (List V))}, Rws K H xs os → ∃ ds, DpAll K H xs ds ∧ ∀ d ∈ ds, Sh 2 d
  | [], _, _ => ⟨[], .nil, fun d hd => by simp at hd⟩
  | x :: r, [], h => by have := h.len; simp at this
  | x :: r, o :: t, h => by
    obtain ⟨_, d, h1, h2⟩ := h.at_ 0 x o rfl rfl
    obtain ⟨ds, h3, h4⟩ := rws_dp (xs := r) (os := t) ⟨by have := h.len; simpa using this, fun i y p e1 e2 => h.at_ (i + 1) y p e1 e2⟩
    exact ⟨d :: ds, .cons h1 h3, fun e he => (List.mem_cons.mp he).elim (fun z => by rw [z]; exact h2) (h4 e)⟩
theorem set_fit {size count : Int} {os : List (Option (List V))} {j : Nat} {o : Option (List V)} (h : os.all (fitsO size count) = true) (hj : j < os.length) : (os.set j o).all (fitsO size count) = fitsO size count o := by
  rw [Bool.eq_iff_iff, List.all_eq_true]
  constructor
  · intro z
    exact z o (List.mem_of_getElem? (by rw [List.getElem?_set, if_pos rfl, if_pos hj]))
  · intro z p hp
    rcases List.mem_or_eq_of_mem_set hp with q | rfl
    · exact List.all_eq_true.mp h p q
    · exact z
/-! ### _law_boxes_by, _law_rows_by -/
theorem it_lsti {K : PySem.W.Frag} {H : Hp} {a : Addr} {i : Int} (h : H a = some (.lst [.int i])) : It K H (.ref a) := ⟨typ_l h, _, .lst (SqL.of h) (.cons (.int i) .nil), sh_list fun d hd => by
  simp only [List.mem_cons, List.not_mem_nil, or_false] at hd
  rw [hd]
  exact sh_int _⟩
def boxes6 (f : Int) (n : Nat) : List V := (List.range n).map fun (k : Nat) => V.int ((k : Int) * 7 + f % 5)
theorem boxes6_len (f : Int) (n : Nat) : (boxes6 f n).length = n := by
  unfold boxes6
  rw [List.length_map, List.length_range]
theorem boxes6_snoc (f : Int) (n : Nat) : boxes6 f (n + 1) = boxes6 f n ++ [V.int ((n : Int) * 7 + f % 5)] := by
  unfold boxes6
  rw [List.range_succ, List.map_append]
  rfl
theorem boxes6_it {K : PySem.W.Frag} {H : Hp} (f : Int) (n : Nat) : ∀ v ∈ boxes6 f n, It K H v := fun v hv => by
  obtain ⟨k, _, rfl⟩ := List.mem_map.mp hv
  exact it_int _
def sp__law_boxes_by (K : PySem.W.Frag) (cs : Cs) : Sp := fun vs H Q _ => ∃ (a : Addr) (ns : List Int), vs = [.ref a] ∧ SqL K H a (ns.map V.int) ∧ ∀ H' p xs, Same H H' → H' p = some (.lst xs) → (∀ v ∈ xs, It K H' v) → xs.length ≤ 201 → Q (.ref p) H'
theorem ok__law_boxes_by (T : Txt w K mg cs) (o__law_cell_at : Ok P w K mg base CX0 1 cs.f__law_cell_at cs.d__law_cell_at ["_law_script", "_law_k"] (sp__law_cell_at K cs)) : Ok P w K mg base CX0 2 cs.f__law_boxes_by cs.d__law_boxes_by ["_law_script"] (sp__law_boxes_by K cs) := by
  refine T.fn__law_boxes_by.ok sc__law_boxes_by (fun vs H Q E h => ?_) (fun cdv A outer s H vs Q E hr h => ?_)
  · obtain ⟨a, ns, rfl, _⟩ := h
    rfl
  · obtain ⟨a, ns, rfl, hS, q⟩ := h
    refine ⟨_, (pss_cons (ps_set (i := 1) sc__law_boxes_by.nd rfl (Or.inr rfl) (pe_callO o__law_cell_at hr (by rfl) T.gl__law_cell_at pass0 (pa_cons (pv 0) (pa_cons pe_int pa_nil))))
      (pss_cons (ps_setLc (i := 2) (own := [("_law_k", 3)]) (g := gName 3) (tt := tYes) rfl sc__law_boxes_by.nd rfl rfl (sw_true rfl rfl rfl (by decide +kernel)) (pi_range1 (by rfl) T.no_range (pa_cons (pe_ix ix_list (pe_lst (pa_cons (pe_op op_mod (pe_op op_fdiv (pv 1) pe_int) pe_int) (pa_cons (pe_op op_mod (pe_op op_fdiv (pv 1) pe_int) pe_int) (pa_cons pe_int (pa_cons pe_int pa_nil))))) (pe_op op_mod (pv 1) pe_int) (fun _ _ => rfl)) pa_nil)) (blkOk_by (N := ["_law_script", "_law_first", "_law_boxes", "_law_k"]) (sc := defScope s__law_boxes_by) (by decide +kernel)) (fun _ _ _ _ _ => pg_name (i := 3) sc__law_boxes_by.nd rfl (Or.inl rfl)) (fun _ _ _ _ _ => pts_nil) (fun _ _ _ _ _ => (pe_op op_add (pe_op op_mul (pv 3) pe_int) (pe_op op_mod (pv 1) pe_int))))
      (pss_cutS (ps_if (pt_jn (PW.pt (pw_and (pt_cmpR op_gt (pe_callB call_len_seq (by rfl) T.no_len PySem.boot_len (pa_cons (pv 2) pa_nil)) pe_int (nomark _)) (pw_and1 (pt_cmpR op_eq (pe_op op_mod (pe_op op_fdiv (pv 1) pe_int) pe_int) pe_int (nomark _)))))) (pss_one (ps_asg (pe_ix ix_list (pe_lst (pa_cons (pe_op op_sub pe_int pe_int) (pa_cons pe_int (pa_cons pe_bl (pa_cons pe_str (pa_cons pe_int (pa_cons pe_int (pa_cons pe_non (pa_cons (pe_lst (pa_cons pe_int pa_nil)) pa_nil))))))))) (pe_op op_mod (pe_callO o__law_cell_at hr (by rfl) T.gl__law_cell_at pass0 (pa_cons (pv 0) (pa_cons pe_int pa_nil))) pe_int) (fun _ _ => rfl)) (pg_sub (pv 2) (pe_op op_mod (pe_op op_fdiv (pv 1) pe_int) (pe_callB call_len_seq (by rfl) T.no_len PySem.boot_len (pa_cons (pv 2) pa_nil))) set_list))) pss_nil)
      (pss_one (ps_ret (pv 2)))))), ?_⟩
    refine ⟨_, rfl, a, ns, 0, rfl, hS, ?_⟩
    generalize cellOf ns 0 = f
    refine ⟨_, rfl, _, _, rfl, rfl, ⟨by decide, by decide⟩, _, _, rfl, rfl, (by show (0 : Int) < _; decide), _, rfl, _, _, rfl, rfl, ⟨by decide, by decide⟩, _, _, rfl, rfl, (by show (0 : Int) < _; decide), (by show 4 ≤ sizeLine; decide), fun l1 n1 => ?_⟩
    have s1 := Same.new (o := .lst [V.int (f / 8 % 4), .int (f / 8 % 4), .int 200, .int 201]) n1
    obtain ⟨n, hn, hn2⟩ : ∃ n : Nat, atI [V.int (f / 8 % 4), .int (f / 8 % 4), .int 200, .int 201] (f % 4) = some (.int (n : Int)) ∧ n ≤ 201 := by
      have h0 : ((f / 8 % 4).toNat : Int) = f / 8 % 4 := Int.toNat_of_nonneg (by omega)
      rcases mod4 f with e | e | e | e <;> rw [e]
      · exact ⟨(f / 8 % 4).toNat, by rw [h0]; rfl, by omega⟩
      · exact ⟨(f / 8 % 4).toNat, by rw [h0]; rfl, by omega⟩
      · exact ⟨200, rfl, by decide⟩
      · exact ⟨201, rfl, by decide⟩
    refine ⟨_, rfl, _, _, rfl, rfl, (by show (0 : Int) < _; decide), l1, _, _, _, rfl, rfl, SqL.of upd_same, hn, (n : Int), rfl, by omega, by omega, fun D nD => lc_range (lo := 0) (n := ((n : Int)).toNat) (fun i H' => Same H H' ∧ H' D = some (.lst (boxes6 f i))) ⟨s1.trans (Same.new nD), upd_same⟩ ?_ ?_⟩
    · rintro i H' hi ⟨s3, hD⟩
      refine ⟨rfl, _, rfl, _, _, rfl, rfl, .inr ⟨by decide, by decide⟩, _, rfl, _, _, rfl, rfl, (by show (0 : Int) < _; decide), _, _, rfl, rfl, ?_⟩
      refine ⟨_, hD, sizeL (by rw [boxes6_len]; omega), s3.mut (s1.free nD), ?_⟩
      rw [upd_same, boxes6_snoc, show (0 : Int) + (i : Int) = (i : Int) from Int.zero_add _]
    rintro H2 ⟨s2, hD⟩
    rw [show ((n : Int)).toNat = n from rfl] at hD
    have hbl := boxes6_len f n
    have fD : H D = none := s1.free nD
    refine ⟨fun σ' H5 => ∃ (v3 : Option V) (xs : List V), σ' = [some (.ref a), some (.int f), some (.ref D), v3] ∧ Same H H5 ∧ H5 D = some (.lst xs) ∧ (∀ v ∈ xs, It K H5 v) ∧ xs.length ≤ 201, ?_, ?_⟩
    · refine ⟨fun b H5 => H5 = H2 ∧ (b = true → 0 < n), ?_, ?_⟩
      · refine ⟨_, rfl, D, _, rfl, .inl (SqL.of hD), _, _, rfl, rfl, _, rfl, iteD (fun c => ?_) (fun c => ?_)⟩
        · refine ⟨_, rfl, _, _, rfl, rfl, ⟨by decide, by decide⟩, _, _, rfl, rfl, (by show (0 : Int) < _; decide), rfl, _, rfl, rfl, fun _ => ?_⟩
          rw [hbl] at c
          omega
        · exact ⟨rfl, fun z => nomatch z⟩
      rintro b H5 ⟨rfl, hb⟩
      refine iteB (fun c => ?_) (fun c => ?_)
      · have hpos := hb c
        refine ⟨_, _, rfl, rfl, (by show 1 ≤ sizeLine; decide), fun l2 n2 => ⟨(by show 8 ≤ sizeLine; decide), fun l3 n3 => ?_⟩⟩
        have z2 : Same H5 (upd H5 l2 (.lst [.int 3])) := Same.new n2
        have z3 := Same.new (o := .lst [V.int (0 - 1), .int 1000000, .bl true, .str "1", .int 999999, .int 0, .non, .ref l2]) n3
        have hl2 := z3 _ _ (show (upd H5 l2 (.lst [.int 3])) l2 = some (.lst [.int 3]) from upd_same)
        have d2 : l2 ≠ D := (ne_of_none hD n2).symm
        refine ⟨_, rfl, a, ns, 1, rfl, ((s2.trans z2).trans z3).seq hS, _, _, rfl, rfl, (by show (0 : Int) < _; decide), ?_⟩
        obtain ⟨nv, hnv, hni⟩ : ∃ nv, atI [V.int (0 - 1), .int 1000000, .bl true, .str "1", .int 999999, .int 0, .non, .ref l2] (cellOf ns 1 % 8) = some nv ∧ ∀ H' : Hp, H' l2 = some (.lst [.int 3]) → It K H' nv := by
          have : cellOf ns 1 % 8 = 0 ∨ cellOf ns 1 % 8 = 1 ∨ cellOf ns 1 % 8 = 2 ∨ cellOf ns 1 % 8 = 3 ∨ cellOf ns 1 % 8 = 4 ∨ cellOf ns 1 % 8 = 5 ∨ cellOf ns 1 % 8 = 6 ∨ cellOf ns 1 % 8 = 7 := by omega
          rcases this with e | e | e | e | e | e | e | e <;> rw [e]
          · exact ⟨_, rfl, fun _ _ => it_int _⟩
          · exact ⟨_, rfl, fun _ _ => it_int _⟩
          · exact ⟨_, rfl, fun _ _ => it_bl true⟩
          · exact ⟨_, rfl, fun _ _ => it_str (by decide +kernel)⟩
          · exact ⟨_, rfl, fun _ _ => it_int _⟩
          · exact ⟨_, rfl, fun _ _ => it_int _⟩
          · exact ⟨_, rfl, fun _ _ => it_non⟩
          · exact ⟨_, rfl, fun _ z => it_lsti z⟩
        refine ⟨l3, _, _, _, rfl, rfl, SqL.of upd_same, hnv, ?_⟩
        have hD3 := (z2.trans z3) _ _ hD
        have s3 := s2.trans (z2.trans z3)
        generalize upd (upd H5 l2 (.lst [.int 3])) l3 _ = H6 at *
        have hnn := Int.emod_nonneg (f / 32) (show (n : Int) ≠ 0 by omega)
        have hlt := Int.emod_lt_of_pos (f / 32) (show 0 < (n : Int) by omega)
        obtain ⟨j, hj⟩ : ∃ j : Nat, f / 32 % (n : Int) = (j : Int) := ⟨(f / 32 % (n : Int)).toNat, by omega⟩
        refine ⟨_, rfl, _, rfl, _, _, rfl, rfl, ⟨by decide, by decide⟩, _, rfl, D, _, rfl, .inl (SqL.of hD3), _, _, rfl, rfl, (by rw [hbl]; omega), ?_⟩
        refine ⟨D, _, _, j, rfl, rfl, hD3, (by rw [hbl]; show ixN n (f / 32 % (n : Int)) = some j; rw [hj]; exact ix_nat (by omega)), ?_⟩
        refine ⟨_, _, rfl, s3.mut fD, upd_same, fun v hv => ?_, by rw [List.length_set, hbl]; exact hn2⟩
        rcases List.mem_or_eq_of_mem_set hv with q' | rfl
        · exact boxes6_it f n v q'
        · exact hni _ (by rw [upd_ne d2]; exact hl2)
      · exact ⟨_, _, rfl, s2, hD, boxes6_it f n, by rw [hbl]; exact hn2⟩
    rintro σ' H5 ⟨v3, xs, rfl, s5, h5, hit, hxl⟩
    exact ⟨_, rfl, q _ D xs s5 h5 hit hxl⟩
theorem RL.rws {K : PySem.W.Frag} {H : Hp} {ys : List V} {rs : List Rw} (h : RL H ys rs) : Rws K H ys (rs.map rowO) := by
  refine ⟨by rw [h.len, List.length_map], fun i y o e1 e2 => ?_⟩
  obtain ⟨r, hr, rfl⟩ := of_get_mapG e2
  obtain ⟨a, e3, q⟩ := h.at_ i r hr
  rw [e1] at e3
  cases e3
  refine drawn_tup q (fun v hv => ?_) (by have := vs_len r; omega)
  have : ∀ z : Str, z ∈ tenW → PyData.strOk z = true := fun z => tenW_ok
  cases r <;> (simp only [Rw.vs, List.mem_cons, List.not_mem_nil, or_false] at hv) <;> (repeat' (rcases hv with rfl | hv)) <;> first | exact it_str (by decide +kernel) | exact it_int _ | (subst hv; exact it_int _)
def tells (c size : Int) (n : Nat) : List Rw := (List.range n).map fun (k : Nat) => .tell ((c + (k : Int)) % size)
theorem tells_snoc (c size : Int) (n : Nat) : tells c size (n + 1) = tells c size n ++ [.tell ((c + (n : Int)) % size)] := by
  unfold tells
  rw [List.range_succ, List.map_append]
  rfl
theorem tells_len (c size : Int) (n : Nat) : (tells c size n).length = n := by
  unfold tells
  rw [List.length_map, List.length_range]
def sp__law_rows_by (K : PySem.W.Frag) (cs : Cs) : Sp := fun vs H Q _ => ∃ (a : Addr) (ns : List Int) (size : Int), vs = [.ref a, .int size] ∧ SqL K H a (ns.map V.int) ∧ ns.length ≤ 63 ∧ 1 ≤ size ∧ size ≤ 201 ∧ ∀ H' p xs os, Same H H' → H' p = some (.lst xs) → Rws K H' xs os → os.length ≤ 201 → Q (.ref p) H'
theorem ok__law_rows_by (T : Txt w K mg cs) (o__law_cell_at : Ok P w K mg base CX0 1 cs.f__law_cell_at cs.d__law_cell_at ["_law_script", "_law_k"] (sp__law_cell_at K cs)) (o__law_thing_by : Ok P w K mg base CX0 3 cs.f__law_thing_by cs.d__law_thing_by ["_law_script", "_law_size", "_law_count"] (sp__law_thing_by K cs)) : Ok P w K mg base CX0 4 cs.f__law_rows_by cs.d__law_rows_by ["_law_script", "_law_size"] (sp__law_rows_by K cs) := by
  refine T.fn__law_rows_by.ok sc__law_rows_by (fun vs H Q E h => ?_) (fun cdv A outer s H vs Q E hr h => ?_)
  · obtain ⟨a, ns, size, rfl, _⟩ := h
    rfl
  · obtain ⟨a, ns, size, rfl, hS, hl, h0, h1, q⟩ := h
    refine ⟨_, (pss_cons (ps_set (i := 2) sc__law_rows_by.nd rfl (Or.inr rfl) (pe_callO o__law_cell_at (hr.mono (by decide)) (by rfl) T.gl__law_cell_at pass0 (pa_cons (pv 0) (pa_cons pe_int pa_nil))))
      (pss_cons (ps_set (i := 3) sc__law_rows_by.nd rfl (Or.inl rfl) (pe_ix ix_list (pe_lst (pa_cons (pe_op op_add pe_int (pe_op op_mod (pv 2) pe_int)) (pa_cons pe_int (pa_cons pe_int pa_nil)))) (pe_ix ix_list (pe_lst (pa_cons pe_int (pa_cons pe_int (pa_cons pe_int (pa_cons pe_int (pa_cons pe_int (pa_cons pe_int (pa_cons pe_int (pa_cons pe_int pa_nil))))))))) (pe_op op_mod (pe_op op_fdiv (pv 2) pe_int) pe_int) (fun _ _ => rfl)) (fun _ _ => rfl)))
      (pss_cons (ps_setLc (i := 4) (own := [("_law_k", 5)]) (g := gName 5) (tt := tYes) rfl sc__law_rows_by.nd rfl rfl (sw_true rfl rfl rfl (by decide +kernel)) (pi_range1 (by rfl) T.no_range (pa_cons (pv 3) pa_nil)) (blkOk_by (N := ["_law_script", "_law_size", "_law_cell", "_law_count", "_law_rows", "_law_k"]) (sc := defScope s__law_rows_by) (by decide +kernel)) (fun _ _ _ _ _ => pg_name (i := 5) sc__law_rows_by.nd rfl (Or.inl rfl)) (fun _ _ _ _ _ => pts_nil) (fun _ _ _ _ _ => (pe_tup (pa_cons pe_str (pa_cons (pe_op op_mod (pe_op op_add (pv 2) (pv 5)) (pv 1)) pa_nil)))))
      (pss_cutS (ps_if (pt_cmpR op_gt (pe_op op_mod (pe_op op_fdiv (pv 2) pe_int) pe_int) pe_int (nomark _)) (pss_one (ps_asg (pe_callO o__law_thing_by hr (by rfl) T.gl__law_thing_by pass0 (pa_cons (pe_slice sl_list (pv 0) (po_some pe_int) po_none) (pa_cons (pv 1) (pa_cons (pv 3) pa_nil)))) (pg_sub (pv 4) (pe_op op_mod (pe_op op_fdiv (pv 2) pe_int) (pv 3)) set_list))) pss_nil)
      (pss_one (ps_ret (pv 4))))))), ?_⟩
    refine ⟨_, rfl, a, ns, 2, rfl, hS, ?_⟩
    generalize cellOf ns 2 = c
    refine ⟨_, rfl, _, _, rfl, rfl, (by show (0 : Int) < _; decide), _, _, rfl, rfl, (by show 3 ≤ sizeLine; decide), fun l1 n1 => ⟨(by show 8 ≤ sizeLine; decide), fun l2 n2 => ?_⟩⟩
    have s1 : Same H (upd H l1 (.lst [V.int (1 + c % 5), .int 200, .int 201])) := Same.new n1
    have s2 := Same.new (o := .lst (([0, 0, 0, 0, 0, 0, 1, 2] : List Int).map V.int)) n2
    have hl1 := s2 _ _ (show (upd H l1 (.lst [V.int (1 + c % 5), .int 200, .int 201])) l1 = some (.lst [V.int (1 + c % 5), .int 200, .int 201]) from upd_same)
    obtain ⟨i, hi, n, hn, hn1, hn2⟩ : ∃ i : Int, atI (([0, 0, 0, 0, 0, 0, 1, 2] : List Int).map V.int) (c / 5 % 8) = some (.int i) ∧ ∃ n : Nat, atI [V.int (1 + c % 5), .int 200, .int 201] i = some (.int (n : Int)) ∧ 1 ≤ n ∧ n ≤ 201 := by
      have hh : ((1 + c % 5).toNat : Int) = 1 + c % 5 := Int.toNat_of_nonneg (by omega)
      have hz : ∃ n : Nat, atI [V.int (1 + c % 5), .int 200, .int 201] 0 = some (.int (n : Int)) ∧ 1 ≤ n ∧ n ≤ 201 := ⟨(1 + c % 5).toNat, by rw [hh]; rfl, by omega, by omega⟩
      have : c / 5 % 8 = 0 ∨ c / 5 % 8 = 1 ∨ c / 5 % 8 = 2 ∨ c / 5 % 8 = 3 ∨ c / 5 % 8 = 4 ∨ c / 5 % 8 = 5 ∨ c / 5 % 8 = 6 ∨ c / 5 % 8 = 7 := by omega
      rcases this with e | e | e | e | e | e | e | e <;> rw [e]
      · exact ⟨0, rfl, hz⟩
      · exact ⟨0, rfl, hz⟩
      · exact ⟨0, rfl, hz⟩
      · exact ⟨0, rfl, hz⟩
      · exact ⟨0, rfl, hz⟩
      · exact ⟨0, rfl, hz⟩
      · exact ⟨1, rfl, 200, rfl, by decide, by decide⟩
      · exact ⟨2, rfl, 201, rfl, by decide, by decide⟩
    refine ⟨_, rfl, _, _, rfl, rfl, ⟨by decide, by decide⟩, _, _, rfl, rfl, (by show (0 : Int) < _; decide), l2, _, _, _, rfl, rfl, SqL.of upd_same, hi, l1, _, _, _, rfl, rfl, SqL.of hl1, hn, ?_⟩
    have s12 := s1.trans s2
    refine ⟨_, rfl, (n : Int), rfl, by omega, by omega, fun D nD => lc_range (lo := 0) (n := ((n : Int)).toNat) (fun i H' => Same H H' ∧ ∃ ys, H' D = some (.lst ys) ∧ RL H' ys (tells c size i)) ⟨s12.trans (Same.new nD), [], upd_same, RL.nil⟩ ?_ ?_⟩
    · rintro i H' hi ⟨s3, ys, hD, hR⟩
      refine ⟨rfl, _, rfl, _, rfl, _, _, rfl, rfl, _, rfl, _, _, rfl, rfl, (by omega), (by show 2 ≤ sizeLine; decide), fun t nt => ?_⟩
      have z := Same.new (o := .tup (Rw.tell ((c + (0 + (i : Int))) % size)).vs) nt
      have hyl := hR.len
      rw [tells_len] at hyl
      refine ⟨ys, z _ _ hD, sizeL (by omega), (s3.trans z).mut (s12.free nD), ys ++ [.ref t], upd_same, ?_⟩
      rw [tells_snoc]
      refine ((hR.same z).snoc (r := .tell ((c + (i : Int)) % size)) ?_).but (z _ _ hD)
      rw [show (0 : Int) + (i : Int) = (i : Int) from Int.zero_add _]
      exact upd_same
    rintro H3 ⟨s3, ys, hD, hR⟩
    rw [show ((n : Int)).toNat = n from rfl] at hR
    have hyl := hR.len
    rw [tells_len] at hyl
    have s4 := s3
    have fD : H D = none := s12.free nD
    refine ⟨fun σ' H5 => ∃ (v5 : Option V) (xs : List V) (os : List (Option (List V))), σ' = [some (.ref a), some (.int size), some (.int c), some (.int (n : Int)), some (.ref D), v5] ∧ Same H H5 ∧ H5 D = some (.lst xs) ∧ Rws K H5 xs os ∧ os.length ≤ 201, ?_, ?_⟩
    · refine ⟨_, rfl, _, _, rfl, rfl, ⟨by decide, by decide⟩, _, _, rfl, rfl, (by show (0 : Int) < _; decide), _, _, rfl, rfl, _, rfl, iteD (fun _ => ?_) (fun _ => ?_)⟩
      · refine ⟨_, rfl, _, rfl, a, _, rfl, s4.seq hS, fun g ng => ?_⟩
        have e3 : cutV (ns.map V.int) (some 4) none = (ns.drop 4).map V.int := by
          rw [show (4 : Int) = ((4 : Nat) : Int) from rfl, cut_from, List.map_drop]
        rw [e3]
        have z := Same.new (o := .lst ((ns.drop 4).map V.int)) ng
        refine ⟨_, rfl, _, rfl, g, ns.drop 4, size, (n : Int), rfl, SqL.of upd_same, by rw [List.length_drop]; omega, h0, by omega, fun H6 x o s6 hd => ?_⟩
        have hD6 := (z.trans s6) _ _ hD
        have hnn := Int.emod_nonneg (c / 120) (show (n : Int) ≠ 0 by omega)
        have hlt := Int.emod_lt_of_pos (c / 120) (show 0 < (n : Int) by omega)
        obtain ⟨j, hj⟩ : ∃ j : Nat, c / 120 % (n : Int) = (j : Int) := ⟨(c / 120 % (n : Int)).toNat, by omega⟩
        refine ⟨_, rfl, _, rfl, _, _, rfl, rfl, ⟨by decide, by decide⟩, _, rfl, _, _, rfl, rfl, (by omega), ?_⟩
        refine ⟨D, _, _, j, rfl, rfl, hD6, (by show ixN ys.length (c / 120 % (n : Int)) = some j; rw [hj]; exact ix_nat (by omega)), ?_⟩
        have hkn : (upd H3 g (.lst ((ns.drop 4).map V.int))) D ≠ none := by
          rw [z _ _ hD]
          intro e
          cases e
        have hd' : Drawn K (upd H6 D (.lst (ys.set j x))) x o := hd.same (newP_but hkn)
        have hR' := ((hR.same (z.trans s6)).but (o := .lst (ys.set j x)) hD6).rws (K := K)
        exact ⟨_, _, _, rfl, ((s4.trans z).trans s6).mut fD, upd_same, hR'.set j hd', by rw [List.length_set, List.length_map, tells_len]; exact hn2⟩
      · exact ⟨_, ys, _, rfl, s4, hD, hR.rws, by rw [List.length_map, tells_len]; exact hn2⟩
    rintro σ' H5 ⟨v5, xs, os, rfl, s5, h5, hR5, hol⟩
    exact ⟨_, rfl, q _ D xs os s5 h5 hR5 hol⟩
/-! ### _law_good_boxes, _law_good_rows, _law_good_shape -/
theorem its_list {K : PySem.W.Frag} {H : Hp} {p : Addr} {xs : List V} (h : H p = some (.lst xs)) (hi : ∀ v ∈ xs, It K H v) : ∃ ds, Dp K H (.ref p) (.list ds) ∧ Sh 2 (.list ds) ∧ ds.length = xs.length := by
  obtain ⟨ds, hd, hs⟩ := its_dp hi
  have hl : ∀ {xs : List V} {ds : List PyData}, DpAll K H xs ds → ds.length = xs.length := by
    intro xs
    induction xs with
    | nil => intro ds h; cases h; rfl
    | cons x r ih => intro ds h; cases h with | cons a b => rw [List.length_cons, List.length_cons, ih b]
  exact ⟨ds, .lst (SqL.of h) hd, sh_list hs, hl hd⟩
theorem drawns_dp {K : PySem.W.Frag} {H : Hp} : ∀ {xs : List V}, (∀ v ∈ xs, ∃ d, Dp K H v d ∧ Sh 2 d) → ∃ ds, DpAll K H xs ds ∧ (∀ d ∈ ds, Sh 2 d) ∧ ds.length = xs.length
  | [], _ => ⟨[], .nil, (fun d hd => by cases hd), rfl⟩
  | x :: r, h => by
    obtain ⟨d, h1, h2⟩ := h x List.mem_cons_self
    obtain ⟨ds, g1, g2, g3⟩ := drawns_dp (xs := r) fun v hv => h v (List.mem_cons_of_mem _ hv)
    exact ⟨d :: ds, .cons h1 g1, fun z hz => (List.mem_cons.mp hz).elim (fun q => by rw [q]; exact h2) (g2 z), by rw [List.length_cons, List.length_cons, g3]⟩
theorem eqv_nil (ds : List PyData) : PyData.eqv (.list ds) (.list []) = decide (ds.length = 0) := by
  cases ds with
  | nil => rfl
  | cons d r => rfl
theorem take_all {α : Type} {xs : List α} {p : α → Bool} {i : Nat} {x : α} (h : xs[i]? = some x) : ((xs.take (i + 1)).all p = true) ↔ ((xs.take i).all p = true ∧ p x = true) := by
  rw [List.take_add_one, h, List.all_append, Bool.and_eq_true]
  show _ ∧ (p x && true) = true ↔ _
  rw [Bool.and_true]
def sp__law_good_boxes (K : PySem.W.Frag) (cs : Cs) : Sp := fun vs H Q _ => ∃ (p : Addr) (xs : List V), vs = [.ref p] ∧ H p = some (.lst xs) ∧ (∀ v ∈ xs, It K H v) ∧ xs.length ≤ 1000 ∧ ∀ H', Same H H' → Q (.bl (goodBoxes xs)) H'
theorem ok__law_good_boxes (T : Txt w K mg cs) (o__law_whole : Ok P w K mg base CX0 1 cs.f__law_whole cs.d__law_whole ["_law_found"] (sp__law_whole K cs)) : Ok P w K mg base CX0 2 cs.f__law_good_boxes cs.d__law_good_boxes ["_law_boxes"] (sp__law_good_boxes K cs) := by
  refine T.fn__law_good_boxes.ok sc__law_good_boxes (fun vs H Q E h => ?_) (fun cdv A outer s H vs Q E hr h => ?_)
  · obtain ⟨p, xs, rfl, _⟩ := h
    rfl
  · obtain ⟨p, xs, rfl, hp, hi, hl, q⟩ := h
    refine ⟨_, (pss_cons (ps_if (pt_jn (pt_not (pt_chain op_le op_le pe_int (pe_callB call_len_seq (by rfl) T.no_len PySem.boot_len (pa_cons (pv 0) pa_nil)) pe_int))) (pss_one (ps_ret pe_bl)) pss_nil)
      (pss_one (ps_ret (pe_cmpR (op_eqD hr.units) (pe_lc (own := [("_law_number", 1)]) (g := gName 1) rfl sc__law_good_boxes.nd (pi_list (pv 0)) (blkOk_by (N := ["_law_boxes", "_law_number"]) (sc := defScope s__law_good_boxes) (by decide +kernel)) (fun _ _ _ _ _ => pg_name (i := 1) sc__law_good_boxes.nd rfl (Or.inl rfl)) (fun _ _ _ _ _ => pts_one (PW.pt (pw_or (pt_not (pt_val (pe_callO o__law_whole hr (by rfl) T.gl__law_whole pass0 (pa_cons (pv 1) pa_nil)))) (pw_or1 (pt_not (pt_chain op_le op_le pe_int (pv 1) pe_int)))))) (fun _ _ _ _ _ => (pv 1))) (pe_lst pa_nil) (nomark _))))), ?_⟩
    refine ⟨fun b H' => b = !decide (1 ≤ xs.length ∧ xs.length ≤ 200) ∧ H' = H, ?_, ?_⟩
    · refine ⟨_, rfl, p, _, rfl, .inl (SqL.of hp), _, _, rfl, rfl, _, rfl, iteD (fun c => ?_) (fun c => ?_)⟩
      · have c' : 1 ≤ xs.length := by omega
        refine ⟨_, _, rfl, rfl, _, rfl, ?_, rfl⟩
        congr 1
        apply decide_eq_decide.mpr
        omega
      · refine ⟨_, rfl, ?_, rfl⟩
        rw [decide_eq_false (fun z => c (by omega))]
    rintro b H' ⟨rfl, rfl⟩
    refine iteN (fun c => ?_) (fun c => ?_)
    · have e : goodBoxes xs = false := by
        unfold goodBoxes
        rw [decide_eq_false c, Bool.false_and]
      rw [e] at q
      exact q _ (Same.refl _)
    have e : goodBoxes xs = xs.all fun y => wIn y 0 999999 := by
      unfold goodBoxes
      rw [decide_eq_true c, Bool.true_and]
    rw [e] at q
    refine ⟨_, rfl, p, rfl, ⟨_, SqL.of hp⟩, fun D nD => lc_list (xs := xs) (fun j H3 => Same H' H3 ∧ ∃ acc, H3 D = some (.lst acc) ∧ (∀ v ∈ acc, v ∈ xs) ∧ acc.length ≤ j ∧ ((xs.take j).all (fun y => wIn y 0 999999) = true ↔ acc.length = 0)) ⟨Same.new nD, [], upd_same, (fun v hv => by cases hv), Nat.le_refl _, ⟨fun _ => rfl, fun _ => by rw [List.take_zero]; rfl⟩⟩ (fun j H3 _ p => SqL.of (p.1 _ _ hp)) ?_ ?_⟩
    · rintro j x H3 hx ⟨s3, acc, hD, hin, hal, hiff⟩
      have hxm := List.mem_of_getElem? hx
      have hjl := (List.getElem?_eq_some_iff.mp hx).1
      obtain ⟨⟨t, ty, ht⟩, _⟩ := hi x hxm
      have ty3 := ty.same s3
      have keep : wIn x 0 999999 = false → ∃ acc', H3 D = some (.lst acc') ∧ acc'.length < sizeLine ∧ (Same H' (upd H3 D (.lst (acc' ++ [x]))) ∧ ∃ acc, (upd H3 D (.lst (acc' ++ [x]))) D = some (.lst acc) ∧ (∀ v ∈ acc, v ∈ xs) ∧ acc.length ≤ j + 1 ∧ ((xs.take (j + 1)).all (fun y => wIn y 0 999999) = true ↔ acc.length = 0)) := fun hw => by
        refine ⟨acc, hD, sizeL (by omega), s3.mut nD, _, upd_same, fun v hv => ?_, by rw [List.length_append, List.length_singleton]; omega, ?_⟩
        · rcases List.mem_append.mp hv with z | z
          · exact hin v z
          · simp only [List.mem_cons, List.not_mem_nil, or_false] at z
            rw [z]
            exact hxm
        · rw [take_all hx, hw, List.length_append, List.length_singleton]
          exact ⟨fun z => absurd z.2 (by decide), fun z => by omega⟩
      have skip : wIn x 0 999999 = true → (Same H' H3 ∧ ∃ acc, H3 D = some (.lst acc) ∧ (∀ v ∈ acc, v ∈ xs) ∧ acc.length ≤ j + 1 ∧ ((xs.take (j + 1)).all (fun y => wIn y 0 999999) = true ↔ acc.length = 0)) := fun hw => by
        refine ⟨s3, acc, hD, hin, by omega, ?_⟩
        rw [take_all hx, hw, ← hiff]
        exact ⟨fun z => z.1, fun z => ⟨z, rfl⟩⟩
      refine ⟨rfl, _, rfl, x, t, rfl, ty3, ht, _, rfl, iteBN (fun c1 => ?_) (fun c1 => ?_)⟩
      · have e : t ≠ "int" := fun e => by
          subst e
          revert c1
          decide
        exact iteT ⟨_, rfl, keep (wIn_not ty e 0 999999)⟩
      · have e : t = "int" := by simpa using c1
        subst e
        obtain ⟨i, rfl⟩ := typ_int ty
        have ew : wIn (.int i) 0 999999 = (decide (0 ≤ i) && decide (i ≤ 999999)) := rfl
        refine ⟨_, rfl, _, _, rfl, rfl, _, rfl, iteD (fun c2 => ?_) (fun c2 => ?_)⟩
        · refine ⟨_, _, rfl, rfl, _, rfl, iteN (fun c3 => ?_) (fun c3 => ?_)⟩
          · exact ⟨_, rfl, keep (by rw [ew, decide_eq_false c3, Bool.and_false])⟩
          · exact skip (by rw [ew, decide_eq_true c2, decide_eq_true c3]; rfl)
        · exact ⟨_, rfl, iteT ⟨_, rfl, keep (by rw [ew, decide_eq_false c2, Bool.false_and])⟩⟩
    rintro H3 ⟨s3, acc, hD, hin, hal, hiff⟩
    rw [List.take_length] at hiff
    obtain ⟨ds, dd, hs, hdl⟩ := its_list hD fun v hv => (hi v (hin v hv)).same s3
    refine ⟨Nat.zero_le _, fun D2 nD2 => ?_⟩
    have s4 : Same H3 (upd H3 D2 (.lst [])) := Same.new nD2
    refine ⟨_, _, dp_same s4 _ _ dd, intsD_dp (ns := []) upd_same, hs.shaped (by decide), (intsD_sh _).shaped (by decide), ?_⟩
    show Q (.bl (PyData.eqv (.list ds) (.list []))) _
    have ee : PyData.eqv (.list ds) (.list []) = xs.all fun y => wIn y 0 999999 := by
      rw [eqv_nil, hdl]
      by_cases z : xs.all (fun y => wIn y 0 999999) = true
      · rw [z, decide_eq_true (hiff.mp z)]
      · rw [decide_eq_false (fun y => z (hiff.mpr y))]
        simpa using z
    rw [ee]
    exact q _ (s3.trans s4)
def sp__law_good_rows (K : PySem.W.Frag) (cs : Cs) : Sp := fun vs H Q _ => ∃ (p : Addr) (xs : List V) (os : List (Option (List V))) (size : Int), vs = [.ref p, .int size] ∧ H p = some (.lst xs) ∧ Rws K H xs os ∧ xs.length ≤ 1000 ∧ ∀ H', Same H H' → Q (.bl (goodRows size os)) H'
theorem ok__law_good_rows (T : Txt w K mg cs) (o__law_fits : Ok P w K mg base CX0 2 cs.f__law_fits cs.d__law_fits ["_law_row", "_law_size", "_law_count"] (sp__law_fits K cs)) : Ok P w K mg base CX0 3 cs.f__law_good_rows cs.d__law_good_rows ["_law_rows", "_law_size"] (sp__law_good_rows K cs) := by
  refine T.fn__law_good_rows.ok sc__law_good_rows (fun vs H Q E h => ?_) (fun cdv A outer s H vs Q E hr h => ?_)
  · obtain ⟨p, xs, os, size, rfl, _⟩ := h
    rfl
  · obtain ⟨p, xs, os, size, rfl, hp, hR, hl, q⟩ := h
    refine ⟨_, (pss_one (ps_ret (pe_and (pe_cmpR op_le (pe_callB call_len_seq (by rfl) T.no_len PySem.boot_len (pa_cons (pv 0) pa_nil)) pe_int (nomark _)) (pe_one (pe_cmpR (op_eqD hr.units) (pe_lc (own := [("_law_row", 2)]) (g := gName 2) rfl sc__law_good_rows.nd (pi_list (pv 0)) (blkOk_by (N := ["_law_rows", "_law_size", "_law_row"]) (sc := defScope s__law_good_rows) (by decide +kernel)) (fun _ _ _ _ _ => pg_name (i := 2) sc__law_good_rows.nd rfl (Or.inl rfl)) (fun _ _ _ _ _ => pts_one (pt_not (pt_val (pe_callO o__law_fits hr (by rfl) T.gl__law_fits pass0 (pa_cons (pv 2) (pa_cons (pv 1) (pa_cons (pe_callB (call_len_seqK (K := K) rfl) (by rfl) T.no_len PySem.boot_len (pa_cons (pv 0) pa_nil)) pa_nil))))))) (fun _ _ _ _ _ => (pv 2))) (pe_lst pa_nil) (nomark _)))))), ?_⟩
    have hlen := hR.len
    refine ⟨_, rfl, p, _, rfl, .inl (SqL.of hp), _, _, rfl, rfl, _, rfl, iteD (fun c => ?_) (fun c => ?_)⟩
    · have e : goodRows size os = os.all (fitsO size (os.length : Int)) := by
        unfold goodRows
        rw [decide_eq_true (by omega), Bool.true_and]
      rw [e] at q
      refine ⟨_, rfl, p, rfl, ⟨_, SqL.of hp⟩, fun D nD => lc_list (xs := xs) (fun j H3 => Same H H3 ∧ ∃ acc, H3 D = some (.lst acc) ∧ (∀ v ∈ acc, ∃ o, Drawn K H v o) ∧ acc.length ≤ j ∧ ((os.take j).all (fitsO size (os.length : Int)) = true ↔ acc.length = 0)) ⟨Same.new nD, [], upd_same, (fun v hv => by cases hv), Nat.le_refl _, ⟨fun _ => rfl, fun _ => by rw [List.take_zero]; rfl⟩⟩ (fun j H3 _ p => SqL.of (p.1 _ _ hp)) ?_ ?_⟩
      · rintro j x H3 hx ⟨s3, acc, hD, hin, hal, hiff⟩
        have hjl := (List.getElem?_eq_some_iff.mp hx).1
        obtain ⟨o, ho⟩ : ∃ o, os[j]? = some o := ⟨os[j], List.getElem?_eq_getElem (by omega)⟩
        have hd := hR.at_ j x o hx ho
        refine ⟨rfl, _, rfl, _, rfl, _, rfl, p, _, rfl, .inl (SqL.of (s3 _ _ hp)), x, o, size, (os.length : Int), (by rw [hlen]), (hd.1).same s3, fun H4 s4 => ⟨_, rfl, iteBN (fun c1 => ?_) (fun c1 => ?_)⟩⟩
        · refine ⟨_, rfl, acc, s4 _ _ hD, sizeL (by omega), (s3.trans s4).mut nD, _, upd_same, fun v hv => ?_, by rw [List.length_append, List.length_singleton]; omega, ?_⟩
          · rcases List.mem_append.mp hv with z | z
            · exact hin v z
            · simp only [List.mem_cons, List.not_mem_nil, or_false] at z
              rw [z]
              exact ⟨o, hd⟩
          · rw [take_all ho, c1, List.length_append, List.length_singleton]
            exact ⟨fun z => absurd z.2 (by decide), fun z => by omega⟩
        · refine ⟨s3.trans s4, acc, s4 _ _ hD, hin, by omega, ?_⟩
          rw [take_all ho, c1, ← hiff]
          exact ⟨fun z => z.1, fun z => ⟨z, rfl⟩⟩
      rintro H3 ⟨s3, acc, hD, hin, hal, hiff⟩
      rw [hlen, List.take_length] at hiff
      obtain ⟨ds, dd, hs, hdl⟩ := drawns_dp (K := K) (H := H3) (xs := acc) fun v hv => by
        obtain ⟨o, hd⟩ := hin v hv
        exact (hd.same s3).2
      refine ⟨Nat.zero_le _, fun D2 nD2 => ?_⟩
      have s4 : Same H3 (upd H3 D2 (.lst [])) := Same.new nD2
      refine ⟨_, _, dp_same s4 _ _ (.lst (SqL.of hD) dd), intsD_dp (ns := []) upd_same, (sh_list hs).shaped (by decide), (intsD_sh _).shaped (by decide), ?_⟩
      show Q (.bl (PyData.eqv (.list ds) (.list []))) _
      have ee : PyData.eqv (.list ds) (.list []) = os.all (fitsO size (os.length : Int)) := by
        rw [eqv_nil, hdl]
        by_cases z : os.all (fitsO size (os.length : Int)) = true
        · rw [z, decide_eq_true (hiff.mp z)]
        · rw [decide_eq_false (fun y => z (hiff.mpr y))]
          simpa using z
      rw [ee]
      exact q _ (s3.trans s4)
    · have e : goodRows size os = false := by
        unfold goodRows
        rw [decide_eq_false (by omega), Bool.false_and]
      rw [e] at q
      exact q _ (Same.refl _)
/-- what may stand for a rule -/
def RuleV (H : Hp) (r : V) : Prop := (∃ z, r = .str z ∧ PyData.strOk z = true) ∨ r = .non ∨ ∃ a, r = .ref a ∧ H a = some (.lst [.str "least"])
theorem RuleV.same {H H' : Hp} {r : V} (h : RuleV H r) (s : Same H H') : RuleV H' r := by
  rcases h with h | h | ⟨a, e, h⟩
  · exact .inl h
  · exact .inr (.inl h)
  · exact .inr (.inr ⟨a, e, s _ _ h⟩)
theorem RuleV.dp {K : PySem.W.Frag} {H : Hp} {r : V} (h : RuleV H r) : Typ K H r ∧ ∃ d, Dp K H r d ∧ Sh 1 d ∧ ([PyData.str "least", .str "first"].any fun z => PyData.eqv z d) = ruleOk r := by
  rcases h with ⟨z, rfl, hz⟩ | rfl | ⟨a, rfl, h⟩
  · refine ⟨typ_s _, _, .str z, sh_str hz, ?_⟩
    show ((("least" : Str) == z) || ((("first" : Str) == z) || false)) = (decide (z = "least") || decide (z = "first"))
    have e : ∀ w : Str, (w == z) = decide (z = w) := fun w => by
      by_cases q : z = w
      · subst q
        simp
      · have : ¬ w = z := fun y => q y.symm
        simp [q, this]
    rw [e, e, Bool.or_false]
  · exact ⟨typ_n, _, .non, sh_non, rfl⟩
  · exact ⟨typ_l h, _, .lst (SqL.of h) (.cons (.str _) .nil), sh_list (fun d hd => by
      simp only [List.mem_cons, List.not_mem_nil, or_false] at hd
      rw [hd]
      exact sh_str (by decide +kernel)), rfl⟩
def sp__law_good_shape (K : PySem.W.Frag) (cs : Cs) : Sp := fun vs H Q _ => ∃ (t : Addr) (x y r : V), vs = [.ref t] ∧ H t = some (.tup [x, y, r]) ∧ Typ K H x ∧ Typ K H y ∧ RuleV H r ∧ ∀ H', Same H H' → Q (.bl (shapeOk x y r)) H'
theorem ok__law_good_shape (T : Txt w K mg cs) (o__law_whole : Ok P w K mg base CX0 1 cs.f__law_whole cs.d__law_whole ["_law_found"] (sp__law_whole K cs)) : Ok P w K mg base CX0 2 cs.f__law_good_shape cs.d__law_good_shape ["_law_shape"] (sp__law_good_shape K cs) := by
  refine T.fn__law_good_shape.ok sc__law_good_shape (fun vs H Q E h => ?_) (fun cdv A outer s H vs Q E hr h => ?_)
  · obtain ⟨t, x, y, r, rfl, _⟩ := h
    rfl
  · obtain ⟨t, x, y, r, rfl, ht, ⟨tx, hx, hx2⟩, ⟨ty, hy, hy2⟩, hru, q⟩ := h
    refine ⟨_, (pss_cons (ps_if (pt_jn (PW.pt (pw_or (pt_not (pt_val (pe_callO o__law_whole hr (by rfl) T.gl__law_whole pass0 (pa_cons (pe_ix ix_tup (pv 0) pe_int (fun _ _ => rfl)) pa_nil)))) (pw_or1 (pt_not (pt_val (pe_callO o__law_whole hr (by rfl) T.gl__law_whole pass0 (pa_cons (pe_ix ix_tup (pv 0) pe_int (fun _ _ => rfl)) pa_nil)))))))) (pss_one (ps_ret pe_bl)) pss_nil)
      (pss_one (ps_ret (pe_and (pe_chain op_le op_le pe_int (pe_ix ix_tup (pv 0) pe_int (fun _ _ => rfl)) pe_int) (pe_and (pe_chain op_le op_le pe_int (pe_ix ix_tup (pv 0) pe_int (fun _ _ => rfl)) pe_int) (pe_one (pe_cmpR (op_inDT hr.units65) (pe_ix ix_tup (pv 0) pe_int (fun _ _ => rfl)) (pe_tup (pa_cons pe_str (pa_cons pe_str pa_nil))) (by rfl)))))))), ?_⟩
    refine ⟨fun b H' => H' = H ∧ (b = true → wIn x 1 200 = false ∨ wIn y 1 200 = false) ∧ (b = false → ∃ i j, x = .int i ∧ y = .int j), ?_, ?_⟩
    · refine ⟨_, rfl, t, _, _, _, rfl, rfl, SqT.of ht, (by rfl), x, tx, rfl, hx, hx2, _, rfl, iteBN (fun c => ?_) (fun c => ?_)⟩
      · refine ⟨rfl, fun _ => .inl (wIn_not hx (fun e => ?_) 1 200), fun z => nomatch z⟩
        subst e
        revert c
        decide
      · have e : tx = "int" := by simpa using c
        subst e
        obtain ⟨i, rfl⟩ := typ_int hx
        refine ⟨_, rfl, t, _, _, _, rfl, rfl, SqT.of ht, (by rfl), y, ty, rfl, hy, hy2, _, rfl, rfl, fun c2 => ?_, fun c2 => ?_⟩
        · have c3 : (ty == "int") = false := by simpa using c2
          refine .inr (wIn_not hy (fun e => ?_) 1 200)
          subst e
          revert c3
          decide
        · have e : ty = "int" := by simpa using c2
          subst e
          obtain ⟨j, rfl⟩ := typ_int hy
          exact ⟨i, j, rfl, rfl⟩
    rintro b H' ⟨rfl, h1, h2⟩
    refine iteB (fun c => ?_) (fun c => ?_)
    · have e : shapeOk x y r = false := by
        unfold shapeOk
        rcases h1 c with z | z
        · rw [z]; rfl
        · rw [z, Bool.and_false]; rfl
      rw [e] at q
      exact q _ (Same.refl _)
    obtain ⟨i, j, rfl, rfl⟩ := h2 c
    have ew : ∀ i : Int, wIn (.int i) 1 200 = (decide (1 ≤ i) && decide (i ≤ 200)) := fun _ => rfl
    unfold shapeOk at q
    rw [ew, ew] at q
    obtain ⟨tr, d, hd, hsh, hrl⟩ := hru.dp (K := K)
    refine ⟨_, rfl, t, _, _, _, rfl, rfl, SqT.of ht, (by rfl), _, _, rfl, rfl, _, rfl, iteD (fun c1 => ?_) (fun c1 => ?_)⟩
    · refine ⟨_, _, rfl, rfl, _, rfl, iteD (fun c2 => ?_) (fun c2 => ?_)⟩
      · refine ⟨_, rfl, t, _, _, _, rfl, rfl, SqT.of ht, (by rfl), _, _, rfl, rfl, _, rfl, iteD (fun c3 => ?_) (fun c3 => ?_)⟩
        · refine ⟨_, _, rfl, rfl, _, rfl, iteD (fun c4 => ?_) (fun c4 => ?_)⟩
          · rw [decide_eq_true c1, decide_eq_true c2, decide_eq_true c3, decide_eq_true c4] at q
            refine ⟨_, rfl, t, _, _, _, rfl, rfl, SqT.of ht, (by rfl), (by show 2 ≤ sizeLine; decide), fun t2 n2 => ?_⟩
            have z : Same H' (upd H' t2 (.tup [.str "least", .str "first"])) := Same.new n2
            refine ⟨d, [.str "least", .str "first"], dp_same z _ _ hd, .tup (SqT.of upd_same) (.cons (.str _) (.cons (.str _) .nil)), hsh.shaped (by decide), (sh_tup (n := 0) fun e he => ?_).shaped (by decide), ?_⟩
            · simp only [List.mem_cons, List.not_mem_nil, or_false] at he
              rcases he with rfl | rfl
              · exact sh_str (by decide +kernel)
              · exact sh_str (by decide +kernel)
            · rw [hrl]
              exact q _ z
          · rw [decide_eq_true c1, decide_eq_true c2, decide_eq_true c3, decide_eq_false c4] at q
            exact q _ (Same.refl _)
        · rw [decide_eq_true c1, decide_eq_true c2, decide_eq_false c3] at q
          exact ⟨_, rfl, iteF (q _ (Same.refl _))⟩
      · rw [decide_eq_true c1, decide_eq_false c2] at q
        exact q _ (Same.refl _)
    · rw [decide_eq_false c1] at q
      exact ⟨_, rfl, iteF (q _ (Same.refl _))⟩
/-! ### _law_due -/
def dueM (way : Int) (gb gr gs : Bool) : Str := if gb = false then "boxes" else if way ≠ 1 ∧ gr = false then "rows" else if 0 < way ∧ gs = false then "shape" else ""
structure Asked (K : PySem.W.Frag) (H : Hp) (bp rp t : Addr) (xs ys : List V) (os : List (Option (List V))) (x y r : V) : Prop where
  hb : H bp = some (.lst xs)
  hi : ∀ v ∈ xs, It K H v
  hl : xs.length ≤ 1000
  hr : H rp = some (.lst ys)
  hR : Rws K H ys os
  hl2 : ys.length ≤ 1000
  ht : H t = some (.tup [x, y, r])
  hx : Typ K H x
  hy : Typ K H y
  hu : RuleV H r
theorem Asked.same {K : PySem.W.Frag} {H H' : Hp} {bp rp t : Addr} {xs ys : List V} {os : List (Option (List V))} {x y r : V} (h : Asked K H bp rp t xs ys os x y r) (s : Same H H') : Asked K H' bp rp t xs ys os x y r :=
  ⟨s _ _ h.hb, fun v hv => (h.hi v hv).same s, h.hl, s _ _ h.hr, h.hR.same s, h.hl2, s _ _ h.ht, h.hx.same s, h.hy.same s, h.hu.same s⟩
def sp__law_due (K : PySem.W.Frag) (cs : Cs) : Sp := fun vs H Q _ => ∃ (way : Int) (bp rp t : Addr) (xs ys : List V) (os : List (Option (List V))) (x y r : V), vs = [.int way, .ref bp, .ref rp, .ref t] ∧ Asked K H bp rp t xs ys os x y r ∧
  ∀ H', Same H H' → Q (.str (dueM way (goodBoxes xs) (goodRows (xs.length : Int) os) (shapeOk x y r))) H'
theorem ok__law_due (T : Txt w K mg cs) (o__law_good_boxes : Ok P w K mg base CX0 2 cs.f__law_good_boxes cs.d__law_good_boxes ["_law_boxes"] (sp__law_good_boxes K cs)) (o__law_good_rows : Ok P w K mg base CX0 3 cs.f__law_good_rows cs.d__law_good_rows ["_law_rows", "_law_size"] (sp__law_good_rows K cs)) (o__law_good_shape : Ok P w K mg base CX0 2 cs.f__law_good_shape cs.d__law_good_shape ["_law_shape"] (sp__law_good_shape K cs)) : Ok P w K mg base CX0 4 cs.f__law_due cs.d__law_due ["_law_way", "_law_boxes", "_law_rows", "_law_shape"] (sp__law_due K cs) := by
  refine T.fn__law_due.ok sc__law_due (fun vs H Q E h => ?_) (fun cdv A outer s H vs Q E hr h => ?_)
  · obtain ⟨way, bp, rp, t, xs, ys, os, x, y, r, rfl, _⟩ := h
    rfl
  · obtain ⟨way, bp, rp, t, xs, ys, os, x, y, r, rfl, A0, q⟩ := h
    refine ⟨_, (pss_cons (ps_if (pt_not (pt_val (pe_callO o__law_good_boxes (hr.mono (by decide)) (by rfl) T.gl__law_good_boxes pass0 (pa_cons (pv 1) pa_nil)))) (pss_one (ps_ret pe_str)) pss_nil)
      (pss_cons (ps_if (pt_jn (PW.pt (pw_and (pt_cmpR op_ne (pv 0) pe_int (nomark _)) (pw_and1 (pt_not (pt_val (pe_callO o__law_good_rows hr (by rfl) T.gl__law_good_rows pass0 (pa_cons (pv 2) (pa_cons (pe_callB call_len_seq (by rfl) T.no_len PySem.boot_len (pa_cons (pv 1) pa_nil)) pa_nil))))))))) (pss_one (ps_ret pe_str)) pss_nil)
      (pss_cons (ps_if (pt_jn (PW.pt (pw_and (pt_cmpR op_gt (pv 0) pe_int (nomark _)) (pw_and1 (pt_not (pt_val (pe_callO o__law_good_shape (hr.mono (by decide)) (by rfl) T.gl__law_good_shape pass0 (pa_cons (pv 3) pa_nil)))))))) (pss_one (ps_ret pe_str)) pss_nil)
      (pss_one (ps_ret pe_str))))), ?_⟩
    unfold dueM at q
    refine ⟨_, rfl, bp, xs, rfl, A0.hb, A0.hi, A0.hl, fun H1 s1 => ⟨_, rfl, iteBN (fun c => ?_) (fun c => ?_)⟩⟩
    · rw [if_pos c] at q
      exact q _ s1
    rw [if_neg (by rw [c]; decide)] at q
    have A1 := A0.same s1
    refine ⟨fun b H2 => b = decide (way ≠ 1 ∧ goodRows (xs.length : Int) os = false) ∧ Same H1 H2, ?_, ?_⟩
    · refine ⟨_, rfl, rfl, _, rfl, iteN (fun c1 => ?_) (fun c1 => ?_)⟩
      · have c2 : way ≠ 1 := fun z => c1 (congrArg V.int z)
        refine ⟨_, rfl, _, rfl, bp, _, rfl, .inl (SqL.of A1.hb), rp, ys, os, (xs.length : Int), rfl, A1.hr, A1.hR, A1.hl2, fun H2 s2 => ⟨_, rfl, ?_, s2⟩⟩
        cases goodRows (xs.length : Int) os with
        | true =>
          rw [decide_eq_false (fun z => nomatch z.2)]
          rfl
        | false =>
          rw [decide_eq_true ⟨c2, rfl⟩]
          rfl
      · have c2 : way = 1 := V.int.inj c1
        refine ⟨?_, Same.refl _⟩
        rw [decide_eq_false (fun z => z.1 c2)]
    rintro b H2 ⟨rfl, s2⟩
    refine iteD (fun c2 => ?_) (fun c2 => ?_)
    · rw [if_pos c2] at q
      exact q _ (s1.trans s2)
    rw [if_neg c2] at q
    have A2 := A1.same s2
    refine ⟨fun b H3 => b = decide (0 < way ∧ shapeOk x y r = false) ∧ Same H2 H3, ?_, ?_⟩
    · refine ⟨_, rfl, _, _, rfl, rfl, _, rfl, iteD (fun c1 => ?_) (fun c1 => ?_)⟩
      · refine ⟨_, rfl, t, x, y, r, rfl, A2.ht, A2.hx, A2.hy, A2.hu, fun H3 s3 => ⟨_, rfl, ?_, s3⟩⟩
        cases shapeOk x y r with
        | true =>
          rw [decide_eq_false (fun z => nomatch z.2)]
          rfl
        | false =>
          rw [decide_eq_true ⟨c1, rfl⟩]
          rfl
      · refine ⟨?_, Same.refl _⟩
        rw [decide_eq_false (fun z => c1 z.1)]
    rintro b H3 ⟨rfl, s3⟩
    refine iteD (fun c3 => ?_) (fun c3 => ?_)
    · rw [if_pos c3] at q
      exact q _ ((s1.trans s2).trans s3)
    · rw [if_neg c3] at q
      exact q _ ((s1.trans s2).trans s3)
/-! ### _law_alone: of the five refusals the error is just the one that is asked for -/
/-- which of the five a class is, by the truth values of the five questions -/
structure OneOf (K : PySem.W.Frag) (cs : Cs) (D : Addr) (b0 b1 b2 b3 b4 : Bool) : Prop where
  c : ExcC K D
  h0 : PySem.W.kitOne K (.ref D) (.ref cs.C_BadRow) = some b0
  h1 : PySem.W.kitOne K (.ref D) (.ref cs.C_BadBoxes) = some b1
  h2 : PySem.W.kitOne K (.ref D) (.ref cs.C_BadShape) = some b2
  h3 : PySem.W.kitOne K (.ref D) (.ref cs.C_NoBox) = some b3
  h4 : PySem.W.kitOne K (.ref D) (.ref cs.C_BadPlan) = some b4
  h5 : PySem.W.kitOne K (.ref D) (.ref cs.C_LineError) = some true
  h6 : PySem.W.kitOne K (.ref D) (.type "ValueError") = some true
def sp__law_alone (K : PySem.W.Frag) (cs : Cs) (a D : Addr) : Sp := fun vs H Q _ => ∃ (own : Nat) (b0 b1 b2 b3 b4 : Bool), vs = [.ref a, .int (own : Int)] ∧ OneOf K cs D b0 b1 b2 b3 b4 ∧ [b0, b1, b2, b3, b4].count true = 1 ∧ [b0, b1, b2, b3, b4][own]? = some true ∧
  ∀ H', Same H H' → Q (.bl true) H'
theorem ok__law_alone (T : Txt w K mg cs)  : OkP P w K mg base 1 cs.f__law_alone cs.d__law_alone ["_law_e", "_law_own"] (sp__law_alone K cs) := by
  refine T.fn__law_alone.okP sc__law_alone (fun a D vs H Q E h => ?_) (fun cdv A outer s H vs Q E p D hr hz hf h => ?_)
  · obtain ⟨own, b0, b1, b2, b3, b4, rfl, _⟩ := h
    rfl
  · obtain ⟨own, b0, b1, b2, b3, b4, rfl, O, hc, ho, k⟩ := h
    have hC := O.c
    refine ⟨_, (pss_cons (ps_set (i := 2) sc__law_alone.nd rfl (Or.inl rfl) (pe_lst (pa_cons (pe_callB (call_isP hC List.mem_cons_self hz hf) (by rfl) T.no_isinstance boot_isinstance (pa_cons (pv 0) (pa_cons (pe_glob (v := .ref cs.C_BadRow) (by rfl) T.ex_BadRow.g rfl) pa_nil))) (pa_cons (pe_callB (call_isP hC List.mem_cons_self hz hf) (by rfl) T.no_isinstance boot_isinstance (pa_cons (pv 0) (pa_cons (pe_glob (v := .ref cs.C_BadBoxes) (by rfl) T.ex_BadBoxes.g rfl) pa_nil))) (pa_cons (pe_callB (call_isP hC List.mem_cons_self hz hf) (by rfl) T.no_isinstance boot_isinstance (pa_cons (pv 0) (pa_cons (pe_glob (v := .ref cs.C_BadShape) (by rfl) T.ex_BadShape.g rfl) pa_nil))) (pa_cons (pe_callB (call_isP hC List.mem_cons_self hz hf) (by rfl) T.no_isinstance boot_isinstance (pa_cons (pv 0) (pa_cons (pe_glob (v := .ref cs.C_NoBox) (by rfl) T.ex_NoBox.g rfl) pa_nil))) pa_nil))))))
      (pss_cons (ps_expr (pe_bm PySem.F.plainAttrs_list PySem.F.slot_list_append PySem.F.type_list_append mt_append (pv 2) (pa_cons (pe_callB (call_isP hC List.mem_cons_self hz hf) (by rfl) T.no_isinstance boot_isinstance (pa_cons (pv 0) (pa_cons (pe_glob (v := .ref cs.C_BadPlan) (by rfl) T.ex_BadPlan.g rfl) pa_nil))) pa_nil)))
      (pss_one (ps_ret (pe_and (pe_cmpR op_eq (pe_bm PySem.F.plainAttrs_list PySem.F.slot_list_count PySem.F.type_list_count mt_countT (pv 2) (pa_cons pe_bl pa_nil)) pe_int (nomark _)) (pe_and (pe_ix ix_list (pv 2) (pv 1) (fun _ _ => rfl)) (pe_and (pe_callB (call_isP hC List.mem_cons_self hz hf) (by rfl) T.no_isinstance boot_isinstance (pa_cons (pv 0) (pa_cons (pe_glob (v := .ref cs.C_LineError) (by rfl) T.ex_LineError.g rfl) pa_nil))) (pe_one (pe_callB (call_isP hC List.mem_cons_self hz hf) (by rfl) T.no_isinstance boot_isinstance (pa_cons (pv 0) (pa_cons (pe_bltn (v := .ty "ValueError") (by rfl) T.no_ValueError (by decide +kernel) rfl) pa_nil))))))))))), ?_⟩
    refine ⟨_, rfl, _, _, _, rfl, (fun _ r => r), O.h0, _, rfl, _, _, _, rfl, (fun _ r => r), O.h1, _, rfl, _, _, _, rfl, (fun _ r => r), O.h2, _, rfl, _, _, _, rfl, (fun _ r => r), O.h3, (by show 4 ≤ sizeLine; decide), fun l hl => ?_⟩
    refine ⟨_, rfl, .inl ⟨rfl, _, SqL.of upd_same⟩, _, rfl, _, _, _, rfl, (fun _ r => r), O.h4, l, _, _, rfl, rfl, upd_same, (by show 4 < sizeLine; decide), ?_⟩
    have s1 : Same H (upd (upd H l (.lst [.bl b0, .bl b1, .bl b2, .bl b3])) l (.lst [.bl b0, .bl b1, .bl b2, .bl b3, .bl b4])) := (Same.new hl).mut hl
    refine ⟨_, rfl, .inl ⟨rfl, _, SqL.of upd_same⟩, l, [b0, b1, b2, b3, b4], rfl, rfl, SqL.of upd_same, rfl, _, rfl, ?_⟩
    rw [hc]
    refine iteT ⟨_, rfl, _, rfl, l, _, _, _, rfl, rfl, SqL.of upd_same, atI_nat (nl_get_map (f := V.bl) (xs := [b0, b1, b2, b3, b4]) ho), _, rfl, iteT ?_⟩
    exact ⟨_, rfl, _, _, _, rfl, (fun _ r => r), O.h5, _, rfl, iteT ⟨_, rfl, _, _, _, rfl, (fun _ r => r), O.h6, k _ s1⟩⟩
/-! ### _law_said -/
def sp__law_said (K : PySem.W.Frag) (cs : Cs) : Sp := fun vs H Q _ => ∃ (way : Int) (bp rp t : Addr) (xs ys : List V) (os : List (Option (List V))) (x y r : V), vs = [.int way, .ref bp, .ref rp, .ref t] ∧ (way = 0 ∨ way = 1 ∨ way = 2) ∧ Asked K H bp rp t xs ys os x y r ∧
  ∀ H', Same H H' → Q (.str (dueM way (goodBoxes xs) (goodRows (xs.length : Int) os) (shapeOk x y r))) H'
theorem due_b {way : Int} {gb gr gs : Bool} (h : gb = false) : dueM way gb gr gs = "boxes" := if_pos h
theorem due_r {way : Int} {gb gr gs : Bool} (h : gb = true) (hw : way ≠ 1) (hr : gr = false) : dueM way gb gr gs = "rows" := by
  unfold dueM
  rw [if_neg (by rw [h]; decide), if_pos ⟨hw, hr⟩]
theorem due_s {way : Int} {gb gr gs : Bool} (h : gb = true) (hr : way = 1 ∨ gr = true) (hw : 0 < way) (hs : gs = false) : dueM way gb gr gs = "shape" := by
  unfold dueM
  rw [if_neg (by rw [h]; decide), if_neg (fun z => by rcases hr with q | q; exact z.1 q; rw [z.2] at q; cases q), if_pos ⟨hw, hs⟩]
theorem due_n {way : Int} {gb gr gs : Bool} (h : gb = true) (hr : way = 1 ∨ gr = true) (hs : ¬ 0 < way ∨ gs = true) : dueM way gb gr gs = "" := by
  unfold dueM
  rw [if_neg (by rw [h]; decide), if_neg (fun z => by rcases hr with q | q; exact z.1 q; rw [z.2] at q; cases q), if_neg (fun z => by rcases hs with q | q; exact q z.1; rw [z.2] at q; cases q)]
theorem ok__law_said (T : Txt w K mg cs) (o_run : Ok P w K mg base (L2.CX P w) 7 cs.f_run cs.d_run ["rows", "boxes", "steps"] (sp_run K cs)) (o_Near___init__ : Ok P w K mg base (L2.CX P w) 3 cs.f_Near___init__ cs.d_Near___init__ ["self", "boxes", "room", "width", "rule"] (sp_Near___init__ K cs)) (o_run_near : Ok P w K mg base (L2.CX P w) 7 cs.f_run_near cs.d_run_near ["rows", "boxes", "steps", "room", "width", "rule"] (sp_run_near K cs)) (o__law_alone : OkP P w K mg base 1 cs.f__law_alone cs.d__law_alone ["_law_e", "_law_own"] (sp__law_alone K cs)) : Ok P w K mg base CX0 8 cs.f__law_said cs.d__law_said ["_law_way", "_law_boxes", "_law_rows", "_law_shape"] (sp__law_said K cs) := by
  refine T.fn__law_said.ok sc__law_said (fun vs H Q E h => ?_) (fun cdv A outer s H vs Q E hr h => ?_)
  · obtain ⟨way, bp, rp, t, xs, ys, os, x, y, r, rfl, _⟩ := h
    rfl
  · obtain ⟨way, bp, rp, t, xs, ys, os, x, y, r, rfl, hw, A0, q⟩ := h
    refine ⟨_, (pss_cons (ps_try_many_as (i := 4) rfl rfl sc__law_said.nd rfl rfl takes0 (fun W pn xe tk _ => (pss_one (ps_if (pt_cmpR op_eq (pv 0) pe_int (nomark _)) (pss_one (ps_expr (pe_callSO o_run hr (by rfl) T.gl_run (fun σ => passAt tk σ) (pa_cons (pv 2) (pa_cons (pv 1) (pa_cons pe_int pa_nil)))))) (pss_one (ps_if (pt_cmpR op_eq (pv 0) pe_int (nomark _)) (pss_one (ps_expr (pe_makeSO o_Near___init__ T.mk_Near (hr.mono (by decide)) (by rfl) T.gl_Near (fun σ => passAt tk σ) (pa_cons (pv 1) (pa_cons (pe_ix (ix_tupK (K := K) rfl) (pv 3) pe_int (fun _ _ => rfl)) (pa_cons (pe_ix (ix_tupK (K := K) rfl) (pv 3) pe_int (fun _ _ => rfl)) (pa_cons (pe_ix (ix_tupK (K := K) rfl) (pv 3) pe_int (fun _ _ => rfl)) pa_nil))))))) (pss_one (ps_expr (pe_callSO o_run_near hr (by rfl) T.gl_run_near (fun σ => passAt tk σ) (pa_cons (pv 2) (pa_cons (pv 1) (pa_cons pe_int (pa_cons (pe_ix (ix_tupK (K := K) rfl) (pv 3) pe_int (fun _ _ => rfl)) (pa_cons (pe_ix (ix_tupK (K := K) rfl) (pv 3) pe_int (fun _ _ => rfl)) (pa_cons (pe_ix (ix_tupK (K := K) rfl) (pv 3) pe_int (fun _ _ => rfl)) pa_nil))))))))))))))
      (.cons ⟨by rfl, by decide, Or.inl T.ex_BadBoxes.g⟩ (fun a oe cls d pn hz hf => (pss_one (ps_ret (pe_ifExp (pt_val (pe_callP o__law_alone (roomP hr (by decide)) List.mem_cons_self hz hf (by rfl) T.gl__law_alone (pa_cons (pv 4) (pa_cons pe_int pa_nil)))) pe_str pe_str))))
      (.cons ⟨by rfl, by decide, Or.inl T.ex_BadRow.g⟩ (fun a oe cls d pn hz hf => (pss_one (ps_ret (pe_ifExp (pt_val (pe_callP o__law_alone (roomP hr (by decide)) List.mem_cons_self hz hf (by rfl) T.gl__law_alone (pa_cons (pv 4) (pa_cons pe_int pa_nil)))) pe_str pe_str))))
      (.cons ⟨by rfl, by decide, Or.inl T.ex_BadShape.g⟩ (fun a oe cls d pn hz hf => (pss_one (ps_ret (pe_ifExp (pt_val (pe_callP o__law_alone (roomP hr (by decide)) List.mem_cons_self hz hf (by rfl) T.gl__law_alone (pa_cons (pv 4) (pa_cons pe_int pa_nil)))) pe_str pe_str)))) .nil))))
      (pss_one (ps_ret pe_str))), ?_⟩
    have aB : OneOf K cs cs.C_BadBoxes false true false false false := ⟨T.ec_BadBoxes, T.is_BadBoxes_BadRow, T.is_BadBoxes_BadBoxes, T.is_BadBoxes_BadShape, T.is_BadBoxes_NoBox, T.is_BadBoxes_BadPlan, T.is_BadBoxes_LineError, T.iv_BadBoxes⟩
    have aR : OneOf K cs cs.C_BadRow true false false false false := ⟨T.ec_BadRow, T.is_BadRow_BadRow, T.is_BadRow_BadBoxes, T.is_BadRow_BadShape, T.is_BadRow_NoBox, T.is_BadRow_BadPlan, T.is_BadRow_LineError, T.iv_BadRow⟩
    have aS : OneOf K cs cs.C_BadShape false false true false false := ⟨T.ec_BadShape, T.is_BadShape_BadRow, T.is_BadShape_BadBoxes, T.is_BadShape_BadShape, T.is_BadShape_NoBox, T.is_BadShape_BadPlan, T.is_BadShape_LineError, T.iv_BadShape⟩
    have hty : ∀ v ∈ xs, Typ K H v := fun v hv => (A0.hi v hv).1
    obtain ⟨tr, _⟩ := A0.hu.dp (K := K)
    refine ⟨_, rfl, rfl, _, rfl, iteD (fun c => ?_) (fun c => ?_)⟩
    · have ew := V.int.inj c
      refine ⟨_, rfl, _, rfl, rp, bp, ys, os, xs, 9, rfl, SqL.of A0.hr, A0.hR.things, A0.hl2, SqL.of A0.hb, hty, A0.hl, by decide, fun rs bx _ _ hg hr H1 t1 _ _ _ _ s1 _ _ _ _ _ => ?_, fun hg H1 s1 => ?_, fun hg hr H1 s1 => ?_⟩
      · rw [due_n hg (.inr hr) (.inl (by omega))] at q
        exact q _ s1
      · rw [due_b hg] at q
        exact ⟨true, T.ex_BadBoxes.te, fun _ a na => ⟨_, rfl, _, rfl, rfl, 1, false, true, false, false, false, rfl, aB, rfl, rfl, fun H2 s2 => ⟨_, rfl, iteT (q _ (s1.trans s2))⟩⟩, fun z => nomatch z⟩
      · rw [due_r hg (by omega) hr] at q
        exact ⟨false, T.em_BadRow_BadBoxes, (by intro z; cases z), fun _ => ⟨true, T.ex_BadRow.te, fun _ a na => ⟨_, rfl, _, rfl, rfl, 0, true, false, false, false, false, rfl, aR, rfl, rfl, fun H2 s2 => ⟨_, rfl, iteT (q _ (s1.trans s2))⟩⟩, fun z => nomatch z⟩⟩
    have c' : way ≠ 0 := fun z => c (congrArg V.int z)
    refine ⟨_, rfl, rfl, _, rfl, iteD (fun c1 => ?_) (fun c1 => ?_)⟩
    · have ew := V.int.inj c1
      have ht := SqT.of (K := K) A0.ht
      refine ⟨_, rfl, _, rfl, t, _, _, _, rfl, rfl, ht, (by rfl), _, rfl, t, _, _, _, rfl, rfl, ht, (by rfl), _, rfl, t, _, _, _, rfl, rfl, ht, (by rfl), fun p dx hp hdx hne => ?_⟩
      have s7 := (Same.new (o := .own p) hdx).mut (p := p) (o := .ins cs.C_Near dx []) hp
      have hbey : ∀ {F' : List Addr} {H1 : Hp}, Bey [p] (upd (upd H dx (.own p)) p (.ins cs.C_Near dx [])) F' H1 → Same H H1 := fun {F' H1} hB => (hB H s7 (fun b hb => by
        simp only [List.mem_cons, List.not_mem_nil, or_false] at hb
        rw [hb]
        exact hp)).1
      refine ⟨p, dx, bp, xs, x, y, r, rfl, upd_same, SqL.of (s7 _ _ A0.hb), fun v hv => (hty v hv).same s7, A0.hl, A0.hx.same s7, A0.hy.same s7, tr.same s7, fun hg hs H1 F1 _ _ _ _ _ _ _ _ _ hB1 => ⟨rfl, ?_⟩, fun hg H1 s1 => ?_, fun hg hs H1 hB1 => ?_⟩
      · rw [due_n hg (.inl ew) (.inr hs)] at q
        exact q _ (hbey hB1)
      · rw [due_b hg] at q
        exact ⟨true, T.ex_BadBoxes.te, fun _ a na => ⟨_, rfl, _, rfl, rfl, 1, false, true, false, false, false, rfl, aB, rfl, rfl, fun H2 s2 => ⟨_, rfl, iteT (q _ ((s7.trans s1).trans s2))⟩⟩, fun z => nomatch z⟩
      · rw [due_s hg (.inl ew) (by omega) hs] at q
        exact ⟨false, T.em_BadShape_BadBoxes, (by intro z; cases z), fun _ => ⟨false, T.em_BadShape_BadRow, (by intro z; cases z), fun _ => ⟨true, T.ex_BadShape.te, fun _ a na => ⟨_, rfl, _, rfl, rfl, 2, false, false, true, false, false, rfl, aS, rfl, rfl, fun H2 s2 => ⟨_, rfl, iteT (q _ ((hbey hB1).trans s2))⟩⟩, fun z => nomatch z⟩⟩⟩
    have c2 : way ≠ 1 := fun z => c1 (congrArg V.int z)
    have ew : way = 2 := by rcases hw with z | z | z; exact absurd z c'; exact absurd z c2; exact z
    have ht := SqT.of (K := K) A0.ht
    refine ⟨_, rfl, _, rfl, _, rfl, t, _, _, _, rfl, rfl, ht, (by rfl), _, rfl, t, _, _, _, rfl, rfl, ht, (by rfl), _, rfl, t, _, _, _, rfl, rfl, ht, (by rfl), rp, bp, ys, os, xs, 9, x, y, r, rfl, SqL.of A0.hr, A0.hR.things, A0.hl2, SqL.of A0.hb, hty, A0.hl, by decide, A0.hx, A0.hy, tr, .inl (by decide), fun rs bx room width rule _ _ _ _ _ hs hg hr H1 t1 _ _ _ s1 _ _ _ _ => ?_, fun hg H1 s1 => ?_, fun hg hr H1 s1 => ?_, fun hg hr hs H1 s1 => ?_⟩
    · rw [due_n hg (.inr hr) (.inr hs)] at q
      exact q _ s1
    · rw [due_b hg] at q
      exact ⟨true, T.ex_BadBoxes.te, fun _ a na => ⟨_, rfl, _, rfl, rfl, 1, false, true, false, false, false, rfl, aB, rfl, rfl, fun H2 s2 => ⟨_, rfl, iteT (q _ (s1.trans s2))⟩⟩, fun z => nomatch z⟩
    · rw [due_r hg c2 hr] at q
      exact ⟨false, T.em_BadRow_BadBoxes, (by intro z; cases z), fun _ => ⟨true, T.ex_BadRow.te, fun _ a na => ⟨_, rfl, _, rfl, rfl, 0, true, false, false, false, false, rfl, aR, rfl, rfl, fun H2 s2 => ⟨_, rfl, iteT (q _ (s1.trans s2))⟩⟩, fun z => nomatch z⟩⟩
    · rw [due_s hg (.inr hr) (by omega) hs] at q
      exact ⟨false, T.em_BadShape_BadBoxes, (by intro z; cases z), fun _ => ⟨false, T.em_BadShape_BadRow, (by intro z; cases z), fun _ => ⟨true, T.ex_BadShape.te, fun _ a na => ⟨_, rfl, _, rfl, rfl, 2, false, false, true, false, false, rfl, aS, rfl, rfl, fun H2 s2 => ⟨_, rfl, iteT (q _ (s1.trans s2))⟩⟩, fun z => nomatch z⟩⟩⟩
/-! ### the law -/
def sp_law (K : PySem.W.Frag) (cs : Cs) : Sp := fun vs H Q _ => ∃ (a : Addr) (ns : List Int), vs = [.ref a] ∧ SqL K H a (ns.map V.int) ∧ ns.length ≤ 63 ∧ ∀ H', Q (.bl true) H'
theorem ok_law (T : Txt w K mg cs) (o__law_boxes_by : Ok P w K mg base CX0 2 cs.f__law_boxes_by cs.d__law_boxes_by ["_law_script"] (sp__law_boxes_by K cs)) (o__law_rows_by : Ok P w K mg base CX0 4 cs.f__law_rows_by cs.d__law_rows_by ["_law_script", "_law_size"] (sp__law_rows_by K cs)) (o__law_cell_at : Ok P w K mg base CX0 1 cs.f__law_cell_at cs.d__law_cell_at ["_law_script", "_law_k"] (sp__law_cell_at K cs)) (o__law_said : Ok P w K mg base CX0 8 cs.f__law_said cs.d__law_said ["_law_way", "_law_boxes", "_law_rows", "_law_shape"] (sp__law_said K cs)) (o__law_due : Ok P w K mg base CX0 4 cs.f__law_due cs.d__law_due ["_law_way", "_law_boxes", "_law_rows", "_law_shape"] (sp__law_due K cs)) : Ok P w K mg base CX0 9 cs.f_law cs.d_law ["_law_script"] (sp_law K cs) := by
  refine T.fn_law.ok sc_law (fun vs H Q E h => ?_) (fun cdv A outer s H vs Q E hr h => ?_)
  · obtain ⟨a, ns, rfl, _⟩ := h
    rfl
  · obtain ⟨a, ns, rfl, hS, hl, q⟩ := h
    have hu := hu_of hr
    refine ⟨_, (pss_cons (ps_set (i := 1) sc_law.nd rfl (Or.inl rfl) (pe_callO o__law_boxes_by (hr.mono (by decide)) (by rfl) T.gl__law_boxes_by pass0 (pa_cons (pv 0) pa_nil)))
      (pss_cons (ps_set (i := 2) sc_law.nd rfl (Or.inl rfl) (pe_callO o__law_rows_by (hr.mono (by decide)) (by rfl) T.gl__law_rows_by pass0 (pa_cons (pv 0) (pa_cons (pe_callB (call_max2 rfl) (by rfl) T.no_max (by decide +kernel) (pa_cons pe_int (pa_cons (pe_callB call_len_seq (by rfl) T.no_len PySem.boot_len (pa_cons (pv 1) pa_nil)) pa_nil))) pa_nil))))
      (pss_cons (ps_set (i := 3) sc_law.nd rfl (Or.inl rfl) (pe_callO o__law_cell_at (hr.mono (by decide)) (by rfl) T.gl__law_cell_at pass0 (pa_cons (pv 0) (pa_cons pe_int pa_nil))))
      (pss_cons (ps_set (i := 4) sc_law.nd rfl (Or.inl rfl) (pe_lst (pa_cons pe_int (pa_cons pe_int (pa_cons pe_int (pa_cons pe_int (pa_cons pe_int (pa_cons (pe_op op_sub pe_int pe_int) (pa_cons pe_int (pa_cons pe_int (pa_cons pe_bl (pa_cons pe_str (pa_cons pe_non (pa_cons (pe_lst (pa_cons pe_int pa_nil)) (pa_cons pe_int (pa_cons pe_int pa_nil))))))))))))))))
      (pss_cons (ps_set (i := 5) sc_law.nd rfl (Or.inl rfl) (pe_ix ix_list (pe_lst (pa_cons pe_str (pa_cons pe_str (pa_cons pe_str (pa_cons pe_str (pa_cons pe_non (pa_cons (pe_lst (pa_cons pe_str pa_nil)) (pa_cons pe_str (pa_cons pe_str pa_nil))))))))) (pe_op op_mod (pe_callO o__law_cell_at (hr.mono (by decide)) (by rfl) T.gl__law_cell_at pass0 (pa_cons (pv 0) (pa_cons pe_int pa_nil))) pe_int) (fun _ _ => rfl)))
      (pss_cons (ps_set (i := 6) sc_law.nd rfl (Or.inl rfl) (pe_tup (pa_cons (pe_ix ix_list (pv 4) (pe_op op_mod (pv 3) pe_int) (fun _ _ => rfl)) (pa_cons (pe_ix ix_list (pv 4) (pe_op op_mod (pe_op op_fdiv (pv 3) pe_int) pe_int) (fun _ _ => rfl)) (pa_cons (pv 5) pa_nil)))))
      (pss_cons (ps_set (i := 7) sc_law.nd rfl (Or.inl rfl) (pe_op op_mod (pe_callO o__law_cell_at (hr.mono (by decide)) (by rfl) T.gl__law_cell_at pass0 (pa_cons (pv 0) (pa_cons pe_int pa_nil))) pe_int))
      (pss_cons (ps_set (i := 8) sc_law.nd rfl (Or.inl rfl) (pe_callTy call_list_of (by rfl) T.no_list boot_list (pa_cons (pv 1) pa_nil)))
      (pss_cons (ps_set (i := 9) sc_law.nd rfl (Or.inl rfl) (pe_callTy call_list_of (by rfl) T.no_list boot_list (pa_cons (pv 2) pa_nil)))
      (pss_cons (ps_set (i := 10) sc_law.nd rfl (Or.inl rfl) (pe_callO o__law_said hr (by rfl) T.gl__law_said pass0 (pa_cons (pv 7) (pa_cons (pv 8) (pa_cons (pv 9) (pa_cons (pv 6) pa_nil))))))
      (pss_one (ps_ret (pe_and (pe_cmpR op_eq (pv 10) (pe_callO o__law_due (hr.mono (by decide)) (by rfl) T.gl__law_due pass0 (pa_cons (pv 7) (pa_cons (pv 1) (pa_cons (pv 2) (pa_cons (pv 6) pa_nil))))) (nomark _)) (pe_and (pe_cmpR (op_eqD hr.units) (pv 8) (pv 1) (nomark _)) (pe_one (pe_cmpR (op_eqD hr.units) (pv 9) (pv 2) (nomark _))))))))))))))))), ?_⟩
    -- boxes, rows
    refine ⟨_, rfl, a, ns, rfl, hS, fun H1 bp xs s1 hb hi hxl => ?_⟩
    refine ⟨_, rfl, _, rfl, bp, _, rfl, .inl (SqL.of hb), 1, (xs.length : Int), rfl, a, ns, _, rfl, s1.seq hS, hl, (by split <;> omega), (by split <;> omega), fun H2 rp ys os s2 hrp hR hol => ?_⟩
    have hyl := hR.len
    have sA := s1.trans s2
    have hb2 := s2 _ _ hb
    have hi2 : ∀ v ∈ xs, It K H2 v := fun v hv => (hi v hv).same s2
    -- last, sizes
    refine ⟨_, rfl, a, ns, 3, rfl, sA.seq hS, ?_⟩
    generalize cellOf ns 3 = last
    refine ⟨_, _, rfl, rfl, (by show 1 ≤ sizeLine; decide), fun l1 n1 => ⟨(by show 14 ≤ sizeLine; decide), fun l2 n2 => ?_⟩⟩
    have z1 : Same H2 (upd H2 l1 (.lst [.int 1])) := Same.new n1
    have hl1 : (upd H2 l1 (.lst [.int 1])) l1 = some (.lst [.int 1]) := upd_same
    have z2 : Same (upd H2 l1 (.lst [.int 1])) (upd (upd H2 l1 (.lst [.int 1])) l2 (.lst [.int 1, .int 200, .int 3, .int 200, .int 2, .int (0 - 1), .int 0, .int 201, .bl true, .str "2", .non, .ref l1, .int 200, .int 7])) := Same.new n2
    have hl1' := z2 _ _ hl1
    have hl2 : (upd (upd H2 l1 (.lst [.int 1])) l2 (.lst [.int 1, .int 200, .int 3, .int 200, .int 2, .int (0 - 1), .int 0, .int 201, .bl true, .str "2", .non, .ref l1, .int 200, .int 7])) l2 = some (.lst [.int 1, .int 200, .int 3, .int 200, .int 2, .int (0 - 1), .int 0, .int 201, .bl true, .str "2", .non, .ref l1, .int 200, .int 7]) := upd_same
    have s3 := z1.trans z2
    generalize upd (upd H2 l1 (.lst [.int 1])) l2 (.lst [.int 1, .int 200, .int 3, .int 200, .int 2, .int (0 - 1), .int 0, .int 201, .bl true, .str "2", .non, .ref l1, .int 200, .int 7]) = H3 at *
    have pick : ∀ c : Int, ∃ v, atI [V.int 1, .int 200, .int 3, .int 200, .int 2, .int (0 - 1), .int 0, .int 201, .bl true, .str "2", .non, .ref l1, .int 200, .int 7] (c % 14) = some v ∧ Typ K H3 v := fun c => by
      have : c % 14 = 0 ∨ c % 14 = 1 ∨ c % 14 = 2 ∨ c % 14 = 3 ∨ c % 14 = 4 ∨ c % 14 = 5 ∨ c % 14 = 6 ∨ c % 14 = 7 ∨ c % 14 = 8 ∨ c % 14 = 9 ∨ c % 14 = 10 ∨ c % 14 = 11 ∨ c % 14 = 12 ∨ c % 14 = 13 := by omega
      rcases this with e | e | e | e | e | e | e | e | e | e | e | e | e | e <;> rw [e]
      · exact ⟨_, rfl, typ_i _⟩
      · exact ⟨_, rfl, typ_i _⟩
      · exact ⟨_, rfl, typ_i _⟩
      · exact ⟨_, rfl, typ_i _⟩
      · exact ⟨_, rfl, typ_i _⟩
      · exact ⟨_, rfl, typ_i _⟩
      · exact ⟨_, rfl, typ_i _⟩
      · exact ⟨_, rfl, typ_i _⟩
      · exact ⟨_, rfl, typ_b _⟩
      · exact ⟨_, rfl, typ_s _⟩
      · exact ⟨_, rfl, typ_n⟩
      · exact ⟨_, rfl, typ_l hl1'⟩
      · exact ⟨_, rfl, typ_i _⟩
      · exact ⟨_, rfl, typ_i _⟩
    obtain ⟨x, hx, tx⟩ := pick last
    obtain ⟨y, hy, ty⟩ := pick (last / 14)
    -- the rule
    refine ⟨(by show 1 ≤ sizeLine; decide), fun l3 n3 => ⟨(by show 8 ≤ sizeLine; decide), fun l4 n4 => ?_⟩⟩
    have z3 : Same H3 (upd H3 l3 (.lst [.str "least"])) := Same.new n3
    have hl3 : (upd H3 l3 (.lst [.str "least"])) l3 = some (.lst [.str "least"]) := upd_same
    have z4 : Same (upd H3 l3 (.lst [.str "least"])) (upd (upd H3 l3 (.lst [.str "least"])) l4 (.lst [.str "least", .str "first", .str "last", .str "least", .non, .ref l3, .str "first", .str "least"])) := Same.new n4
    have hl3' := z4 _ _ hl3
    have hl4 : (upd (upd H3 l3 (.lst [.str "least"])) l4 (.lst [.str "least", .str "first", .str "last", .str "least", .non, .ref l3, .str "first", .str "least"])) l4 = some (.lst [.str "least", .str "first", .str "last", .str "least", .non, .ref l3, .str "first", .str "least"]) := upd_same
    have s4 := z3.trans z4
    generalize upd (upd H3 l3 (.lst [.str "least"])) l4 (.lst [.str "least", .str "first", .str "last", .str "least", .non, .ref l3, .str "first", .str "least"]) = H4 at *
    have s14 := (sA.trans s3).trans s4
    obtain ⟨r, hr0, hru⟩ : ∃ r, atI [V.str "least", .str "first", .str "last", .str "least", .non, .ref l3, .str "first", .str "least"] (cellOf ns 5 % 8) = some r ∧ RuleV H4 r := by
      have : cellOf ns 5 % 8 = 0 ∨ cellOf ns 5 % 8 = 1 ∨ cellOf ns 5 % 8 = 2 ∨ cellOf ns 5 % 8 = 3 ∨ cellOf ns 5 % 8 = 4 ∨ cellOf ns 5 % 8 = 5 ∨ cellOf ns 5 % 8 = 6 ∨ cellOf ns 5 % 8 = 7 := by omega
      rcases this with e | e | e | e | e | e | e | e <;> rw [e]
      · exact ⟨_, rfl, .inl ⟨_, rfl, by decide +kernel⟩⟩
      · exact ⟨_, rfl, .inl ⟨_, rfl, by decide +kernel⟩⟩
      · exact ⟨_, rfl, .inl ⟨_, rfl, by decide +kernel⟩⟩
      · exact ⟨_, rfl, .inl ⟨_, rfl, by decide +kernel⟩⟩
      · exact ⟨_, rfl, .inr (.inl rfl)⟩
      · exact ⟨_, rfl, .inr (.inr ⟨_, rfl, hl3'⟩)⟩
      · exact ⟨_, rfl, .inl ⟨_, rfl, by decide +kernel⟩⟩
      · exact ⟨_, rfl, .inl ⟨_, rfl, by decide +kernel⟩⟩
    refine ⟨_, rfl, a, ns, 5, rfl, s14.seq hS, _, _, rfl, rfl, (by show (0 : Int) < _; decide), l4, _, _, _, rfl, rfl, SqL.of hl4, hr0, ?_⟩
    -- the shape
    refine ⟨_, rfl, _, rfl, _, _, rfl, rfl, (by show (0 : Int) < _; decide), l2, _, _, _, rfl, rfl, SqL.of (s4 _ _ hl2), hx, _, rfl, _, rfl, _, _, rfl, rfl, ⟨by decide, by decide⟩, _, _, rfl, rfl, (by show (0 : Int) < _; decide), l2, _, _, _, rfl, rfl, SqL.of (s4 _ _ hl2), hy, _, rfl, (by show 3 ≤ sizeLine; decide), fun t nt => ?_⟩
    have z5 : Same H4 (upd H4 t (.tup [x, y, r])) := Same.new nt
    have ht : (upd H4 t (.tup [x, y, r])) t = some (.tup [x, y, r]) := upd_same
    generalize upd H4 t (.tup [x, y, r]) = H5 at *
    -- the way
    refine ⟨_, rfl, a, ns, 4, rfl, (s14.trans z5).seq hS, _, _, rfl, rfl, (by show (0 : Int) < _; decide), ?_⟩
    have hway : cellOf ns 4 % 3 = 0 ∨ cellOf ns 4 % 3 = 1 ∨ cellOf ns 4 % 3 = 2 := by omega
    -- given, program
    have s25 := (s3.trans s4).trans z5
    refine ⟨_, rfl, bp, _, rfl, .inl (SqL.of (s25 _ _ hb2)), fun gv ngv => ?_⟩
    have z6 : Same H5 (upd H5 gv (.lst xs)) := Same.new ngv
    have hgv : (upd H5 gv (.lst xs)) gv = some (.lst xs) := upd_same
    generalize upd H5 gv (.lst xs) = H6 at *
    refine ⟨_, rfl, rp, _, rfl, .inl (SqL.of ((s25.trans z6) _ _ hrp)), fun pg npg => ?_⟩
    have z7 : Same H6 (upd H6 pg (.lst ys)) := Same.new npg
    have hpg : (upd H6 pg (.lst ys)) pg = some (.lst ys) := upd_same
    generalize upd H6 pg (.lst ys) = H7 at *
    have s27 := (s25.trans z6).trans z7
    have s57 := z6.trans z7
    have AG : Asked K H7 gv pg t xs ys os x y r := ⟨z7 _ _ hgv, fun v hv => (hi2 v hv).same s27, by omega, hpg, hR.same s27, by omega, s57 _ _ ht, tx.same ((s4.trans z5).trans s57), ty.same ((s4.trans z5).trans s57), hru.same (z5.trans s57)⟩
    have AB : Asked K H7 bp rp t xs ys os x y r := ⟨s27 _ _ hb2, AG.hi, AG.hl, s27 _ _ hrp, AG.hR, AG.hl2, AG.ht, AG.hx, AG.hy, AG.hu⟩
    refine ⟨_, rfl, _, rfl, _, rfl, _, rfl, _, gv, pg, t, xs, ys, os, x, y, r, rfl, hway, AG, fun H8 s8 => ?_⟩
    refine ⟨_, rfl, _, rfl, _, rfl, _, rfl, _, rfl, _, bp, rp, t, xs, ys, os, x, y, r, rfl, AB.same s8, fun H9 s9 => ?_⟩
    refine ⟨rfl, _, rfl, iteD (fun _ => ?_) (fun z => absurd rfl z)⟩
    have s79 := s8.trans s9
    have A9 := AG.same s79
    have B9 := AB.same s79
    obtain ⟨ds, dh, hsh⟩ := its_dp A9.hi
    have hsl := sh_list hsh
    refine ⟨_, rfl, _, rfl, _, _, .lst (SqL.of A9.hb) dh, .lst (SqL.of B9.hb) dh, hsl.shaped (by decide), hsl.shaped (by decide), ?_⟩
    rw [eqv_self hsl]
    refine ⟨_, rfl, iteT ?_⟩
    obtain ⟨ds2, dh2, hsh2⟩ := rws_dp A9.hR
    have hsl2 := sh_list hsh2
    refine ⟨_, rfl, _, rfl, _, _, .lst (SqL.of A9.hr) dh2, .lst (SqL.of B9.hr) dh2, hsl2.shaped (by decide), hsl2.shaped (by decide), ?_⟩
    rw [eqv_self hsl2]
    exact q _
def spEnd (K : PySem.W.Frag) : Sp := fun vs H Q _ => ∃ (a : Addr) (ns : List Int), vs = [.ref a] ∧ SqL K H a (ns.map V.int) ∧ ns.length ≤ 63 ∧ ∀ H', Q (.bl true) H'
theorem spEnd_law {K : PySem.W.Frag} (cs : Cs) {vs : List V} {H : Hp} {Q : VK} {E : XK} (h : spEnd K vs H Q E) : sp_law K cs vs H Q E := h
end
theorem all_mk {l : PySem.W.OpenLaw} {w : World} {K : PySem.W.Frag} {h : Heap} {mg : Str → Option Value} {fa : Addr} (X : K.In h) (G : h.Ns mainGlobals mg) (hfa : mg "law" = some (.ref fa))
    {f_within f_part_fits f_fits f_checked f_checked_boxes f_Plain___init__ f_Plain_look f_Plain_put f_reckoned f_moved f_goes_on f_gone f_run f_need_shape f_Near___init__ f_Near_look f_Near_put f_Near_settle f_Near_touched f_Near_leave f_Near_write_back f_run_near f__law_cell_at f__law_whole f__law_boxes_by f__law_mixed f__law_edge f__law_marks f__law_thing_by f__law_fits f__law_rows_by f__law_good_boxes f__law_good_rows f__law_good_shape f__law_due f__law_alone f__law_said f_law a_PARTS a_RULES C_LineError C_BadRow C_BadBoxes C_BadShape C_NoBox C_BadPlan C_Plain C_Near : Addr}
    {od_within an_within od_part_fits an_part_fits od_fits an_fits od_checked an_checked od_checked_boxes an_checked_boxes od_Plain___init__ an_Plain___init__ od_Plain_look an_Plain_look od_Plain_put an_Plain_put od_reckoned an_reckoned od_moved an_moved od_goes_on an_goes_on od_gone an_gone od_run an_run od_need_shape an_need_shape od_Near___init__ an_Near___init__ od_Near_look an_Near_look od_Near_put an_Near_put od_Near_settle an_Near_settle od_Near_touched an_Near_touched od_Near_leave an_Near_leave od_Near_write_back an_Near_write_back od_run_near an_run_near od__law_cell_at an__law_cell_at od__law_whole an__law_whole od__law_boxes_by an__law_boxes_by od__law_mixed an__law_mixed od__law_edge an__law_edge od__law_marks an__law_marks od__law_thing_by an__law_thing_by od__law_fits an__law_fits od__law_rows_by an__law_rows_by od__law_good_boxes an__law_good_boxes od__law_good_rows an__law_good_rows od__law_good_shape an__law_good_shape od__law_due an__law_due od__law_alone an__law_alone od__law_said an__law_said od_law an_law : Option Addr} {sl_within sl_part_fits sl_fits sl_checked sl_checked_boxes sl_Plain___init__ sl_Plain_look sl_Plain_put sl_reckoned sl_moved sl_goes_on sl_gone sl_run sl_need_shape sl_Near___init__ sl_Near_look sl_Near_put sl_Near_settle sl_Near_touched sl_Near_leave sl_Near_write_back sl_run_near sl__law_cell_at sl__law_whole sl__law_boxes_by sl__law_mixed sl__law_edge sl__law_marks sl__law_thing_by sl__law_fits sl__law_rows_by sl__law_good_boxes sl__law_good_rows sl__law_good_shape sl__law_due sl__law_alone sl__law_said sl_law : Array (Option Value)} {oc_within kV_within dc_within pm_within cd_within ct_within oc_part_fits kV_part_fits dc_part_fits pm_part_fits cd_part_fits ct_part_fits oc_fits kV_fits dc_fits pm_fits cd_fits ct_fits oc_checked kV_checked dc_checked pm_checked cd_checked ct_checked oc_checked_boxes kV_checked_boxes dc_checked_boxes pm_checked_boxes cd_checked_boxes ct_checked_boxes oc_Plain___init__ kV_Plain___init__ dc_Plain___init__ pm_Plain___init__ cd_Plain___init__ ct_Plain___init__ oc_Plain_look kV_Plain_look dc_Plain_look pm_Plain_look cd_Plain_look ct_Plain_look oc_Plain_put kV_Plain_put dc_Plain_put pm_Plain_put cd_Plain_put ct_Plain_put oc_reckoned kV_reckoned dc_reckoned pm_reckoned cd_reckoned ct_reckoned oc_moved kV_moved dc_moved pm_moved cd_moved ct_moved oc_goes_on kV_goes_on dc_goes_on pm_goes_on cd_goes_on ct_goes_on oc_gone kV_gone dc_gone pm_gone cd_gone ct_gone oc_run kV_run dc_run pm_run cd_run ct_run oc_need_shape kV_need_shape dc_need_shape pm_need_shape cd_need_shape ct_need_shape oc_Near___init__ kV_Near___init__ dc_Near___init__ pm_Near___init__ cd_Near___init__ ct_Near___init__ oc_Near_look kV_Near_look dc_Near_look pm_Near_look cd_Near_look ct_Near_look oc_Near_put kV_Near_put dc_Near_put pm_Near_put cd_Near_put ct_Near_put oc_Near_settle kV_Near_settle dc_Near_settle pm_Near_settle cd_Near_settle ct_Near_settle oc_Near_touched kV_Near_touched dc_Near_touched pm_Near_touched cd_Near_touched ct_Near_touched oc_Near_leave kV_Near_leave dc_Near_leave pm_Near_leave cd_Near_leave ct_Near_leave oc_Near_write_back kV_Near_write_back dc_Near_write_back pm_Near_write_back cd_Near_write_back ct_Near_write_back oc_run_near kV_run_near dc_run_near pm_run_near cd_run_near ct_run_near oc__law_cell_at kV__law_cell_at dc__law_cell_at pm__law_cell_at cd__law_cell_at ct__law_cell_at oc__law_whole kV__law_whole dc__law_whole pm__law_whole cd__law_whole ct__law_whole oc__law_boxes_by kV__law_boxes_by dc__law_boxes_by pm__law_boxes_by cd__law_boxes_by ct__law_boxes_by oc__law_mixed kV__law_mixed dc__law_mixed pm__law_mixed cd__law_mixed ct__law_mixed oc__law_edge kV__law_edge dc__law_edge pm__law_edge cd__law_edge ct__law_edge oc__law_marks kV__law_marks dc__law_marks pm__law_marks cd__law_marks ct__law_marks oc__law_thing_by kV__law_thing_by dc__law_thing_by pm__law_thing_by cd__law_thing_by ct__law_thing_by oc__law_fits kV__law_fits dc__law_fits pm__law_fits cd__law_fits ct__law_fits oc__law_rows_by kV__law_rows_by dc__law_rows_by pm__law_rows_by cd__law_rows_by ct__law_rows_by oc__law_good_boxes kV__law_good_boxes dc__law_good_boxes pm__law_good_boxes cd__law_good_boxes ct__law_good_boxes oc__law_good_rows kV__law_good_rows dc__law_good_rows pm__law_good_rows cd__law_good_rows ct__law_good_rows oc__law_good_shape kV__law_good_shape dc__law_good_shape pm__law_good_shape cd__law_good_shape ct__law_good_shape oc__law_due kV__law_due dc__law_due pm__law_due cd__law_due ct__law_due oc__law_alone kV__law_alone dc__law_alone pm__law_alone cd__law_alone ct__law_alone oc__law_said kV__law_said dc__law_said pm__law_said cd__law_said ct__law_said oc_law kV_law dc_law pm_law cd_law ct_law : Value}
    {es_PARTS : Array DictEntry} {en_PARTS : Nat} {to_RULES : Option Addr} {ti_RULES : Array Value} {tn_RULES : Nat} {ts_RULES : Array (Option Value)}
    (a_within : PySem.W.nsIn K mainGlobals "within" = some (some (.ref f_within)))
    (l_within : K.lookup f_within = some ⟨oc_within, od_within, .func (PySem.W.fnOf "within" "within" (defArgs s_within) (defBody s_within) (defScope s_within) .none kV_within dc_within pm_within an_within cd_within ct_within), sl_within⟩)
    (c_within : PySem.W.codeIn K cd_within "within" = true)
    (k_within : PySem.W.keepIn K (.ref f_within) = true)
    (a_part_fits : PySem.W.nsIn K mainGlobals "part_fits" = some (some (.ref f_part_fits)))
    (l_part_fits : K.lookup f_part_fits = some ⟨oc_part_fits, od_part_fits, .func (PySem.W.fnOf "part_fits" "part_fits" (defArgs s_part_fits) (defBody s_part_fits) (defScope s_part_fits) .none kV_part_fits dc_part_fits pm_part_fits an_part_fits cd_part_fits ct_part_fits), sl_part_fits⟩)
    (c_part_fits : PySem.W.codeIn K cd_part_fits "part_fits" = true)
    (k_part_fits : PySem.W.keepIn K (.ref f_part_fits) = true)
    (a_fits : PySem.W.nsIn K mainGlobals "fits" = some (some (.ref f_fits)))
    (l_fits : K.lookup f_fits = some ⟨oc_fits, od_fits, .func (PySem.W.fnOf "fits" "fits" (defArgs s_fits) (defBody s_fits) (defScope s_fits) .none kV_fits dc_fits pm_fits an_fits cd_fits ct_fits), sl_fits⟩)
    (c_fits : PySem.W.codeIn K cd_fits "fits" = true)
    (k_fits : PySem.W.keepIn K (.ref f_fits) = true)
    (a_checked : PySem.W.nsIn K mainGlobals "checked" = some (some (.ref f_checked)))
    (l_checked : K.lookup f_checked = some ⟨oc_checked, od_checked, .func (PySem.W.fnOf "checked" "checked" (defArgs s_checked) (defBody s_checked) (defScope s_checked) .none kV_checked dc_checked pm_checked an_checked cd_checked ct_checked), sl_checked⟩)
    (c_checked : PySem.W.codeIn K cd_checked "checked" = true)
    (k_checked : PySem.W.keepIn K (.ref f_checked) = true)
    (a_checked_boxes : PySem.W.nsIn K mainGlobals "checked_boxes" = some (some (.ref f_checked_boxes)))
    (l_checked_boxes : K.lookup f_checked_boxes = some ⟨oc_checked_boxes, od_checked_boxes, .func (PySem.W.fnOf "checked_boxes" "checked_boxes" (defArgs s_checked_boxes) (defBody s_checked_boxes) (defScope s_checked_boxes) .none kV_checked_boxes dc_checked_boxes pm_checked_boxes an_checked_boxes cd_checked_boxes ct_checked_boxes), sl_checked_boxes⟩)
    (c_checked_boxes : PySem.W.codeIn K cd_checked_boxes "checked_boxes" = true)
    (k_checked_boxes : PySem.W.keepIn K (.ref f_checked_boxes) = true)
    (a_Plain___init__ : PySem.W.findIn K (.ref C_Plain) "__init__" = some (some (.ref f_Plain___init__)))
    (i_Plain___init__ : PySem.W.isFn K (.ref f_Plain___init__) = true)
    (l_Plain___init__ : K.lookup f_Plain___init__ = some ⟨oc_Plain___init__, od_Plain___init__, .func (PySem.W.fnOf "__init__" "Plain.__init__" (defArgs s_Plain___init__) (defBody s_Plain___init__) (defScope s_Plain___init__) .none kV_Plain___init__ dc_Plain___init__ pm_Plain___init__ an_Plain___init__ cd_Plain___init__ ct_Plain___init__), sl_Plain___init__⟩)
    (c_Plain___init__ : PySem.W.codeIn K cd_Plain___init__ "Plain.__init__" = true)
    (k_Plain___init__ : PySem.W.keepIn K (.ref f_Plain___init__) = true)
    (a_Plain_look : PySem.W.findIn K (.ref C_Plain) "look" = some (some (.ref f_Plain_look)))
    (i_Plain_look : PySem.W.isFn K (.ref f_Plain_look) = true)
    (l_Plain_look : K.lookup f_Plain_look = some ⟨oc_Plain_look, od_Plain_look, .func (PySem.W.fnOf "look" "Plain.look" (defArgs s_Plain_look) (defBody s_Plain_look) (defScope s_Plain_look) .none kV_Plain_look dc_Plain_look pm_Plain_look an_Plain_look cd_Plain_look ct_Plain_look), sl_Plain_look⟩)
    (c_Plain_look : PySem.W.codeIn K cd_Plain_look "Plain.look" = true)
    (k_Plain_look : PySem.W.keepIn K (.ref f_Plain_look) = true)
    (a_Plain_put : PySem.W.findIn K (.ref C_Plain) "put" = some (some (.ref f_Plain_put)))
    (i_Plain_put : PySem.W.isFn K (.ref f_Plain_put) = true)
    (l_Plain_put : K.lookup f_Plain_put = some ⟨oc_Plain_put, od_Plain_put, .func (PySem.W.fnOf "put" "Plain.put" (defArgs s_Plain_put) (defBody s_Plain_put) (defScope s_Plain_put) .none kV_Plain_put dc_Plain_put pm_Plain_put an_Plain_put cd_Plain_put ct_Plain_put), sl_Plain_put⟩)
    (c_Plain_put : PySem.W.codeIn K cd_Plain_put "Plain.put" = true)
    (k_Plain_put : PySem.W.keepIn K (.ref f_Plain_put) = true)
    (a_reckoned : PySem.W.nsIn K mainGlobals "reckoned" = some (some (.ref f_reckoned)))
    (l_reckoned : K.lookup f_reckoned = some ⟨oc_reckoned, od_reckoned, .func (PySem.W.fnOf "reckoned" "reckoned" (defArgs s_reckoned) (defBody s_reckoned) (defScope s_reckoned) .none kV_reckoned dc_reckoned pm_reckoned an_reckoned cd_reckoned ct_reckoned), sl_reckoned⟩)
    (c_reckoned : PySem.W.codeIn K cd_reckoned "reckoned" = true)
    (k_reckoned : PySem.W.keepIn K (.ref f_reckoned) = true)
    (a_moved : PySem.W.nsIn K mainGlobals "moved" = some (some (.ref f_moved)))
    (l_moved : K.lookup f_moved = some ⟨oc_moved, od_moved, .func (PySem.W.fnOf "moved" "moved" (defArgs s_moved) (defBody s_moved) (defScope s_moved) .none kV_moved dc_moved pm_moved an_moved cd_moved ct_moved), sl_moved⟩)
    (c_moved : PySem.W.codeIn K cd_moved "moved" = true)
    (k_moved : PySem.W.keepIn K (.ref f_moved) = true)
    (a_goes_on : PySem.W.nsIn K mainGlobals "goes_on" = some (some (.ref f_goes_on)))
    (l_goes_on : K.lookup f_goes_on = some ⟨oc_goes_on, od_goes_on, .func (PySem.W.fnOf "goes_on" "goes_on" (defArgs s_goes_on) (defBody s_goes_on) (defScope s_goes_on) .none kV_goes_on dc_goes_on pm_goes_on an_goes_on cd_goes_on ct_goes_on), sl_goes_on⟩)
    (c_goes_on : PySem.W.codeIn K cd_goes_on "goes_on" = true)
    (k_goes_on : PySem.W.keepIn K (.ref f_goes_on) = true)
    (a_gone : PySem.W.nsIn K mainGlobals "gone" = some (some (.ref f_gone)))
    (l_gone : K.lookup f_gone = some ⟨oc_gone, od_gone, .func (PySem.W.fnOf "gone" "gone" (defArgs s_gone) (defBody s_gone) (defScope s_gone) .none kV_gone dc_gone pm_gone an_gone cd_gone ct_gone), sl_gone⟩)
    (c_gone : PySem.W.codeIn K cd_gone "gone" = true)
    (k_gone : PySem.W.keepIn K (.ref f_gone) = true)
    (a_run : PySem.W.nsIn K mainGlobals "run" = some (some (.ref f_run)))
    (l_run : K.lookup f_run = some ⟨oc_run, od_run, .func (PySem.W.fnOf "run" "run" (defArgs s_run) (defBody s_run) (defScope s_run) .none kV_run dc_run pm_run an_run cd_run ct_run), sl_run⟩)
    (c_run : PySem.W.codeIn K cd_run "run" = true)
    (k_run : PySem.W.keepIn K (.ref f_run) = true)
    (a_need_shape : PySem.W.nsIn K mainGlobals "need_shape" = some (some (.ref f_need_shape)))
    (l_need_shape : K.lookup f_need_shape = some ⟨oc_need_shape, od_need_shape, .func (PySem.W.fnOf "need_shape" "need_shape" (defArgs s_need_shape) (defBody s_need_shape) (defScope s_need_shape) .none kV_need_shape dc_need_shape pm_need_shape an_need_shape cd_need_shape ct_need_shape), sl_need_shape⟩)
    (c_need_shape : PySem.W.codeIn K cd_need_shape "need_shape" = true)
    (k_need_shape : PySem.W.keepIn K (.ref f_need_shape) = true)
    (a_Near___init__ : PySem.W.findIn K (.ref C_Near) "__init__" = some (some (.ref f_Near___init__)))
    (i_Near___init__ : PySem.W.isFn K (.ref f_Near___init__) = true)
    (l_Near___init__ : K.lookup f_Near___init__ = some ⟨oc_Near___init__, od_Near___init__, .func (PySem.W.fnOf "__init__" "Near.__init__" (defArgs s_Near___init__) (defBody s_Near___init__) (defScope s_Near___init__) .none kV_Near___init__ dc_Near___init__ pm_Near___init__ an_Near___init__ cd_Near___init__ ct_Near___init__), sl_Near___init__⟩)
    (c_Near___init__ : PySem.W.codeIn K cd_Near___init__ "Near.__init__" = true)
    (k_Near___init__ : PySem.W.keepIn K (.ref f_Near___init__) = true)
    (a_Near_look : PySem.W.findIn K (.ref C_Near) "look" = some (some (.ref f_Near_look)))
    (i_Near_look : PySem.W.isFn K (.ref f_Near_look) = true)
    (l_Near_look : K.lookup f_Near_look = some ⟨oc_Near_look, od_Near_look, .func (PySem.W.fnOf "look" "Near.look" (defArgs s_Near_look) (defBody s_Near_look) (defScope s_Near_look) .none kV_Near_look dc_Near_look pm_Near_look an_Near_look cd_Near_look ct_Near_look), sl_Near_look⟩)
    (c_Near_look : PySem.W.codeIn K cd_Near_look "Near.look" = true)
    (k_Near_look : PySem.W.keepIn K (.ref f_Near_look) = true)
    (a_Near_put : PySem.W.findIn K (.ref C_Near) "put" = some (some (.ref f_Near_put)))
    (i_Near_put : PySem.W.isFn K (.ref f_Near_put) = true)
    (l_Near_put : K.lookup f_Near_put = some ⟨oc_Near_put, od_Near_put, .func (PySem.W.fnOf "put" "Near.put" (defArgs s_Near_put) (defBody s_Near_put) (defScope s_Near_put) .none kV_Near_put dc_Near_put pm_Near_put an_Near_put cd_Near_put ct_Near_put), sl_Near_put⟩)
    (c_Near_put : PySem.W.codeIn K cd_Near_put "Near.put" = true)
    (k_Near_put : PySem.W.keepIn K (.ref f_Near_put) = true)
    (a_Near_settle : PySem.W.findIn K (.ref C_Near) "settle" = some (some (.ref f_Near_settle)))
    (i_Near_settle : PySem.W.isFn K (.ref f_Near_settle) = true)
    (l_Near_settle : K.lookup f_Near_settle = some ⟨oc_Near_settle, od_Near_settle, .func (PySem.W.fnOf "settle" "Near.settle" (defArgs s_Near_settle) (defBody s_Near_settle) (defScope s_Near_settle) .none kV_Near_settle dc_Near_settle pm_Near_settle an_Near_settle cd_Near_settle ct_Near_settle), sl_Near_settle⟩)
    (c_Near_settle : PySem.W.codeIn K cd_Near_settle "Near.settle" = true)
    (k_Near_settle : PySem.W.keepIn K (.ref f_Near_settle) = true)
    (a_Near_touched : PySem.W.findIn K (.ref C_Near) "touched" = some (some (.ref f_Near_touched)))
    (i_Near_touched : PySem.W.isFn K (.ref f_Near_touched) = true)
    (l_Near_touched : K.lookup f_Near_touched = some ⟨oc_Near_touched, od_Near_touched, .func (PySem.W.fnOf "touched" "Near.touched" (defArgs s_Near_touched) (defBody s_Near_touched) (defScope s_Near_touched) .none kV_Near_touched dc_Near_touched pm_Near_touched an_Near_touched cd_Near_touched ct_Near_touched), sl_Near_touched⟩)
    (c_Near_touched : PySem.W.codeIn K cd_Near_touched "Near.touched" = true)
    (k_Near_touched : PySem.W.keepIn K (.ref f_Near_touched) = true)
    (a_Near_leave : PySem.W.findIn K (.ref C_Near) "leave" = some (some (.ref f_Near_leave)))
    (i_Near_leave : PySem.W.isFn K (.ref f_Near_leave) = true)
    (l_Near_leave : K.lookup f_Near_leave = some ⟨oc_Near_leave, od_Near_leave, .func (PySem.W.fnOf "leave" "Near.leave" (defArgs s_Near_leave) (defBody s_Near_leave) (defScope s_Near_leave) .none kV_Near_leave dc_Near_leave pm_Near_leave an_Near_leave cd_Near_leave ct_Near_leave), sl_Near_leave⟩)
    (c_Near_leave : PySem.W.codeIn K cd_Near_leave "Near.leave" = true)
    (k_Near_leave : PySem.W.keepIn K (.ref f_Near_leave) = true)
    (a_Near_write_back : PySem.W.findIn K (.ref C_Near) "write_back" = some (some (.ref f_Near_write_back)))
    (i_Near_write_back : PySem.W.isFn K (.ref f_Near_write_back) = true)
    (l_Near_write_back : K.lookup f_Near_write_back = some ⟨oc_Near_write_back, od_Near_write_back, .func (PySem.W.fnOf "write_back" "Near.write_back" (defArgs s_Near_write_back) (defBody s_Near_write_back) (defScope s_Near_write_back) .none kV_Near_write_back dc_Near_write_back pm_Near_write_back an_Near_write_back cd_Near_write_back ct_Near_write_back), sl_Near_write_back⟩)
    (c_Near_write_back : PySem.W.codeIn K cd_Near_write_back "Near.write_back" = true)
    (k_Near_write_back : PySem.W.keepIn K (.ref f_Near_write_back) = true)
    (a_run_near : PySem.W.nsIn K mainGlobals "run_near" = some (some (.ref f_run_near)))
    (l_run_near : K.lookup f_run_near = some ⟨oc_run_near, od_run_near, .func (PySem.W.fnOf "run_near" "run_near" (defArgs s_run_near) (defBody s_run_near) (defScope s_run_near) .none kV_run_near dc_run_near pm_run_near an_run_near cd_run_near ct_run_near), sl_run_near⟩)
    (c_run_near : PySem.W.codeIn K cd_run_near "run_near" = true)
    (k_run_near : PySem.W.keepIn K (.ref f_run_near) = true)
    (a__law_cell_at : PySem.W.nsIn K mainGlobals "_law_cell_at" = some (some (.ref f__law_cell_at)))
    (l__law_cell_at : K.lookup f__law_cell_at = some ⟨oc__law_cell_at, od__law_cell_at, .func (PySem.W.fnOf "_law_cell_at" "_law_cell_at" (defArgs s__law_cell_at) (defBody s__law_cell_at) (defScope s__law_cell_at) .none kV__law_cell_at dc__law_cell_at pm__law_cell_at an__law_cell_at cd__law_cell_at ct__law_cell_at), sl__law_cell_at⟩)
    (c__law_cell_at : PySem.W.codeIn K cd__law_cell_at "_law_cell_at" = true)
    (k__law_cell_at : PySem.W.keepIn K (.ref f__law_cell_at) = true)
    (a__law_whole : PySem.W.nsIn K mainGlobals "_law_whole" = some (some (.ref f__law_whole)))
    (l__law_whole : K.lookup f__law_whole = some ⟨oc__law_whole, od__law_whole, .func (PySem.W.fnOf "_law_whole" "_law_whole" (defArgs s__law_whole) (defBody s__law_whole) (defScope s__law_whole) .none kV__law_whole dc__law_whole pm__law_whole an__law_whole cd__law_whole ct__law_whole), sl__law_whole⟩)
    (c__law_whole : PySem.W.codeIn K cd__law_whole "_law_whole" = true)
    (k__law_whole : PySem.W.keepIn K (.ref f__law_whole) = true)
    (a__law_boxes_by : PySem.W.nsIn K mainGlobals "_law_boxes_by" = some (some (.ref f__law_boxes_by)))
    (l__law_boxes_by : K.lookup f__law_boxes_by = some ⟨oc__law_boxes_by, od__law_boxes_by, .func (PySem.W.fnOf "_law_boxes_by" "_law_boxes_by" (defArgs s__law_boxes_by) (defBody s__law_boxes_by) (defScope s__law_boxes_by) .none kV__law_boxes_by dc__law_boxes_by pm__law_boxes_by an__law_boxes_by cd__law_boxes_by ct__law_boxes_by), sl__law_boxes_by⟩)
    (c__law_boxes_by : PySem.W.codeIn K cd__law_boxes_by "_law_boxes_by" = true)
    (k__law_boxes_by : PySem.W.keepIn K (.ref f__law_boxes_by) = true)
    (a__law_mixed : PySem.W.nsIn K mainGlobals "_law_mixed" = some (some (.ref f__law_mixed)))
    (l__law_mixed : K.lookup f__law_mixed = some ⟨oc__law_mixed, od__law_mixed, .func (PySem.W.fnOf "_law_mixed" "_law_mixed" (defArgs s__law_mixed) (defBody s__law_mixed) (defScope s__law_mixed) .none kV__law_mixed dc__law_mixed pm__law_mixed an__law_mixed cd__law_mixed ct__law_mixed), sl__law_mixed⟩)
    (c__law_mixed : PySem.W.codeIn K cd__law_mixed "_law_mixed" = true)
    (k__law_mixed : PySem.W.keepIn K (.ref f__law_mixed) = true)
    (a__law_edge : PySem.W.nsIn K mainGlobals "_law_edge" = some (some (.ref f__law_edge)))
    (l__law_edge : K.lookup f__law_edge = some ⟨oc__law_edge, od__law_edge, .func (PySem.W.fnOf "_law_edge" "_law_edge" (defArgs s__law_edge) (defBody s__law_edge) (defScope s__law_edge) .none kV__law_edge dc__law_edge pm__law_edge an__law_edge cd__law_edge ct__law_edge), sl__law_edge⟩)
    (c__law_edge : PySem.W.codeIn K cd__law_edge "_law_edge" = true)
    (k__law_edge : PySem.W.keepIn K (.ref f__law_edge) = true)
    (a__law_marks : PySem.W.nsIn K mainGlobals "_law_marks" = some (some (.ref f__law_marks)))
    (l__law_marks : K.lookup f__law_marks = some ⟨oc__law_marks, od__law_marks, .func (PySem.W.fnOf "_law_marks" "_law_marks" (defArgs s__law_marks) (defBody s__law_marks) (defScope s__law_marks) .none kV__law_marks dc__law_marks pm__law_marks an__law_marks cd__law_marks ct__law_marks), sl__law_marks⟩)
    (c__law_marks : PySem.W.codeIn K cd__law_marks "_law_marks" = true)
    (k__law_marks : PySem.W.keepIn K (.ref f__law_marks) = true)
    (a__law_thing_by : PySem.W.nsIn K mainGlobals "_law_thing_by" = some (some (.ref f__law_thing_by)))
    (l__law_thing_by : K.lookup f__law_thing_by = some ⟨oc__law_thing_by, od__law_thing_by, .func (PySem.W.fnOf "_law_thing_by" "_law_thing_by" (defArgs s__law_thing_by) (defBody s__law_thing_by) (defScope s__law_thing_by) .none kV__law_thing_by dc__law_thing_by pm__law_thing_by an__law_thing_by cd__law_thing_by ct__law_thing_by), sl__law_thing_by⟩)
    (c__law_thing_by : PySem.W.codeIn K cd__law_thing_by "_law_thing_by" = true)
    (k__law_thing_by : PySem.W.keepIn K (.ref f__law_thing_by) = true)
    (a__law_fits : PySem.W.nsIn K mainGlobals "_law_fits" = some (some (.ref f__law_fits)))
    (l__law_fits : K.lookup f__law_fits = some ⟨oc__law_fits, od__law_fits, .func (PySem.W.fnOf "_law_fits" "_law_fits" (defArgs s__law_fits) (defBody s__law_fits) (defScope s__law_fits) .none kV__law_fits dc__law_fits pm__law_fits an__law_fits cd__law_fits ct__law_fits), sl__law_fits⟩)
    (c__law_fits : PySem.W.codeIn K cd__law_fits "_law_fits" = true)
    (k__law_fits : PySem.W.keepIn K (.ref f__law_fits) = true)
    (a__law_rows_by : PySem.W.nsIn K mainGlobals "_law_rows_by" = some (some (.ref f__law_rows_by)))
    (l__law_rows_by : K.lookup f__law_rows_by = some ⟨oc__law_rows_by, od__law_rows_by, .func (PySem.W.fnOf "_law_rows_by" "_law_rows_by" (defArgs s__law_rows_by) (defBody s__law_rows_by) (defScope s__law_rows_by) .none kV__law_rows_by dc__law_rows_by pm__law_rows_by an__law_rows_by cd__law_rows_by ct__law_rows_by), sl__law_rows_by⟩)
    (c__law_rows_by : PySem.W.codeIn K cd__law_rows_by "_law_rows_by" = true)
    (k__law_rows_by : PySem.W.keepIn K (.ref f__law_rows_by) = true)
    (a__law_good_boxes : PySem.W.nsIn K mainGlobals "_law_good_boxes" = some (some (.ref f__law_good_boxes)))
    (l__law_good_boxes : K.lookup f__law_good_boxes = some ⟨oc__law_good_boxes, od__law_good_boxes, .func (PySem.W.fnOf "_law_good_boxes" "_law_good_boxes" (defArgs s__law_good_boxes) (defBody s__law_good_boxes) (defScope s__law_good_boxes) .none kV__law_good_boxes dc__law_good_boxes pm__law_good_boxes an__law_good_boxes cd__law_good_boxes ct__law_good_boxes), sl__law_good_boxes⟩)
    (c__law_good_boxes : PySem.W.codeIn K cd__law_good_boxes "_law_good_boxes" = true)
    (k__law_good_boxes : PySem.W.keepIn K (.ref f__law_good_boxes) = true)
    (a__law_good_rows : PySem.W.nsIn K mainGlobals "_law_good_rows" = some (some (.ref f__law_good_rows)))
    (l__law_good_rows : K.lookup f__law_good_rows = some ⟨oc__law_good_rows, od__law_good_rows, .func (PySem.W.fnOf "_law_good_rows" "_law_good_rows" (defArgs s__law_good_rows) (defBody s__law_good_rows) (defScope s__law_good_rows) .none kV__law_good_rows dc__law_good_rows pm__law_good_rows an__law_good_rows cd__law_good_rows ct__law_good_rows), sl__law_good_rows⟩)
    (c__law_good_rows : PySem.W.codeIn K cd__law_good_rows "_law_good_rows" = true)
    (k__law_good_rows : PySem.W.keepIn K (.ref f__law_good_rows) = true)
    (a__law_good_shape : PySem.W.nsIn K mainGlobals "_law_good_shape" = some (some (.ref f__law_good_shape)))
    (l__law_good_shape : K.lookup f__law_good_shape = some ⟨oc__law_good_shape, od__law_good_shape, .func (PySem.W.fnOf "_law_good_shape" "_law_good_shape" (defArgs s__law_good_shape) (defBody s__law_good_shape) (defScope s__law_good_shape) .none kV__law_good_shape dc__law_good_shape pm__law_good_shape an__law_good_shape cd__law_good_shape ct__law_good_shape), sl__law_good_shape⟩)
    (c__law_good_shape : PySem.W.codeIn K cd__law_good_shape "_law_good_shape" = true)
    (k__law_good_shape : PySem.W.keepIn K (.ref f__law_good_shape) = true)
    (a__law_due : PySem.W.nsIn K mainGlobals "_law_due" = some (some (.ref f__law_due)))
    (l__law_due : K.lookup f__law_due = some ⟨oc__law_due, od__law_due, .func (PySem.W.fnOf "_law_due" "_law_due" (defArgs s__law_due) (defBody s__law_due) (defScope s__law_due) .none kV__law_due dc__law_due pm__law_due an__law_due cd__law_due ct__law_due), sl__law_due⟩)
    (c__law_due : PySem.W.codeIn K cd__law_due "_law_due" = true)
    (k__law_due : PySem.W.keepIn K (.ref f__law_due) = true)
    (a__law_alone : PySem.W.nsIn K mainGlobals "_law_alone" = some (some (.ref f__law_alone)))
    (l__law_alone : K.lookup f__law_alone = some ⟨oc__law_alone, od__law_alone, .func (PySem.W.fnOf "_law_alone" "_law_alone" (defArgs s__law_alone) (defBody s__law_alone) (defScope s__law_alone) .none kV__law_alone dc__law_alone pm__law_alone an__law_alone cd__law_alone ct__law_alone), sl__law_alone⟩)
    (c__law_alone : PySem.W.codeIn K cd__law_alone "_law_alone" = true)
    (k__law_alone : PySem.W.keepIn K (.ref f__law_alone) = true)
    (a__law_said : PySem.W.nsIn K mainGlobals "_law_said" = some (some (.ref f__law_said)))
    (l__law_said : K.lookup f__law_said = some ⟨oc__law_said, od__law_said, .func (PySem.W.fnOf "_law_said" "_law_said" (defArgs s__law_said) (defBody s__law_said) (defScope s__law_said) .none kV__law_said dc__law_said pm__law_said an__law_said cd__law_said ct__law_said), sl__law_said⟩)
    (c__law_said : PySem.W.codeIn K cd__law_said "_law_said" = true)
    (k__law_said : PySem.W.keepIn K (.ref f__law_said) = true)
    (a_law : PySem.W.nsIn K mainGlobals "law" = some (some (.ref f_law)))
    (l_law : K.lookup f_law = some ⟨oc_law, od_law, .func (PySem.W.fnOf "law" "law" (defArgs s_law) (defBody s_law) (defScope s_law) .none kV_law dc_law pm_law an_law cd_law ct_law), sl_law⟩)
    (c_law : PySem.W.codeIn K cd_law "law" = true)
    (k_law : PySem.W.keepIn K (.ref f_law) = true)
    (z_isinstance : PySem.W.nsIn K mainGlobals "isinstance" = some none)
    (z_int : PySem.W.nsIn K mainGlobals "int" = some none)
    (z_bool : PySem.W.nsIn K mainGlobals "bool" = some none)
    (z_tuple : PySem.W.nsIn K mainGlobals "tuple" = some none)
    (z_len : PySem.W.nsIn K mainGlobals "len" = some none)
    (z_str : PySem.W.nsIn K mainGlobals "str" = some none)
    (z_range : PySem.W.nsIn K mainGlobals "range" = some none)
    (z_list : PySem.W.nsIn K mainGlobals "list" = some none)
    (z_sorted : PySem.W.nsIn K mainGlobals "sorted" = some none)
    (z_ValueError : PySem.W.nsIn K mainGlobals "ValueError" = some none)
    (z_max : PySem.W.nsIn K mainGlobals "max" = some none)
    (v_GREATEST : ∃ t, PySem.W.nsIn K mainGlobals "GREATEST" = some (some (.int 999999 t)))
    (v_MOST : ∃ t, PySem.W.nsIn K mainGlobals "MOST" = some (some (.int 200 t)))
    (v_PARTS : PySem.W.nsIn K mainGlobals "PARTS" = some (some (.ref a_PARTS)))
    (vl_PARTS : K.lookup a_PARTS = some ⟨.type "dict", none, .dict es_PARTS en_PARTS, #[]⟩)
    (vk_PARTS : PySem.W.KeysLit w.params es_PARTS.toList)
    (vs_PARTS : (a_PARTS == sysModules) = false)
    (vf_PARTS : ∀ z, ∃ o, findBy Value.isStrOf es_PARTS z = o ∧ RelO ((partsM z).map V.str) o)
    (v_MODULUS : ∃ t, PySem.W.nsIn K mainGlobals "MODULUS" = some (some (.int 1000000 t)))
    (v_WIDEST : ∃ t, PySem.W.nsIn K mainGlobals "WIDEST" = some (some (.int 200 t)))
    (v_RULES : PySem.W.nsIn K mainGlobals "RULES" = some (some (.ref a_RULES)))
    (tl_RULES : K.lookup a_RULES = some ⟨.type "tuple", to_RULES, .seq ti_RULES tn_RULES, ts_RULES⟩)
    (tz_RULES : ti_RULES.size ≤ sizeLine)
    (tv_RULES : Vals [V.str "least", V.str "first"] ti_RULES.toList)
    (g_LineError : PySem.W.nsIn K mainGlobals "LineError" = some (some (.ref C_LineError)))
    (xx_LineError : PySem.W.excIn K C_LineError [.type "ValueError", .type "Exception", .type "BaseException", .type "object"] "ValueError.__new__" = true)
    (xk_LineError : PySem.W.keepIn K (.ref C_LineError) = true)
    (xb_LineError : PySem.W.subIn K (.ref C_LineError) (.type "BaseException") = some true)
    (xt_LineError : PySem.W.typeIn K (.ref C_LineError) = some (.type "type"))
    (xi_LineError : PySem.W.isClsIn K C_LineError = true)
    (xs_LineError : PySem.W.subIn K (.ref C_LineError) (.ref C_LineError) = some true)
    (g_BadRow : PySem.W.nsIn K mainGlobals "BadRow" = some (some (.ref C_BadRow)))
    (xx_BadRow : PySem.W.excIn K C_BadRow [.type "ValueError", .type "Exception", .type "BaseException", .type "object"] "ValueError.__new__" = true)
    (xk_BadRow : PySem.W.keepIn K (.ref C_BadRow) = true)
    (xb_BadRow : PySem.W.subIn K (.ref C_BadRow) (.type "BaseException") = some true)
    (xt_BadRow : PySem.W.typeIn K (.ref C_BadRow) = some (.type "type"))
    (xi_BadRow : PySem.W.isClsIn K C_BadRow = true)
    (xs_BadRow : PySem.W.subIn K (.ref C_BadRow) (.ref C_BadRow) = some true)
    (g_BadBoxes : PySem.W.nsIn K mainGlobals "BadBoxes" = some (some (.ref C_BadBoxes)))
    (xx_BadBoxes : PySem.W.excIn K C_BadBoxes [.type "ValueError", .type "Exception", .type "BaseException", .type "object"] "ValueError.__new__" = true)
    (xk_BadBoxes : PySem.W.keepIn K (.ref C_BadBoxes) = true)
    (xb_BadBoxes : PySem.W.subIn K (.ref C_BadBoxes) (.type "BaseException") = some true)
    (xt_BadBoxes : PySem.W.typeIn K (.ref C_BadBoxes) = some (.type "type"))
    (xi_BadBoxes : PySem.W.isClsIn K C_BadBoxes = true)
    (xs_BadBoxes : PySem.W.subIn K (.ref C_BadBoxes) (.ref C_BadBoxes) = some true)
    (g_BadShape : PySem.W.nsIn K mainGlobals "BadShape" = some (some (.ref C_BadShape)))
    (xx_BadShape : PySem.W.excIn K C_BadShape [.type "ValueError", .type "Exception", .type "BaseException", .type "object"] "ValueError.__new__" = true)
    (xk_BadShape : PySem.W.keepIn K (.ref C_BadShape) = true)
    (xb_BadShape : PySem.W.subIn K (.ref C_BadShape) (.type "BaseException") = some true)
    (xt_BadShape : PySem.W.typeIn K (.ref C_BadShape) = some (.type "type"))
    (xi_BadShape : PySem.W.isClsIn K C_BadShape = true)
    (xs_BadShape : PySem.W.subIn K (.ref C_BadShape) (.ref C_BadShape) = some true)
    (g_NoBox : PySem.W.nsIn K mainGlobals "NoBox" = some (some (.ref C_NoBox)))
    (xx_NoBox : PySem.W.excIn K C_NoBox [.type "ValueError", .type "Exception", .type "BaseException", .type "object"] "ValueError.__new__" = true)
    (xk_NoBox : PySem.W.keepIn K (.ref C_NoBox) = true)
    (xb_NoBox : PySem.W.subIn K (.ref C_NoBox) (.type "BaseException") = some true)
    (xt_NoBox : PySem.W.typeIn K (.ref C_NoBox) = some (.type "type"))
    (xi_NoBox : PySem.W.isClsIn K C_NoBox = true)
    (xs_NoBox : PySem.W.subIn K (.ref C_NoBox) (.ref C_NoBox) = some true)
    (g_BadPlan : PySem.W.nsIn K mainGlobals "BadPlan" = some (some (.ref C_BadPlan)))
    (xx_BadPlan : PySem.W.excIn K C_BadPlan [.type "ValueError", .type "Exception", .type "BaseException", .type "object"] "ValueError.__new__" = true)
    (xk_BadPlan : PySem.W.keepIn K (.ref C_BadPlan) = true)
    (xb_BadPlan : PySem.W.subIn K (.ref C_BadPlan) (.type "BaseException") = some true)
    (xt_BadPlan : PySem.W.typeIn K (.ref C_BadPlan) = some (.type "type"))
    (xi_BadPlan : PySem.W.isClsIn K C_BadPlan = true)
    (xs_BadPlan : PySem.W.subIn K (.ref C_BadPlan) (.ref C_BadPlan) = some true)
    (g_Plain : PySem.W.nsIn K mainGlobals "Plain" = some (some (.ref C_Plain)))
    (ng_Plain : PySem.W.plainGet K C_Plain Str.empty = true)
    (nh_Plain : PySem.W.hasDictIn K C_Plain = true)
    (no_Plain : PySem.W.plainOver K C_Plain = true)
    (ns_Plain : PySem.W.findIn K (.ref C_Plain) "__setattr__" = some (some (.builtin "object.__setattr__")))
    (nm_Plain : PySem.W.makesIn K C_Plain = true)
    (nk_Plain : PySem.W.keepIn K (.ref C_Plain) = true)
    (na_Plain_boxes : PySem.W.findIn K (.ref C_Plain) "boxes" = some none)
    (na_Plain_touches : PySem.W.findIn K (.ref C_Plain) "touches" = some none)
    (g_Near : PySem.W.nsIn K mainGlobals "Near" = some (some (.ref C_Near)))
    (ng_Near : PySem.W.plainGet K C_Near Str.empty = true)
    (nh_Near : PySem.W.hasDictIn K C_Near = true)
    (no_Near : PySem.W.plainOver K C_Near = true)
    (ns_Near : PySem.W.findIn K (.ref C_Near) "__setattr__" = some (some (.builtin "object.__setattr__")))
    (nm_Near : PySem.W.makesIn K C_Near = true)
    (nk_Near : PySem.W.keepIn K (.ref C_Near) = true)
    (na_Near_far : PySem.W.findIn K (.ref C_Near) "far" = some none)
    (na_Near_room : PySem.W.findIn K (.ref C_Near) "room" = some none)
    (na_Near_width : PySem.W.findIn K (.ref C_Near) "width" = some none)
    (na_Near_rule : PySem.W.findIn K (.ref C_Near) "rule" = some none)
    (na_Near_order : PySem.W.findIn K (.ref C_Near) "order" = some none)
    (na_Near_near : PySem.W.findIn K (.ref C_Near) "near" = some none)
    (na_Near_written : PySem.W.findIn K (.ref C_Near) "written" = some none)
    (na_Near_found : PySem.W.findIn K (.ref C_Near) "found" = some none)
    (na_Near_missed : PySem.W.findIn K (.ref C_Near) "missed" = some none)
    (na_Near_back : PySem.W.findIn K (.ref C_Near) "back" = some none)
    (ehg_BadRow : PySem.W.findIn K (.ref C_BadRow) "__getattribute__" = some (some (.builtin "BaseException.__getattribute__")))
    (ehk_BadRow : PySem.W.findIn K (.ref C_BadRow) "__getattr__" = some none)
    (ehd_BadRow : PySem.W.hasDictIn K C_BadRow = true)
    (eha_BadRow : PySem.W.findIn K (.ref C_BadRow) "__class__" = some (some (.builtin "object.__class__")))
    (ehm_BadRow : PySem.W.mroIn K C_BadRow (.type "object") = some true)
    (e_hn : PySem.W.specialIn K (.builtin "object.__class__") "__get__" = some (some (.builtin "getset_descriptor.__get__")))
    (e_ht : PySem.W.takesIn K (.builtin "object.__class__") = some true)
    (u_BadRow_LineError : PySem.W.subIn K (.ref C_BadRow) (.ref C_LineError) = some true)
    (u_BadRow_BadRow : PySem.W.subIn K (.ref C_BadRow) (.ref C_BadRow) = some true)
    (u_BadRow_BadBoxes : PySem.W.subIn K (.ref C_BadRow) (.ref C_BadBoxes) = some false)
    (u_BadRow_BadShape : PySem.W.subIn K (.ref C_BadRow) (.ref C_BadShape) = some false)
    (u_BadRow_NoBox : PySem.W.subIn K (.ref C_BadRow) (.ref C_NoBox) = some false)
    (u_BadRow_BadPlan : PySem.W.subIn K (.ref C_BadRow) (.ref C_BadPlan) = some false)
    (uv_BadRow : PySem.W.subIn K (.ref C_BadRow) (.type "ValueError") = some true)
    (ehg_BadBoxes : PySem.W.findIn K (.ref C_BadBoxes) "__getattribute__" = some (some (.builtin "BaseException.__getattribute__")))
    (ehk_BadBoxes : PySem.W.findIn K (.ref C_BadBoxes) "__getattr__" = some none)
    (ehd_BadBoxes : PySem.W.hasDictIn K C_BadBoxes = true)
    (eha_BadBoxes : PySem.W.findIn K (.ref C_BadBoxes) "__class__" = some (some (.builtin "object.__class__")))
    (ehm_BadBoxes : PySem.W.mroIn K C_BadBoxes (.type "object") = some true)
    (u_BadBoxes_LineError : PySem.W.subIn K (.ref C_BadBoxes) (.ref C_LineError) = some true)
    (u_BadBoxes_BadRow : PySem.W.subIn K (.ref C_BadBoxes) (.ref C_BadRow) = some false)
    (u_BadBoxes_BadBoxes : PySem.W.subIn K (.ref C_BadBoxes) (.ref C_BadBoxes) = some true)
    (u_BadBoxes_BadShape : PySem.W.subIn K (.ref C_BadBoxes) (.ref C_BadShape) = some false)
    (u_BadBoxes_NoBox : PySem.W.subIn K (.ref C_BadBoxes) (.ref C_NoBox) = some false)
    (u_BadBoxes_BadPlan : PySem.W.subIn K (.ref C_BadBoxes) (.ref C_BadPlan) = some false)
    (uv_BadBoxes : PySem.W.subIn K (.ref C_BadBoxes) (.type "ValueError") = some true)
    (ehg_BadShape : PySem.W.findIn K (.ref C_BadShape) "__getattribute__" = some (some (.builtin "BaseException.__getattribute__")))
    (ehk_BadShape : PySem.W.findIn K (.ref C_BadShape) "__getattr__" = some none)
    (ehd_BadShape : PySem.W.hasDictIn K C_BadShape = true)
    (eha_BadShape : PySem.W.findIn K (.ref C_BadShape) "__class__" = some (some (.builtin "object.__class__")))
    (ehm_BadShape : PySem.W.mroIn K C_BadShape (.type "object") = some true)
    (u_BadShape_LineError : PySem.W.subIn K (.ref C_BadShape) (.ref C_LineError) = some true)
    (u_BadShape_BadRow : PySem.W.subIn K (.ref C_BadShape) (.ref C_BadRow) = some false)
    (u_BadShape_BadBoxes : PySem.W.subIn K (.ref C_BadShape) (.ref C_BadBoxes) = some false)
    (u_BadShape_BadShape : PySem.W.subIn K (.ref C_BadShape) (.ref C_BadShape) = some true)
    (u_BadShape_NoBox : PySem.W.subIn K (.ref C_BadShape) (.ref C_NoBox) = some false)
    (u_BadShape_BadPlan : PySem.W.subIn K (.ref C_BadShape) (.ref C_BadPlan) = some false)
    (uv_BadShape : PySem.W.subIn K (.ref C_BadShape) (.type "ValueError") = some true)
    : ∃ (cs : Cs) (fd : FuncData), (∀ (s : Shared) (v : Value), BindsTo s fd ⟨[v], []⟩ [("_law_script", v)]) ∧ ∀ base : Heap, K.In base → base.Ns mainGlobals mg → FnOk l.prog w K mg base CX0 9 fa fd ["_law_script"] (sp_law K cs) := by
  have e : f_law = fa := Value.ref.inj (Option.some.inj ((PySem.W.mg_of X G a_law).symm.trans hfa))
  obtain ⟨cs, hcs⟩ : ∃ cs : Cs, cs = { f_within := f_within, d_within := (PySem.W.fnOf "within" "within" (defArgs s_within) (defBody s_within) (defScope s_within) .none kV_within dc_within pm_within an_within cd_within ct_within), f_part_fits := f_part_fits, d_part_fits := (PySem.W.fnOf "part_fits" "part_fits" (defArgs s_part_fits) (defBody s_part_fits) (defScope s_part_fits) .none kV_part_fits dc_part_fits pm_part_fits an_part_fits cd_part_fits ct_part_fits), f_fits := f_fits, d_fits := (PySem.W.fnOf "fits" "fits" (defArgs s_fits) (defBody s_fits) (defScope s_fits) .none kV_fits dc_fits pm_fits an_fits cd_fits ct_fits), f_checked := f_checked, d_checked := (PySem.W.fnOf "checked" "checked" (defArgs s_checked) (defBody s_checked) (defScope s_checked) .none kV_checked dc_checked pm_checked an_checked cd_checked ct_checked), f_checked_boxes := f_checked_boxes, d_checked_boxes := (PySem.W.fnOf "checked_boxes" "checked_boxes" (defArgs s_checked_boxes) (defBody s_checked_boxes) (defScope s_checked_boxes) .none kV_checked_boxes dc_checked_boxes pm_checked_boxes an_checked_boxes cd_checked_boxes ct_checked_boxes), f_Plain___init__ := f_Plain___init__, d_Plain___init__ := (PySem.W.fnOf "__init__" "Plain.__init__" (defArgs s_Plain___init__) (defBody s_Plain___init__) (defScope s_Plain___init__) .none kV_Plain___init__ dc_Plain___init__ pm_Plain___init__ an_Plain___init__ cd_Plain___init__ ct_Plain___init__), f_Plain_look := f_Plain_look, d_Plain_look := (PySem.W.fnOf "look" "Plain.look" (defArgs s_Plain_look) (defBody s_Plain_look) (defScope s_Plain_look) .none kV_Plain_look dc_Plain_look pm_Plain_look an_Plain_look cd_Plain_look ct_Plain_look), f_Plain_put := f_Plain_put, d_Plain_put := (PySem.W.fnOf "put" "Plain.put" (defArgs s_Plain_put) (defBody s_Plain_put) (defScope s_Plain_put) .none kV_Plain_put dc_Plain_put pm_Plain_put an_Plain_put cd_Plain_put ct_Plain_put), f_reckoned := f_reckoned, d_reckoned := (PySem.W.fnOf "reckoned" "reckoned" (defArgs s_reckoned) (defBody s_reckoned) (defScope s_reckoned) .none kV_reckoned dc_reckoned pm_reckoned an_reckoned cd_reckoned ct_reckoned), f_moved := f_moved, d_moved := (PySem.W.fnOf "moved" "moved" (defArgs s_moved) (defBody s_moved) (defScope s_moved) .none kV_moved dc_moved pm_moved an_moved cd_moved ct_moved), f_goes_on := f_goes_on, d_goes_on := (PySem.W.fnOf "goes_on" "goes_on" (defArgs s_goes_on) (defBody s_goes_on) (defScope s_goes_on) .none kV_goes_on dc_goes_on pm_goes_on an_goes_on cd_goes_on ct_goes_on), f_gone := f_gone, d_gone := (PySem.W.fnOf "gone" "gone" (defArgs s_gone) (defBody s_gone) (defScope s_gone) .none kV_gone dc_gone pm_gone an_gone cd_gone ct_gone), f_run := f_run, d_run := (PySem.W.fnOf "run" "run" (defArgs s_run) (defBody s_run) (defScope s_run) .none kV_run dc_run pm_run an_run cd_run ct_run), f_need_shape := f_need_shape, d_need_shape := (PySem.W.fnOf "need_shape" "need_shape" (defArgs s_need_shape) (defBody s_need_shape) (defScope s_need_shape) .none kV_need_shape dc_need_shape pm_need_shape an_need_shape cd_need_shape ct_need_shape), f_Near___init__ := f_Near___init__, d_Near___init__ := (PySem.W.fnOf "__init__" "Near.__init__" (defArgs s_Near___init__) (defBody s_Near___init__) (defScope s_Near___init__) .none kV_Near___init__ dc_Near___init__ pm_Near___init__ an_Near___init__ cd_Near___init__ ct_Near___init__), f_Near_look := f_Near_look, d_Near_look := (PySem.W.fnOf "look" "Near.look" (defArgs s_Near_look) (defBody s_Near_look) (defScope s_Near_look) .none kV_Near_look dc_Near_look pm_Near_look an_Near_look cd_Near_look ct_Near_look), f_Near_put := f_Near_put, d_Near_put := (PySem.W.fnOf "put" "Near.put" (defArgs s_Near_put) (defBody s_Near_put) (defScope s_Near_put) .none kV_Near_put dc_Near_put pm_Near_put an_Near_put cd_Near_put ct_Near_put), f_Near_settle := f_Near_settle, d_Near_settle := (PySem.W.fnOf "settle" "Near.settle" (defArgs s_Near_settle) (defBody s_Near_settle) (defScope s_Near_settle) .none kV_Near_settle dc_Near_settle pm_Near_settle an_Near_settle cd_Near_settle ct_Near_settle), f_Near_touched := f_Near_touched, d_Near_touched := (PySem.W.fnOf "touched" "Near.touched" (defArgs s_Near_touched) (defBody s_Near_touched) (defScope s_Near_touched) .none kV_Near_touched dc_Near_touched pm_Near_touched an_Near_touched cd_Near_touched ct_Near_touched), f_Near_leave := f_Near_leave, d_Near_leave := (PySem.W.fnOf "leave" "Near.leave" (defArgs s_Near_leave) (defBody s_Near_leave) (defScope s_Near_leave) .none kV_Near_leave dc_Near_leave pm_Near_leave an_Near_leave cd_Near_leave ct_Near_leave), f_Near_write_back := f_Near_write_back, d_Near_write_back := (PySem.W.fnOf "write_back" "Near.write_back" (defArgs s_Near_write_back) (defBody s_Near_write_back) (defScope s_Near_write_back) .none kV_Near_write_back dc_Near_write_back pm_Near_write_back an_Near_write_back cd_Near_write_back ct_Near_write_back), f_run_near := f_run_near, d_run_near := (PySem.W.fnOf "run_near" "run_near" (defArgs s_run_near) (defBody s_run_near) (defScope s_run_near) .none kV_run_near dc_run_near pm_run_near an_run_near cd_run_near ct_run_near), f__law_cell_at := f__law_cell_at, d__law_cell_at := (PySem.W.fnOf "_law_cell_at" "_law_cell_at" (defArgs s__law_cell_at) (defBody s__law_cell_at) (defScope s__law_cell_at) .none kV__law_cell_at dc__law_cell_at pm__law_cell_at an__law_cell_at cd__law_cell_at ct__law_cell_at), f__law_whole := f__law_whole, d__law_whole := (PySem.W.fnOf "_law_whole" "_law_whole" (defArgs s__law_whole) (defBody s__law_whole) (defScope s__law_whole) .none kV__law_whole dc__law_whole pm__law_whole an__law_whole cd__law_whole ct__law_whole), f__law_boxes_by := f__law_boxes_by, d__law_boxes_by := (PySem.W.fnOf "_law_boxes_by" "_law_boxes_by" (defArgs s__law_boxes_by) (defBody s__law_boxes_by) (defScope s__law_boxes_by) .none kV__law_boxes_by dc__law_boxes_by pm__law_boxes_by an__law_boxes_by cd__law_boxes_by ct__law_boxes_by), f__law_mixed := f__law_mixed, d__law_mixed := (PySem.W.fnOf "_law_mixed" "_law_mixed" (defArgs s__law_mixed) (defBody s__law_mixed) (defScope s__law_mixed) .none kV__law_mixed dc__law_mixed pm__law_mixed an__law_mixed cd__law_mixed ct__law_mixed), f__law_edge := f__law_edge, d__law_edge := (PySem.W.fnOf "_law_edge" "_law_edge" (defArgs s__law_edge) (defBody s__law_edge) (defScope s__law_edge) .none kV__law_edge dc__law_edge pm__law_edge an__law_edge cd__law_edge ct__law_edge), f__law_marks := f__law_marks, d__law_marks := (PySem.W.fnOf "_law_marks" "_law_marks" (defArgs s__law_marks) (defBody s__law_marks) (defScope s__law_marks) .none kV__law_marks dc__law_marks pm__law_marks an__law_marks cd__law_marks ct__law_marks), f__law_thing_by := f__law_thing_by, d__law_thing_by := (PySem.W.fnOf "_law_thing_by" "_law_thing_by" (defArgs s__law_thing_by) (defBody s__law_thing_by) (defScope s__law_thing_by) .none kV__law_thing_by dc__law_thing_by pm__law_thing_by an__law_thing_by cd__law_thing_by ct__law_thing_by), f__law_fits := f__law_fits, d__law_fits := (PySem.W.fnOf "_law_fits" "_law_fits" (defArgs s__law_fits) (defBody s__law_fits) (defScope s__law_fits) .none kV__law_fits dc__law_fits pm__law_fits an__law_fits cd__law_fits ct__law_fits), f__law_rows_by := f__law_rows_by, d__law_rows_by := (PySem.W.fnOf "_law_rows_by" "_law_rows_by" (defArgs s__law_rows_by) (defBody s__law_rows_by) (defScope s__law_rows_by) .none kV__law_rows_by dc__law_rows_by pm__law_rows_by an__law_rows_by cd__law_rows_by ct__law_rows_by), f__law_good_boxes := f__law_good_boxes, d__law_good_boxes := (PySem.W.fnOf "_law_good_boxes" "_law_good_boxes" (defArgs s__law_good_boxes) (defBody s__law_good_boxes) (defScope s__law_good_boxes) .none kV__law_good_boxes dc__law_good_boxes pm__law_good_boxes an__law_good_boxes cd__law_good_boxes ct__law_good_boxes), f__law_good_rows := f__law_good_rows, d__law_good_rows := (PySem.W.fnOf "_law_good_rows" "_law_good_rows" (defArgs s__law_good_rows) (defBody s__law_good_rows) (defScope s__law_good_rows) .none kV__law_good_rows dc__law_good_rows pm__law_good_rows an__law_good_rows cd__law_good_rows ct__law_good_rows), f__law_good_shape := f__law_good_shape, d__law_good_shape := (PySem.W.fnOf "_law_good_shape" "_law_good_shape" (defArgs s__law_good_shape) (defBody s__law_good_shape) (defScope s__law_good_shape) .none kV__law_good_shape dc__law_good_shape pm__law_good_shape an__law_good_shape cd__law_good_shape ct__law_good_shape), f__law_due := f__law_due, d__law_due := (PySem.W.fnOf "_law_due" "_law_due" (defArgs s__law_due) (defBody s__law_due) (defScope s__law_due) .none kV__law_due dc__law_due pm__law_due an__law_due cd__law_due ct__law_due), f__law_alone := f__law_alone, d__law_alone := (PySem.W.fnOf "_law_alone" "_law_alone" (defArgs s__law_alone) (defBody s__law_alone) (defScope s__law_alone) .none kV__law_alone dc__law_alone pm__law_alone an__law_alone cd__law_alone ct__law_alone), f__law_said := f__law_said, d__law_said := (PySem.W.fnOf "_law_said" "_law_said" (defArgs s__law_said) (defBody s__law_said) (defScope s__law_said) .none kV__law_said dc__law_said pm__law_said an__law_said cd__law_said ct__law_said), f_law := f_law, d_law := (PySem.W.fnOf "law" "law" (defArgs s_law) (defBody s_law) (defScope s_law) .none kV_law dc_law pm_law an_law cd_law ct_law), a_PARTS := a_PARTS, a_RULES := a_RULES, C_LineError := C_LineError, C_BadRow := C_BadRow, C_BadBoxes := C_BadBoxes, C_BadShape := C_BadShape, C_NoBox := C_NoBox, C_BadPlan := C_BadPlan, C_Plain := C_Plain, C_Near := C_Near } := ⟨_, rfl⟩
  have T : Txt w K mg cs := by
    rw [hcs]
    exact { fn_within := ⟨fun_mk (st := s_within) l_within c_within k_within, (fun_mk (st := s_within) l_within c_within k_within).binds (ps := ["number", "low", "high"]) fun _ _ _ _ _ _ us hl => match us, hl with | [_, _, _], _ => rfl⟩, gl_within := PySem.W.mg_of X G a_within, fn_part_fits := ⟨fun_mk (st := s_part_fits) l_part_fits c_part_fits k_part_fits, (fun_mk (st := s_part_fits) l_part_fits c_part_fits k_part_fits).binds (ps := ["mark", "number", "size", "count"]) fun _ _ _ _ _ _ us hl => match us, hl with | [_, _, _, _], _ => rfl⟩, gl_part_fits := PySem.W.mg_of X G a_part_fits, fn_fits := ⟨fun_mk (st := s_fits) l_fits c_fits k_fits, (fun_mk (st := s_fits) l_fits c_fits k_fits).binds (ps := ["row", "size", "count"]) fun _ _ _ _ _ _ us hl => match us, hl with | [_, _, _], _ => rfl⟩, gl_fits := PySem.W.mg_of X G a_fits, fn_checked := ⟨fun_mk (st := s_checked) l_checked c_checked k_checked, (fun_mk (st := s_checked) l_checked c_checked k_checked).binds (ps := ["rows", "size"]) fun _ _ _ _ _ _ us hl => match us, hl with | [_, _], _ => rfl⟩, gl_checked := PySem.W.mg_of X G a_checked, fn_checked_boxes := ⟨fun_mk (st := s_checked_boxes) l_checked_boxes c_checked_boxes k_checked_boxes, (fun_mk (st := s_checked_boxes) l_checked_boxes c_checked_boxes k_checked_boxes).binds (ps := ["boxes"]) fun _ _ _ _ _ _ us hl => match us, hl with | [_], _ => rfl⟩, gl_checked_boxes := PySem.W.mg_of X G a_checked_boxes, fn_Plain___init__ := ⟨fun_mk (st := s_Plain___init__) l_Plain___init__ c_Plain___init__ k_Plain___init__, (fun_mk (st := s_Plain___init__) l_Plain___init__ c_Plain___init__ k_Plain___init__).binds (ps := ["self", "boxes"]) fun _ _ _ _ _ _ us hl => match us, hl with | [_, _], _ => rfl⟩, fn_Plain_look := ⟨fun_mk (st := s_Plain_look) l_Plain_look c_Plain_look k_Plain_look, (fun_mk (st := s_Plain_look) l_Plain_look c_Plain_look k_Plain_look).binds (ps := ["self", "box"]) fun _ _ _ _ _ _ us hl => match us, hl with | [_, _], _ => rfl⟩, fn_Plain_put := ⟨fun_mk (st := s_Plain_put) l_Plain_put c_Plain_put k_Plain_put, (fun_mk (st := s_Plain_put) l_Plain_put c_Plain_put k_Plain_put).binds (ps := ["self", "box", "number"]) fun _ _ _ _ _ _ us hl => match us, hl with | [_, _, _], _ => rfl⟩, fn_reckoned := ⟨fun_mk (st := s_reckoned) l_reckoned c_reckoned k_reckoned, (fun_mk (st := s_reckoned) l_reckoned c_reckoned k_reckoned).binds (ps := ["row", "holder"]) fun _ _ _ _ _ _ us hl => match us, hl with | [_, _], _ => rfl⟩, gl_reckoned := PySem.W.mg_of X G a_reckoned, fn_moved := ⟨fun_mk (st := s_moved) l_moved c_moved k_moved, (fun_mk (st := s_moved) l_moved c_moved k_moved).binds (ps := ["row", "holder", "size"]) fun _ _ _ _ _ _ us hl => match us, hl with | [_, _, _], _ => rfl⟩, gl_moved := PySem.W.mg_of X G a_moved, fn_goes_on := ⟨fun_mk (st := s_goes_on) l_goes_on c_goes_on k_goes_on, (fun_mk (st := s_goes_on) l_goes_on c_goes_on k_goes_on).binds (ps := ["row", "place", "holder"]) fun _ _ _ _ _ _ us hl => match us, hl with | [_, _, _], _ => rfl⟩, gl_goes_on := PySem.W.mg_of X G a_goes_on, fn_gone := ⟨fun_mk (st := s_gone) l_gone c_gone k_gone, (fun_mk (st := s_gone) l_gone c_gone k_gone).binds (ps := ["rows", "holder", "size", "steps"]) fun _ _ _ _ _ _ us hl => match us, hl with | [_, _, _, _], _ => rfl⟩, gl_gone := PySem.W.mg_of X G a_gone, fn_run := ⟨fun_mk (st := s_run) l_run c_run k_run, (fun_mk (st := s_run) l_run c_run k_run).binds (ps := ["rows", "boxes", "steps"]) fun _ _ _ _ _ _ us hl => match us, hl with | [_, _, _], _ => rfl⟩, gl_run := PySem.W.mg_of X G a_run, fn_need_shape := ⟨fun_mk (st := s_need_shape) l_need_shape c_need_shape k_need_shape, (fun_mk (st := s_need_shape) l_need_shape c_need_shape k_need_shape).binds (ps := ["room", "width", "rule"]) fun _ _ _ _ _ _ us hl => match us, hl with | [_, _, _], _ => rfl⟩, gl_need_shape := PySem.W.mg_of X G a_need_shape, fn_Near___init__ := ⟨fun_mk (st := s_Near___init__) l_Near___init__ c_Near___init__ k_Near___init__, (fun_mk (st := s_Near___init__) l_Near___init__ c_Near___init__ k_Near___init__).binds (ps := ["self", "boxes", "room", "width", "rule"]) fun _ _ _ _ _ _ us hl => match us, hl with | [_, _, _, _, _], _ => rfl⟩, fn_Near_look := ⟨fun_mk (st := s_Near_look) l_Near_look c_Near_look k_Near_look, (fun_mk (st := s_Near_look) l_Near_look c_Near_look k_Near_look).binds (ps := ["self", "box"]) fun _ _ _ _ _ _ us hl => match us, hl with | [_, _], _ => rfl⟩, fn_Near_put := ⟨fun_mk (st := s_Near_put) l_Near_put c_Near_put k_Near_put, (fun_mk (st := s_Near_put) l_Near_put c_Near_put k_Near_put).binds (ps := ["self", "box", "number"]) fun _ _ _ _ _ _ us hl => match us, hl with | [_, _, _], _ => rfl⟩, fn_Near_settle := ⟨fun_mk (st := s_Near_settle) l_Near_settle c_Near_settle k_Near_settle, (fun_mk (st := s_Near_settle) l_Near_settle c_Near_settle k_Near_settle).binds (ps := ["self"]) fun _ _ _ _ _ _ us hl => match us, hl with | [_], _ => rfl⟩, fn_Near_touched := ⟨fun_mk (st := s_Near_touched) l_Near_touched c_Near_touched k_Near_touched, (fun_mk (st := s_Near_touched) l_Near_touched c_Near_touched k_Near_touched).binds (ps := ["self", "box"]) fun _ _ _ _ _ _ us hl => match us, hl with | [_, _], _ => rfl⟩, fn_Near_leave := ⟨fun_mk (st := s_Near_leave) l_Near_leave c_Near_leave k_Near_leave, (fun_mk (st := s_Near_leave) l_Near_leave c_Near_leave k_Near_leave).binds (ps := ["self", "line"]) fun _ _ _ _ _ _ us hl => match us, hl with | [_, _], _ => rfl⟩, fn_Near_write_back := ⟨fun_mk (st := s_Near_write_back) l_Near_write_back c_Near_write_back k_Near_write_back, (fun_mk (st := s_Near_write_back) l_Near_write_back c_Near_write_back k_Near_write_back).binds (ps := ["self", "line"]) fun _ _ _ _ _ _ us hl => match us, hl with | [_, _], _ => rfl⟩, fn_run_near := ⟨fun_mk (st := s_run_near) l_run_near c_run_near k_run_near, (fun_mk (st := s_run_near) l_run_near c_run_near k_run_near).binds (ps := ["rows", "boxes", "steps", "room", "width", "rule"]) fun _ _ _ _ _ _ us hl => match us, hl with | [_, _, _, _, _, _], _ => rfl⟩, gl_run_near := PySem.W.mg_of X G a_run_near, fn__law_cell_at := ⟨fun_mk (st := s__law_cell_at) l__law_cell_at c__law_cell_at k__law_cell_at, (fun_mk (st := s__law_cell_at) l__law_cell_at c__law_cell_at k__law_cell_at).binds (ps := ["_law_script", "_law_k"]) fun _ _ _ _ _ _ us hl => match us, hl with | [_, _], _ => rfl⟩, gl__law_cell_at := PySem.W.mg_of X G a__law_cell_at, fn__law_whole := ⟨fun_mk (st := s__law_whole) l__law_whole c__law_whole k__law_whole, (fun_mk (st := s__law_whole) l__law_whole c__law_whole k__law_whole).binds (ps := ["_law_found"]) fun _ _ _ _ _ _ us hl => match us, hl with | [_], _ => rfl⟩, gl__law_whole := PySem.W.mg_of X G a__law_whole, fn__law_boxes_by := ⟨fun_mk (st := s__law_boxes_by) l__law_boxes_by c__law_boxes_by k__law_boxes_by, (fun_mk (st := s__law_boxes_by) l__law_boxes_by c__law_boxes_by k__law_boxes_by).binds (ps := ["_law_script"]) fun _ _ _ _ _ _ us hl => match us, hl with | [_], _ => rfl⟩, gl__law_boxes_by := PySem.W.mg_of X G a__law_boxes_by, fn__law_mixed := ⟨fun_mk (st := s__law_mixed) l__law_mixed c__law_mixed k__law_mixed, (fun_mk (st := s__law_mixed) l__law_mixed c__law_mixed k__law_mixed).binds (ps := ["_law_cell"]) fun _ _ _ _ _ _ us hl => match us, hl with | [_], _ => rfl⟩, gl__law_mixed := PySem.W.mg_of X G a__law_mixed, fn__law_edge := ⟨fun_mk (st := s__law_edge) l__law_edge c__law_edge k__law_edge, (fun_mk (st := s__law_edge) l__law_edge c__law_edge k__law_edge).binds (ps := ["_law_cell", "_law_last"]) fun _ _ _ _ _ _ us hl => match us, hl with | [_, _], _ => rfl⟩, gl__law_edge := PySem.W.mg_of X G a__law_edge, fn__law_marks := ⟨fun_mk (st := s__law_marks) l__law_marks c__law_marks k__law_marks, (fun_mk (st := s__law_marks) l__law_marks c__law_marks k__law_marks).binds (ps := ["_law_word"]) fun _ _ _ _ _ _ us hl => match us, hl with | [_], _ => rfl⟩, gl__law_marks := PySem.W.mg_of X G a__law_marks, fn__law_thing_by := ⟨fun_mk (st := s__law_thing_by) l__law_thing_by c__law_thing_by k__law_thing_by, (fun_mk (st := s__law_thing_by) l__law_thing_by c__law_thing_by k__law_thing_by).binds (ps := ["_law_script", "_law_size", "_law_count"]) fun _ _ _ _ _ _ us hl => match us, hl with | [_, _, _], _ => rfl⟩, gl__law_thing_by := PySem.W.mg_of X G a__law_thing_by, fn__law_fits := ⟨fun_mk (st := s__law_fits) l__law_fits c__law_fits k__law_fits, (fun_mk (st := s__law_fits) l__law_fits c__law_fits k__law_fits).binds (ps := ["_law_row", "_law_size", "_law_count"]) fun _ _ _ _ _ _ us hl => match us, hl with | [_, _, _], _ => rfl⟩, gl__law_fits := PySem.W.mg_of X G a__law_fits, fn__law_rows_by := ⟨fun_mk (st := s__law_rows_by) l__law_rows_by c__law_rows_by k__law_rows_by, (fun_mk (st := s__law_rows_by) l__law_rows_by c__law_rows_by k__law_rows_by).binds (ps := ["_law_script", "_law_size"]) fun _ _ _ _ _ _ us hl => match us, hl with | [_, _], _ => rfl⟩, gl__law_rows_by := PySem.W.mg_of X G a__law_rows_by, fn__law_good_boxes := ⟨fun_mk (st := s__law_good_boxes) l__law_good_boxes c__law_good_boxes k__law_good_boxes, (fun_mk (st := s__law_good_boxes) l__law_good_boxes c__law_good_boxes k__law_good_boxes).binds (ps := ["_law_boxes"]) fun _ _ _ _ _ _ us hl => match us, hl with | [_], _ => rfl⟩, gl__law_good_boxes := PySem.W.mg_of X G a__law_good_boxes, fn__law_good_rows := ⟨fun_mk (st := s__law_good_rows) l__law_good_rows c__law_good_rows k__law_good_rows, (fun_mk (st := s__law_good_rows) l__law_good_rows c__law_good_rows k__law_good_rows).binds (ps := ["_law_rows", "_law_size"]) fun _ _ _ _ _ _ us hl => match us, hl with | [_, _], _ => rfl⟩, gl__law_good_rows := PySem.W.mg_of X G a__law_good_rows, fn__law_good_shape := ⟨fun_mk (st := s__law_good_shape) l__law_good_shape c__law_good_shape k__law_good_shape, (fun_mk (st := s__law_good_shape) l__law_good_shape c__law_good_shape k__law_good_shape).binds (ps := ["_law_shape"]) fun _ _ _ _ _ _ us hl => match us, hl with | [_], _ => rfl⟩, gl__law_good_shape := PySem.W.mg_of X G a__law_good_shape, fn__law_due := ⟨fun_mk (st := s__law_due) l__law_due c__law_due k__law_due, (fun_mk (st := s__law_due) l__law_due c__law_due k__law_due).binds (ps := ["_law_way", "_law_boxes", "_law_rows", "_law_shape"]) fun _ _ _ _ _ _ us hl => match us, hl with | [_, _, _, _], _ => rfl⟩, gl__law_due := PySem.W.mg_of X G a__law_due, fn__law_alone := ⟨fun_mk (st := s__law_alone) l__law_alone c__law_alone k__law_alone, (fun_mk (st := s__law_alone) l__law_alone c__law_alone k__law_alone).binds (ps := ["_law_e", "_law_own"]) fun _ _ _ _ _ _ us hl => match us, hl with | [_, _], _ => rfl⟩, gl__law_alone := PySem.W.mg_of X G a__law_alone, fn__law_said := ⟨fun_mk (st := s__law_said) l__law_said c__law_said k__law_said, (fun_mk (st := s__law_said) l__law_said c__law_said k__law_said).binds (ps := ["_law_way", "_law_boxes", "_law_rows", "_law_shape"]) fun _ _ _ _ _ _ us hl => match us, hl with | [_, _, _, _], _ => rfl⟩, gl__law_said := PySem.W.mg_of X G a__law_said, fn_law := ⟨fun_mk (st := s_law) l_law c_law k_law, (fun_mk (st := s_law) l_law c_law k_law).binds (ps := ["_law_script"]) fun _ _ _ _ _ _ us hl => match us, hl with | [_], _ => rfl⟩, gl_law := PySem.W.mg_of X G a_law, no_isinstance := PySem.W.mg_none_of X G z_isinstance, no_int := PySem.W.mg_none_of X G z_int, no_bool := PySem.W.mg_none_of X G z_bool, no_tuple := PySem.W.mg_none_of X G z_tuple, no_len := PySem.W.mg_none_of X G z_len, no_str := PySem.W.mg_none_of X G z_str, no_range := PySem.W.mg_none_of X G z_range, no_list := PySem.W.mg_none_of X G z_list, no_sorted := PySem.W.mg_none_of X G z_sorted, no_ValueError := PySem.W.mg_none_of X G z_ValueError, no_max := PySem.W.mg_none_of X G z_max, gl_GREATEST := (by obtain ⟨t, e⟩ := v_GREATEST; exact ⟨t, PySem.W.mg_of X G e⟩), gl_MOST := (by obtain ⟨t, e⟩ := v_MOST; exact ⟨t, PySem.W.mg_of X G e⟩), gl_PARTS := PySem.W.mg_of X G v_PARTS, km_PARTS := ⟨es_PARTS, en_PARTS, vl_PARTS, vk_PARTS, vs_PARTS, vf_PARTS⟩, gl_MODULUS := (by obtain ⟨t, e⟩ := v_MODULUS; exact ⟨t, PySem.W.mg_of X G e⟩), gl_WIDEST := (by obtain ⟨t, e⟩ := v_WIDEST; exact ⟨t, PySem.W.mg_of X G e⟩), gl_RULES := PySem.W.mg_of X G v_RULES, tp_RULES := ⟨_, _, _, tl_RULES, rfl, rfl, tz_RULES, tv_RULES⟩, ex_LineError := ⟨PySem.W.mg_of X G g_LineError, xx_LineError, xk_LineError, xb_LineError, xt_LineError, xi_LineError, xs_LineError⟩, ex_BadRow := ⟨PySem.W.mg_of X G g_BadRow, xx_BadRow, xk_BadRow, xb_BadRow, xt_BadRow, xi_BadRow, xs_BadRow⟩, ex_BadBoxes := ⟨PySem.W.mg_of X G g_BadBoxes, xx_BadBoxes, xk_BadBoxes, xb_BadBoxes, xt_BadBoxes, xi_BadBoxes, xs_BadBoxes⟩, ex_BadShape := ⟨PySem.W.mg_of X G g_BadShape, xx_BadShape, xk_BadShape, xb_BadShape, xt_BadShape, xi_BadShape, xs_BadShape⟩, ex_NoBox := ⟨PySem.W.mg_of X G g_NoBox, xx_NoBox, xk_NoBox, xb_NoBox, xt_NoBox, xi_NoBox, xs_NoBox⟩, ex_BadPlan := ⟨PySem.W.mg_of X G g_BadPlan, xx_BadPlan, xk_BadPlan, xb_BadPlan, xt_BadPlan, xi_BadPlan, xs_BadPlan⟩, gl_Plain := PySem.W.mg_of X G g_Plain, cl_Plain := ⟨ng_Plain, nh_Plain, no_Plain, ns_Plain⟩, mk_Plain := ⟨nm_Plain, a_Plain___init__, i_Plain___init__, nk_Plain⟩, me_Plain_look := ⟨a_Plain_look, i_Plain_look, k_Plain_look⟩, me_Plain_put := ⟨a_Plain_put, i_Plain_put, k_Plain_put⟩, na_Plain_boxes := na_Plain_boxes, na_Plain_touches := na_Plain_touches, gl_Near := PySem.W.mg_of X G g_Near, cl_Near := ⟨ng_Near, nh_Near, no_Near, ns_Near⟩, mk_Near := ⟨nm_Near, a_Near___init__, i_Near___init__, nk_Near⟩, me_Near_look := ⟨a_Near_look, i_Near_look, k_Near_look⟩, me_Near_put := ⟨a_Near_put, i_Near_put, k_Near_put⟩, me_Near_settle := ⟨a_Near_settle, i_Near_settle, k_Near_settle⟩, me_Near_touched := ⟨a_Near_touched, i_Near_touched, k_Near_touched⟩, me_Near_leave := ⟨a_Near_leave, i_Near_leave, k_Near_leave⟩, me_Near_write_back := ⟨a_Near_write_back, i_Near_write_back, k_Near_write_back⟩, na_Near_far := na_Near_far, na_Near_room := na_Near_room, na_Near_width := na_Near_width, na_Near_rule := na_Near_rule, na_Near_order := na_Near_order, na_Near_near := na_Near_near, na_Near_written := na_Near_written, na_Near_found := na_Near_found, na_Near_missed := na_Near_missed, na_Near_back := na_Near_back, ec_BadRow := ⟨ehg_BadRow, ehk_BadRow, xb_BadRow, ehd_BadRow, eha_BadRow, e_hn, e_ht, ehm_BadRow⟩, is_BadRow_LineError := kit_own xi_LineError xt_LineError xs_LineError u_BadRow_LineError, is_BadRow_BadRow := kit_own xi_BadRow xt_BadRow xs_BadRow u_BadRow_BadRow, is_BadRow_BadBoxes := kit_own xi_BadBoxes xt_BadBoxes xs_BadBoxes u_BadRow_BadBoxes, is_BadRow_BadShape := kit_own xi_BadShape xt_BadShape xs_BadShape u_BadRow_BadShape, is_BadRow_NoBox := kit_own xi_NoBox xt_NoBox xs_NoBox u_BadRow_NoBox, is_BadRow_BadPlan := kit_own xi_BadPlan xt_BadPlan xs_BadPlan u_BadRow_BadPlan, iv_BadRow := kit_val uv_BadRow, ec_BadBoxes := ⟨ehg_BadBoxes, ehk_BadBoxes, xb_BadBoxes, ehd_BadBoxes, eha_BadBoxes, e_hn, e_ht, ehm_BadBoxes⟩, is_BadBoxes_LineError := kit_own xi_LineError xt_LineError xs_LineError u_BadBoxes_LineError, is_BadBoxes_BadRow := kit_own xi_BadRow xt_BadRow xs_BadRow u_BadBoxes_BadRow, is_BadBoxes_BadBoxes := kit_own xi_BadBoxes xt_BadBoxes xs_BadBoxes u_BadBoxes_BadBoxes, is_BadBoxes_BadShape := kit_own xi_BadShape xt_BadShape xs_BadShape u_BadBoxes_BadShape, is_BadBoxes_NoBox := kit_own xi_NoBox xt_NoBox xs_NoBox u_BadBoxes_NoBox, is_BadBoxes_BadPlan := kit_own xi_BadPlan xt_BadPlan xs_BadPlan u_BadBoxes_BadPlan, iv_BadBoxes := kit_val uv_BadBoxes, ec_BadShape := ⟨ehg_BadShape, ehk_BadShape, xb_BadShape, ehd_BadShape, eha_BadShape, e_hn, e_ht, ehm_BadShape⟩, is_BadShape_LineError := kit_own xi_LineError xt_LineError xs_LineError u_BadShape_LineError, is_BadShape_BadRow := kit_own xi_BadRow xt_BadRow xs_BadRow u_BadShape_BadRow, is_BadShape_BadBoxes := kit_own xi_BadBoxes xt_BadBoxes xs_BadBoxes u_BadShape_BadBoxes, is_BadShape_BadShape := kit_own xi_BadShape xt_BadShape xs_BadShape u_BadShape_BadShape, is_BadShape_NoBox := kit_own xi_NoBox xt_NoBox xs_NoBox u_BadShape_NoBox, is_BadShape_BadPlan := kit_own xi_BadPlan xt_BadPlan xs_BadPlan u_BadShape_BadPlan, iv_BadShape := kit_val uv_BadShape, em_BadRow_BadBoxes := exm_own xb_BadBoxes xi_BadBoxes xt_BadBoxes u_BadRow_BadBoxes, em_BadShape_BadBoxes := exm_own xb_BadBoxes xi_BadBoxes xt_BadBoxes u_BadShape_BadBoxes, em_BadShape_BadRow := exm_own xb_BadRow xi_BadRow xt_BadRow u_BadShape_BadRow }
  refine ⟨cs, cs.d_law, ?_, fun base KB GB => ?_⟩
  · rw [hcs]
    exact fun s v => .of_eq rfl
  have o__law_cell_at := ok__law_cell_at (P := l.prog) (w := w) (base := base) T 
  have o__law_boxes_by := ok__law_boxes_by (P := l.prog) (w := w) (base := base) T o__law_cell_at
  have o__law_marks := ok__law_marks (P := l.prog) (w := w) (base := base) T 
  have o__law_mixed := ok__law_mixed (P := l.prog) (w := w) (base := base) T 
  have o__law_edge := ok__law_edge (P := l.prog) (w := w) (base := base) T o__law_mixed
  have o__law_thing_by := ok__law_thing_by (P := l.prog) (w := w) (base := base) T o__law_cell_at o__law_marks o__law_edge
  have o__law_rows_by := ok__law_rows_by (P := l.prog) (w := w) (base := base) T o__law_cell_at o__law_thing_by
  have o_within := ok_within (P := l.prog) (w := w) (base := base) T 
  have o_checked_boxes := ok_checked_boxes (P := l.prog) (w := w) (base := base) T o_within
  have o_part_fits := ok_part_fits (P := l.prog) (w := w) (base := base) T o_within
  have o_fits := ok_fits (P := l.prog) (w := w) (base := base) T o_part_fits
  have o_checked := ok_checked (P := l.prog) (w := w) (base := base) T o_fits
  have o_Plain___init__ := ok_Plain___init__ (P := l.prog) (w := w) (base := base) T 
  have o_Plain_look := ok_Plain_look (P := l.prog) (w := w) (base := base) T 
  have o_Near_write_back := ok_Near_write_back (P := l.prog) (w := w) (base := base) T 
  have o_Near_leave := ok_Near_leave (P := l.prog) (w := w) (base := base) T o_Near_write_back
  have o_Near_touched := ok_Near_touched (P := l.prog) (w := w) (base := base) T o_within o_Near_leave
  have o_Near_look := ok_Near_look (P := l.prog) (w := w) (base := base) T o_Near_touched
  have o_goes_on := ok_goes_on (P := l.prog) (w := w) (base := base) T o_Plain_look o_Near_look
  have o_Plain_put := ok_Plain_put (P := l.prog) (w := w) (base := base) T 
  have o_Near_put := ok_Near_put (P := l.prog) (w := w) (base := base) T o_Near_touched
  have o_reckoned := ok_reckoned (P := l.prog) (w := w) (base := base) T o_Plain_look o_Near_look o_Plain_put o_Near_put
  have o_moved := ok_moved (P := l.prog) (w := w) (base := base) T o_Plain_look o_Near_look o_Plain_put o_Near_put
  have o_gone := ok_gone (P := l.prog) (w := w) (base := base) T o_goes_on o_Plain_put o_Near_put o_reckoned o_moved o_Plain_look o_Near_look
  have o_run := ok_run (P := l.prog) (w := w) (base := base) T o_checked_boxes o_checked o_Plain___init__ o_gone
  have o_need_shape := ok_need_shape (P := l.prog) (w := w) (base := base) T o_within
  have o_Near___init__ := ok_Near___init__ (P := l.prog) (w := w) (base := base) T o_checked_boxes o_need_shape
  have o_Near_settle := ok_Near_settle (P := l.prog) (w := w) (base := base) T o_Near_write_back
  have o_run_near := ok_run_near (P := l.prog) (w := w) (base := base) T o_checked_boxes o_checked o_Near___init__ o_gone o_Near_settle
  have o__law_alone := ok__law_alone (P := l.prog) (w := w) (base := base) T 
  have o__law_said := ok__law_said (P := l.prog) (w := w) (base := base) T o_run o_Near___init__ o_run_near o__law_alone
  have o__law_whole := ok__law_whole (P := l.prog) (w := w) (base := base) T 
  have o__law_good_boxes := ok__law_good_boxes (P := l.prog) (w := w) (base := base) T o__law_whole
  have o__law_fits := ok__law_fits (P := l.prog) (w := w) (base := base) T o__law_marks o__law_whole
  have o__law_good_rows := ok__law_good_rows (P := l.prog) (w := w) (base := base) T o__law_fits
  have o__law_good_shape := ok__law_good_shape (P := l.prog) (w := w) (base := base) T o__law_whole
  have o__law_due := ok__law_due (P := l.prog) (w := w) (base := base) T o__law_good_boxes o__law_good_rows o__law_good_shape
  have o_law := ok_law (P := l.prog) (w := w) (base := base) T o__law_boxes_by o__law_rows_by o__law_cell_at o__law_said o__law_due
  have ef : cs.f_law = fa := by
    rw [hcs]
    exact e
  rw [← ef]
  exact o_law.ok
theorem walk {l : PySem.W.OpenLaw} {q : Program} {loose : List Str} {XP : (Str → Option Value) → Heap → Prop} {YP : World → Heap → Prop} {d : DefRec} {K : Params → PySem.W.Frag} (hn : l.most = some 63) (hdf : d.params.defaults = [])
    (hY : ∀ (w : World) (h : Heap), YP w h → (K w.params).In h)
    (F : ∀ (w : World) (mg : Str → Option Value) (fa : Addr) (h : Heap), (K w.params).In h → h.Ns mainGlobals mg → mg d.name = some (.ref fa) →
      ∃ (cs : Cs) (fd : FuncData), (∀ (s : Shared) (u : Value), BindsTo s fd ⟨[u], []⟩ [("_law_script", u)]) ∧ ∀ base : Heap, (K w.params).In base → base.Ns mainGlobals mg → FnOk l.prog w (K w.params) mg base CX0 9 fa fd ["_law_script"] (sp_law (K w.params) cs)) :
    PySem.W.WalkO q loose XP YP l.row.toRowW d [] (fun f vs => PySem.call f vs) :=
  L2.walk_of (n := 63) (k := 9) (x := "_law_script") (CX := fun _ => CX0) (sp := fun w => spEnd (K w.params)) hn (by decide) hdf ⟨rfl, by decide, by decide⟩ hY (fun w mg fa h KX G hm => by
    obtain ⟨cs, fd, B, O⟩ := F w mg fa h KX G hm
    exact ⟨fd, B, fun base KB GB => (O base KB GB).imp fun vs H Q E z => spEnd_law cs z⟩) (fun _ _ a ns hl _ hS => ⟨a, ns, rfl, hS, hl, fun _ => rfl⟩) fun _ _ _ _ _ z => z
end NL
open PySem PySem.W PyProof.Rows
set_option pp.maxSteps 200 in
set_option maxRecDepth 100000 in
set_option maxHeartbeats 0 in
theorem PySem.Challenge.cw_nearlines_k06_what_is_refused_holds : PySem.Challenge.rw_nearlines_k06_what_is_refused.Holds := by
  w_on; o_law; k_head; (case hw => w_witness2)
  k_fill
  refine NL.walk (l := PySem.Challenge.rw_nearlines_k06_what_is_refused) rfl rfl (fun w h Y => PySem.W.kIn_of Y) ?F
  case F =>
    intro w mg fa h KX G hmg
    refine' NL.all_mk KX G hmg ?a_within ?l_within ?c_within ?k_within ?a_part_fits ?l_part_fits ?c_part_fits ?k_part_fits ?a_fits ?l_fits ?c_fits ?k_fits ?a_checked ?l_checked ?c_checked ?k_checked ?a_checked_boxes ?l_checked_boxes ?c_checked_boxes ?k_checked_boxes ?a_Plain___init__ ?i_Plain___init__ ?l_Plain___init__ ?c_Plain___init__ ?k_Plain___init__ ?a_Plain_look ?i_Plain_look ?l_Plain_look ?c_Plain_look ?k_Plain_look ?a_Plain_put ?i_Plain_put ?l_Plain_put ?c_Plain_put ?k_Plain_put ?a_reckoned ?l_reckoned ?c_reckoned ?k_reckoned ?a_moved ?l_moved ?c_moved ?k_moved ?a_goes_on ?l_goes_on ?c_goes_on ?k_goes_on ?a_gone ?l_gone ?c_gone ?k_gone ?a_run ?l_run ?c_run ?k_run ?a_need_shape ?l_need_shape ?c_need_shape ?k_need_shape ?a_Near___init__ ?i_Near___init__ ?l_Near___init__ ?c_Near___init__ ?k_Near___init__ ?a_Near_look ?i_Near_look ?l_Near_look ?c_Near_look ?k_Near_look ?a_Near_put ?i_Near_put ?l_Near_put ?c_Near_put ?k_Near_put ?a_Near_settle ?i_Near_settle ?l_Near_settle ?c_Near_settle ?k_Near_settle ?a_Near_touched ?i_Near_touched ?l_Near_touched ?c_Near_touched ?k_Near_touched ?a_Near_leave ?i_Near_leave ?l_Near_leave ?c_Near_leave ?k_Near_leave ?a_Near_write_back ?i_Near_write_back ?l_Near_write_back ?c_Near_write_back ?k_Near_write_back ?a_run_near ?l_run_near ?c_run_near ?k_run_near ?a__law_cell_at ?l__law_cell_at ?c__law_cell_at ?k__law_cell_at ?a__law_whole ?l__law_whole ?c__law_whole ?k__law_whole ?a__law_boxes_by ?l__law_boxes_by ?c__law_boxes_by ?k__law_boxes_by ?a__law_mixed ?l__law_mixed ?c__law_mixed ?k__law_mixed ?a__law_edge ?l__law_edge ?c__law_edge ?k__law_edge ?a__law_marks ?l__law_marks ?c__law_marks ?k__law_marks ?a__law_thing_by ?l__law_thing_by ?c__law_thing_by ?k__law_thing_by ?a__law_fits ?l__law_fits ?c__law_fits ?k__law_fits ?a__law_rows_by ?l__law_rows_by ?c__law_rows_by ?k__law_rows_by ?a__law_good_boxes ?l__law_good_boxes ?c__law_good_boxes ?k__law_good_boxes ?a__law_good_rows ?l__law_good_rows ?c__law_good_rows ?k__law_good_rows ?a__law_good_shape ?l__law_good_shape ?c__law_good_shape ?k__law_good_shape ?a__law_due ?l__law_due ?c__law_due ?k__law_due ?a__law_alone ?l__law_alone ?c__law_alone ?k__law_alone ?a__law_said ?l__law_said ?c__law_said ?k__law_said ?a_law ?l_law ?c_law ?k_law ?z_isinstance ?z_int ?z_bool ?z_tuple ?z_len ?z_str ?z_range ?z_list ?z_sorted ?z_ValueError ?z_max ?v_GREATEST ?v_MOST ?v_PARTS ?vl_PARTS ?vk_PARTS ?vs_PARTS ?vf_PARTS ?v_MODULUS ?v_WIDEST ?v_RULES ?tl_RULES ?tz_RULES ?tv_RULES ?g_LineError ?xx_LineError ?xk_LineError ?xb_LineError ?xt_LineError ?xi_LineError ?xs_LineError ?g_BadRow ?xx_BadRow ?xk_BadRow ?xb_BadRow ?xt_BadRow ?xi_BadRow ?xs_BadRow ?g_BadBoxes ?xx_BadBoxes ?xk_BadBoxes ?xb_BadBoxes ?xt_BadBoxes ?xi_BadBoxes ?xs_BadBoxes ?g_BadShape ?xx_BadShape ?xk_BadShape ?xb_BadShape ?xt_BadShape ?xi_BadShape ?xs_BadShape ?g_NoBox ?xx_NoBox ?xk_NoBox ?xb_NoBox ?xt_NoBox ?xi_NoBox ?xs_NoBox ?g_BadPlan ?xx_BadPlan ?xk_BadPlan ?xb_BadPlan ?xt_BadPlan ?xi_BadPlan ?xs_BadPlan ?g_Plain ?ng_Plain ?nh_Plain ?no_Plain ?ns_Plain ?nm_Plain ?nk_Plain ?na_Plain_boxes ?na_Plain_touches ?g_Near ?ng_Near ?nh_Near ?no_Near ?ns_Near ?nm_Near ?nk_Near ?na_Near_far ?na_Near_room ?na_Near_width ?na_Near_rule ?na_Near_order ?na_Near_near ?na_Near_written ?na_Near_found ?na_Near_missed ?na_Near_back ?ehg_BadRow ?ehk_BadRow ?ehd_BadRow ?eha_BadRow ?ehm_BadRow ?e_hn ?e_ht ?u_BadRow_LineError ?u_BadRow_BadRow ?u_BadRow_BadBoxes ?u_BadRow_BadShape ?u_BadRow_NoBox ?u_BadRow_BadPlan ?uv_BadRow ?ehg_BadBoxes ?ehk_BadBoxes ?ehd_BadBoxes ?eha_BadBoxes ?ehm_BadBoxes ?u_BadBoxes_LineError ?u_BadBoxes_BadRow ?u_BadBoxes_BadBoxes ?u_BadBoxes_BadShape ?u_BadBoxes_NoBox ?u_BadBoxes_BadPlan ?uv_BadBoxes ?ehg_BadShape ?ehk_BadShape ?ehd_BadShape ?eha_BadShape ?ehm_BadShape ?u_BadShape_LineError ?u_BadShape_BadRow ?u_BadShape_BadBoxes ?u_BadShape_BadShape ?u_BadShape_NoBox ?u_BadShape_BadPlan ?uv_BadShape
    (case g_LineError => k_is)
    (case g_BadRow => k_is)
    (case g_BadBoxes => k_is)
    (case g_BadShape => k_is)
    (case g_NoBox => k_is)
    (case g_BadPlan => k_is)
    (case g_Plain => k_is)
    (case g_Near => k_is)
    (case a_within => k_is)
    (case l_within => k_is)
    (case c_within => k_is)
    (case k_within => k_is)
    (case a_part_fits => k_is)
    (case l_part_fits => k_is)
    (case c_part_fits => k_is)
    (case k_part_fits => k_is)
    (case a_fits => k_is)
    (case l_fits => k_is)
    (case c_fits => k_is)
    (case k_fits => k_is)
    (case a_checked => k_is)
    (case l_checked => k_is)
    (case c_checked => k_is)
    (case k_checked => k_is)
    (case a_checked_boxes => k_is)
    (case l_checked_boxes => k_is)
    (case c_checked_boxes => k_is)
    (case k_checked_boxes => k_is)
    (case a_Plain___init__ => k_is)
    (case i_Plain___init__ => k_is)
    (case l_Plain___init__ => k_is)
    (case c_Plain___init__ => k_is)
    (case k_Plain___init__ => k_is)
    (case a_Plain_look => k_is)
    (case i_Plain_look => k_is)
    (case l_Plain_look => k_is)
    (case c_Plain_look => k_is)
    (case k_Plain_look => k_is)
    (case a_Plain_put => k_is)
    (case i_Plain_put => k_is)
    (case l_Plain_put => k_is)
    (case c_Plain_put => k_is)
    (case k_Plain_put => k_is)
    (case a_reckoned => k_is)
    (case l_reckoned => k_is)
    (case c_reckoned => k_is)
    (case k_reckoned => k_is)
    (case a_moved => k_is)
    (case l_moved => k_is)
    (case c_moved => k_is)
    (case k_moved => k_is)
    (case a_goes_on => k_is)
    (case l_goes_on => k_is)
    (case c_goes_on => k_is)
    (case k_goes_on => k_is)
    (case a_gone => k_is)
    (case l_gone => k_is)
    (case c_gone => k_is)
    (case k_gone => k_is)
    (case a_run => k_is)
    (case l_run => k_is)
    (case c_run => k_is)
    (case k_run => k_is)
    (case a_need_shape => k_is)
    (case l_need_shape => k_is)
    (case c_need_shape => k_is)
    (case k_need_shape => k_is)
    (case a_Near___init__ => k_is)
    (case i_Near___init__ => k_is)
    (case l_Near___init__ => k_is)
    (case c_Near___init__ => k_is)
    (case k_Near___init__ => k_is)
    (case a_Near_look => k_is)
    (case i_Near_look => k_is)
    (case l_Near_look => k_is)
    (case c_Near_look => k_is)
    (case k_Near_look => k_is)
    (case a_Near_put => k_is)
    (case i_Near_put => k_is)
    (case l_Near_put => k_is)
    (case c_Near_put => k_is)
    (case k_Near_put => k_is)
    (case a_Near_settle => k_is)
    (case i_Near_settle => k_is)
    (case l_Near_settle => k_is)
    (case c_Near_settle => k_is)
    (case k_Near_settle => k_is)
    (case a_Near_touched => k_is)
    (case i_Near_touched => k_is)
    (case l_Near_touched => k_is)
    (case c_Near_touched => k_is)
    (case k_Near_touched => k_is)
    (case a_Near_leave => k_is)
    (case i_Near_leave => k_is)
    (case l_Near_leave => k_is)
    (case c_Near_leave => k_is)
    (case k_Near_leave => k_is)
    (case a_Near_write_back => k_is)
    (case i_Near_write_back => k_is)
    (case l_Near_write_back => k_is)
    (case c_Near_write_back => k_is)
    (case k_Near_write_back => k_is)
    (case a_run_near => k_is)
    (case l_run_near => k_is)
    (case c_run_near => k_is)
    (case k_run_near => k_is)
    (case a__law_cell_at => k_is)
    (case l__law_cell_at => k_is)
    (case c__law_cell_at => k_is)
    (case k__law_cell_at => k_is)
    (case a__law_whole => k_is)
    (case l__law_whole => k_is)
    (case c__law_whole => k_is)
    (case k__law_whole => k_is)
    (case a__law_boxes_by => k_is)
    (case l__law_boxes_by => k_is)
    (case c__law_boxes_by => k_is)
    (case k__law_boxes_by => k_is)
    (case a__law_mixed => k_is)
    (case l__law_mixed => k_is)
    (case c__law_mixed => k_is)
    (case k__law_mixed => k_is)
    (case a__law_edge => k_is)
    (case l__law_edge => k_is)
    (case c__law_edge => k_is)
    (case k__law_edge => k_is)
    (case a__law_marks => k_is)
    (case l__law_marks => k_is)
    (case c__law_marks => k_is)
    (case k__law_marks => k_is)
    (case a__law_thing_by => k_is)
    (case l__law_thing_by => k_is)
    (case c__law_thing_by => k_is)
    (case k__law_thing_by => k_is)
    (case a__law_fits => k_is)
    (case l__law_fits => k_is)
    (case c__law_fits => k_is)
    (case k__law_fits => k_is)
    (case a__law_rows_by => k_is)
    (case l__law_rows_by => k_is)
    (case c__law_rows_by => k_is)
    (case k__law_rows_by => k_is)
    (case a__law_good_boxes => k_is)
    (case l__law_good_boxes => k_is)
    (case c__law_good_boxes => k_is)
    (case k__law_good_boxes => k_is)
    (case a__law_good_rows => k_is)
    (case l__law_good_rows => k_is)
    (case c__law_good_rows => k_is)
    (case k__law_good_rows => k_is)
    (case a__law_good_shape => k_is)
    (case l__law_good_shape => k_is)
    (case c__law_good_shape => k_is)
    (case k__law_good_shape => k_is)
    (case a__law_due => k_is)
    (case l__law_due => k_is)
    (case c__law_due => k_is)
    (case k__law_due => k_is)
    (case a__law_alone => k_is)
    (case l__law_alone => k_is)
    (case c__law_alone => k_is)
    (case k__law_alone => k_is)
    (case a__law_said => k_is)
    (case l__law_said => k_is)
    (case c__law_said => k_is)
    (case k__law_said => k_is)
    (case a_law => k_is)
    (case l_law => k_is)
    (case c_law => k_is)
    (case k_law => k_is)
    (case z_isinstance => k_is)
    (case z_int => k_is)
    (case z_bool => k_is)
    (case z_tuple => k_is)
    (case z_len => k_is)
    (case z_str => k_is)
    (case z_range => k_is)
    (case z_list => k_is)
    (case z_sorted => k_is)
    (case z_ValueError => k_is)
    (case z_max => k_is)
    (case v_GREATEST => exact ⟨_, by k_is⟩)
    (case v_MOST => exact ⟨_, by k_is⟩)
    (case v_PARTS => k_is)
    (case vl_PARTS => k_is)
    (case vk_PARTS => exact ⟨⟨_, _, rfl, rfl⟩, ⟨_, _, rfl, rfl⟩, ⟨_, _, rfl, rfl⟩, ⟨_, _, rfl, rfl⟩, ⟨_, _, rfl, rfl⟩, ⟨_, _, rfl, rfl⟩, ⟨_, _, rfl, rfl⟩, ⟨_, _, rfl, rfl⟩, ⟨_, _, rfl, rfl⟩, trivial⟩)
    (case vs_PARTS => rfl)
    (case vf_PARTS => exact fun z => NL.parts_find z)
    (case v_MODULUS => exact ⟨_, by k_is⟩)
    (case v_WIDEST => exact ⟨_, by k_is⟩)
    (case v_RULES => k_is)
    (case tl_RULES => k_is)
    (case tz_RULES => decide)
    (case tv_RULES => exact (.cons ⟨_, rfl⟩ (.cons ⟨_, rfl⟩ .nil)))
    (case xx_LineError => k_exc)
    (case xk_LineError => k_is)
    (case xb_LineError => k_is)
    (case xt_LineError => k_is)
    (case xi_LineError => k_is)
    (case xs_LineError => first | k_is | rfl)
    (case xx_BadRow => k_exc)
    (case xk_BadRow => k_is)
    (case xb_BadRow => k_is)
    (case xt_BadRow => k_is)
    (case xi_BadRow => k_is)
    (case xs_BadRow => first | k_is | rfl)
    (case xx_BadBoxes => k_exc)
    (case xk_BadBoxes => k_is)
    (case xb_BadBoxes => k_is)
    (case xt_BadBoxes => k_is)
    (case xi_BadBoxes => k_is)
    (case xs_BadBoxes => first | k_is | rfl)
    (case xx_BadShape => k_exc)
    (case xk_BadShape => k_is)
    (case xb_BadShape => k_is)
    (case xt_BadShape => k_is)
    (case xi_BadShape => k_is)
    (case xs_BadShape => first | k_is | rfl)
    (case xx_NoBox => k_exc)
    (case xk_NoBox => k_is)
    (case xb_NoBox => k_is)
    (case xt_NoBox => k_is)
    (case xi_NoBox => k_is)
    (case xs_NoBox => first | k_is | rfl)
    (case xx_BadPlan => k_exc)
    (case xk_BadPlan => k_is)
    (case xb_BadPlan => k_is)
    (case xt_BadPlan => k_is)
    (case xi_BadPlan => k_is)
    (case xs_BadPlan => first | k_is | rfl)
    (case ng_Plain => k_is)
    (case nh_Plain => k_is)
    (case no_Plain => k_is)
    (case ns_Plain => k_is)
    (case nm_Plain => k_is)
    (case nk_Plain => k_is)
    (case na_Plain_boxes => k_is)
    (case na_Plain_touches => k_is)
    (case ng_Near => k_is)
    (case nh_Near => k_is)
    (case no_Near => k_is)
    (case ns_Near => k_is)
    (case nm_Near => k_is)
    (case nk_Near => k_is)
    (case na_Near_far => k_is)
    (case na_Near_room => k_is)
    (case na_Near_width => k_is)
    (case na_Near_rule => k_is)
    (case na_Near_order => k_is)
    (case na_Near_near => k_is)
    (case na_Near_written => k_is)
    (case na_Near_found => k_is)
    (case na_Near_missed => k_is)
    (case na_Near_back => k_is)
    (case ehg_BadRow => k_is)
    (case ehk_BadRow => k_is)
    (case ehd_BadRow => k_is)
    (case eha_BadRow => k_is)
    (case ehm_BadRow => k_is)
    (case e_hn => k_is)
    (case e_ht => k_is)
    (case u_BadRow_LineError => first | k_is | rfl)
    (case u_BadRow_BadRow => first | k_is | rfl)
    (case u_BadRow_BadBoxes => first | k_is | rfl)
    (case u_BadRow_BadShape => first | k_is | rfl)
    (case u_BadRow_NoBox => first | k_is | rfl)
    (case u_BadRow_BadPlan => first | k_is | rfl)
    (case uv_BadRow => k_is)
    (case ehg_BadBoxes => k_is)
    (case ehk_BadBoxes => k_is)
    (case ehd_BadBoxes => k_is)
    (case eha_BadBoxes => k_is)
    (case ehm_BadBoxes => k_is)
    (case u_BadBoxes_LineError => first | k_is | rfl)
    (case u_BadBoxes_BadRow => first | k_is | rfl)
    (case u_BadBoxes_BadBoxes => first | k_is | rfl)
    (case u_BadBoxes_BadShape => first | k_is | rfl)
    (case u_BadBoxes_NoBox => first | k_is | rfl)
    (case u_BadBoxes_BadPlan => first | k_is | rfl)
    (case uv_BadBoxes => k_is)
    (case ehg_BadShape => k_is)
    (case ehk_BadShape => k_is)
    (case ehd_BadShape => k_is)
    (case eha_BadShape => k_is)
    (case ehm_BadShape => k_is)
    (case u_BadShape_LineError => first | k_is | rfl)
    (case u_BadShape_BadRow => first | k_is | rfl)
    (case u_BadShape_BadBoxes => first | k_is | rfl)
    (case u_BadShape_BadShape => first | k_is | rfl)
    (case u_BadShape_NoBox => first | k_is | rfl)
    (case u_BadShape_BadPlan => first | k_is | rfl)
    (case uv_BadShape => k_is)
#print axioms PySem.Challenge.cw_nearlines_k06_what_is_refused_holds
