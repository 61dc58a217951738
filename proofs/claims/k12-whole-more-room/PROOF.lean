import PyProof.Rows.All
import Wide.All
import OpenK.AllK
import Wide.FinOn
import HandS.ForMost
import HandS.IsInst
import HandS.Deep
import HandS.LawCells
import HandS.ForExc
import HandS.ExcIs
import HandS.HotCalls
import HandS.SetFor
import HandS.More
import HandS.Replace
import HandS.Walk
import HandS.WordsDict
import PySem.Challenge.RW_nearlines_k12_whole_more_room
set_option Elab.async false
set_option linter.all false
set_option maxRecDepth 100000
set_option maxHeartbeats 4000000
namespace L2
open PySem PySem.Spec PyProof.Rows
/-! ## common to all laws: a def of the text with its place, its promise, its call -/
/-- the def at f is the one that stands in the text at st, its parameters are ps -/
structure FnAt (K : PySem.W.Frag) (x qual : Str) (st : Stmt) (f : Addr) (fd : FuncData) (ps : List Str) : Prop where
  fn : Fun K x qual st f fd
  bd : Binds K fd ps []
/-- the def at f keeps the promise sp -/
structure Ok (P : Program) (w : World) (K : PySem.W.Frag) (mg : Str → Option Value) (base : Heap) (cx : CXT) (k : Nat) (f : Addr) (fd : FuncData) (ps : List Str) (sp : Sp) : Prop where
  ok : FnOk P w K mg base cx k f fd ps sp
  bd : Binds K fd ps []
  kp : PySem.W.keepIn K (.ref f) = true
theorem Ok.imp {P : Program} {w : World} {K : PySem.W.Frag} {mg : Str → Option Value} {base : Heap} {cx : CXT} {k : Nat} {f : Addr} {fd : FuncData} {ps : List Str} {sp sp' : Sp} (o : Ok P w K mg base cx k f fd ps sp)
    (h : ∀ vs H Q E, sp' vs H Q E → sp vs H Q E) : Ok P w K mg base cx k f fd ps sp' := ⟨o.ok.imp h, o.bd, o.kp⟩
section
variable {P : Program} {w : World} {K : PySem.W.Frag} {mg : Str → Option Value} {base : Heap} {x qual : Str} {st : Stmt} {f : Addr} {fd : FuncData} {ps N : List Str} {k : Nat} {sp : Sp}
theorem FnAt.ok (F : FnAt K x qual st f fd ps) (S : FnScope N ps (defScope st)) (len : ∀ vs H Q E, sp vs H Q E → vs.length = ps.length)
    (body : ∀ (cdv : Value) (A : Around) (outer : List Env) (s : Shared) (H : Hp) (vs : List V) (Q : VK) (E : XK), Room k (A.deeper (envOfC qual (defScope st) s.heap.objs.size f cdv)) → sp vs H Q E →
      ∃ t, PSs (cxOf CX0 P w K mg base N qual (defScope st) f cdv A outer s H E).nox (defBody st) t ∧ t { nx := fun _ H' => Q .non H', rt := Q } (start N vs) H) : Ok P w K mg base CX0 (k + 1) f fd ps sp := ⟨F.fn.ok S len body, F.bd, F.fn.kp⟩
theorem FnAt.okX (F : FnAt K x qual st f fd ps) (S : FnScope N ps (defScope st)) (len : ∀ vs H Q E, sp vs H Q E → vs.length = ps.length)
    (body : ∀ (cdv : Value) (A : Around) (outer : List Env) (s : Shared) (H : Hp) (vs : List V) (Q : VK) (E : XK), Room k (A.deeper (envOfC qual (defScope st) s.heap.objs.size f cdv)) → sp vs H Q E →
      ∃ t, PSs (cxOf (L2.CX P w) P w K mg base N qual (defScope st) f cdv A outer s H E) (defBody st) t ∧ t { nx := fun _ H' => Q .non H', rt := Q } (start N vs) H) : Ok P w K mg base (L2.CX P w) (k + 1) f fd ps sp := ⟨F.fn.okX S len body, F.bd, F.fn.kp⟩
end
section
variable {X : Cx} {cx : CXT} {k : Nat} {f : Addr} {fd : FuncData} {ps : List Str} {sp : Sp} {E : XK} {x m : Str} {p pos apos : Pos} {e o : Expr} {es : List Expr} {ta : TE} {t : TA}
/-- f(..) -/
def tCallO (sp : Sp) (E : XK) (t : TA) : TE := fun σ H Q => t σ H fun vs H1 => sp vs H1 Q E
theorem tCallO_eq {sp : Sp} {E : XK} {t : TA} : tCall sp [] E t = tCallO sp E t := by
  funext σ H Q
  show t σ H (fun vs H1 => sp (vs ++ []) H1 Q E) = t σ H fun vs H1 => sp vs H1 Q E
  simp only [List.append_nil]
theorem pe_callO (O : Ok X.prog X.w X.K X.mg X.base cx k f fd ps sp) (hr : Room k X.A) (hg : Gl X x) (hm : X.mg x = some (.ref f)) (hx : Passes cx X E) (ha : PA X (e :: es) t)
    (hdb : (x == ("__debug__" : Str)) = false := by decide) (he : starEach (e :: es) X.env = (false, eval e X.env) :: starEach es X.env := by rfl) (hpl : (backTo pos (starEach es X.env)).any (·.1) = false := by rfl) :
    PE X (.Call (.Name x p) (e :: es) [] pos) (tCallO sp E t) := by
  obtain ⟨F, B, kp⟩ := O
  rw [← tCallO_eq]
  exact pe_call F hr hg hm kp B .nil hx ha hdb he hpl
/-- o.m(..) -/
def tMethO (C : Addr) (m : Str) (sp : Sp) (E : XK) (ta : TE) (t : TA) : TE := fun σ H Q => ta σ H fun x H1 => ∃ a dx fs, x = .ref a ∧ H1 a = some (.ins C dx fs) ∧ fs.lookup m = none ∧ t σ H1 fun vs H2 => sp (x :: vs) H2 Q E
theorem tMethO_eq {C : Addr} {m : Str} {sp : Sp} {E : XK} {ta : TE} {t : TA} : tMeth C m sp [] E ta t = tMethO C m sp E ta t := by
  funext σ H Q
  unfold tMeth tMethO
  simp only [List.append_nil]
theorem pe_methO {C : Addr} {pl : Sem Bool} (O : Ok X.prog X.w X.K X.mg X.base cx k f fd ps sp) (c : Cls X.K C) (hm : Meth X.K C m f) (hr : Room k X.A) (hx : Passes cx X E) (he : PE X o ta) (ha : PA X (e :: es) t)
    (hst : starEach (e :: es) X.env = (false, eval e X.env) :: starEach es X.env := by rfl) (hpl : (backTo pos (starEach es X.env)).any (·.1) = false := by rfl)
    (ht : eval (.Call (.Attribute o m apos) (e :: es) [] pos) X.env = (do
      let ov ← eval o X.env
      standAt apos.atName
      let (f, first) ← holding [ov] (getMethod ov m pl)
      callWith pos f first (backTo pos (starEach (e :: es) X.env)) (backToKw pos (keywordEach [] X.env))) := by rfl) :
    PE X (.Call (.Attribute o m apos) (e :: es) [] pos) (tMethO C m sp E ta t) := by
  obtain ⟨F, B, kp⟩ := O
  rw [← tMethO_eq]
  exact pe_meth he c hm F hr B .nil hx ha hst hpl ht
theorem pe_methO0 {C : Addr} {pl : Sem Bool} (O : Ok X.prog X.w X.K X.mg X.base cx k f fd ps sp) (c : Cls X.K C) (hm : Meth X.K C m f) (hr : Room k X.A) (hx : Passes cx X E) (he : PE X o ta)
    (ht : eval (.Call (.Attribute o m apos) [] [] pos) X.env = (do
      let ov ← eval o X.env
      standAt apos.atName
      let (f, first) ← holding [ov] (getMethod ov m pl)
      callWith pos f first (backTo pos (starEach [] X.env)) (backToKw pos (keywordEach [] X.env))) := by rfl) :
    PE X (.Call (.Attribute o m apos) [] [] pos) (tMethO C m sp E ta tNil) := by
  obtain ⟨F, B, kp⟩ := O
  rw [← tMethO_eq]
  exact pe_meth0 he c hm F hr B .nil hx ht
end
/-! ### tests, heaps -/
theorem iteD {c A B : Prop} [Decidable c] (h1 : c → A) (h2 : ¬ c → B) : if decide c = true then A else B := by
  by_cases h : c
  · rw [decide_eq_true h]
    exact iteT (h1 h)
  · rw [decide_eq_false h]
    exact iteF (h2 h)
theorem iteN {c A B : Prop} [Decidable c] (h1 : ¬ c → A) (h2 : c → B) : if (!decide c) = true then A else B := by
  by_cases h : c
  · rw [decide_eq_true h]
    exact iteF (h2 h)
  · rw [decide_eq_false h]
    exact iteT (h1 h)
theorem iteB {b : Bool} {A B : Prop} (h1 : b = true → A) (h2 : b = false → B) : if b = true then A else B := by
  cases b with
  | true => exact iteT (h1 rfl)
  | false => exact iteF (h2 rfl)
theorem iteBN {b : Bool} {A B : Prop} (h1 : b = false → A) (h2 : b = true → B) : if (!b) = true then A else B := by
  cases b with
  | true => exact iteF (h2 rfl)
  | false => exact iteT (h1 rfl)
theorem Same.new {H : Hp} {p : Addr} {o : HO} (h : H p = none) : Same H (upd H p o) := fun b x e => by
  rw [upd_ne (ne_of_none e h)]
  exact e
/-- what H does not know may change -/
theorem Same.mut {H H' : Hp} {p : Addr} {o : HO} (s : Same H H') (h : H p = none) : Same H (upd H' p o) := fun b x e => by
  rw [upd_ne (ne_of_none e h)]
  exact s b x e
theorem Same.seqT {K : PySem.W.Frag} {H H' : Hp} {a : Addr} {xs : List V} (e : Same H H') (h : SqT K H a xs) : SqT K H' a xs := by
  rcases h with (h | ⟨o, h⟩) | h
  · exact .inl (.inl (e _ _ h))
  · exact .inl (.inr ⟨o, e _ _ h⟩)
  · exact .inr h
/-- the list at l is not the tuple at a -/
theorem SqT.but {K : PySem.W.Frag} {H : Hp} {a l : Addr} {xs ys : List V} {o : HO} (h : SqT K H a xs) (hl : H l = some (.lst ys)) : SqT K (upd H l o) a xs := by
  rcases h with (h | ⟨u, h⟩) | h
  · exact .inl (.inl (by rw [upd_ne (ne_of h hl (by intro z; cases z))]; exact h))
  · exact .inl (.inr ⟨u, by rw [upd_ne (ne_of h hl (by intro z; cases z))]; exact h⟩)
  · exact .inr h
/-! ### ways joined: a word between a part and what follows -/
section
variable {X : Cx}
def tJoinE (t : TE) : TE := fun σ H Q => ∃ R : VK, t σ H R ∧ ∀ v H1, R v H1 → Q v H1
theorem pe_jn {e : Expr} {t : TE} (h : PE X e t) : PE X e (tJoinE t) := by
  refine ⟨fun pins s σ H Q I hq => ?_⟩
  obtain ⟨R, h1, h2⟩ := hq
  refine thn (h.run pins s σ H R I h1) fun u s1 hh => ?_
  obtain ⟨v, H1, I1, r, q⟩ := hh
  exact ⟨v, H1, I1, r, h2 v H1 q⟩
def tJoinT (t : TT) : TT := fun σ H Q => ∃ R : Bool → Hp → Prop, t σ H R ∧ ∀ b H1, R b H1 → Q b H1
theorem pt_jn {e : Expr} {t : TT} (h : PT X e t) : PT X e (tJoinT t) := by
  refine ⟨fun pins s σ H Q I hq => ?_⟩
  obtain ⟨R, h1, h2⟩ := hq
  refine thn (h.run pins s σ H R I h1) fun b s1 hh => ?_
  obtain ⟨H1, I1, q⟩ := hh
  exact ⟨H1, I1, h2 b H1 q⟩
def tCutS (t u : TS) : TS := fun D σ H => ∃ Mid : St → Hp → Prop, t { D with nx := Mid } σ H ∧ ∀ σ' H', Mid σ' H' → u D σ' H'
theorem pss_cutS {st : Stmt} {rest : List Stmt} {t u : TS} (h1 : PS X st t) (h2 : PSs X rest u) : PSs X (st :: rest) (tCutS t u) := by
  refine ⟨fun pins s σ H D I h => ?_⟩
  obtain ⟨Mid, hm, hu⟩ := h
  refine wpAny_execs_cons (thn (h1.run pins s σ H { D with nx := Mid } I hm) fun f s1 q => ?_)
  cases f with
  | next =>
    obtain ⟨σ1, H1, I1, q1⟩ := q
    exact h2.run pins s1 σ1 H1 D I1 (hu σ1 H1 q1)
  | ret v => exact q
  | brk => exact q
  | cont => exact q
end
/-! ### rules within a comprehension: the written part named -/
section
variable {X : Cx} {K : PySem.W.Frag}
theorem ix_tupK (h : X.K = K) : IxR X (rIxT K) := by subst h; exact ix_tup
theorem ix_listK (h : X.K = K) : IxR X (rIxL K) := by subst h; exact ix_list
theorem ix_seqK (h : X.K = K) : IxR X (rIx K) := by subst h; exact ix_seq
theorem op_in_seqK (h : X.K = K) : OpR X (compareOp .In) (rIn K false) := by subst h; exact op_in_seq
theorem op_notIn_seqK (h : X.K = K) : OpR X (compareOp .NotIn) (rIn K true) := by subst h; exact op_notIn_seq
def rLenQ (K : PySem.W.Frag) : List V → Hp → VK → Prop := fun xs H Q => ∃ p ys, xs = [.ref p] ∧ (SqL K H p ys ∨ SqT K H p ys) ∧ Q (.int ys.length) H
theorem call_len_seqK (h : X.K = K) : CallR X (.builtin "len") (rLenQ K) := by subst h; exact call_len_seq
theorem call_isiK' (h : X.K = K) : CallR X (.builtin "isinstance") (rIsi K) := by subst h; exact call_isi
end
theorem SqL.but {K : PySem.W.Frag} {H : Hp} {a l : Addr} {xs ys : List V} {o : HO} (h : SqL K H a xs) (hl : H l = some (.lst ys)) (n : a ≠ l) : SqL K (upd H l o) a xs := by
  rcases h with (h | ⟨u, h⟩) | h
  · exact .inl (.inl (by rw [upd_ne n]; exact h))
  · exact .inl (.inr ⟨u, by rw [upd_ne n]; exact h⟩)
  · exact .inr h
end L2
namespace L2
open PySem PySem.Spec PyProof.Rows
/-! ### lists of ints, of ints and None, by values -/
def optV : Option Int → V
  | none => .non
  | some i => .int i
theorem optV_flat (o : Option Int) : flatV (optV o) = true := by cases o <;> rfl
theorem flat_ints (xs : List Int) : (xs.map V.int).all flatV = true := by
  induction xs with
  | nil => rfl
  | cons x r ih => exact ih
theorem flat_opts (xs : List (Option Int)) : (xs.map optV).all flatV = true := by
  induction xs with
  | nil => rfl
  | cons x r ih =>
    show (flatV (optV x) && (r.map optV).all flatV) = true
    rw [ih, optV_flat]
    rfl
theorem inV_ints (x : Int) (xs : List Int) : inV (.int x) (xs.map V.int) = decide (x ∈ xs) := by
  induction xs with
  | nil => rfl
  | cons y r ih =>
    show (y == x || inV (.int x) (r.map V.int)) = decide (x ∈ y :: r)
    rw [ih]
    by_cases h : y = x
    · subst h
      simp
    · have h' : ¬ x = y := fun z => h z.symm
      simp [h, h']
theorem inV_non_ints (xs : List Int) : inV .non (xs.map V.int) = false := by
  induction xs with
  | nil => rfl
  | cons y r ih =>
    show (false || inV .non (r.map V.int)) = false
    rw [ih]
    rfl
theorem nl_get_map {α : Type} {f : α → V} {xs : List α} {i : Nat} {x : α} (h : xs[i]? = some x) : (xs.map f)[i]? = some (f x) := by
  rw [List.getElem?_map, h]
  rfl
theorem of_get_map {α : Type} {f : α → V} {xs : List α} {i : Nat} {v : V} (h : (xs.map f)[i]? = some v) : ∃ x, xs[i]? = some x ∧ v = f x := by
  rw [List.getElem?_map] at h
  cases e : xs[i]? with
  | none =>
    rw [e] at h
    cases h
  | some x =>
    rw [e] at h
    exact ⟨x, rfl, (Option.some.inj h).symm⟩
theorem of_get_mapG {α β : Type} {f : α → β} {xs : List α} {i : Nat} {v : β} (h : (xs.map f)[i]? = some v) : ∃ x, xs[i]? = some x ∧ v = f x := by
  rw [List.getElem?_map] at h
  cases e : xs[i]? with
  | none =>
    rw [e] at h
    cases h
  | some x =>
    rw [e] at h
    exact ⟨x, rfl, (Option.some.inj h).symm⟩
theorem idx_get {x : Int} {xs : List Int} (h : x ∈ xs) : xs[xs.idxOf x]? = some x := by
  have hl : xs.idxOf x < xs.length := List.idxOf_lt_length_of_mem h
  rw [List.getElem?_eq_getElem hl, List.getElem_idxOf hl]
theorem idx_first {x y : Int} : ∀ {xs : List Int} {m : Nat}, m < xs.idxOf x → xs[m]? = some y → (y == x) = false
  | [], m, h, _ => by simp at h
  | z :: r, m, h, hm => by
    rw [List.idxOf_cons] at h
    by_cases e : z = x
    · subst e
      simp at h
    · have e' : (z == x) = false := by simpa using e
      rw [e'] at h
      cases m with
      | zero =>
        have q : z = y := Option.some.inj hm
        rw [← q]
        exact e'
      | succ m => exact idx_first (xs := r) (m := m) (by simp only [cond_false] at h; omega) hm
theorem eqV_int (x : Int) : eqV (.int x) (.int x) = true := by
  show (x == x) = true
  simp
theorem idx_none {x : Int} {xs : List Int} (m : Nat) (z : V) (hm : m < xs.idxOf x) (hz : (xs.map V.int)[m]? = some z) : eqV z (.int x) = false := by
  obtain ⟨y, hy, rfl⟩ := of_get_map hz
  exact idx_first hm hy
theorem ix_nat {n j : Nat} (hj : j < n) : ixN n (j : Int) = some j := by
  unfold ixN
  rw [if_pos (by omega), if_pos (by omega)]
  simp
theorem pop_seq {j n : Nat} (h : j < n) : seqIndex? (j : Int) n = some j := (ixN_seq (ix_nat h)).1
theorem erase_map {α : Type} {f : α → V} : ∀ (xs : List α) (j : Nat), (xs.map f).eraseIdx j = (xs.eraseIdx j).map f
  | [], j => by cases j <;> rfl
  | x :: r, 0 => rfl
  | x :: r, j + 1 => congrArg (f x :: ·) (erase_map r j)
theorem snoc_map {α : Type} (f : α → V) (xs : List α) (x : α) : xs.map f ++ [f x] = (xs ++ [x]).map f := by
  rw [List.map_append]
  rfl
theorem fold_take {α β : Type} (f : β → α → β) (s : β) {xs : List α} {i : Nat} {x : α} (h : xs[i]? = some x) : (xs.take (i + 1)).foldl f s = f ((xs.take i).foldl f s) x := by
  rw [List.take_add_one, h, List.foldl_append]
  rfl
theorem fold_all {α β : Type} (f : β → α → β) (s : β) {xs : List α} : (xs.take xs.length).foldl f s = xs.foldl f s := by rw [List.take_length]
theorem sizeL {n : Nat} (h : n < 1000000) : n < sizeLine := Nat.lt_of_lt_of_le h (by decide)
/-! ### touches -/
def kindS (b : Bool) : Str := if b then "write" else "read"
/-- a touch: whether it writes, its box -/
abbrev Tch := Bool × Int
def TouchAt (K : PySem.W.Frag) (H : Hp) (v : V) (t : Tch) : Prop := ∃ a, v = .ref a ∧ SqT K H a [.str (kindS t.1), .int t.2]
/-- at a a list of the touches ts -/
structure TL (K : PySem.W.Frag) (H : Hp) (xs : List V) (ts : List Tch) : Prop where
  len : xs.length = ts.length
  at_ : ∀ (i : Nat) (t : Tch), ts[i]? = some t → ∃ v, xs[i]? = some v ∧ TouchAt K H v t
theorem TouchAt.same {K : PySem.W.Frag} {H H' : Hp} {v : V} {t : Tch} (h : TouchAt K H v t) (s : Same H H') : TouchAt K H' v t := by
  obtain ⟨a, e, q⟩ := h
  exact ⟨a, e, s.seqT q⟩
theorem TL.same {K : PySem.W.Frag} {H H' : Hp} {xs : List V} {ts : List Tch} (h : TL K H xs ts) (s : Same H H') : TL K H' xs ts :=
  ⟨h.len, fun i t e => let ⟨v, e1, q⟩ := h.at_ i t e; ⟨v, e1, q.same s⟩⟩
theorem TouchAt.but {K : PySem.W.Frag} {H : Hp} {v : V} {t : Tch} {l : Addr} {ys : List V} {o : HO} (h : TouchAt K H v t) (hl : H l = some (.lst ys)) : TouchAt K (upd H l o) v t := by
  obtain ⟨a, e, q⟩ := h
  exact ⟨a, e, q.but hl⟩
theorem TL.but {K : PySem.W.Frag} {H : Hp} {xs : List V} {ts : List Tch} {l : Addr} {ys : List V} {o : HO} (h : TL K H xs ts) (hl : H l = some (.lst ys)) : TL K (upd H l o) xs ts :=
  ⟨h.len, fun i t e => let ⟨v, e1, q⟩ := h.at_ i t e; ⟨v, e1, q.but hl⟩⟩
theorem TL.nil {K : PySem.W.Frag} {H : Hp} : TL K H [] [] := ⟨rfl, fun i t e => by simp at e⟩
theorem TL.snoc {K : PySem.W.Frag} {H : Hp} {xs : List V} {ts : List Tch} {v : V} {t : Tch} (h : TL K H xs ts) (q : TouchAt K H v t) : TL K H (xs ++ [v]) (ts ++ [t]) := by
  refine ⟨by rw [List.length_append, List.length_append, h.len]; rfl, fun i u e => ?_⟩
  by_cases hi : i < ts.length
  · rw [List.getElem?_append_left hi] at e
    obtain ⟨x, e1, q1⟩ := h.at_ i u e
    exact ⟨x, by rw [List.getElem?_append_left (by rw [h.len]; exact hi)]; exact e1, q1⟩
  · have hlt := (List.getElem?_eq_some_iff.mp e).1
    rw [List.length_append] at hlt
    have hi2 : i = ts.length := by
      simp only [List.length_cons, List.length_nil] at hlt
      omega
    subst hi2
    rw [List.getElem?_append_right (Nat.le_refl _), Nat.sub_self] at e
    have et : t = u := Option.some.inj e
    subst et
    refine ⟨v, ?_, q⟩
    rw [← h.len, List.getElem?_append_right (Nat.le_refl _), Nat.sub_self]
    rfl
theorem TL.of {K : PySem.W.Frag} {H : Hp} {xs : List V} {ts : List Tch} (h : TL K H xs ts) {i : Nat} {v : V} (hv : xs[i]? = some v) : ∃ t, ts[i]? = some t ∧ TouchAt K H v t := by
  have hlt := (List.getElem?_eq_some_iff.mp hv).1
  rw [h.len] at hlt
  obtain ⟨v', e1, q⟩ := h.at_ i ts[i] (List.getElem?_eq_getElem hlt)
  rw [hv] at e1
  have ev : v = v' := Option.some.inj e1
  exact ⟨ts[i], List.getElem?_eq_getElem hlt, by rw [ev]; exact q⟩
theorem at_getD {xs : List Int} {i : Int} (h0 : 0 ≤ i) (h1 : i < xs.length) : atI (xs.map V.int) i = some (.int (xs.getD i.toNat 0)) := by
  obtain ⟨j, rfl⟩ : ∃ j : Nat, i = (j : Int) := ⟨i.toNat, by omega⟩
  have hj : j < xs.length := by omega
  refine atI_nat ?_
  rw [List.getElem?_map, Int.toNat_natCast, List.getD_eq_getElem?_getD, List.getElem?_eq_getElem hj]
  rfl
theorem mod_at {xs : List Int} (c : Int) (n : Nat) (hn : n = xs.length) (h0 : 0 < n) : atI (xs.map V.int) (c % (n : Int)) = some (.int (xs.getD (c % (n : Int)).toNat 0)) :=
  at_getD (Int.emod_nonneg _ (by omega)) (by have := Int.emod_lt_of_pos c (show 0 < (n : Int) by omega); omega)
theorem kind_at (c : Int) : atI [V.str "read", V.str "write"] (c % 2) = some (V.str (kindS (c % 2 == 1))) := by
  have h : c % 2 = 0 ∨ c % 2 = 1 := by omega
  rcases h with h | h <;> rw [h] <;> rfl
theorem int_getD {lines : List Int} {k : Nat} (h : k < lines.length) : (lines.map V.int)[k]? = some (.int (lines.getD k 0)) := by
  rw [List.getElem?_map, List.getD_eq_getElem?_getD, List.getElem?_eq_getElem h]
  rfl
theorem mod2 (c : Int) : c % 2 = 0 ∨ c % 2 = 1 := by omega
theorem mod4 (c : Int) : c % 4 = 0 ∨ c % 4 = 1 ∨ c % 4 = 2 ∨ c % 4 = 3 := by omega
theorem filter_erase {x : Int} : ∀ {l : List Int}, l.Nodup → x ∈ l → l.filter (fun z => !decide (z = x)) = l.eraseIdx (l.idxOf x)
  | [], _, h => by simp at h
  | y :: r, nd, h => by
    obtain ⟨h1, h2⟩ := List.nodup_cons.mp nd
    by_cases e : y = x
    · subst e
      have e2 : (y :: r).idxOf y = 0 := by simp
      rw [e2, List.filter_cons, if_neg (by simp)]
      show _ = r
      rw [List.filter_eq_self]
      intro z hz
      have : ¬ z = y := fun q => h1 (by rw [← q]; exact hz)
      simp [this]
    · have h3 : x ∈ r := by
        rcases List.mem_cons.mp h with q | q
        · exact absurd q.symm e
        · exact q
      have e2 : (y :: r).idxOf x = r.idxOf x + 1 := by
        rw [List.idxOf_cons]
        have e' : (y == x) = false := by simpa using e
        rw [e']
        rfl
      rw [e2, List.filter_cons, if_pos (by simp [e]), filter_erase h2 h3]
      rfl
theorem at_ofG {α : Type} {xs : List α} {z : Int} {j : Nat} {v : α} (e : z = (j : Int)) (h : xs[j]? = some v) : atI xs z = some v := by
  rw [e]
  exact atI_nat h
theorem nodup_map_inj {α β : Type} {f : α → β} : ∀ {l : List α}, (l.map f).Nodup → ∀ {x y : α}, x ∈ l → y ∈ l → f x = f y → x = y
  | [], _, _, _, h, _, _ => by cases h
  | a :: r, nd, x, y, hx, hy, e => by
    rw [List.map_cons, List.nodup_cons] at nd
    rcases List.mem_cons.mp hx with h1 | h1 <;> rcases List.mem_cons.mp hy with h2 | h2
    · rw [h1, h2]
    · rw [h1] at e
      exact absurd (by rw [e]; exact List.mem_map_of_mem h2) nd.1
    · rw [h2] at e
      exact absurd (by rw [← e]; exact List.mem_map_of_mem h1) nd.1
    · exact nodup_map_inj nd.2 h1 h2 e
theorem sub_len : ∀ {l m : List Int}, l.Nodup → (∀ x ∈ l, x ∈ m) → l.length ≤ m.length
  | [], _, _, _ => Nat.zero_le _
  | x :: r, m, nd, h => by
    obtain ⟨h1, h2⟩ := List.nodup_cons.mp nd
    have hx := h x List.mem_cons_self
    have ih := sub_len (m := m.erase x) h2 fun y hy => (List.mem_erase_of_ne (fun q => h1 (by rw [← q]; exact hy))).mpr (h y (List.mem_cons_of_mem _ hy))
    have := List.length_erase_of_mem hx
    have hp : 0 < m.length := List.length_pos_of_mem hx
    rw [List.length_cons]
    omega
end L2
namespace L2
open PySem PySem.Spec PyProof.Rows
/-! ### data at any depth, for == -/
def Sh (n : Nat) (d : PyData) : Prop := PyData.canLay0 d = true ∧ PyData.depth d ≤ n
theorem Sh.shaped {n : Nat} {d : PyData} (h : Sh n d) (hn : n ≤ 64) : SeqAt.shaped d = true := by
  unfold SeqAt.shaped
  rw [h.1, decide_eq_true (Nat.le_trans h.2 hn)]
  rfl
theorem sh_all {n : Nat} : ∀ {ds : List PyData}, (∀ d ∈ ds, Sh n d) → PyData.canLayAll0 ds = true ∧ PyData.depthAll ds ≤ n
  | [], _ => ⟨rfl, Nat.zero_le _⟩
  | d :: r, h => by
    obtain ⟨h1, h2⟩ := h d List.mem_cons_self
    obtain ⟨h3, h4⟩ := sh_all (ds := r) fun e he => h e (List.mem_cons_of_mem _ he)
    refine ⟨?_, ?_⟩
    · show (PyData.canLay0 d && PyData.canLayAll0 r) = true
      rw [h1, h3]
      rfl
    · show max (PyData.depth d) (PyData.depthAll r) ≤ n
      omega
theorem sh_list {n : Nat} {ds : List PyData} (h : ∀ d ∈ ds, Sh n d) : Sh (n + 1) (.list ds) := ⟨(sh_all h).1, Nat.succ_le_succ (sh_all h).2⟩
theorem sh_tup {n : Nat} {ds : List PyData} (h : ∀ d ∈ ds, Sh n d) : Sh (n + 1) (.tuple ds) := ⟨(sh_all h).1, Nat.succ_le_succ (sh_all h).2⟩
theorem sh_int {n : Nat} (i : Int) : Sh n (.int i) := ⟨rfl, Nat.zero_le _⟩
theorem sh_non {n : Nat} : Sh n .none := ⟨rfl, Nat.zero_le _⟩
theorem sh_bool {n : Nat} (b : Bool) : Sh n (.bool b) := ⟨rfl, Nat.zero_le _⟩
theorem sh_str {n : Nat} {x : Str} (h : PyData.strOk x = true) : Sh n (.str x) := ⟨h, Nat.zero_le _⟩
theorem dpAll_of {K : PySem.W.Frag} {H : Hp} : ∀ {xs : List V} {ds : List PyData}, xs.length = ds.length → (∀ (i : Nat) v d, xs[i]? = some v → ds[i]? = some d → Dp K H v d) → DpAll K H xs ds
  | [], [], _, _ => .nil
  | [], _ :: _, h, _ => by simp at h
  | _ :: _, [], h, _ => by simp at h
  | x :: r, d :: s, h, q => .cons (q 0 x d rfl rfl) (dpAll_of (by simpa using h) fun i v e h1 h2 => q (i + 1) v e h1 h2)
theorem eqv_self {n : Nat} {d : PyData} (h : Sh n d) : PyData.eqv d d = true := SeqAt.eqv_refl d h.1
/-! ### touches as data -/
def touchD (t : Tch) : PyData := .tuple [.str (kindS t.1), .int t.2]
theorem touch_sh (t : Tch) : Sh 1 (touchD t) := sh_tup fun d hd => by
  simp only [List.mem_cons, List.not_mem_nil, or_false] at hd
  rcases hd with rfl | rfl
  · have q : ∀ b, PyData.strOk (kindS b) = true := by
      intro b
      cases b <;> decide +kernel
    exact sh_str (q _)
  · exact sh_int _
theorem touches_sh (ts : List Tch) : Sh 2 (.list (ts.map touchD)) := sh_list fun d hd => by
  obtain ⟨t, _, rfl⟩ := List.mem_map.mp hd
  exact touch_sh t
theorem TouchAt.dp {K : PySem.W.Frag} {H : Hp} {v : V} {t : Tch} (h : TouchAt K H v t) : Dp K H v (touchD t) := by
  obtain ⟨a, rfl, q⟩ := h
  exact .tup q (.cons (.str _) (.cons (.int _) .nil))
theorem TL.dp {K : PySem.W.Frag} {H : Hp} {a : Addr} {xs : List V} {ts : List Tch} (h : TL K H xs ts) (q : SqL K H a xs) : Dp K H (.ref a) (.list (ts.map touchD)) := by
  refine .lst q (dpAll_of (by rw [h.len, List.length_map]) fun i v d hv hd => ?_)
  obtain ⟨t, ht, qt⟩ := h.of hv
  rw [List.getElem?_map, ht] at hd
  have e : touchD t = d := Option.some.inj hd
  rw [← e]
  exact qt.dp
theorem cut_one (xs : List V) : cutV xs (some 1) none = xs.drop 1 := by
  unfold cutV
  rw [show HT.sIx xs.length 0 (some 1) = min 1 xs.length from HT.sIx_nat xs.length 0 1, HT.sIx_none]
  cases xs with
  | nil => rfl
  | cons x r =>
    rw [show min 1 (x :: r).length = 1 by
      rw [List.length_cons]
      omega]
    show (List.take ((x :: r).length - 1) r) = r
    rw [List.length_cons, Nat.add_sub_cancel]
    exact List.take_length
theorem cut_from (xs : List V) (k : Nat) : cutV xs (some (k : Int)) none = xs.drop k := by
  unfold cutV
  rw [show HT.sIx xs.length 0 (some (k : Int)) = min k xs.length from HT.sIx_nat xs.length 0 k, HT.sIx_none]
  by_cases h : k ≤ xs.length
  · rw [Nat.min_eq_left h]
    exact List.take_of_length_le (by rw [List.length_drop]; exact Nat.le_refl _)
  · rw [Nat.min_eq_right (by omega), Nat.sub_self, List.drop_eq_nil_of_le (Nat.le_refl _), List.drop_eq_nil_of_le (show xs.length ≤ k by omega)]
    rfl
end L2
namespace L2
open PySem PySem.Spec PyProof.Rows
mutual
theorem dp_same {K : PySem.W.Frag} {H H' : Hp} (s : Same H H') : ∀ (d : PyData) (v : V), Dp K H v d → Dp K H' v d
  | .none, _, h => by cases h; exact .non
  | .bool b, _, h => by cases h; exact .bl b
  | .int i, _, h => by cases h; exact .int i
  | .str x, _, h => by cases h; exact .str x
  | .list ds, _, h => by
    cases h with
    | lst q a => exact .lst (s.seq q) (dpAll_same s ds _ a)
  | .tuple ds, _, h => by
    cases h with
    | tup q a => exact .tup (s.seqT q) (dpAll_same s ds _ a)
  | .dict _, _, h => by cases h
theorem dpAll_same {K : PySem.W.Frag} {H H' : Hp} (s : Same H H') : ∀ (ds : List PyData) (vs : List V), DpAll K H vs ds → DpAll K H' vs ds
  | [], _, h => by cases h; exact .nil
  | d :: ds, _, h => by
    cases h with
    | cons a b => exact .cons (dp_same s d _ a) (dpAll_same s ds _ b)
end
end L2
namespace L2
open PySem PySem.Spec PyProof.Rows
/-! ### own classes of errors -/
/-- the class x of errors stands at C -/
structure ExcAt (K : PySem.W.Frag) (mg : Str → Option Value) (x : Str) (C : Addr) : Prop where
  g : mg x = some (.ref C)
  x : PySem.W.excIn K C [.type "ValueError", .type "Exception", .type "BaseException", .type "object"] "ValueError.__new__" = true
  k : PySem.W.keepIn K (.ref C) = true
  b : PySem.W.subIn K (.ref C) (.type "BaseException") = some true
  t : PySem.W.typeIn K (.ref C) = some (.type "type")
  i : PySem.W.isClsIn K C = true
  s : PySem.W.subIn K (.ref C) (.ref C) = some true
/-- what one class is to another: an instance of D asked for C -/
theorem kit_own {K : PySem.W.Frag} {D C : Addr} {v : Bool} (hi : PySem.W.isClsIn K C = true) (ht : PySem.W.typeIn K (.ref C) = some (.type "type")) (hs : PySem.W.subIn K (.ref C) (.ref C) = some true) (h : PySem.W.subIn K (.ref D) (.ref C) = some v) :
    PySem.W.kitOne K (.ref D) (.ref C) = some v := by
  by_cases e : D = C
  · subst e
    have ev : v = true := Option.some.inj (h.symm.trans hs)
    subst ev
    show (if (Value.ref D == Value.ref D) = true then some true else _) = _
    rw [if_pos (beq_self_eq_true _)]
  · have n : ¬ (Value.ref D == Value.ref C) = true := fun z => e (Value.ref.inj (beq_iff_eq.mp z))
    show (if (Value.ref D == Value.ref C) = true then some true else PySem.W.kitCls K (.ref D) (.ref C)) = _
    rw [if_neg n]
    show (if ((PySem.W.clsIn K C).isSome && PySem.W.typeIn K (.ref C) == some (.type "type")) = true then PySem.W.subIn K (.ref D) (.ref C) else none) = _
    have hi' : (PySem.W.clsIn K C).isSome = true := hi
    rw [hi', ht, if_pos (by simp)]
    exact h
theorem kit_val {K : PySem.W.Frag} {D : Addr} {v : Bool} (h : PySem.W.subIn K (.ref D) (.type "ValueError") = some v) : PySem.W.kitOne K (.ref D) (.type "ValueError") = some v := by
  have n : ¬ (Value.ref D == Value.type "ValueError") = true := fun z => nomatch (beq_iff_eq.mp z)
  show (if (Value.ref D == Value.type "ValueError") = true then some true else PySem.W.kitCls K (.ref D) (.type "ValueError")) = _
  rw [if_neg n]
  show (if PySem.W.kitMeta "ValueError" = true then PySem.W.subIn K (.ref D) (.type "ValueError") else none) = _
  rw [if_pos (by decide +kernel)]
  exact h
/-- an except clause of the own class C -/
theorem exm_own {K : PySem.W.Frag} {C : Addr} {cls : Value} {v : Bool} (hb : PySem.W.subIn K (.ref C) (.type "BaseException") = some true) (hi : PySem.W.isClsIn K C = true) (ht : PySem.W.typeIn K (.ref C) = some (.type "type")) (h : PySem.W.subIn K cls (.ref C) = some v) :
    PySem.W.exmOne K cls (.ref C) = some v := by
  have e1 : (PySem.W.subIn K (.ref C) (.type "BaseException") == some true) = true := by rw [hb] <;> rfl
  have e2 : ((PySem.W.clsIn K C).isSome && PySem.W.typeIn K (.ref C) == some (.type "type")) = true := by
    have hi' : (PySem.W.clsIn K C).isSome = true := hi
    rw [hi', ht] <;> rfl
  show (if (PySem.W.subIn K (.ref C) (.type "BaseException") == some true) = true then (if ((PySem.W.clsIn K C).isSome && PySem.W.typeIn K (.ref C) == some (.type "type")) = true then PySem.W.subIn K cls (.ref C) else none) else none) = some v
  rw [if_pos e1, if_pos e2]
  exact h
theorem ExcAt.te {K : PySem.W.Frag} {mg : Str → Option Value} {x : Str} {C : Addr} (e : ExcAt K mg x C) : PySem.W.exmOne K (.ref C) (.ref C) = some true := exm_own e.b e.i e.t e.s
theorem ExcAt.self {K : PySem.W.Frag} {mg : Str → Option Value} {x : Str} {C : Addr} (e : ExcAt K mg x C) {D : Addr} {v : Bool} (h : PySem.W.subIn K (.ref D) (.ref C) = some v) : PySem.W.kitOne K (.ref D) (.ref C) = some v := kit_own e.i e.t e.s h

/-! ### a def that is handed the error that is being handled: p, its place and what stands there -/
/-- what such a def promises -/
structure OkP (P : Program) (w : World) (K : PySem.W.Frag) (mg : Str → Option Value) (base : Heap) (k : Nat) (f : Addr) (fd : FuncData) (ps : List Str) (sp : Addr → Addr → Sp) : Prop where
  len : ∀ a D vs H Q E, sp a D vs H Q E → vs.length = ps.length
  kp : PySem.W.keepIn K (.ref f) = true
  bd : Binds K fd ps []
  run : ∀ (A : Around) (outer : List Env) (s : Shared) (H : Hp) (args : Args) (us : List Value) (vs : List V) (Q : VK) (E : XK) (p : Addr × Obj) (D : Addr), L2H.RoomH k A → L2H.PinOk outer H s p → Zc (.ref D) none p.2 → (∃ vs, p.2.data = .fields vs) → Env0 P w K mg base A outer s H → BindsTo s fd args (ps.zip us) → Vals vs us →
    sp p.1 D vs H Q E → codeAny (model P w) A (.call (.ref f) args) (CR CX0 outer P w H s Q E) s
section
variable {P : Program} {w : World} {K : PySem.W.Frag} {mg : Str → Option Value} {base : Heap} {x qual : Str} {st : Stmt} {f : Addr} {fd : FuncData} {ps N : List Str} {k : Nat} {sp : Addr → Addr → Sp}
theorem FnAt.okP (F : FnAt K x qual st f fd ps) (S : FnScope N ps (defScope st)) (len : ∀ a D vs H Q E, sp a D vs H Q E → vs.length = ps.length)
    (body : ∀ (cdv : Value) (A : Around) (outer : List Env) (s : Shared) (H : Hp) (vs : List V) (Q : VK) (E : XK) (p : Addr × Obj) (D : Addr), L2H.RoomH k (A.deeper (envOfC qual (defScope st) s.heap.objs.size f cdv)) → Zc (.ref D) none p.2 → (∃ vs, p.2.data = .fields vs) → sp p.1 D vs H Q E →
      ∃ t, PSs (L2H.cxH CX0 P w K mg base N qual (defScope st) f cdv A outer s H E p) (defBody st) t ∧ t { nx := fun _ H' => Q .non H', rt := Q } (start N vs) H) : OkP P w K mg base (k + 1) f fd ps sp := by
  obtain ⟨G, B⟩ := F
  refine ⟨len, G.kp, B, fun A outer s H args us vs Q E p D room pin hz hf e0 bt rv hsp => ?_⟩
  obtain ⟨oc, od, kV, doc, pm, an, cdv, ct, osl, rfl, found, code⟩ := G.ex
  have inK : K.In s.heap := e0.mod.kin.keeps fun b o e => (e0.bs b o e).1
  have lim : s.heap.NoLimit := e0.mod.nolimit.keeps fun b o e => (e0.bs b o e).1
  have kinds : ∀ y ∈ ps.zip us, (defScope st).names.lookup y.1 = some .local ∨ ((defScope st).names.lookup y.1 = some .cell ∧ ((cellsFrom (s.heap.objs.size + 1) (defScope st).names []).lookup y.1).isSome = true) := by
    rintro ⟨n, v⟩ hy
    rcases S.par n (List.of_mem_zip hy).1 with z | z
    · exact Or.inl z
    · exact Or.inr ⟨z, PySem.W.cellsFrom_some _ _ _ (Or.inl z)⟩
  refine codeAny_call_function room.depth (inK _ _ found) rfl S.co S.gen rfl (PySem.W.codeRec_of inK code) (bt _ _ _ _ ?_)
  refine wpAny_newFunctionEnv_cells S.kind kinds fun env henv s1 made => ?_
  subst henv
  refine ⟨lim.keeps made.toInCall.keep, codeAny_func ?_⟩
  obtain ⟨t, derived, reading⟩ := body cdv A outer s H vs Q E p D (room.deeper _) hz hf hsp
  have I : Inv (L2H.cxH CX0 P w K mg base N qual (defScope st) f cdv A outer s H E p) [] (start N vs) H s1 := L2H.inv_startH S pin e0 (len _ _ _ _ _ _ hsp) rv made
  refine wpAny_mono (derived.run [] s1 (start N vs) H _ I reading) (fun fl s2 hs => ?_) fun e s2 hs => hs
  cases fl with
  | ret u =>
    obtain ⟨v, σ2, H2, J, r2, q2⟩ := hs
    exact ⟨v, H2, J.os, J.bare, J.base, J.hok, r2, q2⟩
  | next =>
    obtain ⟨σ2, H2, J, q2⟩ := hs
    exact ⟨V.non, H2, J.os, J.bare, J.base, J.hok, rfl, q2⟩
  | brk =>
    obtain ⟨_, _, _, q2⟩ := hs
    exact q2.elim
  | cont =>
    obtain ⟨_, _, _, q2⟩ := hs
    exact q2.elim
end
section
variable {X : Cx} {k : Nat} {f : Addr} {fd : FuncData} {ps : List Str} {sp : Addr → Addr → Sp} {x : Str} {q pos : Pos} {e : Expr} {es : List Expr} {t : TA}
/-- f(e, ..) where the error at a, of the class cls, is being handled -/
def tCallP (a : Addr) (cls : Value) (d : Option Addr) (sp : Addr → Addr → Sp) (t : TA) : TE := fun σ H Q => t σ H fun vs H1 => ∃ D, cls = .ref D ∧ d = none ∧ sp a D vs H1 Q E0
theorem pe_callP {a : Addr} {oe : Obj} {cls : Value} {d : Option Addr} (O : OkP X.prog X.w X.K X.mg X.base k f fd ps sp) (hr : L2H.RoomH k X.A) (hp : (a, oe) ∈ X.pn) (hz : Zc cls d oe) (hf : ∃ vs, oe.data = .fields vs) (hg : Gl X x) (hm : X.mg x = some (.ref f)) (ha : PA X (e :: es) t)
    (hdb : (x == ("__debug__" : Str)) = false := by decide) (he : starEach (e :: es) X.env = (false, eval e X.env) :: starEach es X.env := by rfl) (hpl : (backTo pos (starEach es X.env)).any (·.1) = false := by rfl) :
    PE X (.Call (.Name x q) (e :: es) [] pos) (tCallP a cls d sp t) := by
  refine ⟨fun pins s σ H Q I h => ?_⟩
  refine wpAny_Call_Name_kw (ld_glob I hg hm ?_ hdb)
  refine PySem.W.callWith_K (h₀ := X.base) I.ok.mod.kin O.kp (thn (ha.run pos pins s σ H _ I h) fun us s1 ⟨vs, H1, I1, rv, D, ec, ed, hsp⟩ => ⟨I1.kIn, ?_⟩) he hpl
  subst ec ed
  have hl : us.length = ps.length := rv.length.symm.trans (O.len _ _ _ _ _ _ hsp)
  have bt := O.bd s1 us I1.kIn (by rw [List.append_nil]; exact hl)
  rw [List.append_nil] at bt
  have at_ := I1.pin (a, oe) (List.mem_append_left _ hp)
  have pin : L2H.PinOk X.stack H1 s1 (a, oe) := ⟨at_.1, at_.2.1, fun hm => (List.mem_cons.mp (I1.stkSub a hm)).elim at_.2.2.1 at_.2.2.2.1, at_.2.2.2.2⟩
  refine wpAny_call (codeAny_mono (O.run X.A X.stack s1 H1 ⟨us, []⟩ us vs Q E0 (a, oe) D hr pin hz hf I1.env0 bt rv hsp) fun r s2 hq => ?_)
  cases r with
  | error e => exact hq.elim
  | ok fl =>
    cases fl with
    | ret u => exact I1.after hq
    | next => exact hq.elim
    | brk => exact hq.elim
    | cont => exact hq.elim
/-- isinstance(e, c), e the error at a that is pinned -/
theorem call_isP {X : Cx} {a D : Addr} {oe : Obj} (C : ExcC X.K D) (hp : (a, oe) ∈ X.pn) (hz : Zc (.ref D) none oe) (hf : ∃ vs, oe.data = .fields vs) : CallR X (.builtin "isinstance") (rIsE X.K D a) := by
  intro pins s σ H xs us Q I r h
  obtain ⟨c, cv, b, rfl, hcv, hk, q⟩ := h
  obtain ⟨u1, u2, rfl, r1, r2⟩ := vals2 r
  cases (show u1 = Value.ref a from r1)
  have ec := hcv _ r2
  subst ec
  obtain ⟨found, _⟩ := I.pin (a, oe) (List.mem_append_left _ hp)
  obtain ⟨vs, hv⟩ := hf
  have J : PySem.W.InstAt s.heap a oe D none := by
    obtain ⟨oc, od, oda, osl⟩ := oe
    obtain ⟨h1, h2⟩ := hz
    simp only at h1 h2 hv
    subst h1 h2 hv
    exact ⟨found, rfl, rfl, trivial⟩
  exact PySem.W.kia_one (PySem.W.handS_kitx_exc C.hg C.hk C.hs C.hd C.ha C.hn C.ht C.hm) I.kIn J hk (fun z => nomatch z) fun tk => ⟨.bl b, H, I.kept (t' := tk) fun _ _ z => z, rfl, q⟩
/-! ### xs.count(True), xs a list of truth values -/
def eqTrue (v : Value) : Bool := match v with
  | .bool b => b
  | _ => false
def rCntT (K : PySem.W.Frag) : V → List V → Hp → VK → Prop := fun x xs H Q => ∃ (p : Addr) (bs : List Bool), x = .ref p ∧ xs = [.bl true] ∧ SqL K H p (bs.map V.bl) ∧ Q (.int (bs.count true : Nat)) H
theorem eqTrue_count : ∀ {bs : List Bool} {us : List Value}, Vals (bs.map V.bl) us → us.countP eqTrue = bs.count true
  | [], [], _ => rfl
  | b :: r, u :: us, .cons h t => by
    cases (show u = Value.bool b from h)
    rw [List.countP_cons, List.count_cons, eqTrue_count t]
    cases b <;> rfl
theorem mt_countT : MtR X "list.count" (rCntT X.K) := by
  intro pins s σ H x xs v us Q I rx rxs h
  obtain ⟨p, bs, rfl, rfl, hs, q⟩ := h
  cases rx
  obtain ⟨u, rfl, ru⟩ := rxs.one
  cases (show u = Value.bool true from ru)
  obtain ⟨its, rv, ⟨⟨cls, dd, data, sl⟩, n, found, hc, hdn, hd⟩, hlen⟩ := I.list hs
  simp only at hc hd
  subst hc hd
  have each : ∀ (bs : List Bool) (us : List Value), Vals (bs.map V.bl) us → ∀ y ∈ us, SeqAt.EqAt X.A.in1.in1 s y (.bool true) (eqTrue y) ∧ ∃ b, y = .bool b := by
    intro bs
    induction bs with
    | nil =>
      intro us h y hy
      cases h
      cases hy
    | cons b r ih =>
      intro us h y hy
      cases h with
      | cons h1 h2 =>
        rcases List.mem_cons.mp hy with e | e
        · cases (show _ = Value.bool b from h1)
          subst e
          have z := eqAt_V (A := X.A.in1.in1) (s := s) (y := .bl b) (x := .bl true) (u := .bool b) (v := .bool true) rfl rfl rfl rfl
          refine ⟨?_, b, rfl⟩
          have e2 : eqV (.bl b) (.bl true) = eqTrue (.bool b) := by cases b <;> rfl
          rw [← e2]
          exact z
        · exact ih _ h2 y e
  have each' : ∀ (A : Around), ∀ y ∈ its, SeqAt.EqAt A s y (.bool true) (eqTrue y) := by
    intro A y hy
    obtain ⟨_, b, rfl⟩ := each bs its rv y hy
    have e2 : eqV (.bl b) (.bl true) = eqTrue (.bool b) := by cases b <;> rfl
    rw [← e2]
    exact eqAt_V (A := A) (s := s) (y := .bl b) (x := .bl true) (u := .bool b) (v := .bool true) rfl rfl rfl rfl
  refine call_meets PySem.F.slot_list_count ⟨_, found, rfl⟩ PySem.F.entry_list_count (PySem.F.args_list_count_2 _ _)
    (SeqAt.list_countAt p its.toArray n dd sl (.bool true) eqTrue) ⟨found, fun y hy => each' _ y (by simpa using hy), ?_⟩
  have ec : its.toArray.toList.countP eqTrue = bs.count true := eqTrue_count rv
  refine ⟨.int (bs.count true : Nat), H, I.tok _, ⟨s.toks, ?_⟩, q⟩
  show Value.int ((its.toArray.toList.countP eqTrue : Nat) : Int) s.toks = Value.int ((bs.count true : Nat) : Int) s.toks
  rw [ec]
end
theorem roomP {j k : Nat} {A : Around} {a : Option Value} (hr : Room k A) (h : j ≤ k) : L2H.RoomH j (A.mark a) := ⟨(hr.mono h).dp, (hr.mono h).un⟩
/-! ### calls in the body of a try -/
section
variable {X : Cx} {cx : CXT} {k : Nat} {f : Addr} {fd : FuncData} {ps : List Str} {sp : Sp} {E : St → XK} {x m : Str} {p pos apos : Pos} {e o : Expr} {es : List Expr} {ta : TE} {t : TA}
theorem pe_callSO (O : Ok X.prog X.w X.K X.mg X.base cx k f fd ps sp) (hr : Room k X.A) (hg : Gl X x) (hm : X.mg x = some (.ref f)) (hx : ∀ σ, PassesAt cx X σ (E σ)) (ha : PA X (e :: es) t)
    (hdb : (x == ("__debug__" : Str)) = false := by decide) (he : starEach (e :: es) X.env = (false, eval e X.env) :: starEach es X.env := by rfl) (hpl : (backTo pos (starEach es X.env)).any (·.1) = false := by rfl) :
    PE X (.Call (.Name x p) (e :: es) [] pos) (tCallS sp E t) := pe_callS O.ok hr hg hm O.kp O.bd hx ha hdb he hpl
def tMethSO (C : Addr) (m : Str) (sp : Sp) (E : St → XK) (ta : TE) (t : TA) : TE := fun σ H Q => ta σ H fun x H1 => ∃ a dx fs, x = .ref a ∧ H1 a = some (.ins C dx fs) ∧ fs.lookup m = none ∧ t σ H1 fun vs H2 => sp (x :: vs) H2 Q (E σ)
theorem pe_methSO {C : Addr} {pl : Sem Bool} (O : Ok X.prog X.w X.K X.mg X.base cx k f fd ps sp) (c : Cls X.K C) (hm : Meth X.K C m f) (hr : Room k X.A) (hx : ∀ σ, PassesAt cx X σ (E σ)) (he : PE X o ta) (ha : PA X (e :: es) t)
    (hst : starEach (e :: es) X.env = (false, eval e X.env) :: starEach es X.env := by rfl) (hpl : (backTo pos (starEach es X.env)).any (·.1) = false := by rfl)
    (ht : eval (.Call (.Attribute o m apos) (e :: es) [] pos) X.env = (do
      let ov ← eval o X.env
      standAt apos.atName
      let (f, first) ← holding [ov] (getMethod ov m pl)
      callWith pos f first (backTo pos (starEach (e :: es) X.env)) (backToKw pos (keywordEach [] X.env))) := by rfl) :
    PE X (.Call (.Attribute o m apos) (e :: es) [] pos) (tMethSO C m sp E ta t) := by
  refine ⟨fun pins s σ H Q I h => ?_⟩
  refine PySem.W.methodCall_KW (pl := pl) (thn (he.run pins s σ H _ I h) fun u s1 ⟨y, H1, I1, ry, a, dx, fs, ey, ea, l, q⟩ => ?_) ht
  subst ey
  obtain rfl : u = Value.ref a := ry
  refine getmeth_ok I1 ea c hm l ?_
  refine PySem.W.callWith_K (first := [.ref a]) (h₀ := X.base) I.ok.mod.kin hm.kp (thn (ha.run pos pins s1 σ H1 _ I1 q) fun us s2 ⟨vs, H2, I2, rv, q2⟩ => ⟨I2.kIn, ?_⟩) hst hpl
  exact run_fnS (us := .ref a :: us) (vs := .ref a :: vs) O.ok hr O.bd (hx σ) I2 (.cons rfl rv) q2
end
/-! ### an object made -/
section
variable {X : Cx} {cx : CXT} {k : Nat} {f C : Addr} {fd : FuncData} {ps : List Str} {sp : Sp} {E : XK} {x : Str} {p pos : Pos} {e : Expr} {es : List Expr} {t : TA}
def tMakeO (C : Addr) (sp : Sp) (E : XK) (t : TA) : TE := fun σ H Q => t σ H fun vs H1 => ∀ x dx, H1 x = none → H1 dx = none → dx ≠ x → sp (.ref x :: vs) (upd (upd H1 dx (.own x)) x (.ins C dx [])) (fun v H2 => v = .non ∧ Q (.ref x) H2) E
theorem tMakeO_eq {C : Addr} {sp : Sp} {E : XK} {t : TA} : tMake C sp [] E t = tMakeO C sp E t := by
  funext σ H Q
  unfold tMake tMakeO
  simp only [List.append_nil]
theorem pe_makeO (O : Ok X.prog X.w X.K X.mg X.base cx k f fd ps sp) (M : Mk X.K C f) (hr : Room (k + 1) X.A) (hg : Gl X x) (hm : X.mg x = some (.ref C)) (hx : Passes cx X E) (ha : PA X (e :: es) t)
    (hdb : (x == ("__debug__" : Str)) = false := by decide) (he : starEach (e :: es) X.env = (false, eval e X.env) :: starEach es X.env := by rfl) (hpl : (backTo pos (starEach es X.env)).any (·.1) = false := by rfl) :
    PE X (.Call (.Name x p) (e :: es) [] pos) (tMakeO C sp E t) := by
  obtain ⟨F, B, kp⟩ := O
  rw [← tMakeO_eq]
  exact pe_make M F hr hg hm B .nil hx ha hdb he hpl
end
end L2
namespace L2
open PySem PySem.Spec PyProof.Rows
/-! ### things of any kind: their built-in type -/
def tyNames : List String := ["int", "bool", "NoneType", "str", "list", "tuple", "dict"]
theorem ty_cases {t : String} (h : t ∈ tyNames) : t = "int" ∨ t = "bool" ∨ t = "NoneType" ∨ t = "str" ∨ t = "list" ∨ t = "tuple" ∨ t = "dict" := by
  simpa [tyNames] using h
theorem kit_int {K : PySem.W.Frag} {t : String} (h : t ∈ tyNames) : PySem.W.kitOne K (.type t) (.type "int") = some (t == "int" || t == "bool") := by
  rcases ty_cases h with rfl | rfl | rfl | rfl | rfl | rfl | rfl <;> exact kit_ty (by decide +kernel)
theorem kit_bool {K : PySem.W.Frag} {t : String} (h : t ∈ tyNames) : PySem.W.kitOne K (.type t) (.type "bool") = some (t == "bool") := by
  rcases ty_cases h with rfl | rfl | rfl | rfl | rfl | rfl | rfl <;> exact kit_ty (by decide +kernel)
theorem kit_str {K : PySem.W.Frag} {t : String} (h : t ∈ tyNames) : PySem.W.kitOne K (.type t) (.type "str") = some (t == "str") := by
  rcases ty_cases h with rfl | rfl | rfl | rfl | rfl | rfl | rfl <;> exact kit_ty (by decide +kernel)
theorem kit_tup {K : PySem.W.Frag} {t : String} (h : t ∈ tyNames) : PySem.W.kitOne K (.type t) (.type "tuple") = some (t == "tuple") := by
  rcases ty_cases h with rfl | rfl | rfl | rfl | rfl | rfl | rfl <;> exact kit_ty (by decide +kernel)
/-- x is a thing of one of these types -/
def Typ (K : PySem.W.Frag) (H : Hp) (x : V) : Prop := ∃ t, TyX K H x (.type t) ∧ t ∈ tyNames
theorem typ_int {K : PySem.W.Frag} {H : Hp} {x : V} (h : TyX K H x (.type "int")) : ∃ i, x = .int i := by
  generalize e : Value.type "int" = t at h
  cases h with
  | base b => cases b <;> first | exact ⟨_, rfl⟩ | (exfalso; revert e; decide) | (cases e)
  | byt _ => exfalso; revert e; decide
  | set _ => exfalso; revert e; decide
  | kList _ _ => exfalso; revert e; decide
  | kTuple _ _ => exfalso; revert e; decide
  | kDict _ _ => exfalso; revert e; decide
  | fTuple _ => exfalso; revert e; decide
  | fDict _ => exfalso; revert e; decide
theorem typ_str {K : PySem.W.Frag} {H : Hp} {x : V} (h : TyX K H x (.type "str")) : ∃ i, x = .str i := by
  generalize e : Value.type "str" = t at h
  cases h with
  | base b => cases b <;> first | exact ⟨_, rfl⟩ | (exfalso; revert e; decide) | (cases e)
  | byt _ => exfalso; revert e; decide
  | set _ => exfalso; revert e; decide
  | kList _ _ => exfalso; revert e; decide
  | kTuple _ _ => exfalso; revert e; decide
  | kDict _ _ => exfalso; revert e; decide
  | fTuple _ => exfalso; revert e; decide
  | fDict _ => exfalso; revert e; decide
theorem ty_of_int {K : PySem.W.Frag} {H : Hp} {i : Int} {t : Value} (h : TyX K H (.int i) t) : t = .type "int" := by
  cases h with
  | base b => cases b; rfl
theorem ty_of_str {K : PySem.W.Frag} {H : Hp} {z : Str} {t : Value} (h : TyX K H (.str z) t) : t = .type "str" := by
  cases h with
  | base b => cases b; rfl
/-- the types of what is tracked stay -/
theorem TyX.same {K : PySem.W.Frag} {H H' : Hp} {x : V} {t : String} (h : TyX K H x (.type t)) (s : Same H H') : TyX K H' x (.type t) := by
  generalize e : Value.type t = u at h
  cases h with
  | base b =>
    cases b with
    | non => exact .base .non
    | bl b => exact .base (.bl b)
    | int i => exact .base (.int i)
    | str z => exact .base (.str z)
    | flt z => exact .base (.flt z)
    | lst h => exact .base (.lst (s _ _ h))
    | frz h => exact .base (.frz (s _ _ h))
    | tup h => exact .base (.tup (s _ _ h))
    | dK h => exact .base (.dK (s _ _ h))
    | dT h => exact .base (.dT (s _ _ h))
    | ins _ _ _ _ _ _ => cases e
  | byt b => exact .byt b
  | set h => exact .set (s _ _ h)
  | kList h c => exact .kList h c
  | kTuple h c => exact .kTuple h c
  | kDict h c => exact .kDict h c
  | fTuple h => exact .fTuple (s _ _ h)
  | fDict h => exact .fDict (s _ _ h)
/-- .. even where an object changes -/
theorem TyX.but {K : PySem.W.Frag} {H : Hp} {x : V} {t : String} {p C dx : Addr} {fs : List (Str × V)} {o : HO} (h : TyX K H x (.type t)) (hp : H p = some (.ins C dx fs)) : TyX K (upd H p o) x (.type t) := by
  have s : ∀ {b : Addr} {u : HO}, H b = some u → (∀ C dx fs, u ≠ .ins C dx fs) → upd H p o b = some u := fun {b u} e n => by
    rw [upd_ne (ne_of e hp (n C dx fs))]
    exact e
  generalize e : Value.type t = u at h
  cases h with
  | base b =>
    cases b with
    | non => exact .base .non
    | bl b => exact .base (.bl b)
    | int i => exact .base (.int i)
    | str z => exact .base (.str z)
    | flt z => exact .base (.flt z)
    | lst h => exact .base (.lst (s h (by intro _ _ _ z; cases z)))
    | frz h => exact .base (.frz (s h (by intro _ _ _ z; cases z)))
    | tup h => exact .base (.tup (s h (by intro _ _ _ z; cases z)))
    | dK h => exact .base (.dK (s h (by intro _ _ _ z; cases z)))
    | dT h => exact .base (.dT (s h (by intro _ _ _ z; cases z)))
    | ins _ _ _ _ _ _ => cases e
  | byt b => exact .byt b
  | set h => exact .set (s h (by intro _ _ _ z; cases z))
  | kList h c => exact .kList h c
  | kTuple h c => exact .kTuple h c
  | kDict h c => exact .kDict h c
  | fTuple h => exact .fTuple (s h (by intro _ _ _ z; cases z))
  | fDict h => exact .fDict (s h (by intro _ _ _ z; cases z))
theorem Typ.same {K : PySem.W.Frag} {H H' : Hp} {x : V} (h : Typ K H x) (s : Same H H') : Typ K H' x := by
  obtain ⟨t, h1, h2⟩ := h
  exact ⟨t, h1.same s, h2⟩
theorem Typ.but {K : PySem.W.Frag} {H : Hp} {x : V} {p C dx : Addr} {fs : List (Str × V)} {o : HO} (h : Typ K H x) (hp : H p = some (.ins C dx fs)) : Typ K (upd H p o) x := by
  obtain ⟨t, h1, h2⟩ := h
  exact ⟨t, h1.but hp, h2⟩
theorem typ_i {K : PySem.W.Frag} {H : Hp} (i : Int) : Typ K H (.int i) := ⟨"int", .base (.int i), by decide⟩
theorem typ_b {K : PySem.W.Frag} {H : Hp} (b : Bool) : Typ K H (.bl b) := ⟨"bool", .base (.bl b), by decide⟩
theorem typ_n {K : PySem.W.Frag} {H : Hp} : Typ K H .non := ⟨"NoneType", .base .non, by decide⟩
theorem typ_s {K : PySem.W.Frag} {H : Hp} (z : Str) : Typ K H (.str z) := ⟨"str", .base (.str z), by decide⟩
theorem typ_l {K : PySem.W.Frag} {H : Hp} {a : Addr} {xs : List V} (h : H a = some (.lst xs)) : Typ K H (.ref a) := ⟨"list", .base (.lst h), by decide⟩
theorem typ_t {K : PySem.W.Frag} {H : Hp} {a : Addr} {xs : List V} (h : H a = some (.tup xs)) : Typ K H (.ref a) := ⟨"tuple", .base (.tup h), by decide⟩
theorem typ_d {K : PySem.W.Frag} {H : Hp} {a : Addr} {xs : List (Key × V)} (h : H a = some (.dK xs)) : Typ K H (.ref a) := ⟨"dict", .base (.dK h), by decide⟩
/-- a whole number within bounds -/
def wIn (x : V) (lo hi : Int) : Bool := match x with
  | .int i => decide (lo ≤ i) && decide (i ≤ hi)
  | _ => false
theorem wIn_int {x : V} {lo hi : Int} (h : wIn x lo hi = true) : ∃ i, x = .int i ∧ lo ≤ i ∧ i ≤ hi := by
  cases x with
  | int i =>
    have h : (decide (lo ≤ i) && decide (i ≤ hi)) = true := h
    rw [Bool.and_eq_true, decide_eq_true_eq, decide_eq_true_eq] at h
    exact ⟨i, rfl, h.1, h.2⟩
  | _ => cases h
/-! ### d.get(k), d a dict of the written part with keys that are texts -/
/-- what the written dict at a gives for each text -/
def KMap (K : PySem.W.Frag) (w : World) (a : Addr) (f : Str → Option Str) : Prop :=
  ∃ es n, K.lookup a = some ⟨.type "dict", none, .dict es n, #[]⟩ ∧ PySem.W.KeysLit w.params es.toList ∧ (a == sysModules) = false ∧ ∀ z, ∃ o, findBy Value.isStrOf es z = o ∧ RelO ((f z).map V.str) o
def tKGet (K : PySem.W.Frag) (w : World) (td ty : TE) : TE := fun σ H Q => td σ H fun x H1 => ∃ a f, x = .ref a ∧ KMap K w a f ∧ ty σ H1 fun y H2 => ∃ z, y = .str z ∧ Q (((f z).map V.str).getD .non) H2
theorem relO_getD {o : Option V} {u : Option Value} (h : RelO o u) : RelV (o.getD .non) (u.getD .none) := by
  cases o with
  | none =>
    cases u with
    | none => rfl
    | some _ => exact h.elim
  | some v =>
    cases u with
    | none => exact h.elim
    | some _ => exact h
theorem pe_kget {X : Cx} {o e : Expr} {apos cpos : Pos} {td ty : TE} (ho : PE X o td) (he : PE X e ty) (m : M1 X o "get" apos e cpos) : PE X (.Call (.Attribute o "get" apos) [e] [] cpos) (tKGet X.K X.w td ty) := by
  refine ⟨fun pins s σ H Q I h => ?_⟩
  refine wpAny_Call_method m.base m.few m.line PySem.F.plainAttrs_dict PySem.F.slot_dict_get PySem.F.type_dict_get (thn (ho.run pins s σ H _ I h) fun u s1 ⟨x, H1, I1, rx, a, f, ex, ⟨es, n, hl, hk, hsys, hf⟩, q1⟩ => ?_)
  subst ex
  obtain rfl : u = Value.ref a := rx
  have found : ∀ {s' : Shared} {H' : Hp}, Inv X pins σ H' s' → s'.heap.get? a = some ⟨.type "dict", none, .dict es n, #[]⟩ := fun I' => I'.kIn a _ hl
  refine ⟨⟨_, found I1, rfl⟩, fun b hb => ?_, ?_⟩
  · cases hb
    exact ⟨_, found I1, rfl⟩
  rw [m.trees]
  refine Calls.callWith_builtin rfl (Calls.evalArgs_plain (Calls.spliced_cons (thn (he.run pins s1 σ H1 _ I1 q1) fun iv s2 ⟨y, H2, I2, ry, z, ey, q2⟩ => Calls.spliced_nil ?_)))
  subst ey
  obtain ⟨t, rfl⟩ := (show ∃ t, iv = Value.str z t from ry)
  obtain ⟨ov, e1, r1⟩ := hf z
  have hm := PySem.W.mapOf_K (prog := X.prog) (w := X.w) I2.kIn hl hk
  refine call_meetsIn PySem.F.slot_dict_get ⟨_, found I2, rfl⟩ PySem.F.entry_dict_get (PySem.F.args_dict_get_2 _ _) (meets_dict_get (strKind X.prog X.w) a (strKind_is X.prog X.w z t) hsys) ⟨_, hm, ?_⟩
  refine ⟨((f z).map V.str).getD .non, H2, I2.tok _, ?_, q2⟩
  show RelV _ ((findBy Value.isStrOf es z).getD .none)
  rw [e1]
  exact relO_getD r1
end L2
namespace NL
open PySem PySem.Spec PyProof.Rows L2
def top (i : Nat) : Stmt := PySem.Challenge.pw_nearlines_k12_whole_more_room.main.body.getD i (.Pass ⟨0, 0, 0, 0⟩)
abbrev s_within : Stmt := top 9
abbrev s_checked_boxes : Stmt := top 10
abbrev s_need_shape : Stmt := top 14
abbrev s_Near___init__ : Stmt := inClass (top 15) 0
abbrev s_Near_look : Stmt := inClass (top 15) 1
abbrev s_Near_put : Stmt := inClass (top 15) 2
abbrev s_Near_held : Stmt := inClass (top 15) 3
abbrev s_Near_touched : Stmt := inClass (top 15) 5
abbrev s_Near_leave : Stmt := inClass (top 15) 6
abbrev s_Near_write_back : Stmt := inClass (top 15) 7
abbrev s_depths : Stmt := top 17
abbrev s_missed_by : Stmt := top 18
abbrev s__law_cell_at : Stmt := top 20
abbrev s__law_whole : Stmt := top 21
abbrev s__law_mixed : Stmt := top 22
abbrev s__law_size_by : Stmt := top 23
abbrev s__law_touches_by : Stmt := top 24
abbrev s__law_step : Stmt := top 25
abbrev s_law : Stmt := top 26
theorem sc_within : FnScope ["number", "low", "high"] ["number", "low", "high"] (defScope s_within) := ⟨rfl, rfl, rfl, by decide +kernel, rfl, by decide +kernel, by decide +kernel⟩
theorem sc_checked_boxes : FnScope ["boxes", "number"] ["boxes"] (defScope s_checked_boxes) := ⟨rfl, rfl, rfl, by decide +kernel, rfl, by decide +kernel, by decide +kernel⟩
theorem sc_need_shape : FnScope ["room", "width", "rule"] ["room", "width", "rule"] (defScope s_need_shape) := ⟨rfl, rfl, rfl, by decide +kernel, rfl, by decide +kernel, by decide +kernel⟩
theorem sc_Near___init__ : FnScope ["self", "boxes", "room", "width", "rule"] ["self", "boxes", "room", "width", "rule"] (defScope s_Near___init__) := ⟨rfl, rfl, rfl, by decide +kernel, rfl, by decide +kernel, by decide +kernel⟩
theorem sc_Near_look : FnScope ["self", "box", "line"] ["self", "box"] (defScope s_Near_look) := ⟨rfl, rfl, rfl, by decide +kernel, rfl, by decide +kernel, by decide +kernel⟩
theorem sc_Near_put : FnScope ["self", "box", "number", "line"] ["self", "box", "number"] (defScope s_Near_put) := ⟨rfl, rfl, rfl, by decide +kernel, rfl, by decide +kernel, by decide +kernel⟩
theorem sc_Near_held : FnScope ["self"] ["self"] (defScope s_Near_held) := ⟨rfl, rfl, rfl, by decide +kernel, rfl, by decide +kernel, by decide +kernel⟩
theorem sc_Near_touched : FnScope ["self", "box", "line", "first"] ["self", "box"] (defScope s_Near_touched) := ⟨rfl, rfl, rfl, by decide +kernel, rfl, by decide +kernel, by decide +kernel⟩
theorem sc_Near_leave : FnScope ["self", "line"] ["self", "line"] (defScope s_Near_leave) := ⟨rfl, rfl, rfl, by decide +kernel, rfl, by decide +kernel, by decide +kernel⟩
theorem sc_Near_write_back : FnScope ["self", "line", "numbers", "at"] ["self", "line"] (defScope s_Near_write_back) := ⟨rfl, rfl, rfl, by decide +kernel, rfl, by decide +kernel, by decide +kernel⟩
theorem sc_depths : FnScope ["touches", "width", "order", "told", "touch", "line", "at"] ["touches", "width"] (defScope s_depths) := ⟨rfl, rfl, rfl, by decide +kernel, rfl, by decide +kernel, by decide +kernel⟩
theorem sc_missed_by : FnScope ["told", "room", "depth"] ["told", "room"] (defScope s_missed_by) := ⟨rfl, rfl, rfl, by decide +kernel, rfl, by decide +kernel, by decide +kernel⟩
theorem sc__law_cell_at : FnScope ["_law_script", "_law_k"] ["_law_script", "_law_k"] (defScope s__law_cell_at) := ⟨rfl, rfl, rfl, by decide +kernel, rfl, by decide +kernel, by decide +kernel⟩
theorem sc__law_whole : FnScope ["_law_found"] ["_law_found"] (defScope s__law_whole) := ⟨rfl, rfl, rfl, by decide +kernel, rfl, by decide +kernel, by decide +kernel⟩
theorem sc__law_mixed : FnScope ["_law_cell"] ["_law_cell"] (defScope s__law_mixed) := ⟨rfl, rfl, rfl, by decide +kernel, rfl, by decide +kernel, by decide +kernel⟩
theorem sc__law_size_by : FnScope ["_law_cell"] ["_law_cell"] (defScope s__law_size_by) := ⟨rfl, rfl, rfl, by decide +kernel, rfl, by decide +kernel, by decide +kernel⟩
theorem sc__law_touches_by : FnScope ["_law_cells", "_law_size", "_law_touches", "_law_cell", "_law_box", "_law_back"] ["_law_cells", "_law_size"] (defScope s__law_touches_by) := ⟨rfl, rfl, rfl, by decide +kernel, rfl, by decide +kernel, by decide +kernel⟩
theorem sc__law_step : FnScope ["_law_holder", "_law_touch", "_law_ahead"] ["_law_holder", "_law_touch"] (defScope s__law_step) := ⟨rfl, rfl, rfl, by decide +kernel, rfl, by decide +kernel, by decide +kernel⟩
theorem sc_law : FnScope ["_law_script", "_law_size", "_law_first", "_law_room", "_law_width", "_law_touches", "_law_told", "_law_less", "_law_more", "_law_k", "_law_found", "_law_also", "_law_held", "_law_one", "_law_other", "_law_line"] ["_law_script"] (defScope s_law) := ⟨rfl, rfl, rfl, by decide +kernel, rfl, by decide +kernel, by decide +kernel⟩
/-- where defs and classes stand -/
structure Cs where
  f_within : Addr
  d_within : FuncData
  f_checked_boxes : Addr
  d_checked_boxes : FuncData
  f_need_shape : Addr
  d_need_shape : FuncData
  f_Near___init__ : Addr
  d_Near___init__ : FuncData
  f_Near_look : Addr
  d_Near_look : FuncData
  f_Near_put : Addr
  d_Near_put : FuncData
  f_Near_held : Addr
  d_Near_held : FuncData
  f_Near_touched : Addr
  d_Near_touched : FuncData
  f_Near_leave : Addr
  d_Near_leave : FuncData
  f_Near_write_back : Addr
  d_Near_write_back : FuncData
  f_depths : Addr
  d_depths : FuncData
  f_missed_by : Addr
  d_missed_by : FuncData
  f__law_cell_at : Addr
  d__law_cell_at : FuncData
  f__law_whole : Addr
  d__law_whole : FuncData
  f__law_mixed : Addr
  d__law_mixed : FuncData
  f__law_size_by : Addr
  d__law_size_by : FuncData
  f__law_touches_by : Addr
  d__law_touches_by : FuncData
  f__law_step : Addr
  d__law_step : FuncData
  f_law : Addr
  d_law : FuncData
  C_LineError : Addr
  C_BadBoxes : Addr
  C_BadShape : Addr
  C_NoBox : Addr
  C_Near : Addr
  a_RULES : Addr
/-- what the top has left -/
structure Txt (w : World) (K : PySem.W.Frag) (mg : Str → Option Value) (cs : Cs) : Prop where
  fn_within : FnAt K "within" "within" s_within cs.f_within cs.d_within ["number", "low", "high"]
  gl_within : mg "within" = some (.ref cs.f_within)
  fn_checked_boxes : FnAt K "checked_boxes" "checked_boxes" s_checked_boxes cs.f_checked_boxes cs.d_checked_boxes ["boxes"]
  gl_checked_boxes : mg "checked_boxes" = some (.ref cs.f_checked_boxes)
  fn_need_shape : FnAt K "need_shape" "need_shape" s_need_shape cs.f_need_shape cs.d_need_shape ["room", "width", "rule"]
  gl_need_shape : mg "need_shape" = some (.ref cs.f_need_shape)
  fn_Near___init__ : FnAt K "__init__" "Near.__init__" s_Near___init__ cs.f_Near___init__ cs.d_Near___init__ ["self", "boxes", "room", "width", "rule"]
  fn_Near_look : FnAt K "look" "Near.look" s_Near_look cs.f_Near_look cs.d_Near_look ["self", "box"]
  fn_Near_put : FnAt K "put" "Near.put" s_Near_put cs.f_Near_put cs.d_Near_put ["self", "box", "number"]
  fn_Near_held : FnAt K "held" "Near.held" s_Near_held cs.f_Near_held cs.d_Near_held ["self"]
  fn_Near_touched : FnAt K "touched" "Near.touched" s_Near_touched cs.f_Near_touched cs.d_Near_touched ["self", "box"]
  fn_Near_leave : FnAt K "leave" "Near.leave" s_Near_leave cs.f_Near_leave cs.d_Near_leave ["self", "line"]
  fn_Near_write_back : FnAt K "write_back" "Near.write_back" s_Near_write_back cs.f_Near_write_back cs.d_Near_write_back ["self", "line"]
  fn_depths : FnAt K "depths" "depths" s_depths cs.f_depths cs.d_depths ["touches", "width"]
  gl_depths : mg "depths" = some (.ref cs.f_depths)
  fn_missed_by : FnAt K "missed_by" "missed_by" s_missed_by cs.f_missed_by cs.d_missed_by ["told", "room"]
  gl_missed_by : mg "missed_by" = some (.ref cs.f_missed_by)
  fn__law_cell_at : FnAt K "_law_cell_at" "_law_cell_at" s__law_cell_at cs.f__law_cell_at cs.d__law_cell_at ["_law_script", "_law_k"]
  gl__law_cell_at : mg "_law_cell_at" = some (.ref cs.f__law_cell_at)
  fn__law_whole : FnAt K "_law_whole" "_law_whole" s__law_whole cs.f__law_whole cs.d__law_whole ["_law_found"]
  gl__law_whole : mg "_law_whole" = some (.ref cs.f__law_whole)
  fn__law_mixed : FnAt K "_law_mixed" "_law_mixed" s__law_mixed cs.f__law_mixed cs.d__law_mixed ["_law_cell"]
  gl__law_mixed : mg "_law_mixed" = some (.ref cs.f__law_mixed)
  fn__law_size_by : FnAt K "_law_size_by" "_law_size_by" s__law_size_by cs.f__law_size_by cs.d__law_size_by ["_law_cell"]
  gl__law_size_by : mg "_law_size_by" = some (.ref cs.f__law_size_by)
  fn__law_touches_by : FnAt K "_law_touches_by" "_law_touches_by" s__law_touches_by cs.f__law_touches_by cs.d__law_touches_by ["_law_cells", "_law_size"]
  gl__law_touches_by : mg "_law_touches_by" = some (.ref cs.f__law_touches_by)
  fn__law_step : FnAt K "_law_step" "_law_step" s__law_step cs.f__law_step cs.d__law_step ["_law_holder", "_law_touch"]
  gl__law_step : mg "_law_step" = some (.ref cs.f__law_step)
  fn_law : FnAt K "law" "law" s_law cs.f_law cs.d_law ["_law_script"]
  gl_law : mg "law" = some (.ref cs.f_law)
  no_isinstance : mg "isinstance" = none
  no_int : mg "int" = none
  no_bool : mg "bool" = none
  no_len : mg "len" = none
  no_list : mg "list" = none
  no_str : mg "str" = none
  no_range : mg "range" = none
  gl_GREATEST : ∃ t, mg "GREATEST" = some (.int 999999 t)
  gl_MOST : ∃ t, mg "MOST" = some (.int 200 t)
  gl_WIDEST : ∃ t, mg "WIDEST" = some (.int 200 t)
  gl_RULES : mg "RULES" = some (.ref cs.a_RULES)
  tp_RULES : ∃ (o : Obj) (its : Array Value) (n : Nat), K.lookup cs.a_RULES = some o ∧ o.cls = .type "tuple" ∧ o.data = .seq its n ∧ its.size ≤ sizeLine ∧ Vals [V.str "least", V.str "first"] its.toList
  ex_LineError : ExcAt K mg "LineError" cs.C_LineError
  ex_BadBoxes : ExcAt K mg "BadBoxes" cs.C_BadBoxes
  ex_BadShape : ExcAt K mg "BadShape" cs.C_BadShape
  ex_NoBox : ExcAt K mg "NoBox" cs.C_NoBox
  gl_Near : mg "Near" = some (.ref cs.C_Near)
  cl_Near : Cls K cs.C_Near
  mk_Near : Mk K cs.C_Near cs.f_Near___init__
  me_Near_look : Meth K cs.C_Near "look" cs.f_Near_look
  me_Near_put : Meth K cs.C_Near "put" cs.f_Near_put
  me_Near_held : Meth K cs.C_Near "held" cs.f_Near_held
  me_Near_touched : Meth K cs.C_Near "touched" cs.f_Near_touched
  me_Near_leave : Meth K cs.C_Near "leave" cs.f_Near_leave
  me_Near_write_back : Meth K cs.C_Near "write_back" cs.f_Near_write_back
  na_Near_far : NoAttr K cs.C_Near "far"
  na_Near_room : NoAttr K cs.C_Near "room"
  na_Near_width : NoAttr K cs.C_Near "width"
  na_Near_rule : NoAttr K cs.C_Near "rule"
  na_Near_order : NoAttr K cs.C_Near "order"
  na_Near_near : NoAttr K cs.C_Near "near"
  na_Near_written : NoAttr K cs.C_Near "written"
  na_Near_found : NoAttr K cs.C_Near "found"
  na_Near_missed : NoAttr K cs.C_Near "missed"
  na_Near_back : NoAttr K cs.C_Near "back"
section
variable {P : Program} {w : World} {K : PySem.W.Frag} {mg : Str → Option Value} {base : Heap} {cs : Cs}
/-! ### within, part_fits, fits, checked, checked_boxes -/
def sp_within (K : PySem.W.Frag) (cs : Cs) : Sp := fun vs H Q _ => ∃ (x : V) (lo hi : Int), vs = [x, .int lo, .int hi] ∧ Typ K H x ∧ Q (.bl (wIn x lo hi)) H
theorem wIn_not {K : PySem.W.Frag} {H : Hp} {x : V} {t : String} (h : TyX K H x (.type t)) (ht : t ≠ "int") (lo hi : Int) : wIn x lo hi = false := by
  cases x with
  | int i => exact absurd (Value.type.inj (ty_of_int h)) ht
  | _ => rfl
theorem ok_within (T : Txt w K mg cs)  : Ok P w K mg base CX0 1 cs.f_within cs.d_within ["number", "low", "high"] (sp_within K cs) := by
  refine T.fn_within.ok sc_within (fun vs H Q E h => ?_) (fun cdv A outer s H vs Q E hr h => ?_)
  · obtain ⟨x, lo, hi, rfl, _⟩ := h
    rfl
  · obtain ⟨x, lo, hi, rfl, ⟨t, ty, ht⟩, q⟩ := h
    refine ⟨_, (pss_one (ps_ret (pe_and (pe_callB call_isi (by rfl) T.no_isinstance boot_isinstance (pa_cons (pv 0) (pa_cons (pe_bltn (v := .ty "int") (by rfl) T.no_int boot_int rfl) pa_nil))) (pe_and (pe_not (pe_callB call_isi (by rfl) T.no_isinstance boot_isinstance (pa_cons (pv 0) (pa_cons (pe_bltn (v := .ty "bool") (by rfl) T.no_bool boot_bool rfl) pa_nil)))) (pe_one (pe_chain op_le op_le (pv 1) (pv 0) (pv 2))))))), ?_⟩
    refine ⟨_, rfl, _, _, _, _, _, rfl, .ty "int", ty, kit_int ht, _, rfl, iteB (fun c => ?_) (fun c => ?_)⟩
    · refine ⟨_, rfl, _, _, _, _, _, rfl, .ty "bool", ty, kit_bool ht, _, rfl, _, rfl, iteBN (fun c2 => ?_) (fun c2 => ?_)⟩
      · have e : t = "int" := by
          rcases ty_cases ht with rfl | rfl | rfl | rfl | rfl | rfl | rfl <;> first | rfl | (exfalso; revert c; decide) | (exfalso; revert c2; decide)
        subst e
        obtain ⟨i, rfl⟩ := typ_int ty
        refine ⟨_, rfl, _, rfl, _, _, rfl, rfl, _, rfl, iteD (fun c3 => ?_) (fun c3 => ?_)⟩
        · refine ⟨_, rfl, _, _, rfl, rfl, ?_⟩
          have e : wIn (.int i) lo hi = decide (i ≤ hi) := by
            show (decide (lo ≤ i) && decide (i ≤ hi)) = _
            rw [decide_eq_true c3, Bool.true_and]
          rw [e] at q
          exact q
        · have e : wIn (.int i) lo hi = false := by
            show (decide (lo ≤ i) && decide (i ≤ hi)) = _
            rw [decide_eq_false c3, Bool.false_and]
          rw [e] at q
          exact q
      · have e : t ≠ "int" := fun e => by
          subst e
          revert c2
          decide
        rw [wIn_not ty e] at q
        exact q
    · have e : t ≠ "int" := fun e => by
        subst e
        revert c
        decide
      rw [wIn_not ty e] at q
      exact q
/-! ### checked_boxes -/
def goodBoxes (ys : List V) : Bool := decide (1 ≤ ys.length ∧ ys.length ≤ 200) && ys.all fun y => wIn y 0 999999
def sp_checked_boxes (K : PySem.W.Frag) (cs : Cs) : Sp := fun vs H Q E => ∃ (a : Addr) (ys : List V), vs = [.ref a] ∧ SqL K H a ys ∧ (∀ y ∈ ys, Typ K H y) ∧ ys.length ≤ 1000 ∧
  (∀ H' p, goodBoxes ys = true → Same H H' → H p = none → H' p = some (.lst ys) → Q (.ref p) H') ∧ (∀ H', goodBoxes ys = false → Same H H' → E (.ref cs.C_BadBoxes) none H')
theorem ok_checked_boxes (T : Txt w K mg cs) (o_within : Ok P w K mg base CX0 1 cs.f_within cs.d_within ["number", "low", "high"] (sp_within K cs)) : Ok P w K mg base (L2.CX P w) 2 cs.f_checked_boxes cs.d_checked_boxes ["boxes"] (sp_checked_boxes K cs) := by
  refine T.fn_checked_boxes.okX sc_checked_boxes (fun vs H Q E h => ?_) (fun cdv A outer s H vs Q E hr h => ?_)
  · obtain ⟨a, ys, rfl, _⟩ := h
    rfl
  · obtain ⟨a, ys, rfl, hS, hT, hl, kQ, kE⟩ := h
    refine ⟨_, (pss_cons (ps_if (pt_jn (pt_not (pt_chain op_le op_le pe_int (pe_callB call_len_seq (by rfl) T.no_len PySem.boot_len (pa_cons (pv 0) pa_nil)) (pe_glob (v := .int 200) (by rfl) (T.gl_MOST).choose_spec ⟨_, rfl⟩)))) (pss_one (ps_raise rfl (takes_of rfl rfl rfl rfl) (pmk_own PySem.F.excBase_ValueError T.ex_BadBoxes.x T.ex_BadBoxes.g T.ex_BadBoxes.k (raises_own T.ex_BadBoxes.b T.ex_BadBoxes.t) (by rfl)))) pss_nil)
      (pss_cons (ps_for (passes_of rfl) rfl (pi_list (pv 0)) (pg_name (i := 1) sc_checked_boxes.nd rfl (Or.inl rfl)) (pss_one (ps_if (pt_not (pt_val (pe_callO o_within hr (by rfl) T.gl_within pass0 (pa_cons (pv 1) (pa_cons pe_int (pa_cons (pe_glob (v := .int 999999) (by rfl) (T.gl_GREATEST).choose_spec ⟨_, rfl⟩) pa_nil)))))) (pss_one (ps_raise rfl (takes_of rfl rfl rfl rfl) (pmk_own PySem.F.excBase_ValueError T.ex_BadBoxes.x T.ex_BadBoxes.g T.ex_BadBoxes.k (raises_own T.ex_BadBoxes.b T.ex_BadBoxes.t) (by rfl)))) pss_nil)))
      (pss_one (ps_ret (pe_callTy call_list_of (by rfl) T.no_list boot_list (pa_cons (pv 0) pa_nil)))))), ?_⟩
    refine ⟨fun b H' => b = !decide (1 ≤ ys.length ∧ ys.length ≤ 200) ∧ H' = H, ?_, ?_⟩
    · refine ⟨_, rfl, a, _, rfl, .inl hS, _, _, rfl, rfl, _, rfl, iteD (fun c => ?_) (fun c => ?_)⟩
      · have c' : 1 ≤ ys.length := by omega
        refine ⟨_, _, rfl, rfl, _, rfl, ?_, rfl⟩
        congr 1
        apply decide_eq_decide.mpr
        omega
      · refine ⟨_, rfl, ?_, rfl⟩
        rw [decide_eq_false (fun z => c (by omega))]
    rintro b H' ⟨rfl, rfl⟩
    refine iteN (fun c => ?_) (fun c => ?_)
    · refine kE _ ?_ (Same.refl _)
      unfold goodBoxes
      rw [decide_eq_false c, Bool.false_and]
    have bad : ∀ y ∈ ys, wIn y 0 999999 = false → goodBoxes ys = false := fun y hy hf => by
      unfold goodBoxes
      have : (ys.all fun y => wIn y 0 999999) = false := by
        rw [← Bool.not_eq_true, List.all_eq_true]
        intro z
        have := z y hy
        rw [hf] at this
        cases this
      rw [this, Bool.and_false]
    refine ⟨_, rfl, a, rfl, ⟨_, hS⟩, for_list (K := K) (a := a) (xs := ys) (fun i σ H2 => ∃ v1, σ = [some (.ref a), v1] ∧ H2 = H' ∧ ∀ (j : Nat) (y : V), j < i → ys[j]? = some y → wIn y 0 999999 = true)
      ⟨none, rfl, rfl, fun j _ hj => absurd hj (Nat.not_lt_zero _)⟩ (fun i σ H2 _ ⟨_, _, e, _⟩ => by rw [e]; exact hS) ?_ ?_⟩
    · rintro i y σ H2 hy ⟨v1, rfl, rfl, hall⟩
      have hm := List.mem_of_getElem? hy
      refine ⟨_, rfl, y, 0, 999999, rfl, hT y hm, _, rfl, iteBN (fun c2 => ?_) (fun c2 => ?_)⟩
      · exact kE _ (bad y hm c2) (Same.refl _)
      · refine ⟨_, rfl, rfl, fun j y' hj hy' => ?_⟩
        by_cases ej : j = i
        · subst ej
          rw [hy] at hy'
          cases hy'
          exact c2
        · exact hall j y' (by omega) hy'
    · rintro σ H2 ⟨v1, rfl, rfl, hall⟩
      refine ⟨_, rfl, a, _, rfl, .inl hS, fun p hp => ?_⟩
      refine kQ _ p ?_ (Same.new hp) hp upd_same
      unfold goodBoxes
      rw [decide_eq_true c, Bool.true_and, List.all_eq_true]
      intro y hy
      obtain ⟨j, hj, e⟩ := List.getElem_of_mem hy
      exact hall j y hj (by rw [← e]; exact List.getElem?_eq_getElem hj)
/-! ### boxes near: the state -/
/-- a line near: its number, the place of its numbers, these -/
structure NE where
  k : Int
  a : Addr
  ns : List Int
structure NS where
  far : List Int
  order : List Int
  near : List NE
  written : List Int
  found : Int
  missed : Int
  back : Int
/-- the fields of a holder -/
def nearFs (fa : Addr) (room width : Int) (rule : Str) (oa na wa : Addr) (f m b : Int) : List (Str × V) :=
  [("far", .ref fa), ("room", .int room), ("width", .int width), ("rule", .str rule), ("order", .ref oa), ("near", .ref na), ("written", .ref wa), ("found", .int f), ("missed", .int m), ("back", .int b)]
section
variable {fa oa na wa : Addr} {room width f m b : Int} {rule : Str}
theorem lk_far : (nearFs fa room width rule oa na wa f m b).lookup ("far" : Str) = some (.ref fa) := by rfl
theorem lk_room : (nearFs fa room width rule oa na wa f m b).lookup ("room" : Str) = some (.int room) := by rfl
theorem lk_width : (nearFs fa room width rule oa na wa f m b).lookup ("width" : Str) = some (.int width) := by rfl
theorem lk_rule : (nearFs fa room width rule oa na wa f m b).lookup ("rule" : Str) = some (.str rule) := by rfl
theorem lk_order : (nearFs fa room width rule oa na wa f m b).lookup ("order" : Str) = some (.ref oa) := by rfl
theorem lk_near : (nearFs fa room width rule oa na wa f m b).lookup ("near" : Str) = some (.ref na) := by rfl
theorem lk_written : (nearFs fa room width rule oa na wa f m b).lookup ("written" : Str) = some (.ref wa) := by rfl
theorem lk_found : (nearFs fa room width rule oa na wa f m b).lookup ("found" : Str) = some (.int f) := by rfl
theorem lk_missed : (nearFs fa room width rule oa na wa f m b).lookup ("missed" : Str) = some (.int m) := by rfl
theorem lk_back : (nearFs fa room width rule oa na wa f m b).lookup ("back" : Str) = some (.int b) := by rfl
theorem pf_found (x : Int) : putF "found" (.int x) (nearFs fa room width rule oa na wa f m b) = nearFs fa room width rule oa na wa x m b := by rfl
theorem pf_missed (x : Int) : putF "missed" (.int x) (nearFs fa room width rule oa na wa f m b) = nearFs fa room width rule oa na wa f x b := by rfl
theorem pf_back (x : Int) : putF "back" (.int x) (nearFs fa room width rule oa na wa f m b) = nearFs fa room width rule oa na wa f m x := by rfl
end
def neKV (e : NE) : Key × V := (.inl e.k, .ref e.a)
def wrKV (l : Int) : Key × V := (.inl l, .bl true)
/-- a holder stands at p, its parts at these places -/
def own (p fa oa na wa : Addr) (near : List NE) : List Addr := p :: fa :: oa :: na :: wa :: near.map NE.a
structure NearX (cs : Cs) (H : Hp) (p : Addr) (room width : Int) (rule : Str) (s : NS) (dx fa oa na wa : Addr) : Prop where
  nd : (own p fa oa na wa s.near).Nodup
  h1 : H p = some (.ins cs.C_Near dx (nearFs fa room width rule oa na wa s.found s.missed s.back))
  h2 : H fa = some (.lst (s.far.map V.int))
  h3 : H oa = some (.lst (s.order.map V.int))
  h4 : H na = some (.dK (s.near.map neKV))
  h5 : H wa = some (.dK (s.written.map wrKV))
  h6 : ∀ e ∈ s.near, H e.a = some (.lst (e.ns.map V.int))
/-- .., what it owns is F -/
def NearAt (cs : Cs) (H : Hp) (p : Addr) (room width : Int) (rule : Str) (s : NS) (F : List Addr) : Prop :=
  ∃ dx fa oa na wa, F = own p fa oa na wa s.near ∧ NearX cs H p room width rule s dx fa oa na wa
section
variable {cs : Cs} {H : Hp} {p : Addr} {room width : Int} {rule : Str} {s : NS} {dx fa oa na wa : Addr}
theorem NearX.kinds (h : NearX cs H p room width rule s dx fa oa na wa) : p ≠ fa ∧ p ≠ oa ∧ p ≠ na ∧ p ≠ wa ∧ fa ≠ oa ∧ fa ≠ na ∧ fa ≠ wa ∧ oa ≠ na ∧ oa ≠ wa ∧ na ≠ wa ∧ ∀ e ∈ s.near, p ≠ e.a ∧ fa ≠ e.a ∧ oa ≠ e.a ∧ na ≠ e.a ∧ wa ≠ e.a := by
  have nd := h.nd
  unfold own at nd
  simp only [List.nodup_cons, List.mem_cons, not_or, List.mem_map, not_exists, not_and] at nd
  obtain ⟨⟨a1, a2, a3, a4, a5⟩, ⟨b1, b2, b3, b4⟩, ⟨c1, c2, c3⟩, ⟨d1, d2⟩, e1, _⟩ := nd
  exact ⟨a1, a2, a3, a4, b1, b2, b3, c1, c2, d1, fun e he => ⟨fun z => a5 e he z.symm, fun z => b4 e he z.symm, fun z => c3 e he z.symm, fun z => d2 e he z.symm, fun z => e1 e he z.symm⟩⟩
theorem NearX.far (h : NearX cs H p room width rule s dx fa oa na wa) (far' : List Int) : NearX cs (upd H fa (.lst (far'.map V.int))) p room width rule { s with far := far' } dx fa oa na wa := by
  obtain ⟨a1, a2, a3, a4, b1, b2, b3, c1, c2, d1, e1⟩ := h.kinds
  exact ⟨h.nd, by rw [upd_ne a1]; exact h.h1, upd_same, by rw [upd_ne b1.symm]; exact h.h3, by rw [upd_ne b2.symm]; exact h.h4, by rw [upd_ne b3.symm]; exact h.h5, fun e he => by rw [upd_ne (e1 e he).2.1.symm]; exact h.h6 e he⟩
theorem NearX.order (h : NearX cs H p room width rule s dx fa oa na wa) (o' : List Int) : NearX cs (upd H oa (.lst (o'.map V.int))) p room width rule { s with order := o' } dx fa oa na wa := by
  obtain ⟨a1, a2, a3, a4, b1, b2, b3, c1, c2, d1, e1⟩ := h.kinds
  exact ⟨h.nd, by rw [upd_ne a2]; exact h.h1, by rw [upd_ne b1]; exact h.h2, upd_same, by rw [upd_ne c1.symm]; exact h.h4, by rw [upd_ne c2.symm]; exact h.h5, fun e he => by rw [upd_ne (e1 e he).2.2.1.symm]; exact h.h6 e he⟩
theorem NearX.wr (h : NearX cs H p room width rule s dx fa oa na wa) (w' : List Int) : NearX cs (upd H wa (.dK (w'.map wrKV))) p room width rule { s with written := w' } dx fa oa na wa := by
  obtain ⟨a1, a2, a3, a4, b1, b2, b3, c1, c2, d1, e1⟩ := h.kinds
  exact ⟨h.nd, by rw [upd_ne a4]; exact h.h1, by rw [upd_ne b3]; exact h.h2, by rw [upd_ne c2]; exact h.h3, by rw [upd_ne d1]; exact h.h4, upd_same, fun e he => by rw [upd_ne (e1 e he).2.2.2.2.symm]; exact h.h6 e he⟩
theorem NearX.fs (h : NearX cs H p room width rule s dx fa oa na wa) (f m b : Int) : NearX cs (upd H p (.ins cs.C_Near dx (nearFs fa room width rule oa na wa f m b))) p room width rule { s with found := f, missed := m, back := b } dx fa oa na wa := by
  obtain ⟨a1, a2, a3, a4, b1, b2, b3, c1, c2, d1, e1⟩ := h.kinds
  exact ⟨h.nd, upd_same, by rw [upd_ne a1.symm]; exact h.h2, by rw [upd_ne a2.symm]; exact h.h3, by rw [upd_ne a3.symm]; exact h.h4, by rw [upd_ne a4.symm]; exact h.h5, fun e he => by rw [upd_ne (e1 e he).1.symm]; exact h.h6 e he⟩
/-- fewer lines near -/
theorem NearX.less (h : NearX cs H p room width rule s dx fa oa na wa) (q : NE → Bool) : NearX cs (upd H na (.dK ((s.near.filter q).map neKV))) p room width rule { s with near := s.near.filter q } dx fa oa na wa := by
  obtain ⟨a1, a2, a3, a4, b1, b2, b3, c1, c2, d1, e1⟩ := h.kinds
  have nd : (own p fa oa na wa (s.near.filter q)).Nodup := h.nd.sublist (by
    unfold own
    exact List.Sublist.cons₂ _ (List.Sublist.cons₂ _ (List.Sublist.cons₂ _ (List.Sublist.cons₂ _ (List.Sublist.cons₂ _ (List.filter_sublist.map _))))))
  refine ⟨nd, by rw [upd_ne a3]; exact h.h1, by rw [upd_ne b2]; exact h.h2, by rw [upd_ne c1]; exact h.h3, upd_same, by rw [upd_ne d1.symm]; exact h.h5, fun e he => ?_⟩
  have he' := (List.mem_filter.mp he).1
  rw [upd_ne (e1 e he').2.2.2.1.symm]
  exact h.h6 e he'
/-- one line more -/
theorem NearX.more (h : NearX cs H p room width rule s dx fa oa na wa) {a : Addr} (k : Int) (ns : List Int) (hn : H a = none) :
    NearX cs (upd (upd H a (.lst (ns.map V.int))) na (.dK ((s.near ++ [NE.mk k a ns]).map neKV))) p room width rule { s with near := s.near ++ [⟨k, a, ns⟩] } dx fa oa na wa := by
  obtain ⟨a1, a2, a3, a4, b1, b2, b3, c1, c2, d1, e1⟩ := h.kinds
  have fr : ∀ b, H b ≠ none → b ≠ a := fun b hb z => hb (by rw [z]; exact hn)
  have m1 := fr p (by rw [h.h1]; intro z; cases z)
  have m2 := fr fa (by rw [h.h2]; intro z; cases z)
  have m3 := fr oa (by rw [h.h3]; intro z; cases z)
  have m4 := fr na (by rw [h.h4]; intro z; cases z)
  have m5 := fr wa (by rw [h.h5]; intro z; cases z)
  have m6 : ∀ e ∈ s.near, e.a ≠ a := fun e he => fr e.a (by rw [h.h6 e he]; intro z; cases z)
  refine ⟨?_, ?_, ?_, ?_, upd_same, ?_, fun e he => ?_⟩
  · have e : own p fa oa na wa (s.near ++ [⟨k, a, ns⟩]) = own p fa oa na wa s.near ++ [a] := by
      unfold own
      simp
    show (own p fa oa na wa (s.near ++ [⟨k, a, ns⟩])).Nodup
    rw [e, List.nodup_append]
    refine ⟨h.nd, by simp, fun x hx y hy => ?_⟩
    simp only [List.mem_cons, List.not_mem_nil, or_false] at hy
    subst hy
    unfold own at hx
    simp only [List.mem_cons, List.mem_map] at hx
    rcases hx with rfl | rfl | rfl | rfl | rfl | ⟨e, he, rfl⟩
    · exact m1
    · exact m2
    · exact m3
    · exact m4
    · exact m5
    · exact m6 e he
  · rw [upd_ne a3, upd_ne m1]; exact h.h1
  · rw [upd_ne b2, upd_ne m2]; exact h.h2
  · rw [upd_ne c1, upd_ne m3]; exact h.h3
  · rw [upd_ne d1.symm, upd_ne m5]; exact h.h5
  · rcases List.mem_append.mp he with z | z
    · rw [upd_ne (e1 e z).2.2.2.1.symm, upd_ne (m6 e z)]
      exact h.h6 e z
    · simp only [List.mem_cons, List.not_mem_nil, or_false] at z
      subst z
      show (upd (upd H a (.lst (ns.map V.int))) na _) a = _
      rw [upd_ne m4.symm, upd_same]
/-- the numbers of a line -/
def setNE (near : List NE) (k : Int) (ns : List Int) : List NE := near.map fun e => if e.k = k then { e with ns := ns } else e
theorem setNE_a (near : List NE) (k : Int) (ns : List Int) : (setNE near k ns).map NE.a = near.map NE.a := by
  unfold setNE
  rw [List.map_map]
  refine List.map_congr_left fun e _ => ?_
  show (if e.k = k then { e with ns := ns } else e).a = e.a
  split <;> rfl
theorem setNE_kv (near : List NE) (k : Int) (ns : List Int) : (setNE near k ns).map neKV = near.map neKV := by
  unfold setNE
  rw [List.map_map]
  refine List.map_congr_left fun e _ => ?_
  show neKV (if e.k = k then { e with ns := ns } else e) = neKV e
  split <;> rfl
theorem setNE_k (near : List NE) (k : Int) (ns : List Int) : (setNE near k ns).map NE.k = near.map NE.k := by
  unfold setNE
  rw [List.map_map]
  refine List.map_congr_left fun e _ => ?_
  show (if e.k = k then { e with ns := ns } else e).k = e.k
  split <;> rfl
theorem NearX.nums (h : NearX cs H p room width rule s dx fa oa na wa) (hk : (s.near.map NE.k).Nodup) {e : NE} (he : e ∈ s.near) (ns : List Int) :
    NearX cs (upd H e.a (.lst (ns.map V.int))) p room width rule { s with near := setNE s.near e.k ns } dx fa oa na wa := by
  obtain ⟨a1, a2, a3, a4, b1, b2, b3, c1, c2, d1, e1⟩ := h.kinds
  have ea := e1 e he
  have hna : (s.near.map NE.a).Nodup := by
    have := h.nd
    unfold own at this
    simp only [List.nodup_cons] at this
    exact this.2.2.2.2.2
  refine ⟨?_, by rw [upd_ne ea.1]; exact h.h1, by rw [upd_ne ea.2.1]; exact h.h2, by rw [upd_ne ea.2.2.1]; exact h.h3, ?_, by rw [upd_ne ea.2.2.2.2]; exact h.h5, fun f hf => ?_⟩
  · show (own p fa oa na wa (setNE s.near e.k ns)).Nodup
    unfold own
    rw [setNE_a]
    exact h.nd
  · show (upd H e.a _) na = some (.dK ((setNE s.near e.k ns).map neKV))
    rw [setNE_kv, upd_ne ea.2.2.2.1]
    exact h.h4
  · obtain ⟨g, hg, rfl⟩ := List.mem_map.mp (show f ∈ s.near.map (fun f => if f.k = e.k then { f with ns := ns } else f) from hf)
    by_cases q : g.k = e.k
    · have eg : g = e := nodup_map_inj hk hg he q
      subst eg
      rw [if_pos rfl]
      exact upd_same
    · rw [if_neg q]
      have : g.a ≠ e.a := fun z => q (by rw [nodup_map_inj hna hg he z])
      rw [upd_ne this]
      exact h.h6 g hg
end
/-- what others know stays -/
def Bey (F : List Addr) (H : Hp) (F' : List Addr) (H' : Hp) : Prop := ∀ G : Hp, Same G H → (∀ b ∈ F, G b = none) → Same G H' ∧ ∀ b ∈ F', G b = none
theorem Bey.refl {F : List Addr} {H : Hp} : Bey F H F H := fun G s f => ⟨s, f⟩
theorem Bey.trans {F F' F'' : List Addr} {H H' H'' : Hp} (a : Bey F H F' H') (b : Bey F' H' F'' H'') : Bey F H F'' H'' := fun G s f => let ⟨s', f'⟩ := a G s f; b G s' f'
theorem Bey.same {F : List Addr} {H H' : Hp} (s : Same H H') : Bey F H F H' := fun G g f => ⟨g.trans s, f⟩
/-- an own place changes -/
theorem Bey.own {F : List Addr} {H : Hp} {a : Addr} {o : HO} (h : a ∈ F) : Bey F H F (upd H a o) := fun G g f => ⟨g.mut (f a h), f⟩
/-- a new own place -/
theorem Bey.new {F : List Addr} {H : Hp} {a : Addr} {o : HO} (h : H a = none) : Bey F H (F ++ [a]) (upd H a o) := fun G g f => ⟨g.mut (g.free h), fun b hb => by
  rcases List.mem_append.mp hb with z | z
  · exact f b z
  · simp only [List.mem_cons, List.not_mem_nil, or_false] at z
    rw [z]
    exact g.free h⟩
theorem Bey.sub {F F' F'' : List Addr} {H H' : Hp} (a : Bey F H F' H') (h : ∀ b ∈ F'', b ∈ F') : Bey F H F'' H' := fun G g f => let ⟨s', f'⟩ := a G g f; ⟨s', fun b hb => f' b (h b hb)⟩
section
variable {cs : Cs} {H H' : Hp} {p : Addr} {room width : Int} {rule : Str} {s : NS} {F : List Addr}
theorem NearAt.same (h : NearAt cs H p room width rule s F) (q : Same H H') : NearAt cs H' p room width rule s F := by
  obtain ⟨dx, fa, oa, na, wa, e, h⟩ := h
  exact ⟨dx, fa, oa, na, wa, e, h.nd, q _ _ h.h1, q _ _ h.h2, q _ _ h.h3, q _ _ h.h4, q _ _ h.h5, fun z hz => q _ _ (h.h6 z hz)⟩
/-- what another changes that is not owned -/
theorem NearAt.but (h : NearAt cs H p room width rule s F) {D : Addr} {o : HO} (n : D ∉ F) : NearAt cs (upd H D o) p room width rule s F := by
  obtain ⟨dx, fa, oa, na, wa, e, h⟩ := h
  have m : ∀ b, b ∈ own p fa oa na wa s.near → upd H D o b = H b := fun b hb => upd_ne fun z => n (by rw [← z, e]; exact hb)
  unfold own at m
  refine ⟨dx, fa, oa, na, wa, e, h.nd, ?_, ?_, ?_, ?_, ?_, fun z hz => ?_⟩
  · rw [m p (by simp)]; exact h.h1
  · rw [m fa (by simp)]; exact h.h2
  · rw [m oa (by simp)]; exact h.h3
  · rw [m na (by simp)]; exact h.h4
  · rw [m wa (by simp)]; exact h.h5
  · rw [m z.a (by simp only [List.mem_cons]; exact .inr (.inr (.inr (.inr (.inr (List.mem_map_of_mem hz))))))]; exact h.h6 z hz
theorem NearAt.dom (h : NearAt cs H p room width rule s F) : ∀ b ∈ F, H b ≠ none := by
  obtain ⟨dx, fa, oa, na, wa, e, h⟩ := h
  intro b hb z
  rw [e] at hb
  unfold own at hb
  simp only [List.mem_cons, List.mem_map] at hb
  rcases hb with rfl | rfl | rfl | rfl | rfl | ⟨e, he, rfl⟩
  · rw [h.h1] at z; cases z
  · rw [h.h2] at z; cases z
  · rw [h.h3] at z; cases z
  · rw [h.h4] at z; cases z
  · rw [h.h5] at z; cases z
  · rw [h.h6 e he] at z; cases z
end
/-! ### the dicts of a holder -/
theorem near_get : ∀ {near : List NE} {e : NE}, (near.map NE.k).Nodup → e ∈ near → valV (near.map neKV) (.inl e.k) = some (.ref e.a)
  | [], _, _, h => by cases h
  | f :: r, e, nd, h => by
    rw [List.map_cons, List.nodup_cons] at nd
    rcases List.mem_cons.mp h with z | z
    · subst z
      exact valV_pos rfl
    · have : ¬ (neKV f).1 = Sum.inl e.k := fun q => nd.1 (by
        have : f.k = e.k := Sum.inl.inj q
        rw [this]
        exact List.mem_map_of_mem z)
      rw [List.map_cons, valV_neg this]
      exact near_get nd.2 z
theorem near_none : ∀ {near : List NE} {k : Int}, k ∉ near.map NE.k → valV (near.map neKV) (.inl k) = none
  | [], _, _ => rfl
  | f :: r, k, h => by
    rw [List.map_cons, List.mem_cons, not_or] at h
    have : ¬ (neKV f).1 = Sum.inl k := fun q => h.1 (Sum.inl.inj q).symm
    rw [List.map_cons, valV_neg this]
    exact near_none h.2
theorem wr_get {k : Int} : ∀ w : List Int, valV (w.map wrKV) (.inl k) = if k ∈ w then some (.bl true) else none
  | [] => rfl
  | x :: r => by
    by_cases h : x = k
    · subst h
      rw [List.map_cons, valV_pos (show (wrKV x).1 = (Sum.inl x : Key) from rfl), if_pos List.mem_cons_self]
      rfl
    · have n : ¬ (wrKV x).1 = (Sum.inl k : Key) := fun q => h (Sum.inl.inj q)
      rw [List.map_cons, valV_neg n, wr_get r]
      have e : (k ∈ x :: r) ↔ k ∈ r := by
        rw [List.mem_cons]
        exact ⟨fun z => z.elim (fun q => absurd q.symm h) id, Or.inr⟩
      simp only [e]
def cutI (l : List Int) (k : Int) : List Int := l.filter fun z => !decide (z = k)
def cutN (l : List NE) (k : Int) : List NE := l.filter fun e => !decide (e.k = k)
theorem wr_drop (w : List Int) (k : Int) : dropK (w.map wrKV) (.inl k) = (cutI w k).map wrKV := by
  unfold dropK cutI
  rw [List.filter_map]
  congr 1
  refine List.filter_congr fun z _ => ?_
  show decide ((wrKV z).1 ≠ Sum.inl k) = !decide (z = k)
  by_cases h : z = k
  · subst h
    simp [wrKV]
  · have : ¬ (Sum.inl z : Key) = Sum.inl k := fun q => h (Sum.inl.inj q)
    simp [wrKV, h]
theorem near_drop (w : List NE) (k : Int) : dropK (w.map neKV) (.inl k) = (cutN w k).map neKV := by
  unfold dropK cutN
  rw [List.filter_map]
  congr 1
  refine List.filter_congr fun z _ => ?_
  show decide ((neKV z).1 ≠ Sum.inl k) = !decide (z.k = k)
  by_cases h : z.k = k
  · subst h
    simp [neKV]
  · have : ¬ (Sum.inl z.k : Key) = Sum.inl k := fun q => h (Sum.inl.inj q)
    simp [neKV, h]
def addI (w : List Int) (k : Int) : List Int := if k ∈ w then w else w ++ [k]
theorem wr_put (w : List Int) (k : Int) : putK (w.map wrKV) (.inl k) (.bl true) = (addI w k).map wrKV := by
  unfold addI
  by_cases h : k ∈ w
  · rw [if_pos h]
    unfold putK
    have : ((w.map wrKV).any fun kv => decide (kv.1 = Sum.inl k)) = true := by
      rw [valV_any, wr_get, if_pos h]
      rfl
    rw [if_pos this, List.map_map]
    refine List.map_congr_left fun z _ => ?_
    show (if (wrKV z).1 = Sum.inl k then ((wrKV z).1, V.bl true) else wrKV z) = wrKV z
    split <;> rfl
  · rw [if_neg h, putK_new _ (by rw [wr_get, if_neg h]), List.map_append]
    rfl
theorem near_put {w : List NE} {k : Int} {a : Addr} (ns : List Int) (h : k ∉ w.map NE.k) : putK (w.map neKV) (.inl k) (.ref a) = (w ++ [NE.mk k a ns]).map neKV := by
  rw [putK_new _ (near_none h), List.map_append]
  rfl
/-- what a line writes far -/
def setR (far : List Int) (first : Nat) (ns : List Int) : List Int := far.take first ++ ns ++ far.drop (first + ns.length)
theorem setR_step {far ns : List Int} {first i : Nat} {x : Int} (hx : ns[i]? = some x) (hl : first + ns.length ≤ far.length) :
    (far.take first ++ ns.take i ++ far.drop (first + i)).set (first + i) x = far.take first ++ ns.take (i + 1) ++ far.drop (first + (i + 1)) := by
  have hi : i < ns.length := (List.getElem?_eq_some_iff.mp hx).1
  have e1 : far.drop (first + i) = far[first + i]'(by omega) :: far.drop (first + i + 1) := List.drop_eq_getElem_cons (by omega)
  have l1 : (far.take first ++ ns.take i).length = first + i := by
    rw [List.length_append, List.length_take, List.length_take]
    omega
  rw [e1, List.set_append_right _ _ (by omega), l1, Nat.sub_self, List.set_cons_zero, List.take_add_one, hx]
  simp [List.append_assoc, Nat.add_assoc]
theorem setR_len {far ns : List Int} {first : Nat} (hl : first + ns.length ≤ far.length) : (setR far first ns).length = far.length := by
  unfold setR
  simp only [List.length_append, List.length_take, List.length_drop]
  omega
/-- a line written back -/
def wbS (width : Int) (e : NE) (s : NS) : NS := { s with far := setR s.far (e.k * width).toNat e.ns, written := cutI s.written e.k, back := s.back + 1 }
def sp_Near_write_back (K : PySem.W.Frag) (cs : Cs) : Sp := fun vs H Q _ => ∃ (p : Addr) (e : NE) (room width : Int) (rule : Str) (s : NS) (F : List Addr), vs = [.ref p, .int e.k] ∧ NearAt cs H p room width rule s F ∧ e ∈ s.near ∧ (s.near.map NE.k).Nodup ∧ e.k ∈ s.written ∧
  0 ≤ e.k * width ∧ (e.k * width).toNat + e.ns.length ≤ s.far.length ∧ s.far.length ≤ 1000 ∧ 0 < width ∧ width ≤ 1000 ∧
  ∀ H', NearAt cs H' p room width rule (wbS width e s) F → Bey F H F H' → Q .non H'
theorem ok_Near_write_back (T : Txt w K mg cs)  : Ok P w K mg base CX0 1 cs.f_Near_write_back cs.d_Near_write_back ["self", "line"] (sp_Near_write_back K cs) := by
  refine T.fn_Near_write_back.ok sc_Near_write_back (fun vs H Q E h => ?_) (fun cdv A outer s H vs Q E hr h => ?_)
  · obtain ⟨p, e, room, width, rule, s, F, rfl, _⟩ := h
    rfl
  · obtain ⟨p, e, room, width, rule, s, F, rfl, hN, he, hk, hw, h0, hfar, hfl, hw0, hw1, q⟩ := h
    have hu := hu_of hr
    refine ⟨_, (pss_cons (ps_set (i := 2) sc_Near_write_back.nd rfl (Or.inl rfl) (pe_dget hu (pe_fld (pv 0) rfl) (pv 1) (fun _ _ => rfl)))
      (pss_cons (ps_for PassesOwn.never rfl (pi_range1 (by rfl) T.no_range (pa_cons (pe_callB call_len_seq (by rfl) T.no_len PySem.boot_len (pa_cons (pv 2) pa_nil)) pa_nil)) (pg_name (i := 3) sc_Near_write_back.nd rfl (Or.inl rfl)) (pss_one (ps_asg (pe_ix ix_list (pv 2) (pv 3) (fun _ _ => rfl)) (pg_sub (pe_fld (pv 0) rfl) (pe_op op_add (pe_op op_mul (pv 1) (pe_fld (pv 0) rfl)) (pv 3)) set_list))))
      (pss_cons (ps_expr (pe_dpop1 (pe_fld (pv 0) rfl) (pv 1) ⟨by rfl, by rfl, by rfl, by rfl⟩))
      (pss_one (ps_fld (pv 0) (pe_op op_add (pe_fld (pv 0) rfl) pe_int) rfl))))), ?_⟩
    obtain ⟨dx, fa, oa, na, wa, eF, X⟩ := hN
    have hget := near_get hk he
    have ha := X.h6 e he
    have heF : ∀ b, b ∈ own p fa oa na wa s.near → b ∈ F := fun b hb => by rw [eF]; exact hb
    -- numbers
    refine ⟨_, rfl, p, cs.C_Near, dx, _, _, rfl, X.h1, T.cl_Near, T.na_Near_near, lk_near, _, rfl, na, .ref e.a, rfl, (by rw [← hget]; exact DGet.k (k := .inl e.k) X.h4), ?_⟩
    refine ⟨_, rfl, e.a, _, rfl, .inl (SqL.of ha), ((e.ns.map V.int).length : Nat), rfl, by omega, by rw [List.length_map]; omega, ?_⟩
    have e0 : (((e.ns.map V.int).length : Nat) : Int).toNat = e.ns.length := by rw [List.length_map]; rfl
    rw [e0]
    refine for_range (lo := 0) (n := e.ns.length) (fun i σ H' => ∃ v3, σ = [some (.ref p), some (.int e.k), some (.ref e.a), v3] ∧ NearX cs H' p room width rule { s with far := s.far.take (e.k * width).toNat ++ e.ns.take i ++ s.far.drop ((e.k * width).toNat + i) } dx fa oa na wa ∧ Bey F H F H') ?_ ?_ ?_
    · refine ⟨none, rfl, ?_, Bey.refl⟩
      have : s.far.take (e.k * width).toNat ++ e.ns.take 0 ++ s.far.drop ((e.k * width).toNat + 0) = s.far := by simp
      rw [this]
      exact X
    · rintro i σ H' hi ⟨v3, rfl, X', B'⟩
      obtain ⟨x, hx⟩ : ∃ x, e.ns[i]? = some x := ⟨e.ns[i], List.getElem?_eq_getElem hi⟩
      have hzi : (0 : Int) + (i : Int) = ((i : Nat) : Int) := Int.zero_add _
      have hl : (s.far.take (e.k * width).toNat ++ e.ns.take i ++ s.far.drop ((e.k * width).toNat + i)).length = s.far.length := by
        simp only [List.length_append, List.length_take, List.length_drop]
        omega
      refine ⟨_, rfl, _, rfl, e.a, _, _, _, rfl, rfl, SqL.of (X'.h6 e he), at_of hzi (nl_get_map hx), ?_⟩
      refine ⟨_, rfl, p, cs.C_Near, dx, _, _, rfl, X'.h1, T.cl_Near, T.na_Near_far, lk_far, _, rfl, _, rfl, p, cs.C_Near, dx, _, _, rfl, X'.h1, T.cl_Near, T.na_Near_width, lk_width, _, _, rfl, rfl, .inr ⟨by omega, by omega⟩, _, rfl, _, _, rfl, rfl, ?_⟩
      refine ⟨fa, _, _, (e.k * width).toNat + i, rfl, rfl, X'.h2, ?_, ?_⟩
      · have := ix_nat (n := ((s.far.take (e.k * width).toNat ++ e.ns.take i ++ s.far.drop ((e.k * width).toNat + i)).map V.int).length) (j := (e.k * width).toNat + i) (by rw [List.length_map, hl]; omega)
        rw [← this]
        congr 1
        omega
      · refine ⟨_, rfl, ?_, B'.trans (Bey.own (heF fa (by unfold own; simp)))⟩
        have e2 := setR_step hx hfar
        have := X'.far (s.far.take (e.k * width).toNat ++ e.ns.take (i + 1) ++ s.far.drop ((e.k * width).toNat + (i + 1)))
        rw [← e2, List.map_set] at this
        rw [← e2]
        exact this
    · rintro σ H' ⟨v3, rfl, X', B'⟩
      rw [List.take_length] at X'
      have hwg : valV (s.written.map wrKV) (.inl e.k) = some (.bl true) := by rw [wr_get, if_pos hw]
      refine ⟨_, rfl, p, cs.C_Near, dx, _, _, rfl, X'.h1, T.cl_Near, T.na_Near_written, lk_written, wa, rfl, .inl ⟨_, .inl X'.h5⟩, _, rfl, _, .inl e.k, _, X'.h5, rfl, hwg, ?_⟩
      rw [wr_drop]
      have X2 := X'.wr (cutI s.written e.k)
      refine ⟨_, rfl, p, cs.C_Near, dx, _, _, rfl, X2.h1, T.cl_Near, T.na_Near_back, lk_back, _, _, rfl, rfl, _, rfl, p, cs.C_Near, dx, _, rfl, X2.h1, T.cl_Near, T.na_Near_back, (by show 10 < 1000; decide), ?_⟩
      rw [pf_back]
      refine q _ ⟨dx, fa, oa, na, wa, eF, X2.fs _ _ _⟩ ((B'.trans (Bey.own (heF wa (by unfold own; simp)))).trans (Bey.own (heF p (by unfold own; simp))))
/-! ### leave, touched -/
def numsK (near : List NE) (k : Int) : List Int := match near.find? (fun e => decide (e.k = k)) with
  | some e => e.ns
  | none => []
theorem numsK_of : ∀ {near : List NE} {e : NE}, (near.map NE.k).Nodup → e ∈ near → numsK near e.k = e.ns
  | [], _, _, h => by cases h
  | f :: r, e, nd, h => by
    unfold numsK
    rw [List.map_cons, List.nodup_cons] at nd
    rcases List.mem_cons.mp h with z | z
    · subst z
      rw [List.find?_cons_of_pos (by simp)]
    · have : ¬ f.k = e.k := fun q => nd.1 (by
        rw [q]
        exact List.mem_map_of_mem z)
      rw [List.find?_cons_of_neg (by simp [this])]
      exact numsK_of nd.2 z
def wbK (width k : Int) (s : NS) : NS := { s with far := setR s.far (k * width).toNat (numsK s.near k), written := cutI s.written k, back := s.back + 1 }
def leaveS (width k : Int) (s : NS) : NS :=
  { (if k ∈ s.written then wbK width k s else s) with order := cutI s.order k, near := cutN s.near k }
def sliceI (far : List Int) (first w : Nat) : List Int := (far.drop first).take w
/-- the state behind a touch; a: where a new line's numbers are laid -/
def missS (room width line : Int) (s : NS) : NS := if (s.order.length : Int) = room then leaveS width (s.order.getD 0 0) { s with missed := s.missed + 1 } else { s with missed := s.missed + 1 }
def touchS (room width : Int) (least : Bool) (box : Int) (a : Addr) (s : NS) : NS :=
  if box / width ∈ s.order then { s with found := s.found + 1, order := if least then cutI s.order (box / width) ++ [box / width] else s.order }
  else { missS room width (box / width) s with near := (missS room width (box / width) s).near ++ [NE.mk (box / width) a (sliceI (missS room width (box / width) s).far (box / width * width).toNat width.toNat)], order := (missS room width (box / width) s).order ++ [box / width] }
/-- what always holds of a holder -/
structure NOk (room width : Int) (size : Nat) (s : NS) : Prop where
  r0 : 0 < room
  r1 : room ≤ 1000
  w0 : 0 < width
  w1 : width ≤ 1000
  fl : s.far.length = size
  sz : size ≤ 1000
  keys : (s.near.map NE.k).Nodup
  ord : s.order.Nodup
  same : ∀ k, k ∈ s.order ↔ k ∈ s.near.map NE.k
  wr : ∀ k ∈ s.written, k ∈ s.order
  wnd : s.written.Nodup
  ent : ∀ e ∈ s.near, 0 ≤ e.k ∧ e.k * width < (size : Int) ∧ (e.ns.length : Int) = min width ((size : Int) - e.k * width)
  len : (s.order.length : Int) ≤ room
theorem cutI_mem {l : List Int} {k z : Int} : z ∈ cutI l k ↔ z ∈ l ∧ z ≠ k := by
  unfold cutI
  rw [List.mem_filter]
  simp
theorem cutN_keys (l : List NE) (k : Int) : (cutN l k).map NE.k = cutI (l.map NE.k) k := by
  unfold cutN cutI
  rw [List.filter_map]
  rfl
theorem cutI_nodup {l : List Int} (k : Int) (h : l.Nodup) : (cutI l k).Nodup := h.sublist List.filter_sublist
theorem NOk.near_of {room width : Int} {size : Nat} {s : NS} (h : NOk room width size s) {k : Int} (hk : k ∈ s.order) : ∃ e ∈ s.near, e.k = k := by
  obtain ⟨e, he, q⟩ := List.mem_map.mp ((h.same k).mp hk)
  exact ⟨e, he, q⟩
theorem NOk.fit {room width : Int} {size : Nat} {s : NS} (h : NOk room width size s) {e : NE} (he : e ∈ s.near) : 0 ≤ e.k * width ∧ (e.k * width).toNat + e.ns.length ≤ s.far.length := by
  obtain ⟨h1, h2, h3⟩ := h.ent e he
  have hw := h.w0
  have h0 : 0 ≤ e.k * width := Int.mul_nonneg h1 (by omega)
  refine ⟨h0, ?_⟩
  rw [h.fl]
  omega
theorem NOk.wb {room width : Int} {size : Nat} {s : NS} (h : NOk room width size s) {k : Int} (hk : k ∈ s.order) : NOk room width size (wbK width k s) := by
  obtain ⟨e, he, rfl⟩ := h.near_of hk
  obtain ⟨h0, hf⟩ := h.fit he
  refine ⟨h.r0, h.r1, h.w0, h.w1, ?_, h.sz, h.keys, h.ord, h.same, fun z hz => h.wr z (cutI_mem.mp hz).1, cutI_nodup _ h.wnd, h.ent, h.len⟩
  show (setR s.far (e.k * width).toNat (numsK s.near e.k)).length = size
  rw [numsK_of h.keys he, setR_len hf]
  exact h.fl
theorem NOk.leave {room width : Int} {size : Nat} {s : NS} (h : NOk room width size s) {k : Int} (hk : k ∈ s.order) : NOk room width size (leaveS width k s) := by
  have h' : NOk room width size (if k ∈ s.written then wbK width k s else s) := by
    split
    · exact h.wb hk
    · exact h
  refine ⟨h.r0, h.r1, h.w0, h.w1, h'.fl, h.sz, ?_, cutI_nodup _ h.ord, fun z => ?_, fun z hz => ?_, h'.wnd, fun e he => h.ent e (List.mem_filter.mp he).1, ?_⟩
  · show ((cutN s.near k).map NE.k).Nodup
    rw [cutN_keys]
    exact cutI_nodup _ h.keys
  · show z ∈ cutI s.order k ↔ z ∈ (cutN s.near k).map NE.k
    rw [cutN_keys, cutI_mem, cutI_mem, h.same]
  · have hz' : z ∈ (if k ∈ s.written then wbK width k s else s).written := hz
    split at hz'
    · obtain ⟨h1, h2⟩ := cutI_mem.mp (show z ∈ cutI s.written k from hz')
      exact cutI_mem.mpr ⟨h.wr z h1, h2⟩
    · rename_i hn
      exact cutI_mem.mpr ⟨h.wr z hz', fun q => hn (by rw [← q]; exact hz')⟩
  · have := h.len
    have h2 : (cutI s.order k).length ≤ s.order.length := List.length_filter_le _ _
    show ((cutI s.order k).length : Int) ≤ room
    omega
theorem cutI_len {l : List Int} {k : Int} (hn : l.Nodup) (h : k ∈ l) : (cutI l k).length + 1 = l.length := by
  have e : cutI l k = l.eraseIdx (l.idxOf k) := filter_erase hn h
  have hlt := List.idxOf_lt_length_of_mem h
  rw [e, List.length_eraseIdx_of_lt hlt]
  omega
theorem getD0_mem {l : List Int} (h : 0 < l.length) : l.getD 0 0 ∈ l := by
  cases l with
  | nil => exact absurd h (by decide)
  | cons x r => exact List.mem_cons_self
theorem NOk.missed {room width : Int} {size : Nat} {s : NS} (h : NOk room width size s) (m : Int) : NOk room width size { s with missed := m } := ⟨h.r0, h.r1, h.w0, h.w1, h.fl, h.sz, h.keys, h.ord, h.same, h.wr, h.wnd, h.ent, h.len⟩
theorem NOk.miss {room width : Int} {size : Nat} {s : NS} (h : NOk room width size s) (line : Int) : NOk room width size (missS room width line s) ∧ ((missS room width line s).order.length : Int) < room ∧ ∀ k ∈ (missS room width line s).order, k ∈ s.order := by
  unfold missS
  have hr := h.r0
  have hl := h.len
  split
  · rename_i c
    have hm := getD0_mem (l := s.order) (by omega)
    refine ⟨(h.missed _).leave hm, ?_, fun k hk => (cutI_mem.mp hk).1⟩
    have := cutI_len h.ord hm
    show ((cutI s.order (s.order.getD 0 0)).length : Int) < room
    omega
  · exact ⟨h.missed _, by show (s.order.length : Int) < room; omega, fun k hk => hk⟩
theorem NOk.touch {room width : Int} {size : Nat} {s : NS} (h : NOk room width size s) (least : Bool) {box : Int} (h0 : 0 ≤ box) (h1 : box < (size : Int)) (a : Addr) : NOk room width size (touchS room width least box a s) := by
  have hw := h.w0
  unfold touchS
  split
  · rename_i hin
    cases least with
    | false => exact ⟨h.r0, h.r1, h.w0, h.w1, h.fl, h.sz, h.keys, h.ord, h.same, h.wr, h.wnd, h.ent, h.len⟩
    | true =>
      have hmem : ∀ z, z ∈ cutI s.order (box / width) ++ [box / width] ↔ z ∈ s.order := fun z => by
        rw [List.mem_append, cutI_mem]
        simp only [List.mem_cons, List.not_mem_nil, or_false]
        constructor
        · rintro (⟨q, _⟩ | q)
          · exact q
          · rw [q]; exact hin
        · intro q
          by_cases e : z = box / width
          · exact .inr e
          · exact .inl ⟨q, e⟩
      refine ⟨h.r0, h.r1, h.w0, h.w1, h.fl, h.sz, h.keys, ?_, fun z => (hmem z).trans (h.same z), fun z hz => (hmem z).mpr (h.wr z hz), h.wnd, h.ent, ?_⟩
      · show (cutI s.order (box / width) ++ [box / width]).Nodup
        rw [List.nodup_append]
        refine ⟨cutI_nodup _ h.ord, by simp, fun x hx y hy => ?_⟩
        simp only [List.mem_cons, List.not_mem_nil, or_false] at hy
        rw [hy]
        exact (cutI_mem.mp hx).2
      · show ((cutI s.order (box / width) ++ [box / width]).length : Int) ≤ room
        have := cutI_len h.ord hin
        have := h.len
        rw [List.length_append]
        simp only [List.length_cons, List.length_nil]
        omega
  · rename_i hnot
    obtain ⟨g, hlt, hsub⟩ := h.miss (box / width)
    generalize missS room width (box / width) s = s1 at *
    have hno : box / width ∉ s1.order := fun z => hnot (hsub _ z)
    have hd0 : 0 ≤ box / width := Int.ediv_nonneg h0 (by omega)
    have hd1 : box / width * width ≤ box := Int.ediv_mul_le box (by omega)
    have hd2 : 0 ≤ box / width * width := Int.mul_nonneg hd0 (by omega)
    have hmem : ∀ z, z ∈ s1.order ++ [box / width] ↔ z ∈ s1.order ∨ z = box / width := fun z => by
      rw [List.mem_append]
      simp only [List.mem_cons, List.not_mem_nil, or_false]
    have hko : (s1.near ++ [NE.mk (box / width) a (sliceI s1.far (box / width * width).toNat width.toNat)]).map NE.k = s1.near.map NE.k ++ [box / width] := by
      rw [List.map_append]
      rfl
    refine ⟨h.r0, h.r1, h.w0, h.w1, g.fl, g.sz, ?_, ?_, fun z => ?_, fun z hz => (hmem z).mpr (.inl (g.wr z hz)), g.wnd, fun e he => ?_, ?_⟩
    · show ((s1.near ++ [NE.mk (box / width) a _]).map NE.k).Nodup
      rw [hko, List.nodup_append]
      refine ⟨g.keys, by simp, fun x hx y hy => ?_⟩
      simp only [List.mem_cons, List.not_mem_nil, or_false] at hy
      rw [hy]
      exact fun q => hno ((g.same _).mpr (by rw [← q]; exact hx))
    · show (s1.order ++ [box / width]).Nodup
      rw [List.nodup_append]
      refine ⟨g.ord, by simp, fun x hx y hy => ?_⟩
      simp only [List.mem_cons, List.not_mem_nil, or_false] at hy
      rw [hy]
      exact fun q => hno (by rw [← q]; exact hx)
    · show z ∈ s1.order ++ [box / width] ↔ z ∈ (s1.near ++ [NE.mk (box / width) a _]).map NE.k
      rw [hko, hmem, List.mem_append, g.same]
      simp only [List.mem_cons, List.not_mem_nil, or_false]
    · rcases List.mem_append.mp he with q | q
      · exact g.ent e q
      · simp only [List.mem_cons, List.not_mem_nil, or_false] at q
        subst q
        refine ⟨hd0, by show box / width * width < _; omega, ?_⟩
        show ((sliceI s1.far (box / width * width).toNat width.toNat).length : Int) = min width ((size : Int) - box / width * width)
        unfold sliceI
        rw [List.length_take, List.length_drop, g.fl]
        omega
    · show ((s1.order ++ [box / width]).length : Int) ≤ room
      rw [List.length_append]
      simp only [List.length_cons, List.length_nil]
      omega
theorem wbS_eq {width : Int} {e : NE} {s : NS} (hk : (s.near.map NE.k).Nodup) (he : e ∈ s.near) : wbS width e s = wbK width e.k s := by
  unfold wbS wbK
  rw [numsK_of hk he]
theorem idx_noI {x : Int} {xs : List Int} (m : Nat) (hm : m < xs.idxOf x) : xs[m]? ≠ some x := fun h => by
  have := idx_first hm h
  simp at this
theorem own_less {p fa oa na wa : Addr} {near : List NE} {q : NE → Bool} : ∀ b ∈ own p fa oa na wa (near.filter q), b ∈ own p fa oa na wa near := fun b hb => by
  unfold own at hb ⊢
  simp only [List.mem_cons, List.mem_map] at hb ⊢
  rcases hb with h | h | h | h | h | ⟨e, he, h⟩
  · exact .inl h
  · exact .inr (.inl h)
  · exact .inr (.inr (.inl h))
  · exact .inr (.inr (.inr (.inl h)))
  · exact .inr (.inr (.inr (.inr (.inl h))))
  · exact .inr (.inr (.inr (.inr (.inr ⟨e, (List.mem_filter.mp he).1, h⟩))))
def sp_Near_leave (K : PySem.W.Frag) (cs : Cs) : Sp := fun vs H Q _ => ∃ (p : Addr) (k room width : Int) (size : Nat) (rule : Str) (s : NS) (F : List Addr), vs = [.ref p, .int k] ∧ NearAt cs H p room width rule s F ∧ NOk room width size s ∧ k ∈ s.order ∧
  ∀ H' F', NearAt cs H' p room width rule (leaveS width k s) F' → Bey F H F' H' → Q .non H'
theorem ok_Near_leave (T : Txt w K mg cs) (o_Near_write_back : Ok P w K mg base CX0 1 cs.f_Near_write_back cs.d_Near_write_back ["self", "line"] (sp_Near_write_back K cs)) : Ok P w K mg base CX0 2 cs.f_Near_leave cs.d_Near_leave ["self", "line"] (sp_Near_leave K cs) := by
  refine T.fn_Near_leave.ok sc_Near_leave (fun vs H Q E h => ?_) (fun cdv A outer s H vs Q E hr h => ?_)
  · obtain ⟨p, k, room, width, size, rule, s, F, rfl, _⟩ := h
    rfl
  · obtain ⟨p, k, room, width, size, rule, s, F, rfl, hN, ok, hin, q⟩ := h
    have hu := hu_of hr
    refine ⟨_, (pss_cutS (ps_if (pt_cmp (pc_din hu (pv 1) (pe_fld (pv 0) rfl))) (pss_one (ps_expr (pe_methO o_Near_write_back T.cl_Near T.me_Near_write_back hr pass0 (pv 0) (pa_cons (pv 1) pa_nil)))) pss_nil)
      (pss_cons (ps_expr (pe_bm PySem.F.plainAttrs_list PySem.F.slot_list_remove PySem.F.type_list_remove mt_remove (pe_fld (pv 0) rfl) (pa_cons (pv 1) pa_nil)))
      (pss_one (ps_expr (pe_dpop1 (pe_fld (pv 0) rfl) (pv 1) ⟨by rfl, by rfl, by rfl, by rfl⟩))))), ?_⟩
    obtain ⟨e, he, rfl⟩ := ok.near_of hin
    obtain ⟨h0, hf⟩ := ok.fit he
    have w0 := ok.w0
    have w1 := ok.w1
    refine ⟨fun σ' H' => σ' = [some (.ref p), some (.int e.k)] ∧ NearAt cs H' p room width rule (if e.k ∈ s.written then wbK width e.k s else s) F ∧ Bey F H F H', ?_, ?_⟩
    · obtain ⟨dx, fa, oa, na, wa, eF, X⟩ := id hN
      refine ⟨_, rfl, _, rfl, p, cs.C_Near, dx, _, _, rfl, X.h1, T.cl_Near, T.na_Near_written, lk_written, wa, _, rfl, DGet.k (k := .inl e.k) X.h5, _, rfl, ?_⟩
      rw [wr_get]
      by_cases hw : e.k ∈ s.written
      · rw [show (if e.k ∈ s.written then some (V.bl true) else none).isSome = true by rw [if_pos hw]; rfl]
        refine iteT ⟨_, rfl, p, dx, _, rfl, X.h1, rfl, _, rfl, p, e, room, width, rule, s, F, rfl, hN, he, ok.keys, hw, h0, hf, by have := ok.fl; have := ok.sz; omega, w0, w1, fun H' hN' hB => ?_⟩
        rw [wbS_eq ok.keys he] at hN'
        rw [if_pos hw]
        exact ⟨rfl, hN', hB⟩
      · rw [show (if e.k ∈ s.written then some (V.bl true) else none).isSome = false by rw [if_neg hw]; rfl]
        refine iteF ⟨rfl, ?_, Bey.refl⟩
        rw [if_neg hw]
        exact hN
    rintro σ' H' ⟨rfl, hN', hB⟩
    obtain ⟨s1, hs1⟩ : ∃ s1, s1 = (if e.k ∈ s.written then wbK width e.k s else s) := ⟨_, rfl⟩
    have ho : s1.order = s.order := by rw [hs1]; split <;> rfl
    have hn : s1.near = s.near := by rw [hs1]; split <;> rfl
    have hfin : ({ s1 with order := cutI s1.order e.k, near := cutN s1.near e.k } : NS) = leaveS width e.k s := by
      rw [ho, hn, hs1]
      rfl
    rw [← hs1] at hN'
    obtain ⟨dx, fa, oa, na, wa, eF, X⟩ := hN'
    have hin1 : e.k ∈ s1.order := by rw [ho]; exact hin
    have nd1 : s1.order.Nodup := by rw [ho]; exact ok.ord
    refine ⟨_, rfl, p, cs.C_Near, dx, _, _, rfl, X.h1, T.cl_Near, T.na_Near_order, lk_order, .inl ⟨rfl, _, SqL.of X.h3⟩, _, rfl, oa, s1.order, e.k, _, rfl, rfl, X.h3, idx_get hin1, idx_noI, ?_⟩
    have X2 := X.order (cutI s1.order e.k)
    rw [← filter_erase nd1 hin1]
    have hget : valV (s1.near.map neKV) (.inl e.k) = some (.ref e.a) := by rw [hn]; exact near_get ok.keys he
    refine ⟨_, rfl, p, cs.C_Near, dx, _, _, rfl, X2.h1, T.cl_Near, T.na_Near_near, lk_near, na, rfl, .inl ⟨_, .inl X2.h4⟩, _, rfl, _, .inl e.k, _, X2.h4, rfl, hget, ?_⟩
    rw [near_drop]
    have X3 := X2.less (fun z => !decide (z.k = e.k))
    refine q _ _ ⟨dx, fa, oa, na, wa, rfl, ?_⟩ ?_
    · rw [← hfin]
      exact X3
    · have b1 : Bey F H' F (upd H' oa (.lst ((cutI s1.order e.k).map V.int))) := Bey.own (by rw [eF]; unfold own; simp)
      have b2 : Bey F (upd H' oa (.lst ((cutI s1.order e.k).map V.int))) F (upd (upd H' oa (.lst ((cutI s1.order e.k).map V.int))) na (.dK ((cutN s1.near e.k).map neKV))) := Bey.own (by rw [eF]; unfold own; simp)
      refine (hB.trans (b1.trans b2)).sub fun b hb => ?_
      rw [eF]
      have : (leaveS width e.k s).near = s1.near.filter (fun z => !decide (z.k = e.k)) := by rw [← hfin]; rfl
      rw [this] at hb
      exact own_less b hb
theorem cutV_slice (xs : List Int) (i j : Nat) : cutV (xs.map V.int) (some (i : Int)) (some ((i : Int) + (j : Int))) = (sliceI xs i j).map V.int := by
  have h1 : HT.sIx (xs.map V.int).length 0 (some (i : Int)) = min i xs.length := by rw [HT.sIx_nat, List.length_map]
  have h2 : HT.sIx (xs.map V.int).length (xs.map V.int).length (some ((i : Int) + (j : Int))) = min (i + j) xs.length := by
    rw [show (i : Int) + (j : Int) = ((i + j : Nat) : Int) by omega, HT.sIx_nat, List.length_map]
  unfold cutV sliceI
  rw [h1, h2, List.map_take, List.map_drop]
  by_cases h : i ≤ xs.length
  · rw [Nat.min_eq_left h]
    by_cases h3 : i + j ≤ xs.length
    · rw [Nat.min_eq_left h3, Nat.add_sub_cancel_left]
    · rw [Nat.min_eq_right (by omega), List.take_of_length_le (by rw [List.length_drop, List.length_map]; exact Nat.le_refl _), List.take_of_length_le (by rw [List.length_drop, List.length_map]; omega)]
  · rw [List.drop_eq_nil_of_le (by rw [List.length_map]; omega), List.drop_eq_nil_of_le (by rw [List.length_map]; omega)]
    simp
def leastB (rule : Str) : Bool := decide (rule = "least")
def sp_Near_touched (K : PySem.W.Frag) (cs : Cs) : Sp := fun vs H Q E => ∃ (p : Addr) (x : V) (room width : Int) (size : Nat) (rule : Str) (s : NS) (F : List Addr), vs = [.ref p, x] ∧ Typ K H x ∧ NearAt cs H p room width rule s F ∧ NOk room width size s ∧
  (∀ i, x = .int i → 0 ≤ i → i < (size : Int) → ∀ H' F' a, NearAt cs H' p room width rule (touchS room width (leastB rule) i a s) F' → Bey F H F' H' → Q (.int (i / width)) H') ∧
  (wIn x 0 ((size : Int) - 1) = false → ∀ H', Same H H' → E (.ref cs.C_NoBox) none H')
theorem ok_Near_touched (T : Txt w K mg cs) (o_within : Ok P w K mg base CX0 1 cs.f_within cs.d_within ["number", "low", "high"] (sp_within K cs)) (o_Near_leave : Ok P w K mg base CX0 2 cs.f_Near_leave cs.d_Near_leave ["self", "line"] (sp_Near_leave K cs)) : Ok P w K mg base (L2.CX P w) 3 cs.f_Near_touched cs.d_Near_touched ["self", "box"] (sp_Near_touched K cs) := by
  refine T.fn_Near_touched.okX sc_Near_touched (fun vs H Q E h => ?_) (fun cdv A outer s H vs Q E hr h => ?_)
  · obtain ⟨p, x, room, width, size, rule, s, F, rfl, _⟩ := h
    rfl
  · obtain ⟨p, x, room, width, size, rule, s, F, rfl, ty, hN, ok, kQ, kE⟩ := h
    have hu := hu_of hr
    refine ⟨_, (pss_cons (ps_if (pt_not (pt_val (pe_callO o_within (hr.mono (by decide)) (by rfl) T.gl_within pass0 (pa_cons (pv 1) (pa_cons pe_int (pa_cons (pe_op op_sub (pe_callB call_len_seq (by rfl) T.no_len PySem.boot_len (pa_cons (pe_fld (pv 0) rfl) pa_nil)) pe_int) pa_nil)))))) (pss_one (ps_raise rfl (takes_of rfl rfl rfl rfl) (pmk_own PySem.F.excBase_ValueError T.ex_NoBox.x T.ex_NoBox.g T.ex_NoBox.k (raises_own T.ex_NoBox.b T.ex_NoBox.t) (by rfl)))) pss_nil)
      (pss_cons (ps_set (i := 2) sc_Near_touched.nd rfl (Or.inl rfl) (pe_op op_fdiv (pv 1) (pe_fld (pv 0) rfl)))
      (pss_cutS (ps_if (pt_cmp (pc_din hu (pv 2) (pe_fld (pv 0) rfl))) (pss_cons (ps_fld (pv 0) (pe_op op_add (pe_fld (pv 0) rfl) pe_int) rfl)
      (pss_one (ps_if (pt_cmpR op_eq (pe_fld (pv 0) rfl) pe_str (nomark _)) (pss_cons (ps_expr (pe_bm PySem.F.plainAttrs_list PySem.F.slot_list_remove PySem.F.type_list_remove mt_remove (pe_fld (pv 0) rfl) (pa_cons (pv 2) pa_nil)))
      (pss_one (ps_expr (pe_bm PySem.F.plainAttrs_list PySem.F.slot_list_append PySem.F.type_list_append mt_append (pe_fld (pv 0) rfl) (pa_cons (pv 2) pa_nil))))) pss_nil))) (pss_cons (ps_fld (pv 0) (pe_op op_add (pe_fld (pv 0) rfl) pe_int) rfl)
      (pss_cutS (ps_if (pt_cmpR op_eq (pe_callB call_len_seq (by rfl) T.no_len PySem.boot_len (pa_cons (pe_fld (pv 0) rfl) pa_nil)) (pe_fld (pv 0) rfl) (nomark _)) (pss_one (ps_expr (pe_methO o_Near_leave T.cl_Near T.me_Near_leave hr pass0 (pv 0) (pa_cons (pe_ix ix_list (pe_fld (pv 0) rfl) pe_int (fun _ _ => rfl)) pa_nil)))) pss_nil)
      (pss_cons (ps_set (i := 3) sc_Near_touched.nd rfl (Or.inl rfl) (pe_op op_mul (pv 2) (pe_fld (pv 0) rfl)))
      (pss_cons (ps_dput hu (pe_fld (pv 0) rfl) (pv 2) (pe_slice sl_list (pe_fld (pv 0) rfl) (po_some (pv 3)) (po_some (pe_op op_add (pv 3) (pe_fld (pv 0) rfl)))) rfl)
      (pss_one (ps_expr (pe_bm PySem.F.plainAttrs_list PySem.F.slot_list_append PySem.F.type_list_append mt_append (pe_fld (pv 0) rfl) (pa_cons (pv 2) pa_nil)))))))))
      (pss_one (ps_ret (pv 2)))))), ?_⟩
    have w0 := ok.w0
    have w1 := ok.w1
    have hfl := ok.fl
    have hsz := ok.sz
    obtain ⟨dx, fa, oa, na, wa, eF, X⟩ := id hN
    refine ⟨_, rfl, _, rfl, p, cs.C_Near, dx, _, _, rfl, X.h1, T.cl_Near, T.na_Near_far, lk_far, fa, _, rfl, .inl (SqL.of X.h2), _, _, rfl, rfl, x, 0, (size : Int) - 1, ?_, ty, _, rfl, ?_⟩
    · rw [List.length_map, hfl]
    refine iteBN (fun c => kE c _ (Same.refl _)) (fun c => ?_)
    obtain ⟨i, rfl, hi0, hi1⟩ := wIn_int c
    have hi1' : i < (size : Int) := by omega
    -- line
    refine ⟨_, rfl, _, rfl, p, cs.C_Near, dx, _, _, rfl, X.h1, T.cl_Near, T.na_Near_width, lk_width, _, _, rfl, rfl, ⟨w0, by omega⟩, ?_⟩
    refine ⟨fun σ' H' => ∃ v3 F' a, σ' = [some (.ref p), some (.int i), some (.int (i / width)), v3] ∧ NearAt cs H' p room width rule (touchS room width (leastB rule) i a s) F' ∧ Bey F H F' H', ?_, ?_⟩
    · refine ⟨_, rfl, _, rfl, p, cs.C_Near, dx, _, _, rfl, X.h1, T.cl_Near, T.na_Near_near, lk_near, na, _, rfl, DGet.k (k := .inl (i / width)) X.h4, _, rfl, ?_⟩
      by_cases hin : i / width ∈ s.order
      · obtain ⟨e, he, hek⟩ := ok.near_of hin
        have hg : (valV (s.near.map neKV) (.inl (i / width))).isSome = true := by rw [← hek, near_get ok.keys he]; rfl
        rw [hg]
        refine iteT ?_
        -- found
        refine ⟨_, rfl, p, cs.C_Near, dx, _, _, rfl, X.h1, T.cl_Near, T.na_Near_found, lk_found, _, _, rfl, rfl, _, rfl, p, cs.C_Near, dx, _, rfl, X.h1, T.cl_Near, T.na_Near_found, (by show 10 < 1000; decide), ?_⟩
        rw [pf_found]
        have X2 := X.fs (s.found + 1) s.missed s.back
        have b1 : Bey F H F (upd H p (.ins cs.C_Near dx (nearFs fa room width rule oa na wa (s.found + 1) s.missed s.back))) := Bey.own (by rw [eF]; unfold own; simp)
        generalize upd H p (.ins cs.C_Near dx (nearFs fa room width rule oa na wa (s.found + 1) s.missed s.back)) = H2 at *
        refine ⟨_, rfl, p, cs.C_Near, dx, _, _, rfl, X2.h1, T.cl_Near, T.na_Near_rule, lk_rule, rfl, _, rfl, iteD (fun c2 => ?_) (fun c2 => ?_)⟩
        · have hl : leastB rule = true := decide_eq_true (V.str.inj c2)
          refine ⟨_, rfl, p, cs.C_Near, dx, _, _, rfl, X2.h1, T.cl_Near, T.na_Near_order, lk_order, .inl ⟨rfl, _, SqL.of X2.h3⟩, _, rfl, oa, s.order, i / width, _, rfl, rfl, X2.h3, idx_get hin, idx_noI, ?_⟩
          rw [← filter_erase ok.ord hin]
          have X3 := X2.order (cutI s.order (i / width))
          have b2 : Bey F H2 F (upd H2 oa (.lst ((cutI s.order (i / width)).map V.int))) := Bey.own (by rw [eF]; unfold own; simp)
          have hol := ok.len
          have hr1 := ok.r1
          refine ⟨_, rfl, p, cs.C_Near, dx, _, _, rfl, X3.h1, T.cl_Near, T.na_Near_order, lk_order, .inl ⟨rfl, _, SqL.of X3.h3⟩, _, rfl, oa, _, _, rfl, rfl, X3.h3, sizeL (by rw [List.length_map]; have : (cutI s.order (i / width)).length ≤ s.order.length := List.length_filter_le _ _; show (cutI s.order (i / width)).length < 1000000; omega), ?_⟩
          have X4 := X3.order (cutI s.order (i / width) ++ [i / width])
          have b3 : Bey F (upd H2 oa (.lst ((cutI s.order (i / width)).map V.int))) F (upd (upd H2 oa (.lst ((cutI s.order (i / width)).map V.int))) oa (.lst ((cutI s.order (i / width) ++ [i / width]).map V.int))) := Bey.own (by rw [eF]; unfold own; simp)
          rw [List.map_append] at X4 b3
          refine ⟨_, F, 0, rfl, ⟨dx, fa, oa, na, wa, ?_, ?_⟩, (b1.trans b2).trans b3⟩
          · rw [eF]
            unfold touchS
            rw [if_pos hin]
          · unfold touchS
            rw [if_pos hin, hl]
            exact X4
        · have hl : leastB rule = false := decide_eq_false fun z => c2 (congrArg V.str z)
          refine ⟨_, F, 0, rfl, ⟨dx, fa, oa, na, wa, ?_, ?_⟩, b1⟩
          · rw [eF]
            unfold touchS
            rw [if_pos hin]
          · unfold touchS
            rw [if_pos hin, hl]
            exact X2
      · have hnk : i / width ∉ s.near.map NE.k := fun z => hin ((ok.same _).mpr z)
        have hg : (valV (s.near.map neKV) (.inl (i / width))).isSome = false := by rw [near_none hnk]; rfl
        rw [hg]
        refine iteF ?_
        -- missed
        refine ⟨_, rfl, p, cs.C_Near, dx, _, _, rfl, X.h1, T.cl_Near, T.na_Near_missed, lk_missed, _, _, rfl, rfl, _, rfl, p, cs.C_Near, dx, _, rfl, X.h1, T.cl_Near, T.na_Near_missed, (by show 10 < 1000; decide), ?_⟩
        rw [pf_missed]
        have X2 := X.fs s.found (s.missed + 1) s.back
        have b1 : Bey F H F (upd H p (.ins cs.C_Near dx (nearFs fa room width rule oa na wa s.found (s.missed + 1) s.back))) := Bey.own (by rw [eF]; unfold own; simp)
        generalize upd H p (.ins cs.C_Near dx (nearFs fa room width rule oa na wa s.found (s.missed + 1) s.back)) = H2 at *
        have ok2 : NOk room width size { s with missed := s.missed + 1 } := ok.missed _
        have hN2 : NearAt cs H2 p room width rule { s with missed := s.missed + 1 } F := ⟨dx, fa, oa, na, wa, eF, X2⟩
        refine ⟨fun σ' H' => ∃ F', σ' = [some (.ref p), some (.int i), some (.int (i / width)), none] ∧ NearAt cs H' p room width rule (missS room width (i / width) s) F' ∧ Bey F H F' H', ?_, ?_⟩
        · refine ⟨_, rfl, p, cs.C_Near, dx, _, _, rfl, X2.h1, T.cl_Near, T.na_Near_order, lk_order, oa, _, rfl, .inl (SqL.of X2.h3), _, rfl, p, cs.C_Near, dx, _, _, rfl, X2.h1, T.cl_Near, T.na_Near_room, lk_room, rfl, _, rfl, iteD (fun c2 => ?_) (fun c2 => ?_)⟩
          · have c3 : (s.order.length : Int) = room := by
              have := V.int.inj c2
              rwa [List.length_map] at this
            have hr0 := ok.r0
            have hm := getD0_mem (l := s.order) (by omega)
            have hat : atI (s.order.map V.int) 0 = some (.int (s.order.getD 0 0)) := at_getD (i := 0) (by omega) (by omega)
            refine ⟨_, rfl, p, dx, _, rfl, X2.h1, rfl, _, rfl, p, cs.C_Near, dx, _, _, rfl, X2.h1, T.cl_Near, T.na_Near_order, lk_order, oa, _, _, _, rfl, rfl, SqL.of X2.h3, hat, p, _, room, width, size, rule, _, F, rfl, hN2, ok2, hm, fun H3 F3 hN3 hB3 => ?_⟩
            refine ⟨F3, rfl, ?_, b1.trans hB3⟩
            unfold missS
            rw [if_pos c3]
            exact hN3
          · have c3 : ¬ (s.order.length : Int) = room := fun z => c2 (by rw [List.length_map, z])
            refine ⟨F, rfl, ?_, b1⟩
            unfold missS
            rw [if_neg c3]
            exact hN2
        rintro σ' H3 ⟨F3, rfl, hN3, b3⟩
        obtain ⟨ok3, hlt, hsub⟩ := ok.miss (i / width)
        have hts : ∀ a, touchS room width (leastB rule) i a s = { missS room width (i / width) s with near := (missS room width (i / width) s).near ++ [NE.mk (i / width) a (sliceI (missS room width (i / width) s).far (i / width * width).toNat width.toNat)], order := (missS room width (i / width) s).order ++ [i / width] } := fun a => by
          unfold touchS
          rw [if_neg hin]
        generalize missS room width (i / width) s = s3 at *
        obtain ⟨dx3, fa3, oa3, na3, wa3, eF3, X3⟩ := hN3
        have hd0 : 0 ≤ i / width := Int.ediv_nonneg hi0 (by omega)
        have hd1 : i / width * width ≤ i := Int.ediv_mul_le i (by omega)
        have hd2 : 0 ≤ i / width * width := Int.mul_nonneg hd0 (by omega)
        have hnk3 : i / width ∉ s3.near.map NE.k := fun z => hin (hsub _ ((ok3.same _).mpr z))
        -- first, near[line] = far[first:first + width]
        refine ⟨_, rfl, _, rfl, p, cs.C_Near, dx3, _, _, rfl, X3.h1, T.cl_Near, T.na_Near_width, lk_width, _, _, rfl, rfl, .inr ⟨by omega, by omega⟩, ?_⟩
        have hcut : cutV (s3.far.map V.int) (some (i / width * width)) (some (i / width * width + width)) = (sliceI s3.far (i / width * width).toNat width.toNat).map V.int := by
          have := cutV_slice s3.far (i / width * width).toNat width.toNat
          rwa [Int.toNat_of_nonneg hd2, Int.toNat_of_nonneg (show 0 ≤ width by omega)] at this
        refine ⟨_, rfl, p, cs.C_Near, dx3, _, _, rfl, X3.h1, T.cl_Near, T.na_Near_far, lk_far, _, rfl, _, rfl, _, rfl, _, rfl, p, cs.C_Near, dx3, _, _, rfl, X3.h1, T.cl_Near, T.na_Near_width, lk_width, _, _, rfl, rfl, _, rfl, fa3, _, rfl, SqL.of X3.h2, fun g ng => ?_⟩
        rw [hcut]
        have b4 : Bey F3 H3 (F3 ++ [g]) (upd H3 g (.lst ((sliceI s3.far (i / width * width).toNat width.toNat).map V.int))) := Bey.new ng
        have s4 : Same H3 (upd H3 g (.lst ((sliceI s3.far (i / width * width).toNat width.toNat).map V.int))) := Same.new ng
        have X4 := X3.more (i / width) (sliceI s3.far (i / width * width).toNat width.toNat) ng
        have hnl : s3.near.length ≤ 1000 := by
          have h1 := (List.perm_ext_iff_of_nodup ok3.ord ok3.keys).mpr ok3.same
          have h2 := h1.length_eq
          rw [List.length_map] at h2
          have := ok3.len
          have := ok3.r1
          omega
        refine ⟨_, rfl, p, cs.C_Near, dx3, _, _, rfl, s4 _ _ X3.h1, T.cl_Near, T.na_Near_near, lk_near, _, rfl, na3, _, rfl, DPut.k (k := .inl (i / width)) (s4 _ _ X3.h4) (by rw [List.length_map]; exact sizeL (by omega)), ?_⟩
        rw [near_put (sliceI s3.far (i / width * width).toNat width.toNat) hnk3]
        have b5 : Bey (F3 ++ [g]) (upd H3 g (.lst ((sliceI s3.far (i / width * width).toNat width.toNat).map V.int))) (F3 ++ [g]) (upd (upd H3 g (.lst ((sliceI s3.far (i / width * width).toNat width.toNat).map V.int))) na3 (.dK ((s3.near ++ [NE.mk (i / width) g (sliceI s3.far (i / width * width).toNat width.toNat)]).map neKV))) := Bey.own (by rw [eF3]; unfold own; simp)
        have hol := ok3.len
        have hr1 := ok3.r1
        refine ⟨_, rfl, p, cs.C_Near, dx3, _, _, rfl, X4.h1, T.cl_Near, T.na_Near_order, lk_order, .inl ⟨rfl, _, SqL.of X4.h3⟩, _, rfl, oa3, _, _, rfl, rfl, X4.h3, sizeL (by rw [List.length_map]; show s3.order.length < 1000000; omega), ?_⟩
        have X5 := X4.order (s3.order ++ [i / width])
        rw [show (s3.order ++ [i / width]).map V.int = s3.order.map V.int ++ [V.int (i / width)] from List.map_append] at X5
        refine ⟨_, F3 ++ [g], g, rfl, ⟨dx3, fa3, oa3, na3, wa3, ?_, ?_⟩, b3.trans (b4.trans (b5.trans (Bey.own (by rw [eF3]; unfold own; simp))))⟩
        · rw [eF3, hts]
          unfold own
          simp
        · rw [hts]
          exact X5
    rintro σ' H' ⟨v3, F', a, rfl, hN', hB'⟩
    exact ⟨_, rfl, kQ i rfl hi0 hi1' _ F' a hN' hB'⟩
/-! ### need_shape, Near.__init__, look, put, held -/
def ruleOk : V → Bool
  | .str z => decide (z = "least") || decide (z = "first")
  | _ => false
def shapeOk (x y r : V) : Bool := wIn x 1 200 && wIn y 1 200 && ruleOk r
def sp_need_shape (K : PySem.W.Frag) (cs : Cs) : Sp := fun vs H Q E => ∃ x y r : V, vs = [x, y, r] ∧ Typ K H x ∧ Typ K H y ∧ Typ K H r ∧ (shapeOk x y r = true → Q .non H) ∧ (shapeOk x y r = false → ∀ H', Same H H' → E (.ref cs.C_BadShape) none H')
theorem rules_in (z : Str) : inV (.str z) [V.str "least", V.str "first"] = (decide (z = "least") || decide (z = "first")) := by
  have e : ∀ a : Str, eqV (.str a) (.str z) = decide (z = a) := fun a => by
    show (a == z) = _
    by_cases h : z = a
    · subst h
      simp
    · have : ¬ a = z := fun q => h q.symm
      simp [h, this]
  show ([V.str "least", V.str "first"].any fun y => eqV y (.str z)) = _
  simp only [List.any_cons, List.any_nil, e, Bool.or_false]
theorem ok_need_shape (T : Txt w K mg cs) (o_within : Ok P w K mg base CX0 1 cs.f_within cs.d_within ["number", "low", "high"] (sp_within K cs)) : Ok P w K mg base (L2.CX P w) 2 cs.f_need_shape cs.d_need_shape ["room", "width", "rule"] (sp_need_shape K cs) := by
  refine T.fn_need_shape.okX sc_need_shape (fun vs H Q E h => ?_) (fun cdv A outer s H vs Q E hr h => ?_)
  · obtain ⟨x, y, r, rfl, _⟩ := h
    rfl
  · obtain ⟨x, y, r, rfl, tx, ty, ⟨t, tr, ht⟩, kQ, kE⟩ := h
    refine ⟨_, (pss_cons (ps_if (pt_jn (PW.pt (pw_or (pt_not (pt_val (pe_callO o_within hr (by rfl) T.gl_within pass0 (pa_cons (pv 0) (pa_cons pe_int (pa_cons (pe_glob (v := .int 200) (by rfl) (T.gl_WIDEST).choose_spec ⟨_, rfl⟩) pa_nil)))))) (pw_or1 (pt_not (pt_val (pe_callO o_within hr (by rfl) T.gl_within pass0 (pa_cons (pv 1) (pa_cons pe_int (pa_cons (pe_glob (v := .int 200) (by rfl) (T.gl_WIDEST).choose_spec ⟨_, rfl⟩) pa_nil)))))))))) (pss_one (ps_raise rfl (takes_of rfl rfl rfl rfl) (pmk_own PySem.F.excBase_ValueError T.ex_BadShape.x T.ex_BadShape.g T.ex_BadShape.k (raises_own T.ex_BadShape.b T.ex_BadShape.t) (by rfl)))) pss_nil)
      (pss_one (ps_if (pt_jn (PW.pt (pw_or (pt_not (pt_val (pe_callB call_isi (by rfl) T.no_isinstance boot_isinstance (pa_cons (pv 2) (pa_cons (pe_bltn (v := .ty "str") (by rfl) T.no_str boot_str rfl) pa_nil))))) (pw_or1 (pt_cmpR op_notIn_seq (pv 2) (pe_glob (v := .ref cs.a_RULES) (by rfl) T.gl_RULES rfl) (by rfl)))))) (pss_one (ps_raise rfl (takes_of rfl rfl rfl rfl) (pmk_own PySem.F.excBase_ValueError T.ex_BadShape.x T.ex_BadShape.g T.ex_BadShape.k (raises_own T.ex_BadShape.b T.ex_BadShape.t) (by rfl)))) pss_nil))), ?_⟩
    refine ⟨fun b H' => H' = H ∧ b = !(wIn x 1 200 && wIn y 1 200), ?_, ?_⟩
    · refine ⟨_, rfl, x, 1, 200, rfl, tx, _, rfl, iteBN (fun c => ?_) (fun c => ?_)⟩
      · rw [c]
        exact ⟨rfl, rfl⟩
      · refine ⟨_, rfl, y, 1, 200, rfl, ty, _, rfl, rfl, ?_⟩
        rw [c, Bool.true_and]
    rintro b H' ⟨rfl, rfl⟩
    refine iteBN (fun c => ?_) (fun c => ?_)
    · refine kE ?_ _ (Same.refl _)
      unfold shapeOk
      rw [c, Bool.false_and]
    have es : shapeOk x y r = ruleOk r := by
      unfold shapeOk
      rw [c, Bool.true_and]
    refine ⟨fun b H2 => H2 = H' ∧ b = !(shapeOk x y r), ?_, ?_⟩
    · refine ⟨_, rfl, _, _, _, _, _, rfl, .ty "str", tr, kit_str ht, _, rfl, iteBN (fun c2 => ?_) (fun c2 => ?_)⟩
      · have e : shapeOk x y r = false := by
          rw [es]
          cases r with
          | str z =>
            rw [Value.type.inj (ty_of_str tr)] at c2
            exact absurd c2 (by decide)
          | _ => rfl
        rw [e]
        exact ⟨rfl, rfl⟩
      · have e : t = "str" := by simpa using c2
        subst e
        obtain ⟨z, rfl⟩ := typ_str tr
        refine ⟨_, rfl, cs.a_RULES, _, rfl, .inr (.inr T.tp_RULES), rfl, rfl, _, rfl, rfl, ?_⟩
        rw [es]
        exact congrArg Bool.not (rules_in z)
    rintro b H2 ⟨rfl, rfl⟩
    refine iteBN (fun c2 => kE c2 _ (Same.refl _)) (fun c2 => kQ c2)
def newS (far : List Int) : NS := ⟨far, [], [], [], 0, 0, 0⟩
theorem goodBoxes_ints : ∀ {ys : List V}, (ys.all fun y => wIn y 0 999999) = true → ∃ far : List Int, ys = far.map V.int ∧ ∀ i ∈ far, 0 ≤ i ∧ i ≤ 999999
  | [], _ => ⟨[], rfl, fun i h => by cases h⟩
  | y :: r, h => by
    rw [List.all_cons, Bool.and_eq_true] at h
    obtain ⟨i, rfl, h0, h1⟩ := wIn_int h.1
    obtain ⟨far, rfl, q⟩ := goodBoxes_ints h.2
    exact ⟨i :: far, rfl, fun j hj => (List.mem_cons.mp hj).elim (fun z => by rw [z]; exact ⟨h0, h1⟩) (q j)⟩
def sp_Near___init__ (K : PySem.W.Frag) (cs : Cs) : Sp := fun vs H Q E => ∃ (p dx b : Addr) (ys : List V) (x y r : V), vs = [.ref p, .ref b, x, y, r] ∧ H p = some (.ins cs.C_Near dx []) ∧ SqL K H b ys ∧ (∀ v ∈ ys, Typ K H v) ∧ ys.length ≤ 1000 ∧ Typ K H x ∧ Typ K H y ∧ Typ K H r ∧
  (goodBoxes ys = true → shapeOk x y r = true → ∀ H' F' room width rule far, x = .int room → y = .int width → r = .str rule → ys = far.map V.int → NearAt cs H' p room width rule (newS far) F' → Bey [p] H F' H' → Q .non H') ∧
  (goodBoxes ys = false → ∀ H', Same H H' → E (.ref cs.C_BadBoxes) none H') ∧ (goodBoxes ys = true → shapeOk x y r = false → ∀ H', Bey [p] H [p] H' → E (.ref cs.C_BadShape) none H')
theorem ok_Near___init__ (T : Txt w K mg cs) (o_checked_boxes : Ok P w K mg base (L2.CX P w) 2 cs.f_checked_boxes cs.d_checked_boxes ["boxes"] (sp_checked_boxes K cs)) (o_need_shape : Ok P w K mg base (L2.CX P w) 2 cs.f_need_shape cs.d_need_shape ["room", "width", "rule"] (sp_need_shape K cs)) : Ok P w K mg base (L2.CX P w) 3 cs.f_Near___init__ cs.d_Near___init__ ["self", "boxes", "room", "width", "rule"] (sp_Near___init__ K cs) := by
  refine T.fn_Near___init__.okX sc_Near___init__ (fun vs H Q E h => ?_) (fun cdv A outer s H vs Q E hr h => ?_)
  · obtain ⟨p, dx, b, ys, x, y, r, rfl, _⟩ := h
    rfl
  · obtain ⟨p, dx, b, ys, x, y, r, rfl, hp, hS, hT, hl, tx, ty, tr, kQ, kE1, kE2⟩ := h
    refine ⟨_, (pss_cons (ps_fld (pv 0) (pe_callO o_checked_boxes hr (by rfl) T.gl_checked_boxes (passes_call (takes_of rfl rfl rfl rfl) fun _ _ _ _ h => h) (pa_cons (pv 1) pa_nil)) rfl)
      (pss_cons (ps_expr (pe_callO o_need_shape hr (by rfl) T.gl_need_shape (passes_call (takes_of rfl rfl rfl rfl) fun _ _ _ _ h => h) (pa_cons (pv 2) (pa_cons (pv 3) (pa_cons (pv 4) pa_nil)))))
      (pss_cons (ps_fld (pv 0) (pv 2) rfl)
      (pss_cons (ps_fld (pv 0) (pv 3) rfl)
      (pss_cons (ps_fld (pv 0) (pv 4) rfl)
      (pss_cons (ps_fld (pv 0) (pe_lst pa_nil) rfl)
      (pss_cons (ps_fld (pv 0) pe_dnewK rfl)
      (pss_cons (ps_fld (pv 0) pe_dnewK rfl)
      (pss_cons (ps_fld (pv 0) pe_int rfl)
      (pss_cons (ps_fld (pv 0) pe_int rfl)
      (pss_one (ps_fld (pv 0) pe_int rfl)))))))))))), ?_⟩
    refine ⟨_, rfl, b, ys, rfl, hS, hT, hl, fun H1 q hgood s1 nq hq => ?_, fun H1 hb s1 => kE1 hb H1 s1⟩
    refine ⟨_, rfl, p, cs.C_Near, dx, [], rfl, s1 _ _ hp, T.cl_Near, T.na_Near_far, (by decide), ?_⟩
    have hqp : q ≠ p := fun e => by
      rw [e, hp] at nq
      cases nq
    have hp1 := s1 _ _ hp
    have ne : ∀ {o : HO}, Bey [p] H [p] (upd H1 p o) := fun {o} => (Bey.same s1).trans (Bey.own (by simp))
    refine ⟨_, rfl, _, rfl, _, rfl, x, y, r, rfl, (tx.same s1).but hp1, (ty.same s1).but hp1, (tr.same s1).but hp1, fun hok => ?_, fun hok H2 s2 => kE2 hgood hok H2 (ne.trans (Bey.same s2))⟩
    obtain ⟨room, width, rule, rfl, rfl, rfl⟩ : ∃ room width rule, x = .int room ∧ y = .int width ∧ r = .str rule := by
      unfold shapeOk at hok
      rw [Bool.and_eq_true, Bool.and_eq_true] at hok
      obtain ⟨⟨h1, h2⟩, h3⟩ := hok
      obtain ⟨i, rfl, _⟩ := wIn_int h1
      obtain ⟨j, rfl, _⟩ := wIn_int h2
      cases r with
      | str z => exact ⟨i, j, z, rfl, rfl, rfl⟩
      | _ => cases h3
    obtain ⟨far, hfar, _⟩ := goodBoxes_ints (ys := ys) (by
      unfold goodBoxes at hgood
      rw [Bool.and_eq_true] at hgood
      exact hgood.2)
    subst hfar
    -- the fields
    refine ⟨_, rfl, _, rfl, p, cs.C_Near, dx, _, rfl, upd_same, T.cl_Near, T.na_Near_room, (by show 1 < 1000; decide), ?_⟩
    refine ⟨_, rfl, _, rfl, p, cs.C_Near, dx, _, rfl, upd_same, T.cl_Near, T.na_Near_width, (by show 2 < 1000; decide), ?_⟩
    refine ⟨_, rfl, _, rfl, p, cs.C_Near, dx, _, rfl, upd_same, T.cl_Near, T.na_Near_rule, (by show 3 < 1000; decide), ?_⟩
    refine ⟨Nat.zero_le _, fun oa noa => ?_⟩
    have hop : p ≠ oa := ne_of_none upd_same noa
    have hoq : q ≠ oa := ne_of_none (by simp only [upd_ne hqp]; exact hq) noa
    refine ⟨_, rfl, p, cs.C_Near, dx, _, rfl, (by rw [upd_ne hop]; exact upd_same), T.cl_Near, T.na_Near_order, (by show 4 < 1000; decide), fun na nna => ?_⟩
    have hnp : p ≠ na := ne_of_none upd_same nna
    have hnq : q ≠ na := ne_of_none (by simp only [upd_ne hqp, upd_ne hoq]; exact hq) nna
    have hno : oa ≠ na := ne_of_none (by rw [upd_ne hop.symm]; exact upd_same) nna
    refine ⟨_, rfl, p, cs.C_Near, dx, _, rfl, (by rw [upd_ne hnp]; exact upd_same), T.cl_Near, T.na_Near_near, (by show 5 < 1000; decide), fun wa nwa => ?_⟩
    have hwp : p ≠ wa := ne_of_none upd_same nwa
    have hwq : q ≠ wa := ne_of_none (by simp only [upd_ne hqp, upd_ne hoq, upd_ne hnq]; exact hq) nwa
    have hwo : oa ≠ wa := ne_of_none (by simp only [upd_ne hop.symm, upd_ne hno]; exact upd_same) nwa
    have hwn : na ≠ wa := ne_of_none (by rw [upd_ne hnp.symm]; exact upd_same) nwa
    refine ⟨_, rfl, p, cs.C_Near, dx, _, rfl, (by rw [upd_ne hwp]; exact upd_same), T.cl_Near, T.na_Near_written, (by show 6 < 1000; decide), ?_⟩
    refine ⟨_, rfl, p, cs.C_Near, dx, _, rfl, upd_same, T.cl_Near, T.na_Near_found, (by show 7 < 1000; decide), ?_⟩
    refine ⟨_, rfl, p, cs.C_Near, dx, _, rfl, upd_same, T.cl_Near, T.na_Near_missed, (by show 8 < 1000; decide), ?_⟩
    refine ⟨_, rfl, p, cs.C_Near, dx, _, rfl, upd_same, T.cl_Near, T.na_Near_back, (by show 9 < 1000; decide), ?_⟩
    refine kQ hgood hok _ (own p q oa na wa []) room width rule far rfl rfl rfl rfl ⟨dx, q, oa, na, wa, rfl, ?_, ?_, ?_, ?_, ?_, ?_, fun e he => by cases he⟩ ?_
    · show [p, q, oa, na, wa].Nodup
      simp only [List.nodup_cons, List.mem_cons, List.not_mem_nil, or_false, not_or, not_false_eq_true, List.nodup_nil, and_true]
      exact ⟨⟨hqp.symm, hop, hnp, hwp⟩, ⟨hoq, hnq, hwq⟩, ⟨hno, hwo⟩, hwn⟩
    · exact upd_same
    · simp only [upd_ne hqp, upd_ne hoq, upd_ne hnq, upd_ne hwq]
      exact hq
    · simp only [upd_ne hop.symm, upd_ne hno, upd_ne hwo]
      exact upd_same
    · simp only [upd_ne hnp.symm, upd_ne hwn]
      exact upd_same
    · simp only [upd_ne hwp.symm]
      exact upd_same
    · intro G g f
      have fp : G p = none := f p (by simp)
      have fq : G q = none := g.free nq
      have fo : G oa = none := (((((g.trans s1).mut fp).mut fp).mut fp).mut fp).free noa
      have fn : G na = none := (((((((g.trans s1).mut fp).mut fp).mut fp).mut fp).mut fo).mut fp).free nna
      have fw : G wa = none := (((((((((g.trans s1).mut fp).mut fp).mut fp).mut fp).mut fo).mut fp).mut fn).mut fp).free nwa
      refine ⟨(((((((((((((g.trans s1).mut fp).mut fp).mut fp).mut fp).mut fo).mut fp).mut fn).mut fp).mut fw).mut fp).mut fp).mut fp).mut fp, fun b hb => ?_⟩
      unfold own at hb
      simp only [List.mem_cons, List.map_nil, List.not_mem_nil, or_false] at hb
      rcases hb with rfl | rfl | rfl | rfl | rfl
      · exact fp
      · exact fq
      · exact fo
      · exact fn
      · exact fw
/-! ### look, put, held -/
def offN (width i : Int) : Nat := (i - i / width * width).toNat
/-- the number read -/
def lookV (width i : Int) (s : NS) : Int := (numsK s.near (i / width)).getD (offN width i) 0
def putS (width i n : Int) (s : NS) : NS := { s with near := setNE s.near (i / width) ((numsK s.near (i / width)).set (offN width i) n), written := addI s.written (i / width) }
theorem touch_has {room width : Int} {least : Bool} {i : Int} {a : Addr} {s : NS} : i / width ∈ (touchS room width least i a s).order := by
  unfold touchS
  split
  · rename_i h
    cases least with
    | true => exact List.mem_append_right _ List.mem_cons_self
    | false => exact h
  · exact List.mem_append_right _ List.mem_cons_self
theorem off_ok {room width : Int} {size : Nat} {s : NS} (ok : NOk room width size s) {e : NE} (he : e ∈ s.near) {i : Int} (h1 : i < (size : Int)) (hk : e.k = i / width) : 0 ≤ i - i / width * width ∧ offN width i < e.ns.length ∧ ((offN width i : Nat) : Int) = i - i / width * width := by
  have w0 := ok.w0
  obtain ⟨_, _, h⟩ := ok.ent e he
  rw [hk] at h
  have h2 : i / width * width ≤ i := Int.ediv_mul_le i (by omega)
  have h3 : i - i / width * width < width := by
    have h4 := Int.emod_lt_of_pos i w0
    have h5 := Int.emod_def i width
    rw [Int.mul_comm] at h5
    omega
  unfold offN
  omega
def sp_Near_look (K : PySem.W.Frag) (cs : Cs) : Sp := fun vs H Q E => ∃ (p : Addr) (x : V) (room width : Int) (size : Nat) (rule : Str) (s : NS) (F : List Addr), vs = [.ref p, x] ∧ Typ K H x ∧ NearAt cs H p room width rule s F ∧ NOk room width size s ∧
  (∀ i, x = .int i → 0 ≤ i → i < (size : Int) → ∀ H' F' a, NearAt cs H' p room width rule (touchS room width (leastB rule) i a s) F' → Bey F H F' H' → Q (.int (lookV width i (touchS room width (leastB rule) i a s))) H') ∧
  (wIn x 0 ((size : Int) - 1) = false → ∀ H', Same H H' → E (.ref cs.C_NoBox) none H')
theorem ok_Near_look (T : Txt w K mg cs) (o_Near_touched : Ok P w K mg base (L2.CX P w) 3 cs.f_Near_touched cs.d_Near_touched ["self", "box"] (sp_Near_touched K cs)) : Ok P w K mg base (L2.CX P w) 4 cs.f_Near_look cs.d_Near_look ["self", "box"] (sp_Near_look K cs) := by
  refine T.fn_Near_look.okX sc_Near_look (fun vs H Q E h => ?_) (fun cdv A outer s H vs Q E hr h => ?_)
  · obtain ⟨p, x, room, width, size, rule, s, F, rfl, _⟩ := h
    rfl
  · obtain ⟨p, x, room, width, size, rule, s, F, rfl, ty, hN, ok, kQ, kE⟩ := h
    have hu := hu_of hr
    refine ⟨_, (pss_cons (ps_set (i := 2) sc_Near_look.nd rfl (Or.inl rfl) (pe_methO o_Near_touched T.cl_Near T.me_Near_touched hr (passes_call (takes_of rfl rfl rfl rfl) fun _ _ _ _ h => h) (pv 0) (pa_cons (pv 1) pa_nil)))
      (pss_one (ps_ret (pe_ix ix_list (pe_dget hu (pe_fld (pv 0) rfl) (pv 2) (fun _ _ => rfl)) (pe_op op_sub (pv 1) (pe_op op_mul (pv 2) (pe_fld (pv 0) rfl))) (fun _ _ => rfl))))), ?_⟩
    have hdom := fun (H' : Hp) (h : H' p = H' p) => h
    obtain ⟨dx0, fa0, oa0, na0, wa0, eF0, X0⟩ := id hN
    refine ⟨_, rfl, p, dx0, _, rfl, X0.h1, rfl, _, rfl, p, x, room, width, size, rule, s, F, rfl, ty, hN, ok, fun i ex h0 h1 H' F' a hN' hB' => ?_, kE⟩
    subst ex
    have ok' := ok.touch (leastB rule) h0 h1 a
    have hin : i / width ∈ (touchS room width (leastB rule) i a s).order := touch_has
    have kq := kQ i rfl h0 h1 H' F' a hN' hB'
    generalize touchS room width (leastB rule) i a s = s' at *
    obtain ⟨dx, fa, oa, na, wa, eF, X⟩ := hN'
    obtain ⟨e, he, hek⟩ := ok'.near_of hin
    have w0 := ok.w0
    have w1 := ok.w1
    obtain ⟨o1, o2, o3⟩ := off_ok ok' he h1 hek
    have hget := near_get ok'.keys he
    rw [hek] at hget
    have hnum := numsK_of ok'.keys he
    rw [hek] at hnum
    have hat : atI (e.ns.map V.int) (i - i / width * width) = some (.int (lookV width i s')) := by
      unfold lookV
      rw [hnum]
      exact at_of o3.symm (int_getD o2)
    refine ⟨_, rfl, p, cs.C_Near, dx, _, _, rfl, X.h1, T.cl_Near, T.na_Near_near, lk_near, _, rfl, na, .ref e.a, rfl, (by rw [← hget]; exact DGet.k (k := .inl (i / width)) X.h4), ?_⟩
    exact ⟨_, rfl, _, rfl, _, rfl, p, cs.C_Near, dx, _, _, rfl, X.h1, T.cl_Near, T.na_Near_width, lk_width, _, _, rfl, rfl, .inr ⟨by omega, by omega⟩, _, _, rfl, rfl, e.a, _, _, _, rfl, rfl, SqL.of (X.h6 e he), hat, kq⟩
def sp_Near_put (K : PySem.W.Frag) (cs : Cs) : Sp := fun vs H Q E => ∃ (p : Addr) (x : V) (n room width : Int) (size : Nat) (rule : Str) (s : NS) (F : List Addr), vs = [.ref p, x, .int n] ∧ Typ K H x ∧ NearAt cs H p room width rule s F ∧ NOk room width size s ∧
  (∀ i, x = .int i → 0 ≤ i → i < (size : Int) → ∀ H' F' a, NearAt cs H' p room width rule (putS width i n (touchS room width (leastB rule) i a s)) F' → Bey F H F' H' → Q .non H') ∧
  (wIn x 0 ((size : Int) - 1) = false → ∀ H', Same H H' → E (.ref cs.C_NoBox) none H')
theorem ok_Near_put (T : Txt w K mg cs) (o_Near_touched : Ok P w K mg base (L2.CX P w) 3 cs.f_Near_touched cs.d_Near_touched ["self", "box"] (sp_Near_touched K cs)) : Ok P w K mg base (L2.CX P w) 4 cs.f_Near_put cs.d_Near_put ["self", "box", "number"] (sp_Near_put K cs) := by
  refine T.fn_Near_put.okX sc_Near_put (fun vs H Q E h => ?_) (fun cdv A outer s H vs Q E hr h => ?_)
  · obtain ⟨p, x, n, room, width, size, rule, s, F, rfl, _⟩ := h
    rfl
  · obtain ⟨p, x, n, room, width, size, rule, s, F, rfl, ty, hN, ok, kQ, kE⟩ := h
    have hu := hu_of hr
    refine ⟨_, (pss_cons (ps_set (i := 3) sc_Near_put.nd rfl (Or.inl rfl) (pe_methO o_Near_touched T.cl_Near T.me_Near_touched hr (passes_call (takes_of rfl rfl rfl rfl) fun _ _ _ _ h => h) (pv 0) (pa_cons (pv 1) pa_nil)))
      (pss_cons (ps_asg (pv 2) (pg_sub (pe_dget hu (pe_fld (pv 0) rfl) (pv 3) (fun _ _ => rfl)) (pe_op op_sub (pv 1) (pe_op op_mul (pv 3) (pe_fld (pv 0) rfl))) set_list))
      (pss_one (ps_dput hu (pe_fld (pv 0) rfl) (pv 3) pe_bl rfl)))), ?_⟩
    obtain ⟨dx0, fa0, oa0, na0, wa0, eF0, X0⟩ := id hN
    refine ⟨_, rfl, p, dx0, _, rfl, X0.h1, rfl, _, rfl, p, x, room, width, size, rule, s, F, rfl, ty, hN, ok, fun i ex h0 h1 H' F' a hN' hB' => ?_, kE⟩
    subst ex
    have ok' := ok.touch (leastB rule) h0 h1 a
    have hin : i / width ∈ (touchS room width (leastB rule) i a s).order := touch_has
    have kq := fun H2 F2 h b => kQ i rfl h0 h1 H2 F2 a h (hB'.trans b)
    generalize touchS room width (leastB rule) i a s = s' at *
    obtain ⟨dx, fa, oa, na, wa, eF, X⟩ := hN'
    obtain ⟨e, he, hek⟩ := ok'.near_of hin
    have w0 := ok.w0
    have w1 := ok.w1
    obtain ⟨o1, o2, o3⟩ := off_ok ok' he h1 hek
    have hget := near_get ok'.keys he
    rw [hek] at hget
    have hnum := numsK_of ok'.keys he
    rw [hek] at hnum
    refine ⟨_, rfl, _, rfl, p, cs.C_Near, dx, _, _, rfl, X.h1, T.cl_Near, T.na_Near_near, lk_near, _, rfl, na, .ref e.a, rfl, (by rw [← hget]; exact DGet.k (k := .inl (i / width)) X.h4), ?_⟩
    refine ⟨_, rfl, _, rfl, _, rfl, p, cs.C_Near, dx, _, _, rfl, X.h1, T.cl_Near, T.na_Near_width, lk_width, _, _, rfl, rfl, .inr ⟨by omega, by omega⟩, _, _, rfl, rfl, ?_⟩
    refine ⟨e.a, _, _, offN width i, rfl, rfl, X.h6 e he, ?_, ?_⟩
    · have := ix_nat (n := (e.ns.map V.int).length) (j := offN width i) (by rw [List.length_map]; exact o2)
      rw [← this, o3]
    have X2 := X.nums ok'.keys he (e.ns.set (offN width i) n)
    rw [List.map_set] at X2
    have b1 : Bey F' H' F' (upd H' e.a (.lst ((e.ns.map V.int).set (offN width i) (.int n)))) := Bey.own (by rw [eF]; unfold own; simp only [List.mem_cons, List.mem_map]; exact .inr (.inr (.inr (.inr (.inr ⟨e, he, rfl⟩)))))
    have hwl : s'.written.length ≤ 1000 := by
      have h1 := sub_len ok'.wnd ok'.wr
      have := ok'.len
      have := ok'.r1
      omega
    refine ⟨_, rfl, p, cs.C_Near, dx, _, _, rfl, X2.h1, T.cl_Near, T.na_Near_written, lk_written, _, rfl, wa, _, rfl, DPut.k (k := .inl (i / width)) X2.h5 (by rw [List.length_map]; exact sizeL (by show s'.written.length < 1000000; omega)), ?_⟩
    have X3 := X2.wr (addI s'.written (i / width))
    rw [← wr_put] at X3
    refine kq _ F' ⟨dx, fa, oa, na, wa, ?_, ?_⟩ (b1.trans (Bey.own (by rw [eF]; unfold own; simp)))
    · rw [eF]
      unfold own putS
      show _ = _ :: _ :: _ :: _ :: _ :: (setNE s'.near (i / width) _).map NE.a
      rw [setNE_a]
    · unfold putS
      rw [hnum, ← hek]
      rw [← hek] at X3
      exact X3
def sp_Near_held (K : PySem.W.Frag) (cs : Cs) : Sp := fun vs H Q E => ∃ (p : Addr) (room width : Int) (rule : Str) (s : NS) (F : List Addr), vs = [.ref p] ∧ NearAt cs H p room width rule s F ∧
  (∀ H' q, Same H H' → H q = none → H' q = some (.lst (s.order.map V.int)) → Q (.ref q) H')
theorem ok_Near_held (T : Txt w K mg cs)  : Ok P w K mg base CX0 1 cs.f_Near_held cs.d_Near_held ["self"] (sp_Near_held K cs) := by
  refine T.fn_Near_held.ok sc_Near_held (fun vs H Q E h => ?_) (fun cdv A outer s H vs Q E hr h => ?_)
  · obtain ⟨p, room, width, rule, s, F, rfl, _⟩ := h
    rfl
  · obtain ⟨p, room, width, rule, s, F, rfl, ⟨dx, fa, oa, na, wa, eF, X⟩, kQ⟩ := h
    refine ⟨_, (pss_one (ps_ret (pe_callTy call_list_of (by rfl) T.no_list boot_list (pa_cons (pe_fld (pv 0) rfl) pa_nil)))), ?_⟩
    exact ⟨_, rfl, p, cs.C_Near, dx, _, _, rfl, X.h1, T.cl_Near, T.na_Near_order, lk_order, oa, _, rfl, .inl (SqL.of X.h3), fun l nl => kQ _ l (Same.new nl) nl upd_same⟩
/-! ### what the law knows beside a holder -/
structure Part (G H : Hp) (F : List Addr) : Prop where
  same : Same G H
  free : ∀ b ∈ F, G b = none
theorem Part.bey {G H H' : Hp} {F F' : List Addr} (p : Part G H F) (b : Bey F H F' H') : Part G H' F' := let ⟨s, f⟩ := b G p.same p.free; ⟨s, f⟩
theorem Part.keep {G H H' : Hp} {F : List Addr} (p : Part G H F) (s : Same H H') : Part G H' F := ⟨p.same.trans s, p.free⟩
theorem Part.new {G H H' : Hp} {F : List Addr} (p : Part G H F) {a : Addr} {o : HO} (s : Same H H') (n : H a = none) (e : H' a = some o) (d : ∀ b ∈ F, H b ≠ none) : Part (upd G a o) H' F := by
  refine ⟨fun b x hb => ?_, fun b hb => ?_⟩
  · by_cases q : b = a
    · subst q
      rw [upd_same] at hb
      rw [← hb]
      exact e
    · rw [upd_ne q] at hb
      exact s _ _ (p.same _ _ hb)
  · rw [upd_ne (fun q => d b hb (by rw [q]; exact n))]
    exact p.free b hb
theorem Part.mut {G H : Hp} {F : List Addr} (p : Part G H F) {a : Addr} {o o' : HO} (h : G a = some o') : Part (upd G a o) (upd H a o) F ∧ a ∉ F := by
  have hn : a ∉ F := fun z => by
    rw [p.free a z] at h
    cases h
  refine ⟨⟨fun b x hb => ?_, fun b hb => ?_⟩, hn⟩
  · by_cases q : b = a
    · subst q
      rw [upd_same] at hb ⊢
      exact hb
    · rw [upd_ne q] at hb ⊢
      exact p.same _ _ hb
  · rw [upd_ne (fun q => hn (by rw [← q]; exact hb))]
    exact p.free b hb
theorem NOk.put {room width : Int} {size : Nat} {s : NS} (h : NOk room width size s) {i : Int} (hin : i / width ∈ s.order) (n : Int) : NOk room width size (putS width i n s) := by
  refine ⟨h.r0, h.r1, h.w0, h.w1, h.fl, h.sz, ?_, h.ord, fun k => ?_, fun k hk => ?_, ?_, fun e he => ?_, h.len⟩
  · show ((setNE s.near _ _).map NE.k).Nodup
    rw [setNE_k]
    exact h.keys
  · show k ∈ s.order ↔ k ∈ (setNE s.near _ _).map NE.k
    rw [setNE_k]
    exact h.same k
  · have hk' : k ∈ addI s.written (i / width) := hk
    unfold addI at hk'
    split at hk'
    · exact h.wr k hk'
    · rcases List.mem_append.mp hk' with z | z
      · exact h.wr k z
      · simp only [List.mem_cons, List.not_mem_nil, or_false] at z
        rw [z]
        exact hin
  · show (addI s.written (i / width)).Nodup
    unfold addI
    split
    · exact h.wnd
    · rename_i hn
      rw [List.nodup_append]
      refine ⟨h.wnd, by simp, fun x hx y hy => ?_⟩
      simp only [List.mem_cons, List.not_mem_nil, or_false] at hy
      rw [hy]
      exact fun q => hn (by rw [← q]; exact hx)
  · obtain ⟨g, hg, rfl⟩ := List.mem_map.mp (show e ∈ s.near.map (fun f => if f.k = i / width then { f with ns := (numsK s.near (i / width)).set (offN width i) n } else f) from he)
    obtain ⟨h1, h2, h3⟩ := h.ent g hg
    by_cases q : g.k = i / width
    · rw [if_pos q]
      refine ⟨h1, h2, ?_⟩
      show (((numsK s.near (i / width)).set (offN width i) n).length : Int) = _
      rw [List.length_set, ← q, numsK_of h.keys hg]
      exact h3
    · rw [if_neg q]
      exact ⟨h1, h2, h3⟩
/-! ### the law's own helpers -/
def mixed (c : Int) : Int := c * 48271 % 2147483647
def sp__law_mixed (K : PySem.W.Frag) (cs : Cs) : Sp := fun vs H Q _ => ∃ c : Int, vs = [.int c] ∧ Q (.int (mixed c)) H
theorem ok__law_mixed (T : Txt w K mg cs)  : Ok P w K mg base CX0 1 cs.f__law_mixed cs.d__law_mixed ["_law_cell"] (sp__law_mixed K cs) := by
  refine T.fn__law_mixed.ok sc__law_mixed (fun vs H Q E h => ?_) (fun cdv A outer s H vs Q E hr h => ?_)
  · obtain ⟨c, rfl, _⟩ := h
    rfl
  · obtain ⟨c, rfl, k⟩ := h
    refine ⟨_, (pss_one (ps_ret (pe_op op_mod (pe_op op_mul (pv 0) pe_int) pe_int))), ?_⟩
    refine ⟨_, rfl, _, _, rfl, rfl, .inr ⟨by decide, by decide⟩, _, _, rfl, rfl, (by show (0 : Int) < _; decide), k⟩
def sp__law_cell_at (K : PySem.W.Frag) (cs : Cs) : Sp := spCell K
theorem ok__law_cell_at (T : Txt w K mg cs)  : Ok P w K mg base CX0 1 cs.f__law_cell_at cs.d__law_cell_at ["_law_script", "_law_k"] (sp__law_cell_at K cs) := by
  refine T.fn__law_cell_at.ok sc__law_cell_at (fun vs H Q E h => ?_) (fun cdv A outer s H vs Q E hr h => ?_)
  · obtain ⟨l, ns, j, rfl, _⟩ := h
    rfl
  · obtain ⟨l, ns, j, rfl, hs, q⟩ := h
    refine ⟨_, (pss_cons (ps_if (pt_cmpR op_lt (pv 1) (pe_callB call_len_seq (by rfl) T.no_len PySem.boot_len (pa_cons (pv 0) pa_nil)) (nomark _)) (pss_one (ps_ret (pe_ix ix_list (pv 0) (pv 1) (fun _ _ => rfl)))) pss_nil)
      (pss_one (ps_ret pe_int))), ?_⟩
    refine ⟨_, rfl, _, rfl, l, _, rfl, .inl hs, _, _, rfl, rfl, _, rfl, iteD (fun c => ?_) (fun c => ?_)⟩
    · have hj : j < ns.length := by
        rw [List.length_map] at c
        omega
      exact ⟨_, rfl, _, rfl, l, _, _, _, rfl, rfl, hs, atI_cell hj, q⟩
    · have hj : ¬ j < ns.length := by
        rw [List.length_map] at c
        omega
      rw [cell_out hj] at q
      exact q
def sp__law_whole (K : PySem.W.Frag) (cs : Cs) : Sp := fun vs H Q _ => ∃ (x : V) (t : String), vs = [x] ∧ TyX K H x (.type t) ∧ t ∈ tyNames ∧ Q (.bl (t == "int")) H
theorem ok__law_whole (T : Txt w K mg cs)  : Ok P w K mg base CX0 1 cs.f__law_whole cs.d__law_whole ["_law_found"] (sp__law_whole K cs) := by
  refine T.fn__law_whole.ok sc__law_whole (fun vs H Q E h => ?_) (fun cdv A outer s H vs Q E hr h => ?_)
  · obtain ⟨x, t, rfl, _⟩ := h
    rfl
  · obtain ⟨x, t, rfl, ty, ht, q⟩ := h
    refine ⟨_, (pss_one (ps_ret (pe_and (pe_callB call_isi (by rfl) T.no_isinstance boot_isinstance (pa_cons (pv 0) (pa_cons (pe_bltn (v := .ty "int") (by rfl) T.no_int boot_int rfl) pa_nil))) (pe_one (pe_not (pe_callB call_isi (by rfl) T.no_isinstance boot_isinstance (pa_cons (pv 0) (pa_cons (pe_bltn (v := .ty "bool") (by rfl) T.no_bool boot_bool rfl) pa_nil)))))))), ?_⟩
    refine ⟨_, rfl, _, _, _, _, _, rfl, .ty "int", ty, kit_int ht, _, rfl, iteB (fun c => ?_) (fun c => ?_)⟩
    · refine ⟨_, rfl, _, _, _, _, _, rfl, .ty "bool", ty, kit_bool ht, _, rfl, ?_⟩
      have e : (!(t == "bool")) = (t == "int") := by
        simp only [tyNames, List.mem_cons, List.not_mem_nil, or_false] at ht
        rcases ht with rfl | rfl | rfl | rfl | rfl | rfl | rfl <;> first | decide | (exfalso; revert c; decide)
      rw [e]
      exact q
    · have e : (t == "int") = false := by
        cases h : (t == "int") with
        | false => rfl
        | true =>
          rw [h] at c
          cases c
      rw [e] at q
      exact q
/-! ### _law_size_by -/
def sizeM (c : Int) : Int := [1 + c / 8 % 9, 1 + c / 8 % 3, 10 + c / 8 % 190, 200].getD ([0, 0, 0, 0, 1, 2, 2, 3].getD (c % 8).toNat (0 : Int)).toNat 0
theorem pick8 (c : Int) : ∃ i : Int, [0, 0, 0, 0, 1, 2, 2, 3].getD (c % 8).toNat (0 : Int) = i ∧ 0 ≤ i ∧ i < 4 := by
  have h0 := Int.emod_nonneg c (show (8 : Int) ≠ 0 by decide)
  have h1 := Int.emod_lt_of_pos c (show (0 : Int) < 8 by decide)
  generalize c % 8 = m at *
  have : m = 0 ∨ m = 1 ∨ m = 2 ∨ m = 3 ∨ m = 4 ∨ m = 5 ∨ m = 6 ∨ m = 7 := by omega
  rcases this with rfl | rfl | rfl | rfl | rfl | rfl | rfl | rfl <;> exact ⟨_, rfl, by decide, by decide⟩
theorem sizeM_ok (c : Int) : 1 ≤ sizeM c ∧ sizeM c ≤ 200 := by
  unfold sizeM
  obtain ⟨i, e, h0, h1⟩ := pick8 c
  rw [e]
  have : i = 0 ∨ i = 1 ∨ i = 2 ∨ i = 3 := by omega
  rcases this with rfl | rfl | rfl | rfl
  · show 1 ≤ 1 + c / 8 % 9 ∧ 1 + c / 8 % 9 ≤ 200
    omega
  · show 1 ≤ 1 + c / 8 % 3 ∧ 1 + c / 8 % 3 ≤ 200
    omega
  · show 1 ≤ 10 + c / 8 % 190 ∧ 10 + c / 8 % 190 ≤ 200
    omega
  · show (1 : Int) ≤ 200 ∧ (200 : Int) ≤ 200
    omega
def sp__law_size_by (K : PySem.W.Frag) (cs : Cs) : Sp := fun vs H Q _ => ∃ c : Int, vs = [.int c] ∧ ∀ H', Same H H' → Q (.int (sizeM c)) H'
theorem ok__law_size_by (T : Txt w K mg cs)  : Ok P w K mg base CX0 1 cs.f__law_size_by cs.d__law_size_by ["_law_cell"] (sp__law_size_by K cs) := by
  refine T.fn__law_size_by.ok sc__law_size_by (fun vs H Q E h => ?_) (fun cdv A outer s H vs Q E hr h => ?_)
  · obtain ⟨c, rfl, _⟩ := h
    rfl
  · obtain ⟨c, rfl, q⟩ := h
    refine ⟨_, (pss_one (ps_ret (pe_ix ix_list (pe_lst (pa_cons (pe_op op_add pe_int (pe_op op_mod (pe_op op_fdiv (pv 0) pe_int) pe_int)) (pa_cons (pe_op op_add pe_int (pe_op op_mod (pe_op op_fdiv (pv 0) pe_int) pe_int)) (pa_cons (pe_op op_add pe_int (pe_op op_mod (pe_op op_fdiv (pv 0) pe_int) pe_int)) (pa_cons pe_int pa_nil))))) (pe_ix ix_list (pe_lst (pa_cons pe_int (pa_cons pe_int (pa_cons pe_int (pa_cons pe_int (pa_cons pe_int (pa_cons pe_int (pa_cons pe_int (pa_cons pe_int pa_nil))))))))) (pe_op op_mod (pv 0) pe_int) (fun _ _ => rfl)) (fun _ _ => rfl)))), ?_⟩
    refine ⟨_, rfl, _, _, rfl, rfl, ⟨by decide, by decide⟩, _, _, rfl, rfl, (by show (0 : Int) < _; decide), _, _, rfl, rfl, _, rfl, _, _, rfl, rfl, ⟨by decide, by decide⟩, _, _, rfl, rfl, (by show (0 : Int) < _; decide), _, _, rfl, rfl, _, rfl, _, _, rfl, rfl, ⟨by decide, by decide⟩, _, _, rfl, rfl, (by show (0 : Int) < _; decide), _, _, rfl, rfl, (by show 4 ≤ sizeLine; decide), fun l1 h1 => ⟨(by show 8 ≤ sizeLine; decide), fun l2 h2 => ?_⟩⟩
    have s1 : Same H (upd H l1 (.lst (([1 + c / 8 % 9, 1 + c / 8 % 3, 10 + c / 8 % 190, 200] : List Int).map V.int))) := Same.new h1
    have s2' : Same (upd H l1 (.lst (([1 + c / 8 % 9, 1 + c / 8 % 3, 10 + c / 8 % 190, 200] : List Int).map V.int))) (upd (upd H l1 (.lst (([1 + c / 8 % 9, 1 + c / 8 % 3, 10 + c / 8 % 190, 200] : List Int).map V.int))) l2 (.lst (([0, 0, 0, 0, 1, 2, 2, 3] : List Int).map V.int))) := Same.new h2
    have hl1 := s2' _ _ (show (upd H l1 (.lst (([1 + c / 8 % 9, 1 + c / 8 % 3, 10 + c / 8 % 190, 200] : List Int).map V.int))) l1 = some (.lst (([1 + c / 8 % 9, 1 + c / 8 % 3, 10 + c / 8 % 190, 200] : List Int).map V.int)) from upd_same)
    obtain ⟨i, e, h0, h1'⟩ := pick8 c
    refine ⟨_, rfl, _, _, rfl, rfl, (by show (0 : Int) < _; decide), l2, _, _, _, rfl, rfl, SqL.of upd_same, mod_at (xs := [0, 0, 0, 0, 1, 2, 2, 3]) c 8 rfl (by decide), ?_⟩
    refine ⟨l1, _, _, _, rfl, rfl, SqL.of hl1, at_getD (xs := [1 + c / 8 % 9, 1 + c / 8 % 3, 10 + c / 8 % 190, 200]) (i := [0, 0, 0, 0, 1, 2, 2, 3].getD (c % ((8 : Nat) : Int)).toNat (0 : Int)) (by show 0 ≤ [0, 0, 0, 0, 1, 2, 2, 3].getD (c % 8).toNat (0 : Int); omega) (by show [0, 0, 0, 0, 1, 2, 2, 3].getD (c % 8).toNat (0 : Int) < 4; omega), ?_⟩
    exact q _ (s1.trans s2')
/-! ### the law -/
theorem good_zero (n : Nat) (h1 : 1 ≤ n) (h2 : n ≤ 200) : goodBoxes (List.replicate n (V.int 0)) = true := by
  unfold goodBoxes
  rw [List.length_replicate, decide_eq_true ⟨h1, h2⟩, Bool.true_and, List.all_eq_true]
  intro y hy
  rw [(List.mem_replicate.mp hy).2]
  rfl
theorem shape_ok {room width : Int} {rule : Str} (h1 : 1 ≤ room ∧ room ≤ 200) (h2 : 1 ≤ width ∧ width ≤ 200) (h3 : rule = "least" ∨ rule = "first") : shapeOk (.int room) (.int width) (.str rule) = true := by
  unfold shapeOk
  have e1 : wIn (.int room) 1 200 = true := by
    show (decide (1 ≤ room) && decide (room ≤ 200)) = true
    rw [decide_eq_true h1.1, decide_eq_true h1.2]
    rfl
  have e2 : wIn (.int width) 1 200 = true := by
    show (decide (1 ≤ width) && decide (width ≤ 200)) = true
    rw [decide_eq_true h2.1, decide_eq_true h2.2]
    rfl
  rw [e1, e2]
  show (decide (rule = "least") || decide (rule = "first")) = true
  rcases h3 with rfl | rfl
  · rw [decide_eq_true rfl, Bool.true_or]
  · rw [decide_eq_true (p := ("first" : Str) = "first") rfl, Bool.or_true]
theorem NOk.fresh {room width : Int} {far : List Int} (h1 : 1 ≤ room ∧ room ≤ 200) (h2 : 1 ≤ width ∧ width ≤ 200) (h3 : far.length ≤ 1000) : NOk room width far.length (newS far) :=
  ⟨by omega, by omega, by omega, by omega, rfl, h3, List.nodup_nil, List.nodup_nil, fun k => Iff.rfl, (fun k hk => by cases hk), List.nodup_nil, (fun e he => by cases he), by show ((0 : Nat) : Int) ≤ room; omega⟩
theorem replicate_flat (n : Nat) (x : V) : (List.replicate n [x]).flatten = List.replicate n x := by
  induction n with
  | zero => rfl
  | succ n ih =>
    rw [List.replicate_succ, List.flatten_cons, ih]
    rfl
theorem replicate_int (n : Nat) : List.replicate n (V.int 0) = (List.replicate n (0 : Int)).map V.int := by rw [List.map_replicate]
def intsD (ns : List Int) : PyData := .list (ns.map PyData.int)
theorem intsD_sh (ns : List Int) : Sh 1 (intsD ns) := sh_list fun d hd => by
  obtain ⟨n, _, rfl⟩ := List.mem_map.mp hd
  exact sh_int _
theorem ints_dpA {K : PySem.W.Frag} {H : Hp} : ∀ ns : List Int, DpAll K H (ns.map V.int) (ns.map PyData.int)
  | [] => .nil
  | n :: r => .cons (.int _) (ints_dpA r)
theorem intsD_dp {K : PySem.W.Frag} {H : Hp} {p : Addr} {ns : List Int} (h : H p = some (.lst (ns.map V.int))) : Dp K H (.ref p) (intsD ns) := .lst (SqL.of h) (ints_dpA ns)
/-! ### depths -/
def dStep (w : Int) (s : List Int × List (Option Int)) (t : Tch) : List Int × List (Option Int) :=
  if t.2 / w ∈ s.1 then (s.1.eraseIdx (s.1.idxOf (t.2 / w)) ++ [t.2 / w], s.2 ++ [some ((s.1.length : Int) - 1 - (s.1.idxOf (t.2 / w) : Nat))]) else (s.1 ++ [t.2 / w], s.2 ++ [none])
def depthsM (w : Int) (ts : List Tch) : List Int × List (Option Int) := ts.foldl (dStep w) ([], [])
theorem dStep_len (w : Int) (s : List Int × List (Option Int)) (t : Tch) : (dStep w s t).2.length = s.2.length + 1 ∧ (dStep w s t).1.length ≤ s.1.length + 1 := by
  unfold dStep
  split
  · refine ⟨by rw [List.length_append]; rfl, ?_⟩
    have := List.length_eraseIdx_le s.1 (s.1.idxOf (t.2 / w))
    simp only [List.length_append, List.length_cons, List.length_nil]
    omega
  · simp
theorem depthsM_len (w : Int) (ts : List Tch) : (depthsM w ts).2.length = ts.length ∧ (depthsM w ts).1.length ≤ ts.length := by
  unfold depthsM
  have : ∀ (ts : List Tch) (s : List Int × List (Option Int)), (ts.foldl (dStep w) s).2.length = s.2.length + ts.length ∧ (ts.foldl (dStep w) s).1.length ≤ s.1.length + ts.length := by
    intro ts
    induction ts with
    | nil => intro s; exact ⟨rfl, Nat.le_refl _⟩
    | cons t r ih =>
      intro s
      have h1 := dStep_len w s t
      have h2 := ih (dStep w s t)
      rw [List.foldl_cons, List.length_cons]
      omega
  have h := this ts ([], [])
  simpa using h
def sp_depths (K : PySem.W.Frag) (cs : Cs) : Sp := fun vs H Q _ => ∃ (a : Addr) (xs : List V) (ts : List Tch) (w : Int), vs = [.ref a, .int w] ∧ SqL K H a xs ∧ TL K H xs ts ∧ (0 < w ∧ w < 1000000000) ∧ ts.length ≤ 1000 ∧
  ∀ H' p, Same H H' → H p = none → H' p = some (.lst ((depthsM w ts).2.map optV)) → Q (.ref p) H'
theorem ok_depths (T : Txt w K mg cs)  : Ok P w K mg base CX0 1 cs.f_depths cs.d_depths ["touches", "width"] (sp_depths K cs) := by
  refine T.fn_depths.ok sc_depths (fun vs H Q E h => ?_) (fun cdv A outer s H vs Q E hr h => ?_)
  · obtain ⟨a, xs, ts, w, rfl, _⟩ := h
    rfl
  · obtain ⟨a, xs, ts, w, rfl, hS, hT, hw, hl, k⟩ := h
    refine ⟨_, (pss_cons (ps_set (i := 2) sc_depths.nd rfl (Or.inl rfl) (pe_lst pa_nil))
      (pss_cons (ps_set (i := 3) sc_depths.nd rfl (Or.inl rfl) (pe_lst pa_nil))
      (pss_cons (ps_for PassesOwn.never rfl (pi_list (pv 0)) (pg_name (i := 4) sc_depths.nd rfl (Or.inl rfl)) (pss_cons (ps_set (i := 5) sc_depths.nd rfl (Or.inl rfl) (pe_op op_fdiv (pe_ix ix_tup (pv 4) pe_int (fun _ _ => rfl)) (pv 1)))
      (pss_cons (ps_if (pt_cmpR op_in_seq (pv 5) (pv 2) (by rfl)) (pss_cons (ps_set (i := 6) sc_depths.nd rfl (Or.inl rfl) (pe_bm PySem.F.plainAttrs_list PySem.F.slot_list_index PySem.F.type_list_index mt_index (pv 2) (pa_cons (pv 5) pa_nil)))
      (pss_cons (ps_expr (pe_bm PySem.F.plainAttrs_list PySem.F.slot_list_append PySem.F.type_list_append mt_append (pv 3) (pa_cons (pe_op op_sub (pe_op op_sub (pe_callB call_len_seq (by rfl) T.no_len PySem.boot_len (pa_cons (pv 2) pa_nil)) pe_int) (pv 6)) pa_nil)))
      (pss_one (ps_expr (pe_bm PySem.F.plainAttrs_list PySem.F.slot_list_pop PySem.F.type_list_pop mt_popAt (pv 2) (pa_cons (pv 6) pa_nil)))))) (pss_one (ps_expr (pe_bm PySem.F.plainAttrs_list PySem.F.slot_list_append PySem.F.type_list_append mt_append (pv 3) (pa_cons pe_non pa_nil)))))
      (pss_one (ps_expr (pe_bm PySem.F.plainAttrs_list PySem.F.slot_list_append PySem.F.type_list_append mt_append (pv 2) (pa_cons (pv 5) pa_nil)))))))
      (pss_one (ps_ret (pv 3)))))), ?_⟩
    refine ⟨Nat.zero_le _, fun o no => ⟨Nat.zero_le _, fun t nt => ?_⟩⟩
    have nto : t ≠ o := fun e => by
      rw [e, upd_same] at nt
      cases nt
    have nt0 : H t = none := by
      rw [upd_ne nto] at nt
      exact nt
    refine ⟨_, rfl, a, rfl, ⟨xs, ((Same.new no).trans (Same.new nt)).seq hS⟩, for_list (K := K) (a := a) (xs := xs) (fun i σ H' => ∃ v4 v5 v6, σ = [some (.ref a), some (.int w), some (.ref o), some (.ref t), v4, v5, v6] ∧ Same H H' ∧
      H' o = some (.lst ((depthsM w (ts.take i)).1.map V.int)) ∧ H' t = some (.lst ((depthsM w (ts.take i)).2.map optV))) ?_ ?_ ?_ ?_⟩
    · exact ⟨none, none, none, rfl, (Same.new no).trans (Same.new nt), by rw [upd_ne nto.symm, upd_same]; rfl, upd_same⟩
    · rintro i σ H' _ ⟨v4, v5, v6, rfl, s1, _, _⟩
      exact s1.seq hS
    · rintro i x σ H' hx ⟨v4, v5, v6, rfl, s1, ho, ht⟩
      obtain ⟨tc, htc, b, rfl, hb⟩ := hT.of hx
      have hb' := s1.seqT hb
      have hi : i < ts.length := (List.getElem?_eq_some_iff.mp htc).1
      have hlen := depthsM_len w (ts.take i)
      have hmin : (ts.take i).length ≤ 1000 := by
        rw [List.length_take]
        omega
      have est : depthsM w (ts.take (i + 1)) = dStep w (depthsM w (ts.take i)) tc := fold_take _ _ htc
      generalize hm : depthsM w (ts.take i) = m at *
      -- line = touch[1] // width
      refine ⟨_, rfl, b, _, _, _, rfl, rfl, hb', rfl, _, rfl, _, _, rfl, rfl, ⟨hw.1, by have := hw.2; omega⟩, ?_⟩
      -- if line in order
      refine ⟨_, rfl, _, rfl, o, _, rfl, .inl (SqL.of ho), rfl, flat_ints _, _, rfl, iteB (fun c => ?_) (fun c => ?_)⟩
      · have hin : tc.2 / w ∈ m.1 := of_decide_eq_true ((inV_ints _ _).symm.trans c)
        have hlt : m.1.idxOf (tc.2 / w) < m.1.length := List.idxOf_lt_length_of_mem hin
        -- at = order.index(line)
        refine ⟨_, rfl, .inl ⟨rfl, _, SqL.of ho⟩, _, rfl, ⟨_, _, _, _, _, rfl, rfl, SqL.of ho, rfl, flat_ints _, nl_get_map (idx_get hin), eqV_int _, idx_none, ?_⟩⟩
        -- told.append(len(order) - 1 - at)
        refine ⟨_, rfl, .inl ⟨rfl, _, SqL.of ht⟩, _, rfl, o, _, rfl, .inl (SqL.of ho), _, _, rfl, rfl, _, rfl, _, _, rfl, rfl, t, _, _, rfl, rfl, ht, sizeL (by rw [List.length_map]; omega), ?_⟩
        -- order.pop(at)
        have nto' : o ≠ t := nto.symm
        have hltV : m.1.idxOf (tc.2 / w) < (m.1.map V.int).length := by rw [List.length_map]; exact hlt
        have hlenV : (m.1.map V.int).length ≤ 1000 := by rw [List.length_map]; omega
        refine ⟨_, rfl, .inl ⟨rfl, _, SqL.of (by rw [upd_ne nto']; exact ho)⟩, _, rfl, ⟨_, _, _, _, _, rfl, rfl, (by rw [upd_ne nto']; exact ho), (by have := hltV; have := hlenV; omega), (by have := hltV; have := hlenV; omega), pop_seq hltV, nl_get_map (idx_get hin), ?_⟩⟩
        -- order.append(line)
        refine ⟨_, rfl, .inl ⟨rfl, _, SqL.of upd_same⟩, _, rfl, o, _, _, rfl, rfl, upd_same, sizeL (by rw [erase_map, List.length_map]; have := List.length_eraseIdx_le m.1 (m.1.idxOf (tc.2 / w)); omega), ?_⟩
        refine ⟨_, _, _, rfl, ((s1.mut nt0).mut no).mut no, ?_, ?_⟩
        · rw [upd_same, erase_map, snoc_map, est, dStep, if_pos hin]
        · rw [upd_ne nto, upd_ne nto, upd_same, est, dStep, if_pos hin, List.length_map]
          exact congrArg (fun l => some (HO.lst l)) (snoc_map optV _ (some _))
      · have hin : ¬ tc.2 / w ∈ m.1 := of_decide_eq_false ((inV_ints _ _).symm.trans c)
        -- told.append(None); order.append(line)
        refine ⟨_, rfl, .inl ⟨rfl, _, SqL.of ht⟩, t, _, _, rfl, rfl, ht, sizeL (by rw [List.length_map]; omega), ?_⟩
        have ho' := ho
        refine ⟨_, rfl, .inl ⟨rfl, _, SqL.of (by rw [upd_ne nto.symm]; exact ho)⟩, _, rfl, o, _, _, rfl, rfl, (by rw [upd_ne nto.symm]; exact ho), sizeL (by rw [List.length_map]; omega), ?_⟩
        refine ⟨_, _, _, rfl, (s1.mut nt0).mut no, ?_, ?_⟩
        · rw [upd_same, snoc_map, est, dStep, if_neg hin]
        · rw [upd_ne nto, upd_same, est, dStep, if_neg hin]
          exact congrArg (fun l => some (HO.lst l)) (snoc_map optV _ none)
    · rintro σ H' ⟨v4, v5, v6, rfl, s1, ho, ht⟩
      rw [hT.len, List.take_length] at ht
      exact ⟨_, rfl, k H' t s1 nt0 ht⟩
/-! ### missed_by -/
def missB (r : Int) (o : Option Int) : Bool := match o with
  | none => true
  | some i => decide (r ≤ i)
def missM (r : Int) (ds : List (Option Int)) : Int := ((ds.filter (missB r)).length : Nat)
theorem filter_take {α : Type} (p : α → Bool) {xs : List α} {i : Nat} {x : α} (h : xs[i]? = some x) : (xs.take (i + 1)).filter p = (xs.take i).filter p ++ (if p x = true then [x] else []) := by
  rw [List.take_add_one, h, List.filter_append]
  show _ ++ List.filter p [x] = _
  simp only [List.filter_cons, List.filter_nil]
def sp_missed_by (K : PySem.W.Frag) (cs : Cs) : Sp := fun vs H Q _ => ∃ (a : Addr) (ds : List (Option Int)) (r : Int), vs = [.ref a, .int r] ∧ SqL K H a (ds.map optV) ∧ ds.length ≤ 1000 ∧ ∀ H', Same H H' → Q (.int (missM r ds)) H'
theorem ok_missed_by (T : Txt w K mg cs)  : Ok P w K mg base CX0 1 cs.f_missed_by cs.d_missed_by ["told", "room"] (sp_missed_by K cs) := by
  refine T.fn_missed_by.ok sc_missed_by (fun vs H Q E h => ?_) (fun cdv A outer s H vs Q E hr h => ?_)
  · obtain ⟨a, ds, r, rfl, _⟩ := h
    rfl
  · obtain ⟨a, ds, r, rfl, hS, hl, k⟩ := h
    refine ⟨_, (pss_one (ps_ret (pe_callB call_len_seq (by rfl) T.no_len PySem.boot_len (pa_cons (pe_lc (own := [("depth", 2)]) (g := gName 2) rfl sc_missed_by.nd (pi_list (pv 0)) (blkOk_by (N := ["told", "room", "depth"]) (sc := defScope s_missed_by) (by decide +kernel)) (fun _ _ _ _ _ => pg_name (i := 2) sc_missed_by.nd rfl (Or.inl rfl)) (fun _ _ _ _ _ => pts_one (PW.pt (pw_or (pt_cmpR op_isN (pv 2) pe_non (nomark _)) (pw_or1 (pt_cmpR op_ge (pv 2) (pv 1) (nomark _)))))) (fun _ _ _ _ _ => (pv 2))) pa_nil)))), ?_⟩
    refine ⟨_, rfl, a, rfl, ⟨_, hS⟩, fun D hD => lc_list (xs := ds.map optV) (fun i H' => Same H H' ∧ H' D = some (.lst (((ds.take i).filter (missB r)).map optV))) ⟨Same.new hD, upd_same⟩ (fun i H' _ p => p.1.seq hS) ?_ ?_⟩
    · rintro i x H' hx ⟨s1, hD'⟩
      obtain ⟨o, ho, rfl⟩ := of_get_map hx
      have hf := filter_take (missB r) ho
      have hlen : (((ds.take i).filter (missB r)).map optV).length < 1000000 := by
        rw [List.length_map]
        have h1 := List.length_filter_le (missB r) (ds.take i)
        rw [List.length_take] at h1
        omega
      cases o with
      | none =>
        refine ⟨rfl, _, rfl, rfl, _, rfl, iteT ?_⟩
        refine ⟨_, rfl, _, hD', sizeL hlen, s1.mut hD, ?_⟩
        rw [upd_same, hf, if_pos (show missB r none = true from rfl), List.map_append]
        rfl
      | some z =>
        refine ⟨rfl, _, rfl, rfl, _, rfl, iteF ⟨_, rfl, _, rfl, _, _, rfl, rfl, _, rfl, iteD (fun c => ?_) (fun c => ?_)⟩⟩
        · refine ⟨_, rfl, _, hD', sizeL hlen, s1.mut hD, ?_⟩
          rw [upd_same, hf, if_pos (show missB r (some z) = true from decide_eq_true c), List.map_append]
          rfl
        · refine ⟨s1, ?_⟩
          rw [hf, if_neg (show ¬ missB r (some z) = true from fun q => c (of_decide_eq_true q)), List.append_nil]
          exact hD'
    · rintro H' ⟨s1, hD'⟩
      refine ⟨D, _, rfl, .inl (SqL.of hD'), ?_⟩
      rw [List.length_map, List.length_map, List.take_length]
      exact k H' s1
/-! ### _law_touches_by (of k12) -/
def tbBox (size : Int) (acc : List Tch) (c : Int) : Int :=
  if 0 < c / 2 % 8 ∧ c / 2 % 8 < 5 ∧ c / 2 % 8 ≤ acc.length then (acc.getD (acc.length - (c / 2 % 8).toNat) (false, 0)).2 else mixed c % size
def tbStep (size : Int) (acc : List Tch) (c : Int) : List Tch := acc ++ [(c % 2 == 1, tbBox size acc c)]
def touchesM (size : Int) (cells : List Int) : List Tch := cells.foldl (tbStep size) []
theorem touchesM_len (size : Int) (cells : List Int) : (touchesM size cells).length = cells.length := by
  have : ∀ (l : List Int) (s : List Tch), (l.foldl (tbStep size) s).length = s.length + l.length := by
    intro l
    induction l with
    | nil => intro s; rfl
    | cons t r ih =>
      intro s
      rw [List.foldl_cons, ih, tbStep, List.length_append, List.length_cons, List.length_cons, List.length_nil]
      omega
  have h := this cells []
  unfold touchesM
  simpa using h
theorem touchesM_in {size : Int} (h : 0 < size) (cells : List Int) : ∀ t ∈ touchesM size cells, 0 ≤ t.2 ∧ t.2 < size := by
  have : ∀ (l : List Int) (s : List Tch), (∀ t ∈ s, 0 ≤ t.2 ∧ t.2 < size) → ∀ t ∈ l.foldl (tbStep size) s, 0 ≤ t.2 ∧ t.2 < size := by
    intro l
    induction l with
    | nil => exact fun _ h => h
    | cons c r ih =>
      intro s hs
      refine ih _ fun t ht => ?_
      rcases List.mem_append.mp ht with q | q
      · exact hs t q
      · simp only [List.mem_cons, List.not_mem_nil, or_false] at q
        rw [q]
        show 0 ≤ tbBox size s c ∧ tbBox size s c < size
        unfold tbBox
        split
        · rename_i g
          have hj : s.length - (c / 2 % 8).toNat < s.length := by omega
          rw [List.getD_eq_getElem?_getD, List.getElem?_eq_getElem hj]
          exact hs _ (List.getElem_mem hj)
        · exact ⟨Int.emod_nonneg _ (by omega), Int.emod_lt_of_pos _ h⟩
  exact this cells [] fun t ht => by cases ht
def sp__law_touches_by (K : PySem.W.Frag) (cs : Cs) : Sp := fun vs H Q _ => ∃ (a : Addr) (ns : List Int) (size : Int), vs = [.ref a, .int size] ∧ SqL K H a (ns.map V.int) ∧ ns.length ≤ 1000 ∧ 0 < size ∧
  ∀ H' p xs, Same H H' → H p = none → H' p = some (.lst xs) → TL K H' xs (touchesM size ns) → Q (.ref p) H'
theorem ok__law_touches_by (T : Txt w K mg cs) (o__law_mixed : Ok P w K mg base CX0 1 cs.f__law_mixed cs.d__law_mixed ["_law_cell"] (sp__law_mixed K cs)) : Ok P w K mg base CX0 2 cs.f__law_touches_by cs.d__law_touches_by ["_law_cells", "_law_size"] (sp__law_touches_by K cs) := by
  refine T.fn__law_touches_by.ok sc__law_touches_by (fun vs H Q E h => ?_) (fun cdv A outer s H vs Q E hr h => ?_)
  · obtain ⟨a, ns, size, rfl, _⟩ := h
    rfl
  · obtain ⟨a, ns, size, rfl, hS, hl, hsz, k⟩ := h
    refine ⟨_, (pss_cons (ps_set (i := 2) sc__law_touches_by.nd rfl (Or.inl rfl) (pe_lst pa_nil))
      (pss_cons (ps_for PassesOwn.never rfl (pi_list (pv 0)) (pg_name (i := 3) sc__law_touches_by.nd rfl (Or.inl rfl)) (pss_cons (ps_set (i := 4) sc__law_touches_by.nd rfl (Or.inl rfl) (pe_op op_mod (pe_callO o__law_mixed hr (by rfl) T.gl__law_mixed pass0 (pa_cons (pv 3) pa_nil)) (pv 1)))
      (pss_cons (ps_set (i := 5) sc__law_touches_by.nd rfl (Or.inl rfl) (pe_op op_mod (pe_op op_fdiv (pv 3) pe_int) pe_int))
      (pss_cutS (ps_if (pt_jn (PW.pt (pw_and (pt_chain op_lt op_lt pe_int (pv 5) pe_int) (pw_and1 (pt_cmpR op_le (pv 5) (pe_callB call_len_seq (by rfl) T.no_len PySem.boot_len (pa_cons (pv 2) pa_nil)) (nomark _)))))) (pss_one (ps_set (i := 4) sc__law_touches_by.nd rfl (Or.inl rfl) (pe_ix ix_tup (pe_ix ix_list (pv 2) (pe_op op_sub (pe_callB call_len_seq (by rfl) T.no_len PySem.boot_len (pa_cons (pv 2) pa_nil)) (pv 5)) (fun _ _ => rfl)) pe_int (fun _ _ => rfl)))) pss_nil)
      (pss_one (ps_expr (pe_bm PySem.F.plainAttrs_list PySem.F.slot_list_append PySem.F.type_list_append mt_append (pv 2) (pa_cons (pe_tup (pa_cons (pe_ix ix_list (pe_lst (pa_cons pe_str (pa_cons pe_str pa_nil))) (pe_op op_mod (pv 3) pe_int) (fun _ _ => rfl)) (pa_cons (pv 4) pa_nil))) pa_nil))))))))
      (pss_one (ps_ret (pv 2))))), ?_⟩
    refine ⟨Nat.zero_le _, fun t nt => ⟨_, rfl, a, rfl, ⟨_, (Same.new nt).seq hS⟩, for_list (K := K) (a := a) (xs := ns.map V.int) (fun i σ H' => ∃ v2 v3 v4 xs, σ = [some (.ref a), some (.int size), some (.ref t), v2, v3, v4] ∧ Same H H' ∧
      H' t = some (.lst xs) ∧ TL K H' xs (touchesM size (ns.take i))) ?_ ?_ ?_ ?_⟩⟩
    · exact ⟨none, none, none, [], rfl, Same.new nt, upd_same, TL.nil⟩
    · rintro i σ H' _ ⟨v2, v3, v4, xs, rfl, s1, _, _⟩
      exact s1.seq hS
    · rintro i x σ H' hx ⟨v2, v3, v4, xs, rfl, s1, ht, hT⟩
      obtain ⟨c, hc, rfl⟩ := of_get_map hx
      have hi : i < ns.length := (List.getElem?_eq_some_iff.mp hc).1
      have est : touchesM size (ns.take (i + 1)) = tbStep size (touchesM size (ns.take i)) c := fold_take _ _ hc
      have hlen : (touchesM size (ns.take i)).length ≤ 1000 := by
        rw [touchesM_len, List.length_take]
        omega
      generalize hm : touchesM size (ns.take i) = acc at *
      have hxl : xs.length = acc.length := hT.len
      -- the box
      refine ⟨_, rfl, c, rfl, _, rfl, _, _, rfl, rfl, hsz, ?_⟩
      -- back
      refine ⟨_, rfl, _, _, rfl, rfl, ⟨by decide, by decide⟩, _, _, rfl, rfl, (by show (0 : Int) < _; decide), ?_⟩
      have ht2 := ht
      have hT2 := hT
      have s3 := s1
      -- if 0 < back < 5 and back <= len(touches): box = touches[len(touches) - back][1]
      refine ⟨fun σ' H3 => H3 = H' ∧ σ' = [some (.ref a), some (.int size), some (.ref t), some (.int c), some (.int (tbBox size acc c)), some (.int (c / 2 % 8))], ?_, ?_⟩
      · refine ⟨fun b H3 => H3 = H' ∧ b = decide (0 < c / 2 % 8 ∧ c / 2 % 8 < 5 ∧ c / 2 % 8 ≤ acc.length), ?_, ?_⟩
        · refine ⟨_, rfl, _, _, rfl, rfl, _, rfl, iteD (fun c1 => ?_) (fun c1 => ?_)⟩
          · refine ⟨_, _, rfl, rfl, _, rfl, iteD (fun c2 => ?_) (fun c2 => ?_)⟩
            · refine ⟨_, rfl, _, rfl, t, _, rfl, .inl (SqL.of ht2), _, _, rfl, rfl, _, rfl, rfl, ?_⟩
              rw [hxl]
              simp [c1, c2]
            · exact ⟨rfl, by simp [c2]⟩
          · exact ⟨_, rfl, iteF ⟨rfl, by simp [c1]⟩⟩
        · rintro b H3 ⟨rfl, rfl⟩
          refine iteD (fun c1 => ?_) (fun c1 => ?_)
          · obtain ⟨c2, c3, c4⟩ := c1
            have hj : acc.length - (c / 2 % 8).toNat < acc.length := by omega
            obtain ⟨v, hv, b, rfl, hb⟩ := hT2.at_ _ _ (List.getElem?_eq_getElem hj)
            refine ⟨_, rfl, _, rfl, t, _, rfl, .inl (SqL.of ht2), _, rfl, _, _, rfl, rfl, t, _, _, _, rfl, rfl, SqL.of ht2, at_of (by rw [hxl]; omega) hv, b, _, _, _, rfl, rfl, hb, rfl, rfl, ?_⟩
            have e : tbBox size acc c = (acc[acc.length - (c / 2 % 8).toNat]).2 := by
              unfold tbBox
              rw [if_pos ⟨c2, c3, c4⟩, List.getD_eq_getElem?_getD, List.getElem?_eq_getElem hj]
              rfl
            rw [e]
            rfl
          · have e : tbBox size acc c = mixed c % size := if_neg c1
            rw [e]
            exact ⟨rfl, rfl⟩
      · rintro σ' H3 ⟨rfl, rfl⟩
        -- touches.append((["read", "write"][cell % 2], box))
        refine ⟨_, rfl, .inl ⟨rfl, _, SqL.of ht2⟩, by decide, fun l2 hl2 => ?_⟩
        refine ⟨_, rfl, _, _, rfl, rfl, (by show (0 : Int) < _; decide), l2, _, _, _, rfl, rfl, SqL.of upd_same, kind_at c, _, rfl, (by show 2 ≤ sizeLine; decide), fun p hp => ?_⟩
        have s4 : Same H3 (upd H3 l2 (.lst [.str "read", .str "write"])) := Same.new hl2
        have s5 : Same (upd H3 l2 (.lst [.str "read", .str "write"])) (upd (upd H3 l2 (.lst [.str "read", .str "write"])) p (.tup [.str (kindS (c % 2 == 1)), .int (tbBox size acc c)])) := Same.new hp
        have ht3 := (s4.trans s5) _ _ ht2
        refine ⟨t, _, _, rfl, rfl, ht3, sizeL (by omega), ?_⟩
        refine ⟨_, _, _, xs ++ [.ref p], rfl, ((s3.trans s4).trans s5).mut nt, upd_same, ?_⟩
        rw [est]
        exact ((hT2.same (s4.trans s5)).but ht3).snoc ⟨p, rfl, (SqT.of upd_same).but ht3⟩
    · rintro σ H' ⟨v2, v3, v4, xs, rfl, s1, ht, hT⟩
      rw [List.length_map, List.take_length] at hT
      exact ⟨_, rfl, k H' t xs s1 nt ht hT⟩
/-! ### _law_step -/
def sp__law_step (K : PySem.W.Frag) (cs : Cs) : Sp := fun vs H Q _ => ∃ (p b : Addr) (t : Tch) (room width : Int) (size : Nat) (rule : Str) (s : NS) (F : List Addr), vs = [.ref p, .ref b] ∧ SqT K H b [.str (kindS t.1), .int t.2] ∧ NearAt cs H p room width rule s F ∧ NOk room width size s ∧ 0 ≤ t.2 ∧ t.2 < (size : Int) ∧
  ∀ H' F' a s', NearAt cs H' p room width rule s' F' → NOk room width size s' → s'.order = (touchS room width (leastB rule) t.2 a s).order → s'.found = (touchS room width (leastB rule) t.2 a s).found → s'.missed = (touchS room width (leastB rule) t.2 a s).missed → Bey F H F' H' → Q (.int (s'.found - s.found)) H'
theorem ok__law_step (T : Txt w K mg cs) (o_Near_look : Ok P w K mg base (L2.CX P w) 4 cs.f_Near_look cs.d_Near_look ["self", "box"] (sp_Near_look K cs)) (o_Near_put : Ok P w K mg base (L2.CX P w) 4 cs.f_Near_put cs.d_Near_put ["self", "box", "number"] (sp_Near_put K cs)) : Ok P w K mg base CX0 5 cs.f__law_step cs.d__law_step ["_law_holder", "_law_touch"] (sp__law_step K cs) := by
  refine T.fn__law_step.ok sc__law_step (fun vs H Q E h => ?_) (fun cdv A outer s H vs Q E hr h => ?_)
  · obtain ⟨p, b, t, room, width, size, rule, s, F, rfl, _⟩ := h
    rfl
  · obtain ⟨p, b, t, room, width, size, rule, s, F, rfl, hb, hN, ok, h0, h1, q⟩ := h
    obtain ⟨dx, fa, oa, na, wa, eF, X⟩ := id hN
    refine ⟨_, (pss_cons (ps_set (i := 2) sc__law_step.nd rfl (Or.inl rfl) (pe_fld (pv 0) rfl))
      (pss_cutS (ps_if (pt_cmpR op_eq (pe_ix ix_tup (pv 1) pe_int (fun _ _ => rfl)) pe_str (nomark _)) (pss_one (ps_expr (pe_methO o_Near_look T.cl_Near T.me_Near_look hr passL (pv 0) (pa_cons (pe_ix ix_tup (pv 1) pe_int (fun _ _ => rfl)) pa_nil)))) (pss_one (ps_expr (pe_methO o_Near_put T.cl_Near T.me_Near_put hr passL (pv 0) (pa_cons (pe_ix ix_tup (pv 1) pe_int (fun _ _ => rfl)) (pa_cons pe_int pa_nil))))))
      (pss_one (ps_ret (pe_op op_sub (pe_fld (pv 0) rfl) (pv 2)))))), ?_⟩
    have hwx : ∀ {x : Prop}, wIn (.int t.2) 0 ((size : Int) - 1) = false → x := fun {x} hwx => by
      have : wIn (.int t.2) 0 ((size : Int) - 1) = true := by
        show (decide (0 ≤ t.2) && decide (t.2 ≤ (size : Int) - 1)) = true
        rw [decide_eq_true h0, decide_eq_true (show t.2 ≤ (size : Int) - 1 by omega)]
        rfl
      rw [hwx] at this
      cases this
    refine ⟨_, rfl, p, cs.C_Near, dx, _, _, rfl, X.h1, T.cl_Near, T.na_Near_found, lk_found, ?_⟩
    refine ⟨fun σ' H' => σ' = [some (.ref p), some (.ref b), some (.int s.found)] ∧ ∃ F' a s', NearAt cs H' p room width rule s' F' ∧ NOk room width size s' ∧ s'.order = (touchS room width (leastB rule) t.2 a s).order ∧ s'.found = (touchS room width (leastB rule) t.2 a s).found ∧ s'.missed = (touchS room width (leastB rule) t.2 a s).missed ∧ Bey F H F' H', ?_, ?_⟩
    · refine ⟨_, rfl, b, _, _, _, rfl, rfl, hb, (by rfl), rfl, _, rfl, iteD (fun _ => ?_) (fun _ => ?_)⟩
      · refine ⟨_, rfl, p, dx, _, rfl, X.h1, rfl, _, rfl, b, _, _, _, rfl, rfl, hb, (by rfl), p, .int t.2, room, width, size, rule, s, F, rfl, typ_i _, hN, ok, fun i ex g0 g1 H' F' a hN' hB' => ?_, fun h => hwx h⟩
        cases ex
        exact ⟨rfl, F', a, _, hN', ok.touch _ g0 g1 a, rfl, rfl, rfl, hB'⟩
      · refine ⟨_, rfl, p, dx, _, rfl, X.h1, rfl, _, rfl, b, _, _, _, rfl, rfl, hb, (by rfl), p, .int t.2, 5, room, width, size, rule, s, F, rfl, typ_i _, hN, ok, fun i ex g0 g1 H' F' a hN' hB' => ?_, fun h => hwx h⟩
        cases ex
        exact ⟨rfl, F', a, _, hN', (ok.touch _ g0 g1 a).put touch_has _, rfl, rfl, rfl, hB'⟩
    rintro σ' H' ⟨rfl, F', a, s', hN', ok', o1, o2, o3, hB'⟩
    obtain ⟨dx', fa', oa', na', wa', eF', X'⟩ := id hN'
    exact ⟨_, rfl, p, cs.C_Near, dx', _, _, rfl, X'.h1, T.cl_Near, T.na_Near_found, lk_found, _, rfl, _, _, rfl, rfl, q H' F' a s' hN' ok' o1 o2 o3 hB'⟩
theorem head_cut {l : List Int} (nd : l.Nodup) (h : 0 < l.length) : cutI l (l.getD 0 0) = l.drop 1 := by
  cases l with
  | nil => exact absurd h (by decide)
  | cons x r =>
    have h1 := (List.nodup_cons.mp nd).1
    show (x :: r).filter (fun z => !decide (z = x)) = r
    rw [List.filter_cons, if_neg (by simp), List.filter_eq_self]
    intro z hz
    have : ¬ z = x := fun q => h1 (by rw [← q]; exact hz)
    simp [this]
/-! ### the lines touched last -/
def lastR (r : Nat) (S : List Int) : List Int := S.drop (S.length - r)
theorem cutI_id {S : List Int} {l : Int} (h : l ∉ S) : cutI S l = S := by
  unfold cutI
  rw [List.filter_eq_self]
  intro z hz
  have : ¬ z = l := fun q => h (by rw [← q]; exact hz)
  simp [this]
theorem cutI_app (A B : List Int) (l : Int) : cutI (A ++ B) l = cutI A l ++ cutI B l := by
  unfold cutI
  rw [List.filter_append]
/-- a line touched goes to the end -/
theorem last_touch {r : Nat} {S : List Int} (l : Int) (nd : S.Nodup) (hr : 0 < r) :
    lastR r (cutI S l ++ [l]) = if l ∈ lastR r S then cutI (lastR r S) l ++ [l] else (if (lastR r S).length = r then (lastR r S).drop 1 else lastR r S) ++ [l] := by
  obtain ⟨A, hA⟩ : ∃ A, A = S.take (S.length - r) := ⟨_, rfl⟩
  obtain ⟨O, hO⟩ : ∃ O, O = lastR r S := ⟨_, rfl⟩
  have hS : S = A ++ O := by
    rw [hA, hO]
    exact (List.take_append_drop _ S).symm
  have hAl : A.length = S.length - r := by rw [hA, List.length_take]; omega
  have hOl : O.length = min r S.length := by
    rw [hO]
    unfold lastR
    rw [List.length_drop]
    omega
  rw [← hO]
  have nd' := nd
  rw [hS, List.nodup_append] at nd'
  obtain ⟨nA, nO, dis⟩ := nd'
  by_cases h1 : l ∈ O
  · rw [if_pos h1]
    have hlA : l ∉ A := fun z => dis l z l h1 rfl
    have e1 := cutI_len nO h1
    rw [hS, cutI_app, cutI_id hlA]
    unfold lastR
    have e2 : (A ++ cutI O l ++ [l]).length - r = A.length := by
      simp only [List.length_append, List.length_cons, List.length_nil]
      have : S.length = A.length + O.length := by rw [hS, List.length_append]
      omega
    rw [e2, List.append_assoc, List.drop_append_of_le_length (Nat.le_refl _), List.drop_length, List.nil_append]
  · rw [if_neg h1]
    by_cases h2 : l ∈ A
    · have hO2 : O.length = r := by
        have : 0 < A.length := List.length_pos_of_mem h2
        omega
      rw [if_pos hO2, hS, cutI_app, cutI_id h1]
      have e1 := cutI_len nA h2
      unfold lastR
      have e2 : (cutI A l ++ O ++ [l]).length - r = (cutI A l).length + 1 := by
        simp only [List.length_append, List.length_cons, List.length_nil]
        omega
      rw [e2, List.append_assoc, List.drop_append, List.drop_eq_nil_of_le (by omega), List.nil_append, Nat.add_sub_cancel_left, List.drop_append_of_le_length (by omega)]
    · have hlS : l ∉ S := fun z => by
        rw [hS, List.mem_append] at z
        exact z.elim h2 h1
      rw [cutI_id hlS]
      unfold lastR
      by_cases h3 : O.length = r
      · rw [if_pos h3, hS]
        have e2 : (A ++ O ++ [l]).length - r = A.length + 1 := by
          simp only [List.length_append, List.length_cons, List.length_nil]
          omega
        rw [e2, List.append_assoc, List.drop_append, List.drop_eq_nil_of_le (by omega), List.nil_append, Nat.add_sub_cancel_left, List.drop_append_of_le_length (by omega)]
      · rw [if_neg h3]
        have hA0 : A = [] := List.eq_nil_of_length_eq_zero (by omega)
        have hSO : S = O := by rw [hS, hA0]; rfl
        rw [hSO]
        have e2 : (O ++ [l]).length - r = 0 := by
          simp only [List.length_append, List.length_cons, List.length_nil]
          have : S.length = O.length := by rw [hSO]
          omega
        rw [e2]
        rfl
/-- found just where the depth is less than the room -/
theorem last_mem {r : Nat} {S : List Int} (l : Int) (nd : S.Nodup) : l ∈ lastR r S ↔ l ∈ S ∧ ((S.length : Int) - 1 - (S.idxOf l : Nat)) < (r : Int) := by
  have hS : S = S.take (S.length - r) ++ lastR r S := (List.take_append_drop _ S).symm
  have hAl : (S.take (S.length - r)).length = S.length - r := by rw [List.length_take]; omega
  have nd' := nd
  rw [hS, List.nodup_append] at nd'
  obtain ⟨nA, nO, dis⟩ := nd'
  constructor
  · intro h
    have hl : l ∉ S.take (S.length - r) := fun z => dis l z l h rfl
    refine ⟨List.mem_of_mem_drop h, ?_⟩
    have e : S.idxOf l = (S.take (S.length - r)).length + (lastR r S).idxOf l := by
      conv => lhs; rw [hS]
      rw [List.idxOf_append, if_neg hl]
      omega
    have h2 : l ∈ S := List.mem_of_mem_drop h
    have := List.idxOf_lt_length_of_mem h2
    omega
  · rintro ⟨h, hd⟩
    have h2 := h
    rw [hS, List.mem_append] at h2
    rcases h2 with h2 | h2
    · exfalso
      have e : S.idxOf l = (S.take (S.length - r)).idxOf l := by
        conv => lhs; rw [hS]
        rw [List.idxOf_append, if_pos h2]
      have := List.idxOf_lt_length_of_mem h2
      omega
    · exact h2
theorem last_sub {r : Nat} {S : List Int} : ∀ l ∈ lastR r S, l ∈ lastR (r + 1) S := fun l h => by
  unfold lastR at *
  have e : S.length - r = (S.length - (r + 1)) + (S.length - r - (S.length - (r + 1))) := by omega
  rw [e, ← List.drop_drop] at h
  exact List.mem_of_mem_drop h
theorem dStep_order {w : Int} {s : List Int × List (Option Int)} {t : Tch} (nd : s.1.Nodup) : (dStep w s t).1 = cutI s.1 (t.2 / w) ++ [t.2 / w] ∧ (dStep w s t).1.Nodup := by
  have e : (dStep w s t).1 = cutI s.1 (t.2 / w) ++ [t.2 / w] := by
    unfold dStep
    split
    · rename_i h
      show s.1.eraseIdx _ ++ _ = _
      rw [← filter_erase nd h]
      rfl
    · rename_i h
      show s.1 ++ _ = _
      rw [cutI_id h]
  refine ⟨e, ?_⟩
  rw [e, List.nodup_append]
  refine ⟨cutI_nodup _ nd, by simp, fun x hx y hy => ?_⟩
  simp only [List.mem_cons, List.not_mem_nil, or_false] at hy
  rw [hy]
  exact (cutI_mem.mp hx).2
theorem dStep_told {w : Int} {s : List Int × List (Option Int)} {t : Tch} : (dStep w s t).2 = s.2 ++ [if t.2 / w ∈ s.1 then some ((s.1.length : Int) - 1 - (s.1.idxOf (t.2 / w) : Nat)) else none] := by
  unfold dStep
  split <;> rfl
theorem depths_nd (w : Int) (ts : List Tch) : (depthsM w ts).1.Nodup := by
  unfold depthsM
  have : ∀ (ts : List Tch) (s : List Int × List (Option Int)), s.1.Nodup → (ts.foldl (dStep w) s).1.Nodup := by
    intro ts
    induction ts with
    | nil => exact fun _ h => h
    | cons t r ih => exact fun s h => ih _ (dStep_order h).2
  exact this ts ([], []) List.nodup_nil
/-- what is told first stays -/
theorem told_take (w : Int) : ∀ (ts : List Tch) (i : Nat), (depthsM w (ts.take i)).2 = (depthsM w ts).2.take i := by
  have h : ∀ (ts : List Tch) (s : List Int × List (Option Int)) (i : Nat), ((ts.take i).foldl (dStep w) s).2 = (ts.foldl (dStep w) s).2.take (s.2.length + i) := by
    intro ts
    induction ts with
    | nil =>
      intro s i
      rw [List.take_nil]
      show s.2 = s.2.take (s.2.length + i)
      exact (List.take_of_length_le (Nat.le_add_right _ _)).symm
    | cons t r ih =>
      intro s i
      cases i with
      | zero =>
        have h1 : ∀ (ts : List Tch) (s : List Int × List (Option Int)), s.2 <+: (ts.foldl (dStep w) s).2 := by
          intro ts
          induction ts with
          | nil => exact fun s => List.prefix_refl _
          | cons t r ih =>
            intro s
            refine List.IsPrefix.trans ?_ (ih (dStep w s t))
            rw [dStep_told]
            exact List.prefix_append _ _
        exact (List.prefix_iff_eq_take.mp (h1 (t :: r) s))
      | succ i =>
        rw [List.take_succ_cons, List.foldl_cons, List.foldl_cons, ih]
        congr 1
        rw [dStep_told, List.length_append]
        simp only [List.length_cons, List.length_nil]
        omega
  intro ts i
  have := h ts ([], []) i
  simpa [depthsM] using this
/-- a told depth less than the room -/
def hitB (r : Int) (o : Option Int) : Bool := match o with
  | none => false
  | some i => decide (i < r)
theorem hit_miss (r : Int) (o : Option Int) : missB r o = !(hitB r o) := by
  cases o with
  | none => rfl
  | some i =>
    show decide (r ≤ i) = !(decide (i < r))
    by_cases h : i < r
    · rw [decide_eq_true h, decide_eq_false (by omega)]
      rfl
    · rw [decide_eq_false h, decide_eq_true (by omega)]
      rfl
theorem miss_le (r : Int) (ds : List (Option Int)) : missM (r + 1) ds ≤ missM r ds := by
  unfold missM
  have : ∀ ds : List (Option Int), (ds.filter (missB (r + 1))).length ≤ (ds.filter (missB r)).length := by
    intro ds
    induction ds with
    | nil => exact Nat.le_refl _
    | cons o t ih =>
      rw [List.filter_cons, List.filter_cons]
      have h : missB (r + 1) o = true → missB r o = true := by
        cases o with
        | none => exact fun h => h
        | some i =>
          intro h
          have := of_decide_eq_true h
          exact decide_eq_true (by omega)
      by_cases q : missB (r + 1) o = true
      · rw [if_pos q, if_pos (h q)]
        exact Nat.succ_le_succ ih
      · rw [if_neg q]
        split
        · exact Nat.le_succ_of_le ih
        · exact ih
  have := this ds
  omega
/-- the holder and the depths -/
structure Lru (r : Nat) (S : List Int) (told : List (Option Int)) (s : NS) : Prop where
  ord : s.order = lastR r S
  miss : s.missed = missM r told
theorem Lru.touch {r : Nat} {width : Int} {size : Nat} {s : NS} {m : List Int × List (Option Int)} (h : Lru r m.1 m.2 s) (ok : NOk (r : Int) width size s) (nd : m.1.Nodup) {t : Tch} (a : Addr) :
    Lru r (dStep width m t).1 (dStep width m t).2 (touchS (r : Int) width true t.2 a s) ∧
    (touchS (r : Int) width true t.2 a s).found - s.found = if hitB r (if t.2 / width ∈ m.1 then some ((m.1.length : Int) - 1 - (m.1.idxOf (t.2 / width) : Nat)) else none) = true then 1 else 0 := by
  have r0 : 0 < r := by have := ok.r0; omega
  have hm := last_mem (r := r) (t.2 / width) nd
  have hlt := last_touch (r := r) (t.2 / width) nd r0
  have hhit : hitB r (if t.2 / width ∈ m.1 then some ((m.1.length : Int) - 1 - (m.1.idxOf (t.2 / width) : Nat)) else none) = decide (t.2 / width ∈ s.order) := by
    rw [h.ord]
    by_cases q : t.2 / width ∈ m.1
    · rw [if_pos q]
      show decide (_ < _) = _
      by_cases d : ((m.1.length : Int) - 1 - (m.1.idxOf (t.2 / width) : Nat)) < (r : Int)
      · rw [decide_eq_true d, decide_eq_true (hm.mpr ⟨q, d⟩)]
      · rw [decide_eq_false d, decide_eq_false (fun z => d (hm.mp z).2)]
    · rw [if_neg q, decide_eq_false (fun z => q (hm.mp z).1)]
      rfl
  have em : missM r (dStep width m t).2 = missM r m.2 + if t.2 / width ∈ s.order then 0 else 1 := by
    rw [dStep_told]
    unfold missM
    rw [List.filter_append, List.length_append]
    have : (List.filter (missB r) [if t.2 / width ∈ m.1 then some ((m.1.length : Int) - 1 - (m.1.idxOf (t.2 / width) : Nat)) else none]).length = if t.2 / width ∈ s.order then 0 else 1 := by
      rw [List.filter_cons, hit_miss, hhit]
      by_cases q : t.2 / width ∈ s.order
      · rw [decide_eq_true q, if_pos q]
        rfl
      · rw [decide_eq_false q, if_neg q]
        rfl
    rw [this]
    split <;> simp
  rw [hhit]
  by_cases hin : t.2 / width ∈ s.order
  · have e : touchS (r : Int) width true t.2 a s = { s with found := s.found + 1, order := cutI s.order (t.2 / width) ++ [t.2 / width] } := if_pos hin
    rw [e]
    refine ⟨⟨?_, ?_⟩, ?_⟩
    · show cutI s.order _ ++ _ = lastR r _
      rw [(dStep_order nd).1, hlt, ← h.ord, if_pos hin]
    · show s.missed = _
      rw [em, if_pos hin, h.miss]
      omega
    · show s.found + 1 - s.found = _
      rw [decide_eq_true hin, if_pos rfl]
      omega
  · have e : touchS (r : Int) width true t.2 a s = { missS (r : Int) width (t.2 / width) s with near := (missS (r : Int) width (t.2 / width) s).near ++ [NE.mk (t.2 / width) a (sliceI (missS (r : Int) width (t.2 / width) s).far (t.2 / width * width).toNat width.toNat)], order := (missS (r : Int) width (t.2 / width) s).order ++ [t.2 / width] } := if_neg hin
    have e2 : (missS (r : Int) width (t.2 / width) s).order = (if (s.order.length : Int) = (r : Int) then s.order.drop 1 else s.order) ∧ (missS (r : Int) width (t.2 / width) s).found = s.found ∧ (missS (r : Int) width (t.2 / width) s).missed = s.missed + 1 := by
      unfold missS
      by_cases hl : (s.order.length : Int) = (r : Int)
      · rw [if_pos hl, if_pos hl]
        refine ⟨?_, ?_, ?_⟩
        · show cutI s.order (s.order.getD 0 0) = _
          exact head_cut ok.ord (by omega)
        · show (if _ then wbK width (s.order.getD 0 0) { s with missed := s.missed + 1 } else { s with missed := s.missed + 1 } : NS).found = _
          split <;> rfl
        · show (if _ then wbK width (s.order.getD 0 0) { s with missed := s.missed + 1 } else { s with missed := s.missed + 1 } : NS).missed = _
          split <;> rfl
      · rw [if_neg hl, if_neg hl]
        exact ⟨rfl, rfl, rfl⟩
    rw [e]
    refine ⟨⟨?_, ?_⟩, ?_⟩
    · show (missS (r : Int) width (t.2 / width) s).order ++ _ = lastR r _
      rw [e2.1, (dStep_order nd).1, hlt, ← h.ord, if_neg hin]
      by_cases hl : s.order.length = r
      · rw [if_pos hl, if_pos (by rw [hl])]
      · rw [if_neg hl, if_neg (by omega)]
    · show (missS (r : Int) width (t.2 / width) s).missed = _
      rw [e2.2.2, em, if_neg hin, h.miss]
    · show (missS (r : Int) width (t.2 / width) s).found - s.found = _
      rw [e2.2.1, decide_eq_false hin]
      simp
/-! ### the law -/
theorem Bey.two {F F' F2 : List Addr} {H H' : Hp} (b : Bey F H F' H') (d : ∀ x ∈ F2, H x ≠ none) (dis : ∀ x ∈ F2, x ∉ F) : (∀ x ∈ F2, H' x = H x) ∧ ∀ x ∈ F2, x ∉ F' := by
  obtain ⟨s, f⟩ := b (fun x => if x ∈ F2 then H x else none) (fun x o e => by
    have e : (if x ∈ F2 then H x else none) = some o := e
    by_cases q : x ∈ F2
    · rw [if_pos q] at e
      exact e
    · rw [if_neg q] at e
      cases e) (fun x hx => by
    by_cases q : x ∈ F2
    · exact absurd hx (dis x q)
    · rw [if_neg q])
  refine ⟨fun x hx => ?_, fun x hx z => ?_⟩
  · cases e : H x with
    | none => exact absurd e (d x hx)
    | some o => exact s x o (by show (if x ∈ F2 then H x else none) = some o; rw [if_pos hx]; exact e)
  · have := f x z
    rw [if_pos hx] at this
    exact d x hx this
theorem NearAt.on {cs : Cs} {H H' : Hp} {p : Addr} {room width : Int} {rule : Str} {s : NS} {F : List Addr} (h : NearAt cs H p room width rule s F) (q : ∀ b ∈ F, H' b = H b) : NearAt cs H' p room width rule s F := by
  obtain ⟨dx, fa, oa, na, wa, e, h⟩ := h
  have m : ∀ b, b ∈ own p fa oa na wa s.near → H' b = H b := fun b hb => q b (by rw [e]; exact hb)
  unfold own at m
  refine ⟨dx, fa, oa, na, wa, e, h.nd, ?_, ?_, ?_, ?_, ?_, fun z hz => ?_⟩
  · rw [m p (by simp)]; exact h.h1
  · rw [m fa (by simp)]; exact h.h2
  · rw [m oa (by simp)]; exact h.h3
  · rw [m na (by simp)]; exact h.h4
  · rw [m wa (by simp)]; exact h.h5
  · rw [m z.a (by simp only [List.mem_cons]; exact .inr (.inr (.inr (.inr (.inr (List.mem_map_of_mem hz))))))]; exact h.h6 z hz
theorem flat_opts (xs : List (Option Int)) : (xs.map optV).all flatV = true := by
  induction xs with
  | nil => rfl
  | cons x r ih =>
    show (flatV (optV x) && (r.map optV).all flatV) = true
    rw [ih, optV_flat]
    rfl
/-- the two holders -/
structure Two (K : PySem.W.Frag) (cs : Cs) (G H : Hp) (p1 p2 : Addr) (r n : Nat) (width : Int) (m : List Int × List (Option Int)) : Prop where
  ex : ∃ (F1 F2 : List Addr) (s1 s2 : NS), Part G H F1 ∧ Part G H F2 ∧ (∀ x ∈ F2, x ∉ F1) ∧ NearAt cs H p1 (r : Int) width "least" s1 F1 ∧ NearAt cs H p2 ((r + 1 : Nat) : Int) width "least" s2 F2 ∧ NOk (r : Int) width n s1 ∧ NOk ((r + 1 : Nat) : Int) width n s2 ∧ Lru r m.1 m.2 s1 ∧ Lru (r + 1) m.1 m.2 s2
def sp_law (K : PySem.W.Frag) (cs : Cs) : Sp := fun vs H Q _ => ∃ (a : Addr) (ns : List Int), vs = [.ref a] ∧ SqL K H a (ns.map V.int) ∧ ns.length ≤ 63 ∧ ∀ H', Q (.bl true) H'
theorem ok_law (T : Txt w K mg cs) (o__law_size_by : Ok P w K mg base CX0 1 cs.f__law_size_by cs.d__law_size_by ["_law_cell"] (sp__law_size_by K cs)) (o__law_cell_at : Ok P w K mg base CX0 1 cs.f__law_cell_at cs.d__law_cell_at ["_law_script", "_law_k"] (sp__law_cell_at K cs)) (o__law_touches_by : Ok P w K mg base CX0 2 cs.f__law_touches_by cs.d__law_touches_by ["_law_cells", "_law_size"] (sp__law_touches_by K cs)) (o_depths : Ok P w K mg base CX0 1 cs.f_depths cs.d_depths ["touches", "width"] (sp_depths K cs)) (o_Near___init__ : Ok P w K mg base (L2.CX P w) 3 cs.f_Near___init__ cs.d_Near___init__ ["self", "boxes", "room", "width", "rule"] (sp_Near___init__ K cs)) (o_missed_by : Ok P w K mg base CX0 1 cs.f_missed_by cs.d_missed_by ["told", "room"] (sp_missed_by K cs)) (o__law_step : Ok P w K mg base CX0 5 cs.f__law_step cs.d__law_step ["_law_holder", "_law_touch"] (sp__law_step K cs)) (o_Near_held : Ok P w K mg base CX0 1 cs.f_Near_held cs.d_Near_held ["self"] (sp_Near_held K cs)) (o__law_whole : Ok P w K mg base CX0 1 cs.f__law_whole cs.d__law_whole ["_law_found"] (sp__law_whole K cs)) (o__law_mixed : Ok P w K mg base CX0 1 cs.f__law_mixed cs.d__law_mixed ["_law_cell"] (sp__law_mixed K cs)) : Ok P w K mg base CX0 6 cs.f_law cs.d_law ["_law_script"] (sp_law K cs) := by
  refine T.fn_law.ok sc_law (fun vs H Q E h => ?_) (fun cdv A outer s H vs Q E hr h => ?_)
  · obtain ⟨a, ns, rfl, _⟩ := h
    rfl
  · obtain ⟨a, ns, rfl, hS, hl, q⟩ := h
    have hu := hu_of hr
    refine ⟨_, (pss_cons (ps_set (i := 1) sc_law.nd rfl (Or.inl rfl) (pe_callO o__law_size_by (hr.mono (by decide)) (by rfl) T.gl__law_size_by pass0 (pa_cons (pe_callO o__law_cell_at (hr.mono (by decide)) (by rfl) T.gl__law_cell_at pass0 (pa_cons (pv 0) (pa_cons pe_int pa_nil))) pa_nil)))
      (pss_cons (ps_set (i := 2) sc_law.nd rfl (Or.inl rfl) (pe_callO o__law_cell_at (hr.mono (by decide)) (by rfl) T.gl__law_cell_at pass0 (pa_cons (pv 0) (pa_cons pe_int pa_nil))))
      (pss_cons (ps_set (i := 3) sc_law.nd rfl (Or.inl rfl) (pe_ix ix_list (pe_lst (pa_cons (pe_op op_add pe_int (pe_op op_mod (pe_op op_fdiv (pv 2) pe_int) pe_int)) (pa_cons (pe_op op_add pe_int (pe_op op_mod (pe_op op_fdiv (pv 2) pe_int) pe_int)) (pa_cons pe_int (pa_cons (pe_op op_add pe_int (pe_op op_mod (pe_op op_fdiv (pv 2) pe_int) pe_int)) pa_nil))))) (pe_op op_mod (pv 2) pe_int) (fun _ _ => rfl)))
      (pss_cons (ps_set (i := 4) sc_law.nd rfl (Or.inl rfl) (pe_ix ix_list (pe_lst (pa_cons pe_int (pa_cons (pe_op op_add pe_int (pe_op op_mod (pe_callO o__law_mixed (hr.mono (by decide)) (by rfl) T.gl__law_mixed pass0 (pa_cons (pv 2) pa_nil)) pe_int)) (pa_cons pe_int (pa_cons (pe_op op_add pe_int (pe_op op_mod (pe_callO o__law_mixed (hr.mono (by decide)) (by rfl) T.gl__law_mixed pass0 (pa_cons (pv 2) pa_nil)) pe_int)) pa_nil))))) (pe_op op_mod (pe_op op_fdiv (pe_callO o__law_cell_at (hr.mono (by decide)) (by rfl) T.gl__law_cell_at pass0 (pa_cons (pv 0) (pa_cons pe_int pa_nil))) pe_int) pe_int) (fun _ _ => rfl)))
      (pss_cons (ps_set (i := 5) sc_law.nd rfl (Or.inl rfl) (pe_callO o__law_touches_by (hr.mono (by decide)) (by rfl) T.gl__law_touches_by pass0 (pa_cons (pe_slice sl_list (pv 0) (po_some pe_int) po_none) (pa_cons (pv 1) pa_nil))))
      (pss_cons (ps_set (i := 6) sc_law.nd rfl (Or.inl rfl) (pe_callO o_depths (hr.mono (by decide)) (by rfl) T.gl_depths pass0 (pa_cons (pe_callTy call_list_of (by rfl) T.no_list boot_list (pa_cons (pv 5) pa_nil)) (pa_cons (pv 4) pa_nil))))
      (pss_cons (ps_set (i := 7) sc_law.nd rfl (Or.inl rfl) (pe_makeO o_Near___init__ T.mk_Near (hr.mono (by decide)) (by rfl) T.gl_Near passL (pa_cons (pe_op op_rep (pe_lst (pa_cons pe_int pa_nil)) (pv 1)) (pa_cons (pv 3) (pa_cons (pv 4) (pa_cons pe_str pa_nil))))))
      (pss_cons (ps_set (i := 8) sc_law.nd rfl (Or.inl rfl) (pe_makeO o_Near___init__ T.mk_Near (hr.mono (by decide)) (by rfl) T.gl_Near passL (pa_cons (pe_op op_rep (pe_lst (pa_cons pe_int pa_nil)) (pv 1)) (pa_cons (pe_op op_add (pv 3) pe_int) (pa_cons (pv 4) (pa_cons pe_str pa_nil))))))
      (pss_cons (ps_for PassesOwn.never rfl (pi_range1 (by rfl) T.no_range (pa_cons (pe_callB call_len_seq (by rfl) T.no_len PySem.boot_len (pa_cons (pv 5) pa_nil)) pa_nil)) (pg_name (i := 9) sc_law.nd rfl (Or.inl rfl)) (pss_cons (ps_set (i := 10) sc_law.nd rfl (Or.inl rfl) (pe_callO o__law_step hr (by rfl) T.gl__law_step pass0 (pa_cons (pv 7) (pa_cons (pe_ix ix_list (pv 5) (pv 9) (fun _ _ => rfl)) pa_nil))))
      (pss_cons (ps_set (i := 11) sc_law.nd rfl (Or.inl rfl) (pe_callO o__law_step hr (by rfl) T.gl__law_step pass0 (pa_cons (pv 8) (pa_cons (pe_ix ix_list (pv 5) (pv 9) (fun _ _ => rfl)) pa_nil))))
      (pss_cons (ps_if (pt_jn (PW.pt (pw_or (pt_cmpR op_ne (pv 10) (pe_callTy call_int1 (by rfl) T.no_int boot_int (pa_cons (pe_jn (pe_and (pe_cmpR op_notN (pe_ix ix_list (pv 6) (pv 9) (fun _ _ => rfl)) pe_non (nomark _)) (pe_one (pe_cmpR op_lt (pe_ix ix_list (pv 6) (pv 9) (fun _ _ => rfl)) (pv 3) (nomark _))))) pa_nil)) (nomark _)) (pw_or1 (pt_cmpR op_gt (pv 10) (pv 11) (nomark _)))))) (pss_one (ps_ret pe_bl)) pss_nil)
      (pss_cons (ps_if (pt_cmpR op_ne (pv 11) (pe_callTy call_int1 (by rfl) T.no_int boot_int (pa_cons (pe_jn (pe_and (pe_cmpR op_notN (pe_ix ix_list (pv 6) (pv 9) (fun _ _ => rfl)) pe_non (nomark _)) (pe_one (pe_cmpR op_lt (pe_ix ix_list (pv 6) (pv 9) (fun _ _ => rfl)) (pe_op op_add (pv 3) pe_int) (nomark _))))) pa_nil)) (nomark _)) (pss_one (ps_ret pe_bl)) pss_nil)
      (pss_cons (ps_set (i := 12) sc_law.nd rfl (Or.inr rfl) (pe_methO0 o_Near_held T.cl_Near T.me_Near_held (hr.mono (by decide)) pass0 (pv 8) ))
      (pss_one (ps_if (pt_cmpR (op_neD hr.units) (pe_lc (own := [("_law_line", 15)]) (g := gName 15) rfl sc_law.nd (pi_list (pe_methO0 o_Near_held T.cl_Near T.me_Near_held (hr.mono (by decide)) pass0 (pv 7) )) (blkOk_by (N := ["_law_script", "_law_size", "_law_first", "_law_room", "_law_width", "_law_touches", "_law_told", "_law_less", "_law_more", "_law_k", "_law_found", "_law_also", "_law_held", "_law_one", "_law_other", "_law_line"]) (sc := defScope s_law) (by decide +kernel)) (fun _ _ _ _ _ => pg_name (i := 15) sc_law.nd rfl (Or.inl rfl)) (fun _ _ _ _ _ => pts_one (pt_cmpR (op_notIn_seqK (K := K) rfl) (pv 15) (pv 12) (by rfl))) (fun _ _ _ _ _ => (pv 15))) (pe_lst pa_nil) (nomark _)) (pss_one (ps_ret pe_bl)) pss_nil))))))))
      (pss_cons (ps_set (i := 13) sc_law.nd rfl (Or.inl rfl) (pe_callO o_missed_by (hr.mono (by decide)) (by rfl) T.gl_missed_by pass0 (pa_cons (pe_callTy call_list_of (by rfl) T.no_list boot_list (pa_cons (pv 6) pa_nil)) (pa_cons (pv 3) pa_nil))))
      (pss_cons (ps_set (i := 14) sc_law.nd rfl (Or.inl rfl) (pe_callO o_missed_by (hr.mono (by decide)) (by rfl) T.gl_missed_by pass0 (pa_cons (pe_callTy call_list_of (by rfl) T.no_list boot_list (pa_cons (pv 6) pa_nil)) (pa_cons (pe_op op_add (pv 3) pe_int) pa_nil))))
      (pss_one (ps_ret (pe_and (pe_callO o__law_whole (hr.mono (by decide)) (by rfl) T.gl__law_whole pass0 (pa_cons (pv 13) pa_nil)) (pe_and (pe_cmpR op_eq (pv 13) (pe_fld (pv 7) rfl) (nomark _)) (pe_and (pe_callO o__law_whole (hr.mono (by decide)) (by rfl) T.gl__law_whole pass0 (pa_cons (pv 14) pa_nil)) (pe_and (pe_cmpR op_eq (pv 14) (pe_fld (pv 8) rfl) (nomark _)) (pe_one (pe_cmpR op_le (pv 14) (pv 13) (nomark _)))))))))))))))))))), ?_⟩
    refine ⟨_, rfl, a, ns, 0, rfl, hS, _, rfl, fun H1 s1 => ?_⟩
    obtain ⟨hz1, hz2⟩ := sizeM_ok (cellOf ns 0)
    generalize sizeM (cellOf ns 0) = size at hz1 hz2 ⊢
    obtain ⟨n, rfl⟩ : ∃ n : Nat, size = (n : Int) := ⟨size.toNat, by omega⟩
    refine ⟨_, rfl, a, ns, 1, rfl, s1.seq hS, ?_⟩
    refine ⟨_, rfl, _, _, rfl, rfl, ⟨by decide, by decide⟩, _, _, rfl, rfl, (by show (0 : Int) < _; decide), _, _, rfl, rfl, _, rfl, _, _, rfl, rfl, ⟨by decide, by decide⟩, _, _, rfl, rfl, (by show (0 : Int) < _; decide), _, _, rfl, rfl, _, rfl, _, _, rfl, rfl, ⟨by decide, by decide⟩, _, _, rfl, rfl, (by show (0 : Int) < _; decide), _, _, rfl, rfl, (by show 4 ≤ sizeLine; decide), fun l1 h1 => ?_⟩
    obtain ⟨room, hroom, hrm⟩ : ∃ room : Int, atI [V.int (1 + cellOf ns 1 / 8 % 6), .int (1 + cellOf ns 1 / 8 % 3), .int 2, .int (1 + cellOf ns 1 / 8 % 199)] (cellOf ns 1 % 4) = some (.int room) ∧ 1 ≤ room ∧ room ≤ 199 := by
      rcases mod4 (cellOf ns 1) with e | e | e | e <;> rw [e]
      · exact ⟨_, rfl, by omega, by omega⟩
      · exact ⟨_, rfl, by omega, by omega⟩
      · exact ⟨_, rfl, by decide, by decide⟩
      · exact ⟨_, rfl, by omega, by omega⟩
    have s2 := s1.trans (Same.new (o := .lst [V.int (1 + cellOf ns 1 / 8 % 6), .int (1 + cellOf ns 1 / 8 % 3), .int 2, .int (1 + cellOf ns 1 / 8 % 199)]) h1)
    refine ⟨_, rfl, _, _, rfl, rfl, (by show (0 : Int) < _; decide), l1, _, _, _, rfl, rfl, SqL.of upd_same, hroom, ?_⟩
    generalize upd H1 l1 _ = H2a at *
    refine ⟨_, rfl, _, rfl, _, _, rfl, rfl, (by show (0 : Int) < _; decide), _, _, rfl, rfl, _, rfl, _, rfl, _, _, rfl, rfl, (by show (0 : Int) < _; decide), _, _, rfl, rfl, (by show 4 ≤ sizeLine; decide), fun l2 h2 => ?_⟩
    generalize mixed (cellOf ns 1) = mx
    obtain ⟨width, hwidth, hwd⟩ : ∃ width : Int, atI [V.int 1, .int (1 + mx % 4), .int 1, .int (1 + mx % 200)] (cellOf ns 0 / 3 % 4) = some (.int width) ∧ 1 ≤ width ∧ width ≤ 200 := by
      rcases mod4 (cellOf ns 0 / 3) with e | e | e | e <;> rw [e]
      · exact ⟨_, rfl, by decide, by decide⟩
      · exact ⟨_, rfl, by omega, by omega⟩
      · exact ⟨_, rfl, by decide, by decide⟩
      · exact ⟨_, rfl, by omega, by omega⟩
    have s3 := s2.trans (Same.new (o := .lst [V.int 1, .int (1 + mx % 4), .int 1, .int (1 + mx % 200)]) h2)
    refine ⟨_, rfl, a, ns, 0, rfl, s3.seq hS, _, _, rfl, rfl, ⟨by decide, by decide⟩, _, _, rfl, rfl, (by show (0 : Int) < _; decide), l2, _, _, _, rfl, rfl, SqL.of upd_same, hwidth, ?_⟩
    generalize upd H2a l2 _ = H3 at *
    obtain ⟨r, rfl⟩ : ∃ r : Nat, room = (r : Int) := ⟨room.toNat, by omega⟩
    -- touches, told
    refine ⟨_, rfl, _, rfl, a, _, rfl, s3.seq hS, fun p3 n3 => ?_⟩
    have e3 : cutV (ns.map V.int) (some 2) none = (ns.drop 2).map V.int := by
      rw [show (2 : Int) = ((2 : Nat) : Int) from rfl, cut_from, List.map_drop]
    rw [e3]
    refine ⟨_, rfl, p3, ns.drop 2, _, rfl, SqL.of upd_same, by rw [List.length_drop]; omega, by omega, fun H4 p4 xs s4 n4 hp4 hT => ?_⟩
    have htl : (touchesM (n : Int) (ns.drop 2)).length ≤ 63 := by rw [touchesM_len, List.length_drop]; omega
    have hin := touchesM_in (size := (n : Int)) (by omega) (ns.drop 2)
    generalize touchesM (n : Int) (ns.drop 2) = ts at hT htl hin
    generalize upd H3 p3 _ = H3b at *
    refine ⟨_, rfl, p4, _, rfl, .inl (SqL.of hp4), fun g5 n5 => ?_⟩
    have s5 : Same H4 (upd H4 g5 (.lst xs)) := Same.new n5
    refine ⟨_, rfl, g5, xs, ts, width, rfl, SqL.of upd_same, hT.same s5, ⟨by omega, by omega⟩, by omega, fun H6 pt s6 n6 hpt => ?_⟩
    have hp6 := (s5.trans s6) _ _ hp4
    have hT6 := hT.same (s5.trans s6)
    have hdl := depthsM_len width ts
    -- less
    refine ⟨(by show 1 ≤ sizeLine; decide), fun l4 h4 => ?_⟩
    have z3 : Same H6 (upd H6 l4 (.lst [V.int 0])) := Same.new h4
    refine ⟨_, rfl, l4, (n : Int), _, rfl, rfl, upd_same, by omega, by omega, ?_, fun b hb => ?_⟩
    · show 1 * ((n : Int)).toNat ≤ sizeLine
      exact Nat.le_of_lt (sizeL (by omega))
    rw [show ((n : Int)).toNat = n from rfl, replicate_flat]
    have z4 := z3.trans (Same.new (o := .lst (List.replicate n (V.int 0))) hb)
    have hb4 : (upd (upd H6 l4 (.lst [V.int 0])) b (.lst (List.replicate n (V.int 0)))) b = some (.lst (List.replicate n (V.int 0))) := upd_same
    generalize upd (upd H6 l4 (.lst [V.int 0])) b (.lst (List.replicate n (V.int 0))) = H7 at *
    refine ⟨_, rfl, _, rfl, fun p1 dx hp hdx hne => ?_⟩
    have s7 := (Same.new (o := .own p1) hdx).mut (p := p1) (o := .ins cs.C_Near dx []) hp
    have hg := good_zero n (by omega) (by omega)
    have hsh := shape_ok (room := (r : Int)) (width := width) (rule := "least") ⟨by omega, by omega⟩ hwd (.inl rfl)
    refine ⟨p1, dx, b, List.replicate n (V.int 0), .int (r : Int), .int width, .str "least", rfl, upd_same, SqL.of (s7 _ _ hb4), fun v hv => ?_, by rw [List.length_replicate]; omega, typ_i _, typ_i _, typ_s _, fun _ _ H8 F1 room' width' rule' far e1 e2 e3 e4 hN8 hB8 => ⟨rfl, ?_⟩, fun e => absurd (hg.symm.trans e) (by decide), fun _ e => absurd (hsh.symm.trans e) (by decide)⟩
    · rw [(List.mem_replicate.mp hv).2]
      exact typ_i _
    cases e1
    cases e2
    cases e3
    rw [replicate_int] at e4
    have efar : far = List.replicate n 0 := (List.map_inj_right (fun x y z => V.int.inj z)).mp e4.symm
    subst efar
    obtain ⟨s8, f8⟩ := hB8 H7 s7 (fun b hb => by
      simp only [List.mem_cons, List.not_mem_nil, or_false] at hb
      rw [hb]
      exact hp)
    have ok8 : NOk (r : Int) width n (newS (List.replicate n 0)) := by
      have := NOk.fresh (room := (r : Int)) (width := width) (far := List.replicate n 0) ⟨by omega, by omega⟩ hwd (by rw [List.length_replicate]; omega)
      rwa [List.length_replicate] at this
    have P8 : Part H7 H8 F1 := ⟨s8, f8⟩
    have hp8 := (z4.trans s8) _ _ hp6
    -- more
    refine ⟨(by show 1 ≤ sizeLine; decide), fun l5 h5 => ?_⟩
    have y3 : Same H8 (upd H8 l5 (.lst [V.int 0])) := Same.new h5
    refine ⟨_, rfl, l5, (n : Int), _, rfl, rfl, upd_same, by omega, by omega, ?_, fun b2 hb2 => ?_⟩
    · show 1 * ((n : Int)).toNat ≤ sizeLine
      exact Nat.le_of_lt (sizeL (by omega))
    rw [show ((n : Int)).toNat = n from rfl, replicate_flat]
    have y4 := y3.trans (Same.new (o := .lst (List.replicate n (V.int 0))) hb2)
    have hb9 : (upd (upd H8 l5 (.lst [V.int 0])) b2 (.lst (List.replicate n (V.int 0)))) b2 = some (.lst (List.replicate n (V.int 0))) := upd_same
    generalize upd (upd H8 l5 (.lst [V.int 0])) b2 (.lst (List.replicate n (V.int 0))) = H9 at *
    have P9 := P8.keep y4
    have hN9 := hN8.same y4
    refine ⟨_, rfl, _, _, rfl, rfl, _, rfl, fun p2 dx2 hp2 hdx2 hne2 => ?_⟩
    have s10 := (Same.new (o := .own p2) hdx2).mut (p := p2) (o := .ins cs.C_Near dx2 []) hp2
    have hsh2 := shape_ok (room := (r : Int) + 1) (width := width) (rule := "least") ⟨by omega, by omega⟩ hwd (.inl rfl)
    refine ⟨p2, dx2, b2, List.replicate n (V.int 0), .int ((r : Int) + 1), .int width, .str "least", rfl, upd_same, SqL.of (s10 _ _ hb9), fun v hv => ?_, by rw [List.length_replicate]; omega, typ_i _, typ_i _, typ_s _, fun _ _ H11 F2 room' width' rule' far e1 e2 e3 e4 hN11 hB11 => ⟨rfl, ?_⟩, fun e => absurd (hg.symm.trans e) (by decide), fun _ e => absurd (hsh2.symm.trans e) (by decide)⟩
    · rw [(List.mem_replicate.mp hv).2]
      exact typ_i _
    cases e1
    cases e2
    cases e3
    rw [replicate_int] at e4
    have efar : far = List.replicate n 0 := (List.map_inj_right (fun x y z => V.int.inj z)).mp e4.symm
    subst efar
    have P9' : Part H7 (upd (upd H9 dx2 (.own p2)) p2 (.ins cs.C_Near dx2 [])) [p2] := ⟨P9.same.trans s10, fun x hx => by
      simp only [List.mem_cons, List.not_mem_nil, or_false] at hx
      rw [hx]
      exact P9.same.free hp2⟩
    have P11 := P9'.bey hB11
    have hN10 := hN9.same s10
    have fp2 : ∀ x ∈ F1, x ∉ [p2] := fun x hx z => by
      simp only [List.mem_cons, List.not_mem_nil, or_false] at z
      exact hN9.dom x hx (by rw [z]; exact hp2)
    obtain ⟨on1, dis1⟩ := hB11.two hN10.dom fp2
    have hN11a := hN10.on on1
    have P11a : Part H7 H11 F1 := ⟨P11.same, P8.free⟩
    have ok11 : NOk ((r + 1 : Nat) : Int) width n (newS (List.replicate n 0)) := by
      have := NOk.fresh (room := ((r + 1 : Nat) : Int)) (width := width) (far := List.replicate n 0) ⟨by omega, by omega⟩ hwd (by rw [List.length_replicate]; omega)
      rwa [List.length_replicate] at this
    have hL0 : ∀ k, Lru k ([] : List Int) ([] : List (Option Int)) (newS (List.replicate n 0)) := fun k => ⟨by unfold lastR; rw [List.drop_nil]; rfl, rfl⟩
    have T0 : Two K cs H7 H11 p1 p2 r n width (depthsM width []) := ⟨F1, F2, _, _, P11a, P11, fun x hx z => dis1 x z hx, hN11a, hN11, ok8, ok11, hL0 _, hL0 _⟩
    have hp7 := z4 _ _ hp6
    have hT7 := hT6.same z4
    have hpt7 := z4 _ _ hpt
    have hxl : xs.length = ts.length := hT7.len
    have P11s := P11.same
    refine ⟨_, rfl, p4, _, rfl, .inl (SqL.of (P11s _ _ hp7)), (xs.length : Nat), rfl, by omega, by omega, ?_⟩
    have e0 : (((xs.length : Nat) : Int)).toNat = ts.length := by rw [hxl]; rfl
    rw [e0]
    refine for_range (lo := 0) (n := ts.length) (fun i σ H' => ∃ (v9 v10 v11 v12 v13 v14 v15 : Option V) (G : Hp), σ = [some (.ref a), some (.int (n : Int)), some (.int (cellOf ns 1)), some (.int (r : Int)), some (.int width), some (.ref p4), some (.ref pt), some (.ref p1), some (.ref p2), v9, v10, v11, v12, v13, v14, v15] ∧ Same H7 G ∧ Two K cs G H' p1 p2 r n width (depthsM width (ts.take i))) ?_ ?_ ?_
    · exact ⟨none, none, none, none, none, none, none, H7, rfl, Same.refl _, T0⟩
    · rintro i σ H' hi ⟨v9, v10, v11, v12, v13, v14, v15, G, rfl, sG, ⟨F1, F2, t1, t2, Q1, Q2, dis, N1, N2, k1, k2, L1, L2⟩⟩
      have hzi : (0 : Int) + (i : Int) = ((i : Nat) : Int) := Int.zero_add _
      obtain ⟨v, hv, tb, rfl, htbG⟩ := (hT7.same sG).at_ i ts[i] (List.getElem?_eq_getElem hi)
      have htb := Q1.same.seqT htbG
      have hget : ts[i]? = some ts[i] := List.getElem?_eq_getElem hi
      obtain ⟨hb0, hb1⟩ := hin ts[i] (List.getElem_mem hi)
      have est : depthsM width (ts.take (i + 1)) = dStep width (depthsM width (ts.take i)) ts[i] := fold_take _ _ hget
      have hnd := depths_nd width (ts.take i)
      have hlm := depthsM_len width (ts.take i)
      have hlt : (ts.take i).length = i := by rw [List.length_take]; omega
      have htold : (depthsM width ts).2[i]? = some (if ts[i].2 / width ∈ (depthsM width (ts.take i)).1 then some (((depthsM width (ts.take i)).1.length : Int) - 1 - ((depthsM width (ts.take i)).1.idxOf (ts[i].2 / width) : Nat)) else none) := by
        have h1 := told_take width ts (i + 1)
        rw [est, dStep_told] at h1
        have h2 : ((depthsM width ts).2.take (i + 1))[i]? = (depthsM width ts).2[i]? := List.getElem?_take_of_lt (by omega)
        rw [← h2, ← h1, List.getElem?_append_right (by omega), hlm.1, hlt, Nat.sub_self]
        rfl
      rw [est]
      generalize depthsM width (ts.take i) = m at *
      generalize ts[i] = tc at *
      obtain ⟨d, hd⟩ : ∃ d, d = (if tc.2 / width ∈ m.1 then some ((m.1.length : Int) - 1 - (m.1.idxOf (tc.2 / width) : Nat)) else none) := ⟨_, rfl⟩
      have hatd : atI ((depthsM width ts).2.map optV) (0 + (i : Int)) = some (optV d) := at_ofG hzi (by rw [List.getElem?_map, htold, ← hd]; rfl)
      have hp4' : atI xs (0 + (i : Int)) = some (.ref tb) := at_ofG hzi hv
      -- the steps
      refine ⟨_, rfl, _, rfl, _, rfl, p4, _, _, _, rfl, rfl, SqL.of ((sG.trans Q1.same) _ _ hp7), hp4', p1, tb, tc, (r : Int), width, n, "least", t1, F1, rfl, htb, N1, k1, hb0, hb1, fun Ha F1a aa u1 N1a k1a o1 o2 o3 Ba => ?_⟩
      obtain ⟨onA, disA⟩ := Ba.two N2.dom dis
      have N2a := N2.on onA
      have Q1a := Q1.bey Ba
      have Q2a : Part G Ha F2 := ⟨Q1a.same, Q2.free⟩
      obtain ⟨L1a, f1⟩ := L1.touch (t := tc) k1 hnd aa
      have L1b : Lru r (dStep width m tc).1 (dStep width m tc).2 u1 := ⟨o1.trans L1a.ord, o3.trans L1a.miss⟩
      rw [← hd] at f1
      have lT : leastB "least" = true := decide_eq_true rfl
      rw [lT] at o2
      rw [← o2] at f1
      have htb2 := Q1a.same.seqT htbG
      refine ⟨_, rfl, _, rfl, _, rfl, p4, _, _, _, rfl, rfl, SqL.of ((sG.trans Q1a.same) _ _ hp7), hp4', p2, tb, tc, ((r + 1 : Nat) : Int), width, n, "least", t2, F2, rfl, htb2, N2a, k2, hb0, hb1, fun Hb F2b ab u2 N2b k2b o1' o2' o3' Bb => ?_⟩
      obtain ⟨onB, disB⟩ := Bb.two N1a.dom fun x hx z => disA x z hx
      have N1b := N1a.on onB
      have Q2b := Q2a.bey Bb
      have Q1b : Part G Hb F1a := ⟨Q2b.same, Q1a.free⟩
      obtain ⟨L2a, f2⟩ := L2.touch (t := tc) k2 hnd ab
      have L2b : Lru (r + 1) (dStep width m tc).1 (dStep width m tc).2 u2 := ⟨o1'.trans L2a.ord, o3'.trans L2a.miss⟩
      rw [← hd] at f2
      rw [lT] at o2'
      rw [← o2'] at f2
      have hfa : u1.found - t1.found ≤ u2.found - t2.found := by
        rw [f1, f2]
        cases d with
        | none => exact Int.le_refl _
        | some z =>
          by_cases c : z < (r : Int)
          · rw [if_pos (show hitB (r : Int) (some z) = true from decide_eq_true c), if_pos (show hitB ((r + 1 : Nat) : Int) (some z) = true from decide_eq_true (by omega))]
            exact Int.le_refl _
          · rw [if_neg (show ¬ hitB (r : Int) (some z) = true from fun q => c (of_decide_eq_true q))]
            split <;> omega
      have hptb := (sG.trans Q1b.same) _ _ hpt7
      generalize u1.found - t1.found = fa at *
      generalize u2.found - t2.found = fb at *
      refine ⟨fun b H6 => b = false ∧ H6 = Hb, ?_, ?_⟩
      · refine ⟨_, rfl, fun v H6 => v = .bl (hitB (r : Int) d) ∧ H6 = Hb, ?_, ?_⟩
        · cases d with
          | none => exact ⟨_, rfl, _, rfl, pt, _, _, _, rfl, rfl, SqL.of hptb, hatd, rfl, _, rfl, iteF ⟨rfl, rfl⟩⟩
          | some z => exact ⟨_, rfl, _, rfl, pt, _, _, _, rfl, rfl, SqL.of hptb, hatd, rfl, _, rfl, iteT ⟨_, rfl, _, rfl, pt, _, _, _, rfl, rfl, SqL.of hptb, hatd, _, rfl, _, _, rfl, rfl, rfl, rfl⟩⟩
        rintro v H6 ⟨rfl, rfl⟩
        refine .inr ⟨_, rfl, rfl, _, rfl, iteN (fun c => absurd (congrArg V.int f1) c) (fun _ => ?_)⟩
        exact ⟨_, rfl, _, rfl, _, _, rfl, rfl, _, rfl, decide_eq_false (by omega), rfl⟩
      rintro b H6 ⟨rfl, rfl⟩
      refine iteF ?_
      refine ⟨_, rfl, fun v H7 => v = .bl (hitB ((r + 1 : Nat) : Int) d) ∧ H7 = H6, ?_, ?_⟩
      · cases d with
        | none => exact ⟨_, rfl, _, rfl, pt, _, _, _, rfl, rfl, SqL.of hptb, hatd, rfl, _, rfl, iteF ⟨rfl, rfl⟩⟩
        | some z => exact ⟨_, rfl, _, rfl, pt, _, _, _, rfl, rfl, SqL.of hptb, hatd, rfl, _, rfl, iteT ⟨_, rfl, _, rfl, pt, _, _, _, rfl, rfl, SqL.of hptb, hatd, _, rfl, _, _, rfl, rfl, _, _, rfl, rfl, rfl, rfl⟩⟩
      rintro v H7 ⟨rfl, rfl⟩
      refine .inr ⟨_, rfl, rfl, _, rfl, iteN (fun c => absurd (congrArg V.int f2) c) (fun _ => ?_)⟩
      -- held
      obtain ⟨dx2, _, _, _, _, eF2, X2⟩ := id N2b
      refine ⟨_, rfl, p2, dx2, _, rfl, X2.h1, rfl, p2, _, width, "least", u2, F2b, rfl, N2b, fun H8 q8 s8' n8 e8 => ?_⟩
      obtain ⟨dx1, _, _, _, _, eF1, X1⟩ := id (N1b.same s8')
      refine ⟨_, rfl, p1, dx1, _, rfl, X1.h1, rfl, p1, _, width, "least", u1, F1a, rfl, N1b.same s8', fun H9 q9 s9 n9 e9 => ?_⟩
      have e89 := s9 _ _ e8
      have hsub : ∀ l ∈ u1.order, l ∈ u2.order := fun l hl => by
        rw [L1b.ord] at hl
        rw [L2b.ord]
        exact last_sub l hl
      refine ⟨q9, rfl, ⟨_, SqL.of e9⟩, fun D nD => lc_list (xs := u1.order.map V.int) (fun j H3 => Same H9 H3 ∧ H3 D = some (.lst [])) ⟨Same.new nD, upd_same⟩ (fun j H3 _ p => SqL.of (p.1 _ _ e9)) ?_ ?_⟩
      · rintro j x H3 hx ⟨s3', hD⟩
        obtain ⟨y, hy, rfl⟩ := of_get_map hx
        refine ⟨rfl, _, rfl, _, rfl, q8, _, rfl, .inl (SqL.of (s3' _ _ e89)), rfl, flat_ints _, _, rfl, ?_⟩
        rw [inV_ints, decide_eq_true (hsub y (List.mem_of_getElem? hy))]
        exact iteF ⟨s3', hD⟩
      rintro H3 ⟨s3', hD⟩
      refine ⟨Nat.zero_le _, fun D2 nD2 => ?_⟩
      have s4' : Same H3 (upd H3 D2 (.lst [])) := Same.new nD2
      refine ⟨_, _, intsD_dp (ns := []) (s4' _ _ hD), intsD_dp (ns := []) upd_same, (intsD_sh _).shaped (by decide), (intsD_sh _).shaped (by decide), _, rfl, ?_⟩
      rw [eqv_self (intsD_sh _)]
      have zz := ((s8'.trans s9).trans s3').trans s4'
      exact iteF ⟨_, _, _, _, _, _, _, G, rfl, sG, ⟨F1a, F2b, u1, u2, Q1b.keep zz, Q2b.keep zz, fun x hx z => disB x z hx, N1b.same zz, N2b.same zz, k1a, k2b, L1b, L2b⟩⟩
    · rintro σ H' ⟨v9, v10, v11, v12, v13, v14, v15, G, rfl, sG, ⟨F1, F2, t1, t2, Q1, Q2, dis, N1, N2, k1, k2, L1, L2⟩⟩
      rw [List.take_length] at L1 L2
      have hpt' := (sG.trans Q1.same) _ _ hpt7
      refine ⟨_, rfl, pt, _, rfl, .inl (SqL.of hpt'), fun l nl => ⟨_, rfl, l, _, (r : Int), rfl, SqL.of upd_same, by omega, fun H2 s2 => ?_⟩⟩
      have c2 := (Same.new (o := .lst ((depthsM width ts).2.map optV)) nl).trans s2
      refine ⟨_, rfl, pt, _, rfl, .inl (SqL.of (c2 _ _ hpt')), fun l3 nl3 => ⟨_, rfl, _, _, rfl, rfl, l3, _, (r : Int) + 1, rfl, SqL.of upd_same, by omega, fun H3 s3 => ?_⟩⟩
      have c3 := c2.trans ((Same.new (o := .lst ((depthsM width ts).2.map optV)) nl3).trans s3)
      obtain ⟨dx1, _, _, _, _, _, X1⟩ := id (N1.same c3)
      obtain ⟨dx2, _, _, _, _, _, X2⟩ := id (N2.same c3)
      refine ⟨_, rfl, .int _, "int", rfl, .base (.int _), by decide, _, rfl, iteT ?_⟩
      refine ⟨_, rfl, _, rfl, p1, cs.C_Near, dx1, _, _, rfl, X1.h1, T.cl_Near, T.na_Near_missed, lk_missed, rfl, _, rfl, ?_⟩
      rw [← L1.miss]
      have hL2 : missM ((r : Int) + 1) (depthsM width ts).2 = t2.missed := L2.miss.symm
      have hle := miss_le (r : Int) (depthsM width ts).2
      rw [← L1.miss, hL2] at hle
      rw [hL2]
      refine iteD (fun _ => ?_) (fun c => absurd rfl c)
      refine ⟨_, rfl, .int _, "int", rfl, .base (.int _), by decide, _, rfl, iteT ?_⟩
      refine ⟨_, rfl, _, rfl, p2, cs.C_Near, dx2, _, _, rfl, X2.h1, T.cl_Near, T.na_Near_missed, lk_missed, rfl, _, rfl, iteD (fun _ => ?_) (fun c => absurd rfl c)⟩
      refine ⟨_, rfl, _, rfl, _, _, rfl, rfl, ?_⟩
      have eb : (decide (t2.missed ≤ t1.missed)) = true := decide_eq_true hle
      show Q (.bl (decide (t2.missed ≤ t1.missed))) _
      rw [eb]
      exact q _
def spEnd (K : PySem.W.Frag) : Sp := fun vs H Q _ => ∃ (a : Addr) (ns : List Int), vs = [.ref a] ∧ SqL K H a (ns.map V.int) ∧ ns.length ≤ 63 ∧ ∀ H', Q (.bl true) H'
theorem spEnd_law {K : PySem.W.Frag} (cs : Cs) {vs : List V} {H : Hp} {Q : VK} {E : XK} (h : spEnd K vs H Q E) : sp_law K cs vs H Q E := h
end
theorem all_mk {l : PySem.W.OpenLaw} {w : World} {K : PySem.W.Frag} {h : Heap} {mg : Str → Option Value} {fa : Addr} (X : K.In h) (G : h.Ns mainGlobals mg) (hfa : mg "law" = some (.ref fa))
    {f_within f_checked_boxes f_need_shape f_Near___init__ f_Near_look f_Near_put f_Near_held f_Near_touched f_Near_leave f_Near_write_back f_depths f_missed_by f__law_cell_at f__law_whole f__law_mixed f__law_size_by f__law_touches_by f__law_step f_law a_RULES C_LineError C_BadBoxes C_BadShape C_NoBox C_Near : Addr}
    {od_within an_within od_checked_boxes an_checked_boxes od_need_shape an_need_shape od_Near___init__ an_Near___init__ od_Near_look an_Near_look od_Near_put an_Near_put od_Near_held an_Near_held od_Near_touched an_Near_touched od_Near_leave an_Near_leave od_Near_write_back an_Near_write_back od_depths an_depths od_missed_by an_missed_by od__law_cell_at an__law_cell_at od__law_whole an__law_whole od__law_mixed an__law_mixed od__law_size_by an__law_size_by od__law_touches_by an__law_touches_by od__law_step an__law_step od_law an_law : Option Addr} {sl_within sl_checked_boxes sl_need_shape sl_Near___init__ sl_Near_look sl_Near_put sl_Near_held sl_Near_touched sl_Near_leave sl_Near_write_back sl_depths sl_missed_by sl__law_cell_at sl__law_whole sl__law_mixed sl__law_size_by sl__law_touches_by sl__law_step sl_law : Array (Option Value)} {oc_within kV_within dc_within pm_within cd_within ct_within oc_checked_boxes kV_checked_boxes dc_checked_boxes pm_checked_boxes cd_checked_boxes ct_checked_boxes oc_need_shape kV_need_shape dc_need_shape pm_need_shape cd_need_shape ct_need_shape oc_Near___init__ kV_Near___init__ dc_Near___init__ pm_Near___init__ cd_Near___init__ ct_Near___init__ oc_Near_look kV_Near_look dc_Near_look pm_Near_look cd_Near_look ct_Near_look oc_Near_put kV_Near_put dc_Near_put pm_Near_put cd_Near_put ct_Near_put oc_Near_held kV_Near_held dc_Near_held pm_Near_held cd_Near_held ct_Near_held oc_Near_touched kV_Near_touched dc_Near_touched pm_Near_touched cd_Near_touched ct_Near_touched oc_Near_leave kV_Near_leave dc_Near_leave pm_Near_leave cd_Near_leave ct_Near_leave oc_Near_write_back kV_Near_write_back dc_Near_write_back pm_Near_write_back cd_Near_write_back ct_Near_write_back oc_depths kV_depths dc_depths pm_depths cd_depths ct_depths oc_missed_by kV_missed_by dc_missed_by pm_missed_by cd_missed_by ct_missed_by oc__law_cell_at kV__law_cell_at dc__law_cell_at pm__law_cell_at cd__law_cell_at ct__law_cell_at oc__law_whole kV__law_whole dc__law_whole pm__law_whole cd__law_whole ct__law_whole oc__law_mixed kV__law_mixed dc__law_mixed pm__law_mixed cd__law_mixed ct__law_mixed oc__law_size_by kV__law_size_by dc__law_size_by pm__law_size_by cd__law_size_by ct__law_size_by oc__law_touches_by kV__law_touches_by dc__law_touches_by pm__law_touches_by cd__law_touches_by ct__law_touches_by oc__law_step kV__law_step dc__law_step pm__law_step cd__law_step ct__law_step oc_law kV_law dc_law pm_law cd_law ct_law : Value}
    {to_RULES : Option Addr} {ti_RULES : Array Value} {tn_RULES : Nat} {ts_RULES : Array (Option Value)}
    (a_within : PySem.W.nsIn K mainGlobals "within" = some (some (.ref f_within)))
    (l_within : K.lookup f_within = some ⟨oc_within, od_within, .func (PySem.W.fnOf "within" "within" (defArgs s_within) (defBody s_within) (defScope s_within) .none kV_within dc_within pm_within an_within cd_within ct_within), sl_within⟩)
    (c_within : PySem.W.codeIn K cd_within "within" = true)
    (k_within : PySem.W.keepIn K (.ref f_within) = true)
    (a_checked_boxes : PySem.W.nsIn K mainGlobals "checked_boxes" = some (some (.ref f_checked_boxes)))
    (l_checked_boxes : K.lookup f_checked_boxes = some ⟨oc_checked_boxes, od_checked_boxes, .func (PySem.W.fnOf "checked_boxes" "checked_boxes" (defArgs s_checked_boxes) (defBody s_checked_boxes) (defScope s_checked_boxes) .none kV_checked_boxes dc_checked_boxes pm_checked_boxes an_checked_boxes cd_checked_boxes ct_checked_boxes), sl_checked_boxes⟩)
    (c_checked_boxes : PySem.W.codeIn K cd_checked_boxes "checked_boxes" = true)
    (k_checked_boxes : PySem.W.keepIn K (.ref f_checked_boxes) = true)
    (a_need_shape : PySem.W.nsIn K mainGlobals "need_shape" = some (some (.ref f_need_shape)))
    (l_need_shape : K.lookup f_need_shape = some ⟨oc_need_shape, od_need_shape, .func (PySem.W.fnOf "need_shape" "need_shape" (defArgs s_need_shape) (defBody s_need_shape) (defScope s_need_shape) .none kV_need_shape dc_need_shape pm_need_shape an_need_shape cd_need_shape ct_need_shape), sl_need_shape⟩)
    (c_need_shape : PySem.W.codeIn K cd_need_shape "need_shape" = true)
    (k_need_shape : PySem.W.keepIn K (.ref f_need_shape) = true)
    (a_Near___init__ : PySem.W.findIn K (.ref C_Near) "__init__" = some (some (.ref f_Near___init__)))
    (i_Near___init__ : PySem.W.isFn K (.ref f_Near___init__) = true)
    (l_Near___init__ : K.lookup f_Near___init__ = some ⟨oc_Near___init__, od_Near___init__, .func (PySem.W.fnOf "__init__" "Near.__init__" (defArgs s_Near___init__) (defBody s_Near___init__) (defScope s_Near___init__) .none kV_Near___init__ dc_Near___init__ pm_Near___init__ an_Near___init__ cd_Near___init__ ct_Near___init__), sl_Near___init__⟩)
    (c_Near___init__ : PySem.W.codeIn K cd_Near___init__ "Near.__init__" = true)
    (k_Near___init__ : PySem.W.keepIn K (.ref f_Near___init__) = true)
    (a_Near_look : PySem.W.findIn K (.ref C_Near) "look" = some (some (.ref f_Near_look)))
    (i_Near_look : PySem.W.isFn K (.ref f_Near_look) = true)
    (l_Near_look : K.lookup f_Near_look = some ⟨oc_Near_look, od_Near_look, .func (PySem.W.fnOf "look" "Near.look" (defArgs s_Near_look) (defBody s_Near_look) (defScope s_Near_look) .none kV_Near_look dc_Near_look pm_Near_look an_Near_look cd_Near_look ct_Near_look), sl_Near_look⟩)
    (c_Near_look : PySem.W.codeIn K cd_Near_look "Near.look" = true)
    (k_Near_look : PySem.W.keepIn K (.ref f_Near_look) = true)
    (a_Near_put : PySem.W.findIn K (.ref C_Near) "put" = some (some (.ref f_Near_put)))
    (i_Near_put : PySem.W.isFn K (.ref f_Near_put) = true)
    (l_Near_put : K.lookup f_Near_put = some ⟨oc_Near_put, od_Near_put, .func (PySem.W.fnOf "put" "Near.put" (defArgs s_Near_put) (defBody s_Near_put) (defScope s_Near_put) .none kV_Near_put dc_Near_put pm_Near_put an_Near_put cd_Near_put ct_Near_put), sl_Near_put⟩)
    (c_Near_put : PySem.W.codeIn K cd_Near_put "Near.put" = true)
    (k_Near_put : PySem.W.keepIn K (.ref f_Near_put) = true)
    (a_Near_held : PySem.W.findIn K (.ref C_Near) "held" = some (some (.ref f_Near_held)))
    (i_Near_held : PySem.W.isFn K (.ref f_Near_held) = true)
    (l_Near_held : K.lookup f_Near_held = some ⟨oc_Near_held, od_Near_held, .func (PySem.W.fnOf "held" "Near.held" (defArgs s_Near_held) (defBody s_Near_held) (defScope s_Near_held) .none kV_Near_held dc_Near_held pm_Near_held an_Near_held cd_Near_held ct_Near_held), sl_Near_held⟩)
    (c_Near_held : PySem.W.codeIn K cd_Near_held "Near.held" = true)
    (k_Near_held : PySem.W.keepIn K (.ref f_Near_held) = true)
    (a_Near_touched : PySem.W.findIn K (.ref C_Near) "touched" = some (some (.ref f_Near_touched)))
    (i_Near_touched : PySem.W.isFn K (.ref f_Near_touched) = true)
    (l_Near_touched : K.lookup f_Near_touched = some ⟨oc_Near_touched, od_Near_touched, .func (PySem.W.fnOf "touched" "Near.touched" (defArgs s_Near_touched) (defBody s_Near_touched) (defScope s_Near_touched) .none kV_Near_touched dc_Near_touched pm_Near_touched an_Near_touched cd_Near_touched ct_Near_touched), sl_Near_touched⟩)
    (c_Near_touched : PySem.W.codeIn K cd_Near_touched "Near.touched" = true)
    (k_Near_touched : PySem.W.keepIn K (.ref f_Near_touched) = true)
    (a_Near_leave : PySem.W.findIn K (.ref C_Near) "leave" = some (some (.ref f_Near_leave)))
    (i_Near_leave : PySem.W.isFn K (.ref f_Near_leave) = true)
    (l_Near_leave : K.lookup f_Near_leave = some ⟨oc_Near_leave, od_Near_leave, .func (PySem.W.fnOf "leave" "Near.leave" (defArgs s_Near_leave) (defBody s_Near_leave) (defScope s_Near_leave) .none kV_Near_leave dc_Near_leave pm_Near_leave an_Near_leave cd_Near_leave ct_Near_leave), sl_Near_leave⟩)
    (c_Near_leave : PySem.W.codeIn K cd_Near_leave "Near.leave" = true)
    (k_Near_leave : PySem.W.keepIn K (.ref f_Near_leave) = true)
    (a_Near_write_back : PySem.W.findIn K (.ref C_Near) "write_back" = some (some (.ref f_Near_write_back)))
    (i_Near_write_back : PySem.W.isFn K (.ref f_Near_write_back) = true)
    (l_Near_write_back : K.lookup f_Near_write_back = some ⟨oc_Near_write_back, od_Near_write_back, .func (PySem.W.fnOf "write_back" "Near.write_back" (defArgs s_Near_write_back) (defBody s_Near_write_back) (defScope s_Near_write_back) .none kV_Near_write_back dc_Near_write_back pm_Near_write_back an_Near_write_back cd_Near_write_back ct_Near_write_back), sl_Near_write_back⟩)
    (c_Near_write_back : PySem.W.codeIn K cd_Near_write_back "Near.write_back" = true)
    (k_Near_write_back : PySem.W.keepIn K (.ref f_Near_write_back) = true)
    (a_depths : PySem.W.nsIn K mainGlobals "depths" = some (some (.ref f_depths)))
    (l_depths : K.lookup f_depths = some ⟨oc_depths, od_depths, .func (PySem.W.fnOf "depths" "depths" (defArgs s_depths) (defBody s_depths) (defScope s_depths) .none kV_depths dc_depths pm_depths an_depths cd_depths ct_depths), sl_depths⟩)
    (c_depths : PySem.W.codeIn K cd_depths "depths" = true)
    (k_depths : PySem.W.keepIn K (.ref f_depths) = true)
    (a_missed_by : PySem.W.nsIn K mainGlobals "missed_by" = some (some (.ref f_missed_by)))
    (l_missed_by : K.lookup f_missed_by = some ⟨oc_missed_by, od_missed_by, .func (PySem.W.fnOf "missed_by" "missed_by" (defArgs s_missed_by) (defBody s_missed_by) (defScope s_missed_by) .none kV_missed_by dc_missed_by pm_missed_by an_missed_by cd_missed_by ct_missed_by), sl_missed_by⟩)
    (c_missed_by : PySem.W.codeIn K cd_missed_by "missed_by" = true)
    (k_missed_by : PySem.W.keepIn K (.ref f_missed_by) = true)
    (a__law_cell_at : PySem.W.nsIn K mainGlobals "_law_cell_at" = some (some (.ref f__law_cell_at)))
    (l__law_cell_at : K.lookup f__law_cell_at = some ⟨oc__law_cell_at, od__law_cell_at, .func (PySem.W.fnOf "_law_cell_at" "_law_cell_at" (defArgs s__law_cell_at) (defBody s__law_cell_at) (defScope s__law_cell_at) .none kV__law_cell_at dc__law_cell_at pm__law_cell_at an__law_cell_at cd__law_cell_at ct__law_cell_at), sl__law_cell_at⟩)
    (c__law_cell_at : PySem.W.codeIn K cd__law_cell_at "_law_cell_at" = true)
    (k__law_cell_at : PySem.W.keepIn K (.ref f__law_cell_at) = true)
    (a__law_whole : PySem.W.nsIn K mainGlobals "_law_whole" = some (some (.ref f__law_whole)))
    (l__law_whole : K.lookup f__law_whole = some ⟨oc__law_whole, od__law_whole, .func (PySem.W.fnOf "_law_whole" "_law_whole" (defArgs s__law_whole) (defBody s__law_whole) (defScope s__law_whole) .none kV__law_whole dc__law_whole pm__law_whole an__law_whole cd__law_whole ct__law_whole), sl__law_whole⟩)
    (c__law_whole : PySem.W.codeIn K cd__law_whole "_law_whole" = true)
    (k__law_whole : PySem.W.keepIn K (.ref f__law_whole) = true)
    (a__law_mixed : PySem.W.nsIn K mainGlobals "_law_mixed" = some (some (.ref f__law_mixed)))
    (l__law_mixed : K.lookup f__law_mixed = some ⟨oc__law_mixed, od__law_mixed, .func (PySem.W.fnOf "_law_mixed" "_law_mixed" (defArgs s__law_mixed) (defBody s__law_mixed) (defScope s__law_mixed) .none kV__law_mixed dc__law_mixed pm__law_mixed an__law_mixed cd__law_mixed ct__law_mixed), sl__law_mixed⟩)
    (c__law_mixed : PySem.W.codeIn K cd__law_mixed "_law_mixed" = true)
    (k__law_mixed : PySem.W.keepIn K (.ref f__law_mixed) = true)
    (a__law_size_by : PySem.W.nsIn K mainGlobals "_law_size_by" = some (some (.ref f__law_size_by)))
    (l__law_size_by : K.lookup f__law_size_by = some ⟨oc__law_size_by, od__law_size_by, .func (PySem.W.fnOf "_law_size_by" "_law_size_by" (defArgs s__law_size_by) (defBody s__law_size_by) (defScope s__law_size_by) .none kV__law_size_by dc__law_size_by pm__law_size_by an__law_size_by cd__law_size_by ct__law_size_by), sl__law_size_by⟩)
    (c__law_size_by : PySem.W.codeIn K cd__law_size_by "_law_size_by" = true)
    (k__law_size_by : PySem.W.keepIn K (.ref f__law_size_by) = true)
    (a__law_touches_by : PySem.W.nsIn K mainGlobals "_law_touches_by" = some (some (.ref f__law_touches_by)))
    (l__law_touches_by : K.lookup f__law_touches_by = some ⟨oc__law_touches_by, od__law_touches_by, .func (PySem.W.fnOf "_law_touches_by" "_law_touches_by" (defArgs s__law_touches_by) (defBody s__law_touches_by) (defScope s__law_touches_by) .none kV__law_touches_by dc__law_touches_by pm__law_touches_by an__law_touches_by cd__law_touches_by ct__law_touches_by), sl__law_touches_by⟩)
    (c__law_touches_by : PySem.W.codeIn K cd__law_touches_by "_law_touches_by" = true)
    (k__law_touches_by : PySem.W.keepIn K (.ref f__law_touches_by) = true)
    (a__law_step : PySem.W.nsIn K mainGlobals "_law_step" = some (some (.ref f__law_step)))
    (l__law_step : K.lookup f__law_step = some ⟨oc__law_step, od__law_step, .func (PySem.W.fnOf "_law_step" "_law_step" (defArgs s__law_step) (defBody s__law_step) (defScope s__law_step) .none kV__law_step dc__law_step pm__law_step an__law_step cd__law_step ct__law_step), sl__law_step⟩)
    (c__law_step : PySem.W.codeIn K cd__law_step "_law_step" = true)
    (k__law_step : PySem.W.keepIn K (.ref f__law_step) = true)
    (a_law : PySem.W.nsIn K mainGlobals "law" = some (some (.ref f_law)))
    (l_law : K.lookup f_law = some ⟨oc_law, od_law, .func (PySem.W.fnOf "law" "law" (defArgs s_law) (defBody s_law) (defScope s_law) .none kV_law dc_law pm_law an_law cd_law ct_law), sl_law⟩)
    (c_law : PySem.W.codeIn K cd_law "law" = true)
    (k_law : PySem.W.keepIn K (.ref f_law) = true)
    (z_isinstance : PySem.W.nsIn K mainGlobals "isinstance" = some none)
    (z_int : PySem.W.nsIn K mainGlobals "int" = some none)
    (z_bool : PySem.W.nsIn K mainGlobals "bool" = some none)
    (z_len : PySem.W.nsIn K mainGlobals "len" = some none)
    (z_list : PySem.W.nsIn K mainGlobals "list" = some none)
    (z_str : PySem.W.nsIn K mainGlobals "str" = some none)
    (z_range : PySem.W.nsIn K mainGlobals "range" = some none)
    (v_GREATEST : ∃ t, PySem.W.nsIn K mainGlobals "GREATEST" = some (some (.int 999999 t)))
    (v_MOST : ∃ t, PySem.W.nsIn K mainGlobals "MOST" = some (some (.int 200 t)))
    (v_WIDEST : ∃ t, PySem.W.nsIn K mainGlobals "WIDEST" = some (some (.int 200 t)))
    (v_RULES : PySem.W.nsIn K mainGlobals "RULES" = some (some (.ref a_RULES)))
    (tl_RULES : K.lookup a_RULES = some ⟨.type "tuple", to_RULES, .seq ti_RULES tn_RULES, ts_RULES⟩)
    (tz_RULES : ti_RULES.size ≤ sizeLine)
    (tv_RULES : Vals [V.str "least", V.str "first"] ti_RULES.toList)
    (g_LineError : PySem.W.nsIn K mainGlobals "LineError" = some (some (.ref C_LineError)))
    (xx_LineError : PySem.W.excIn K C_LineError [.type "ValueError", .type "Exception", .type "BaseException", .type "object"] "ValueError.__new__" = true)
    (xk_LineError : PySem.W.keepIn K (.ref C_LineError) = true)
    (xb_LineError : PySem.W.subIn K (.ref C_LineError) (.type "BaseException") = some true)
    (xt_LineError : PySem.W.typeIn K (.ref C_LineError) = some (.type "type"))
    (xi_LineError : PySem.W.isClsIn K C_LineError = true)
    (xs_LineError : PySem.W.subIn K (.ref C_LineError) (.ref C_LineError) = some true)
    (g_BadBoxes : PySem.W.nsIn K mainGlobals "BadBoxes" = some (some (.ref C_BadBoxes)))
    (xx_BadBoxes : PySem.W.excIn K C_BadBoxes [.type "ValueError", .type "Exception", .type "BaseException", .type "object"] "ValueError.__new__" = true)
    (xk_BadBoxes : PySem.W.keepIn K (.ref C_BadBoxes) = true)
    (xb_BadBoxes : PySem.W.subIn K (.ref C_BadBoxes) (.type "BaseException") = some true)
    (xt_BadBoxes : PySem.W.typeIn K (.ref C_BadBoxes) = some (.type "type"))
    (xi_BadBoxes : PySem.W.isClsIn K C_BadBoxes = true)
    (xs_BadBoxes : PySem.W.subIn K (.ref C_BadBoxes) (.ref C_BadBoxes) = some true)
    (g_BadShape : PySem.W.nsIn K mainGlobals "BadShape" = some (some (.ref C_BadShape)))
    (xx_BadShape : PySem.W.excIn K C_BadShape [.type "ValueError", .type "Exception", .type "BaseException", .type "object"] "ValueError.__new__" = true)
    (xk_BadShape : PySem.W.keepIn K (.ref C_BadShape) = true)
    (xb_BadShape : PySem.W.subIn K (.ref C_BadShape) (.type "BaseException") = some true)
    (xt_BadShape : PySem.W.typeIn K (.ref C_BadShape) = some (.type "type"))
    (xi_BadShape : PySem.W.isClsIn K C_BadShape = true)
    (xs_BadShape : PySem.W.subIn K (.ref C_BadShape) (.ref C_BadShape) = some true)
    (g_NoBox : PySem.W.nsIn K mainGlobals "NoBox" = some (some (.ref C_NoBox)))
    (xx_NoBox : PySem.W.excIn K C_NoBox [.type "ValueError", .type "Exception", .type "BaseException", .type "object"] "ValueError.__new__" = true)
    (xk_NoBox : PySem.W.keepIn K (.ref C_NoBox) = true)
    (xb_NoBox : PySem.W.subIn K (.ref C_NoBox) (.type "BaseException") = some true)
    (xt_NoBox : PySem.W.typeIn K (.ref C_NoBox) = some (.type "type"))
    (xi_NoBox : PySem.W.isClsIn K C_NoBox = true)
    (xs_NoBox : PySem.W.subIn K (.ref C_NoBox) (.ref C_NoBox) = some true)
    (g_Near : PySem.W.nsIn K mainGlobals "Near" = some (some (.ref C_Near)))
    (ng_Near : PySem.W.plainGet K C_Near Str.empty = true)
    (nh_Near : PySem.W.hasDictIn K C_Near = true)
    (no_Near : PySem.W.plainOver K C_Near = true)
    (ns_Near : PySem.W.findIn K (.ref C_Near) "__setattr__" = some (some (.builtin "object.__setattr__")))
    (nm_Near : PySem.W.makesIn K C_Near = true)
    (nk_Near : PySem.W.keepIn K (.ref C_Near) = true)
    (na_Near_far : PySem.W.findIn K (.ref C_Near) "far" = some none)
    (na_Near_room : PySem.W.findIn K (.ref C_Near) "room" = some none)
    (na_Near_width : PySem.W.findIn K (.ref C_Near) "width" = some none)
    (na_Near_rule : PySem.W.findIn K (.ref C_Near) "rule" = some none)
    (na_Near_order : PySem.W.findIn K (.ref C_Near) "order" = some none)
    (na_Near_near : PySem.W.findIn K (.ref C_Near) "near" = some none)
    (na_Near_written : PySem.W.findIn K (.ref C_Near) "written" = some none)
    (na_Near_found : PySem.W.findIn K (.ref C_Near) "found" = some none)
    (na_Near_missed : PySem.W.findIn K (.ref C_Near) "missed" = some none)
    (na_Near_back : PySem.W.findIn K (.ref C_Near) "back" = some none)
    : ∃ (cs : Cs) (fd : FuncData), (∀ (s : Shared) (v : Value), BindsTo s fd ⟨[v], []⟩ [("_law_script", v)]) ∧ ∀ base : Heap, K.In base → base.Ns mainGlobals mg → FnOk l.prog w K mg base CX0 6 fa fd ["_law_script"] (sp_law K cs) := by
  have e : f_law = fa := Value.ref.inj (Option.some.inj ((PySem.W.mg_of X G a_law).symm.trans hfa))
  obtain ⟨cs, hcs⟩ : ∃ cs : Cs, cs = { f_within := f_within, d_within := (PySem.W.fnOf "within" "within" (defArgs s_within) (defBody s_within) (defScope s_within) .none kV_within dc_within pm_within an_within cd_within ct_within), f_checked_boxes := f_checked_boxes, d_checked_boxes := (PySem.W.fnOf "checked_boxes" "checked_boxes" (defArgs s_checked_boxes) (defBody s_checked_boxes) (defScope s_checked_boxes) .none kV_checked_boxes dc_checked_boxes pm_checked_boxes an_checked_boxes cd_checked_boxes ct_checked_boxes), f_need_shape := f_need_shape, d_need_shape := (PySem.W.fnOf "need_shape" "need_shape" (defArgs s_need_shape) (defBody s_need_shape) (defScope s_need_shape) .none kV_need_shape dc_need_shape pm_need_shape an_need_shape cd_need_shape ct_need_shape), f_Near___init__ := f_Near___init__, d_Near___init__ := (PySem.W.fnOf "__init__" "Near.__init__" (defArgs s_Near___init__) (defBody s_Near___init__) (defScope s_Near___init__) .none kV_Near___init__ dc_Near___init__ pm_Near___init__ an_Near___init__ cd_Near___init__ ct_Near___init__), f_Near_look := f_Near_look, d_Near_look := (PySem.W.fnOf "look" "Near.look" (defArgs s_Near_look) (defBody s_Near_look) (defScope s_Near_look) .none kV_Near_look dc_Near_look pm_Near_look an_Near_look cd_Near_look ct_Near_look), f_Near_put := f_Near_put, d_Near_put := (PySem.W.fnOf "put" "Near.put" (defArgs s_Near_put) (defBody s_Near_put) (defScope s_Near_put) .none kV_Near_put dc_Near_put pm_Near_put an_Near_put cd_Near_put ct_Near_put), f_Near_held := f_Near_held, d_Near_held := (PySem.W.fnOf "held" "Near.held" (defArgs s_Near_held) (defBody s_Near_held) (defScope s_Near_held) .none kV_Near_held dc_Near_held pm_Near_held an_Near_held cd_Near_held ct_Near_held), f_Near_touched := f_Near_touched, d_Near_touched := (PySem.W.fnOf "touched" "Near.touched" (defArgs s_Near_touched) (defBody s_Near_touched) (defScope s_Near_touched) .none kV_Near_touched dc_Near_touched pm_Near_touched an_Near_touched cd_Near_touched ct_Near_touched), f_Near_leave := f_Near_leave, d_Near_leave := (PySem.W.fnOf "leave" "Near.leave" (defArgs s_Near_leave) (defBody s_Near_leave) (defScope s_Near_leave) .none kV_Near_leave dc_Near_leave pm_Near_leave an_Near_leave cd_Near_leave ct_Near_leave), f_Near_write_back := f_Near_write_back, d_Near_write_back := (PySem.W.fnOf "write_back" "Near.write_back" (defArgs s_Near_write_back) (defBody s_Near_write_back) (defScope s_Near_write_back) .none kV_Near_write_back dc_Near_write_back pm_Near_write_back an_Near_write_back cd_Near_write_back ct_Near_write_back), f_depths := f_depths, d_depths := (PySem.W.fnOf "depths" "depths" (defArgs s_depths) (defBody s_depths) (defScope s_depths) .none kV_depths dc_depths pm_depths an_depths cd_depths ct_depths), f_missed_by := f_missed_by, d_missed_by := (PySem.W.fnOf "missed_by" "missed_by" (defArgs s_missed_by) (defBody s_missed_by) (defScope s_missed_by) .none kV_missed_by dc_missed_by pm_missed_by an_missed_by cd_missed_by ct_missed_by), f__law_cell_at := f__law_cell_at, d__law_cell_at := (PySem.W.fnOf "_law_cell_at" "_law_cell_at" (defArgs s__law_cell_at) (defBody s__law_cell_at) (defScope s__law_cell_at) .none kV__law_cell_at dc__law_cell_at pm__law_cell_at an__law_cell_at cd__law_cell_at ct__law_cell_at), f__law_whole := f__law_whole, d__law_whole := (PySem.W.fnOf "_law_whole" "_law_whole" (defArgs s__law_whole) (defBody s__law_whole) (defScope s__law_whole) .none kV__law_whole dc__law_whole pm__law_whole an__law_whole cd__law_whole ct__law_whole), f__law_mixed := f__law_mixed, d__law_mixed := (PySem.W.fnOf "_law_mixed" "_law_mixed" (defArgs s__law_mixed) (defBody s__law_mixed) (defScope s__law_mixed) .none kV__law_mixed dc__law_mixed pm__law_mixed an__law_mixed cd__law_mixed ct__law_mixed), f__law_size_by := f__law_size_by, d__law_size_by := (PySem.W.fnOf "_law_size_by" "_law_size_by" (defArgs s__law_size_by) (defBody s__law_size_by) (defScope s__law_size_by) .none kV__law_size_by dc__law_size_by pm__law_size_by an__law_size_by cd__law_size_by ct__law_size_by), f__law_touches_by := f__law_touches_by, d__law_touches_by := (PySem.W.fnOf "_law_touches_by" "_law_touches_by" (defArgs s__law_touches_by) (defBody s__law_touches_by) (defScope s__law_touches_by) .none kV__law_touches_by dc__law_touches_by pm__law_touches_by an__law_touches_by cd__law_touches_by ct__law_touches_by), f__law_step := f__law_step, d__law_step := (PySem.W.fnOf "_law_step" "_law_step" (defArgs s__law_step) (defBody s__law_step) (defScope s__law_step) .none kV__law_step dc__law_step pm__law_step an__law_step cd__law_step ct__law_step), f_law := f_law, d_law := (PySem.W.fnOf "law" "law" (defArgs s_law) (defBody s_law) (defScope s_law) .none kV_law dc_law pm_law an_law cd_law ct_law), a_RULES := a_RULES, C_LineError := C_LineError, C_BadBoxes := C_BadBoxes, C_BadShape := C_BadShape, C_NoBox := C_NoBox, C_Near := C_Near } := ⟨_, rfl⟩
  have T : Txt w K mg cs := by
    rw [hcs]
    exact { fn_within := ⟨fun_mk (st := s_within) l_within c_within k_within, (fun_mk (st := s_within) l_within c_within k_within).binds (ps := ["number", "low", "high"]) fun _ _ _ _ _ _ us hl => match us, hl with | [_, _, _], _ => rfl⟩, gl_within := PySem.W.mg_of X G a_within, fn_checked_boxes := ⟨fun_mk (st := s_checked_boxes) l_checked_boxes c_checked_boxes k_checked_boxes, (fun_mk (st := s_checked_boxes) l_checked_boxes c_checked_boxes k_checked_boxes).binds (ps := ["boxes"]) fun _ _ _ _ _ _ us hl => match us, hl with | [_], _ => rfl⟩, gl_checked_boxes := PySem.W.mg_of X G a_checked_boxes, fn_need_shape := ⟨fun_mk (st := s_need_shape) l_need_shape c_need_shape k_need_shape, (fun_mk (st := s_need_shape) l_need_shape c_need_shape k_need_shape).binds (ps := ["room", "width", "rule"]) fun _ _ _ _ _ _ us hl => match us, hl with | [_, _, _], _ => rfl⟩, gl_need_shape := PySem.W.mg_of X G a_need_shape, fn_Near___init__ := ⟨fun_mk (st := s_Near___init__) l_Near___init__ c_Near___init__ k_Near___init__, (fun_mk (st := s_Near___init__) l_Near___init__ c_Near___init__ k_Near___init__).binds (ps := ["self", "boxes", "room", "width", "rule"]) fun _ _ _ _ _ _ us hl => match us, hl with | [_, _, _, _, _], _ => rfl⟩, fn_Near_look := ⟨fun_mk (st := s_Near_look) l_Near_look c_Near_look k_Near_look, (fun_mk (st := s_Near_look) l_Near_look c_Near_look k_Near_look).binds (ps := ["self", "box"]) fun _ _ _ _ _ _ us hl => match us, hl with | [_, _], _ => rfl⟩, fn_Near_put := ⟨fun_mk (st := s_Near_put) l_Near_put c_Near_put k_Near_put, (fun_mk (st := s_Near_put) l_Near_put c_Near_put k_Near_put).binds (ps := ["self", "box", "number"]) fun _ _ _ _ _ _ us hl => match us, hl with | [_, _, _], _ => rfl⟩, fn_Near_held := ⟨fun_mk (st := s_Near_held) l_Near_held c_Near_held k_Near_held, (fun_mk (st := s_Near_held) l_Near_held c_Near_held k_Near_held).binds (ps := ["self"]) fun _ _ _ _ _ _ us hl => match us, hl with | [_], _ => rfl⟩, fn_Near_touched := ⟨fun_mk (st := s_Near_touched) l_Near_touched c_Near_touched k_Near_touched, (fun_mk (st := s_Near_touched) l_Near_touched c_Near_touched k_Near_touched).binds (ps := ["self", "box"]) fun _ _ _ _ _ _ us hl => match us, hl with | [_, _], _ => rfl⟩, fn_Near_leave := ⟨fun_mk (st := s_Near_leave) l_Near_leave c_Near_leave k_Near_leave, (fun_mk (st := s_Near_leave) l_Near_leave c_Near_leave k_Near_leave).binds (ps := ["self", "line"]) fun _ _ _ _ _ _ us hl => match us, hl with | [_, _], _ => rfl⟩, fn_Near_write_back := ⟨fun_mk (st := s_Near_write_back) l_Near_write_back c_Near_write_back k_Near_write_back, (fun_mk (st := s_Near_write_back) l_Near_write_back c_Near_write_back k_Near_write_back).binds (ps := ["self", "line"]) fun _ _ _ _ _ _ us hl => match us, hl with | [_, _], _ => rfl⟩, fn_depths := ⟨fun_mk (st := s_depths) l_depths c_depths k_depths, (fun_mk (st := s_depths) l_depths c_depths k_depths).binds (ps := ["touches", "width"]) fun _ _ _ _ _ _ us hl => match us, hl with | [_, _], _ => rfl⟩, gl_depths := PySem.W.mg_of X G a_depths, fn_missed_by := ⟨fun_mk (st := s_missed_by) l_missed_by c_missed_by k_missed_by, (fun_mk (st := s_missed_by) l_missed_by c_missed_by k_missed_by).binds (ps := ["told", "room"]) fun _ _ _ _ _ _ us hl => match us, hl with | [_, _], _ => rfl⟩, gl_missed_by := PySem.W.mg_of X G a_missed_by, fn__law_cell_at := ⟨fun_mk (st := s__law_cell_at) l__law_cell_at c__law_cell_at k__law_cell_at, (fun_mk (st := s__law_cell_at) l__law_cell_at c__law_cell_at k__law_cell_at).binds (ps := ["_law_script", "_law_k"]) fun _ _ _ _ _ _ us hl => match us, hl with | [_, _], _ => rfl⟩, gl__law_cell_at := PySem.W.mg_of X G a__law_cell_at, fn__law_whole := ⟨fun_mk (st := s__law_whole) l__law_whole c__law_whole k__law_whole, (fun_mk (st := s__law_whole) l__law_whole c__law_whole k__law_whole).binds (ps := ["_law_found"]) fun _ _ _ _ _ _ us hl => match us, hl with | [_], _ => rfl⟩, gl__law_whole := PySem.W.mg_of X G a__law_whole, fn__law_mixed := ⟨fun_mk (st := s__law_mixed) l__law_mixed c__law_mixed k__law_mixed, (fun_mk (st := s__law_mixed) l__law_mixed c__law_mixed k__law_mixed).binds (ps := ["_law_cell"]) fun _ _ _ _ _ _ us hl => match us, hl with | [_], _ => rfl⟩, gl__law_mixed := PySem.W.mg_of X G a__law_mixed, fn__law_size_by := ⟨fun_mk (st := s__law_size_by) l__law_size_by c__law_size_by k__law_size_by, (fun_mk (st := s__law_size_by) l__law_size_by c__law_size_by k__law_size_by).binds (ps := ["_law_cell"]) fun _ _ _ _ _ _ us hl => match us, hl with | [_], _ => rfl⟩, gl__law_size_by := PySem.W.mg_of X G a__law_size_by, fn__law_touches_by := ⟨fun_mk (st := s__law_touches_by) l__law_touches_by c__law_touches_by k__law_touches_by, (fun_mk (st := s__law_touches_by) l__law_touches_by c__law_touches_by k__law_touches_by).binds (ps := ["_law_cells", "_law_size"]) fun _ _ _ _ _ _ us hl => match us, hl with | [_, _], _ => rfl⟩, gl__law_touches_by := PySem.W.mg_of X G a__law_touches_by, fn__law_step := ⟨fun_mk (st := s__law_step) l__law_step c__law_step k__law_step, (fun_mk (st := s__law_step) l__law_step c__law_step k__law_step).binds (ps := ["_law_holder", "_law_touch"]) fun _ _ _ _ _ _ us hl => match us, hl with | [_, _], _ => rfl⟩, gl__law_step := PySem.W.mg_of X G a__law_step, fn_law := ⟨fun_mk (st := s_law) l_law c_law k_law, (fun_mk (st := s_law) l_law c_law k_law).binds (ps := ["_law_script"]) fun _ _ _ _ _ _ us hl => match us, hl with | [_], _ => rfl⟩, gl_law := PySem.W.mg_of X G a_law, no_isinstance := PySem.W.mg_none_of X G z_isinstance, no_int := PySem.W.mg_none_of X G z_int, no_bool := PySem.W.mg_none_of X G z_bool, no_len := PySem.W.mg_none_of X G z_len, no_list := PySem.W.mg_none_of X G z_list, no_str := PySem.W.mg_none_of X G z_str, no_range := PySem.W.mg_none_of X G z_range, gl_GREATEST := (by obtain ⟨t, e⟩ := v_GREATEST; exact ⟨t, PySem.W.mg_of X G e⟩), gl_MOST := (by obtain ⟨t, e⟩ := v_MOST; exact ⟨t, PySem.W.mg_of X G e⟩), gl_WIDEST := (by obtain ⟨t, e⟩ := v_WIDEST; exact ⟨t, PySem.W.mg_of X G e⟩), gl_RULES := PySem.W.mg_of X G v_RULES, tp_RULES := ⟨_, _, _, tl_RULES, rfl, rfl, tz_RULES, tv_RULES⟩, ex_LineError := ⟨PySem.W.mg_of X G g_LineError, xx_LineError, xk_LineError, xb_LineError, xt_LineError, xi_LineError, xs_LineError⟩, ex_BadBoxes := ⟨PySem.W.mg_of X G g_BadBoxes, xx_BadBoxes, xk_BadBoxes, xb_BadBoxes, xt_BadBoxes, xi_BadBoxes, xs_BadBoxes⟩, ex_BadShape := ⟨PySem.W.mg_of X G g_BadShape, xx_BadShape, xk_BadShape, xb_BadShape, xt_BadShape, xi_BadShape, xs_BadShape⟩, ex_NoBox := ⟨PySem.W.mg_of X G g_NoBox, xx_NoBox, xk_NoBox, xb_NoBox, xt_NoBox, xi_NoBox, xs_NoBox⟩, gl_Near := PySem.W.mg_of X G g_Near, cl_Near := ⟨ng_Near, nh_Near, no_Near, ns_Near⟩, mk_Near := ⟨nm_Near, a_Near___init__, i_Near___init__, nk_Near⟩, me_Near_look := ⟨a_Near_look, i_Near_look, k_Near_look⟩, me_Near_put := ⟨a_Near_put, i_Near_put, k_Near_put⟩, me_Near_held := ⟨a_Near_held, i_Near_held, k_Near_held⟩, me_Near_touched := ⟨a_Near_touched, i_Near_touched, k_Near_touched⟩, me_Near_leave := ⟨a_Near_leave, i_Near_leave, k_Near_leave⟩, me_Near_write_back := ⟨a_Near_write_back, i_Near_write_back, k_Near_write_back⟩, na_Near_far := na_Near_far, na_Near_room := na_Near_room, na_Near_width := na_Near_width, na_Near_rule := na_Near_rule, na_Near_order := na_Near_order, na_Near_near := na_Near_near, na_Near_written := na_Near_written, na_Near_found := na_Near_found, na_Near_missed := na_Near_missed, na_Near_back := na_Near_back }
  refine ⟨cs, cs.d_law, ?_, fun base KB GB => ?_⟩
  · rw [hcs]
    exact fun s v => .of_eq rfl
  have o__law_size_by := ok__law_size_by (P := l.prog) (w := w) (base := base) T 
  have o__law_cell_at := ok__law_cell_at (P := l.prog) (w := w) (base := base) T 
  have o__law_mixed := ok__law_mixed (P := l.prog) (w := w) (base := base) T 
  have o__law_touches_by := ok__law_touches_by (P := l.prog) (w := w) (base := base) T o__law_mixed
  have o_depths := ok_depths (P := l.prog) (w := w) (base := base) T 
  have o_within := ok_within (P := l.prog) (w := w) (base := base) T 
  have o_checked_boxes := ok_checked_boxes (P := l.prog) (w := w) (base := base) T o_within
  have o_need_shape := ok_need_shape (P := l.prog) (w := w) (base := base) T o_within
  have o_Near___init__ := ok_Near___init__ (P := l.prog) (w := w) (base := base) T o_checked_boxes o_need_shape
  have o_missed_by := ok_missed_by (P := l.prog) (w := w) (base := base) T 
  have o_Near_write_back := ok_Near_write_back (P := l.prog) (w := w) (base := base) T 
  have o_Near_leave := ok_Near_leave (P := l.prog) (w := w) (base := base) T o_Near_write_back
  have o_Near_touched := ok_Near_touched (P := l.prog) (w := w) (base := base) T o_within o_Near_leave
  have o_Near_look := ok_Near_look (P := l.prog) (w := w) (base := base) T o_Near_touched
  have o_Near_put := ok_Near_put (P := l.prog) (w := w) (base := base) T o_Near_touched
  have o__law_step := ok__law_step (P := l.prog) (w := w) (base := base) T o_Near_look o_Near_put
  have o_Near_held := ok_Near_held (P := l.prog) (w := w) (base := base) T 
  have o__law_whole := ok__law_whole (P := l.prog) (w := w) (base := base) T 
  have o_law := ok_law (P := l.prog) (w := w) (base := base) T o__law_size_by o__law_cell_at o__law_touches_by o_depths o_Near___init__ o_missed_by o__law_step o_Near_held o__law_whole o__law_mixed
  have ef : cs.f_law = fa := by
    rw [hcs]
    exact e
  rw [← ef]
  exact o_law.ok
theorem walk {l : PySem.W.OpenLaw} {q : Program} {loose : List Str} {XP : (Str → Option Value) → Heap → Prop} {YP : World → Heap → Prop} {d : DefRec} {K : Params → PySem.W.Frag} (hn : l.most = some 63) (hdf : d.params.defaults = [])
    (hY : ∀ (w : World) (h : Heap), YP w h → (K w.params).In h)
    (F : ∀ (w : World) (mg : Str → Option Value) (fa : Addr) (h : Heap), (K w.params).In h → h.Ns mainGlobals mg → mg d.name = some (.ref fa) →
      ∃ (cs : Cs) (fd : FuncData), (∀ (s : Shared) (u : Value), BindsTo s fd ⟨[u], []⟩ [("_law_script", u)]) ∧ ∀ base : Heap, (K w.params).In base → base.Ns mainGlobals mg → FnOk l.prog w (K w.params) mg base CX0 6 fa fd ["_law_script"] (sp_law (K w.params) cs)) :
    PySem.W.WalkO q loose XP YP l.row.toRowW d [] (fun f vs => PySem.call f vs) :=
  L2.walk_of (n := 63) (k := 6) (x := "_law_script") (CX := fun _ => CX0) (sp := fun w => spEnd (K w.params)) hn (by decide) hdf ⟨rfl, by decide, by decide⟩ hY (fun w mg fa h KX G hm => by
    obtain ⟨cs, fd, B, O⟩ := F w mg fa h KX G hm
    exact ⟨fd, B, fun base KB GB => (O base KB GB).imp fun vs H Q E z => spEnd_law cs z⟩) (fun _ _ a ns hl _ hS => ⟨a, ns, rfl, hS, hl, fun _ => rfl⟩) fun _ _ _ _ _ z => z
end NL
open PySem PySem.W PyProof.Rows
set_option pp.maxSteps 200 in
set_option maxRecDepth 100000 in
set_option maxHeartbeats 0 in
theorem PySem.Challenge.cw_nearlines_k12_whole_more_room_holds : PySem.Challenge.rw_nearlines_k12_whole_more_room.Holds := by
  w_on; o_law; k_head; (case hw => w_witness2)
  k_fill
  refine NL.walk (l := PySem.Challenge.rw_nearlines_k12_whole_more_room) rfl rfl (fun w h Y => PySem.W.kIn_of Y) ?F
  case F =>
    intro w mg fa h KX G hmg
    refine' NL.all_mk KX G hmg ?a_within ?l_within ?c_within ?k_within ?a_checked_boxes ?l_checked_boxes ?c_checked_boxes ?k_checked_boxes ?a_need_shape ?l_need_shape ?c_need_shape ?k_need_shape ?a_Near___init__ ?i_Near___init__ ?l_Near___init__ ?c_Near___init__ ?k_Near___init__ ?a_Near_look ?i_Near_look ?l_Near_look ?c_Near_look ?k_Near_look ?a_Near_put ?i_Near_put ?l_Near_put ?c_Near_put ?k_Near_put ?a_Near_held ?i_Near_held ?l_Near_held ?c_Near_held ?k_Near_held ?a_Near_touched ?i_Near_touched ?l_Near_touched ?c_Near_touched ?k_Near_touched ?a_Near_leave ?i_Near_leave ?l_Near_leave ?c_Near_leave ?k_Near_leave ?a_Near_write_back ?i_Near_write_back ?l_Near_write_back ?c_Near_write_back ?k_Near_write_back ?a_depths ?l_depths ?c_depths ?k_depths ?a_missed_by ?l_missed_by ?c_missed_by ?k_missed_by ?a__law_cell_at ?l__law_cell_at ?c__law_cell_at ?k__law_cell_at ?a__law_whole ?l__law_whole ?c__law_whole ?k__law_whole ?a__law_mixed ?l__law_mixed ?c__law_mixed ?k__law_mixed ?a__law_size_by ?l__law_size_by ?c__law_size_by ?k__law_size_by ?a__law_touches_by ?l__law_touches_by ?c__law_touches_by ?k__law_touches_by ?a__law_step ?l__law_step ?c__law_step ?k__law_step ?a_law ?l_law ?c_law ?k_law ?z_isinstance ?z_int ?z_bool ?z_len ?z_list ?z_str ?z_range ?v_GREATEST ?v_MOST ?v_WIDEST ?v_RULES ?tl_RULES ?tz_RULES ?tv_RULES ?g_LineError ?xx_LineError ?xk_LineError ?xb_LineError ?xt_LineError ?xi_LineError ?xs_LineError ?g_BadBoxes ?xx_BadBoxes ?xk_BadBoxes ?xb_BadBoxes ?xt_BadBoxes ?xi_BadBoxes ?xs_BadBoxes ?g_BadShape ?xx_BadShape ?xk_BadShape ?xb_BadShape ?xt_BadShape ?xi_BadShape ?xs_BadShape ?g_NoBox ?xx_NoBox ?xk_NoBox ?xb_NoBox ?xt_NoBox ?xi_NoBox ?xs_NoBox ?g_Near ?ng_Near ?nh_Near ?no_Near ?ns_Near ?nm_Near ?nk_Near ?na_Near_far ?na_Near_room ?na_Near_width ?na_Near_rule ?na_Near_order ?na_Near_near ?na_Near_written ?na_Near_found ?na_Near_missed ?na_Near_back
    (case g_LineError => k_is)
    (case g_BadBoxes => k_is)
    (case g_BadShape => k_is)
    (case g_NoBox => k_is)
    (case g_Near => k_is)
    (case a_within => k_is)
    (case l_within => k_is)
    (case c_within => k_is)
    (case k_within => k_is)
    (case a_checked_boxes => k_is)
    (case l_checked_boxes => k_is)
    (case c_checked_boxes => k_is)
    (case k_checked_boxes => k_is)
    (case a_need_shape => k_is)
    (case l_need_shape => k_is)
    (case c_need_shape => k_is)
    (case k_need_shape => k_is)
    (case a_Near___init__ => k_is)
    (case i_Near___init__ => k_is)
    (case l_Near___init__ => k_is)
    (case c_Near___init__ => k_is)
    (case k_Near___init__ => k_is)
    (case a_Near_look => k_is)
    (case i_Near_look => k_is)
    (case l_Near_look => k_is)
    (case c_Near_look => k_is)
    (case k_Near_look => k_is)
    (case a_Near_put => k_is)
    (case i_Near_put => k_is)
    (case l_Near_put => k_is)
    (case c_Near_put => k_is)
    (case k_Near_put => k_is)
    (case a_Near_held => k_is)
    (case i_Near_held => k_is)
    (case l_Near_held => k_is)
    (case c_Near_held => k_is)
    (case k_Near_held => k_is)
    (case a_Near_touched => k_is)
    (case i_Near_touched => k_is)
    (case l_Near_touched => k_is)
    (case c_Near_touched => k_is)
    (case k_Near_touched => k_is)
    (case a_Near_leave => k_is)
    (case i_Near_leave => k_is)
    (case l_Near_leave => k_is)
    (case c_Near_leave => k_is)
    (case k_Near_leave => k_is)
    (case a_Near_write_back => k_is)
    (case i_Near_write_back => k_is)
    (case l_Near_write_back => k_is)
    (case c_Near_write_back => k_is)
    (case k_Near_write_back => k_is)
    (case a_depths => k_is)
    (case l_depths => k_is)
    (case c_depths => k_is)
    (case k_depths => k_is)
    (case a_missed_by => k_is)
    (case l_missed_by => k_is)
    (case c_missed_by => k_is)
    (case k_missed_by => k_is)
    (case a__law_cell_at => k_is)
    (case l__law_cell_at => k_is)
    (case c__law_cell_at => k_is)
    (case k__law_cell_at => k_is)
    (case a__law_whole => k_is)
    (case l__law_whole => k_is)
    (case c__law_whole => k_is)
    (case k__law_whole => k_is)
    (case a__law_mixed => k_is)
    (case l__law_mixed => k_is)
    (case c__law_mixed => k_is)
    (case k__law_mixed => k_is)
    (case a__law_size_by => k_is)
    (case l__law_size_by => k_is)
    (case c__law_size_by => k_is)
    (case k__law_size_by => k_is)
    (case a__law_touches_by => k_is)
    (case l__law_touches_by => k_is)
    (case c__law_touches_by => k_is)
    (case k__law_touches_by => k_is)
    (case a__law_step => k_is)
    (case l__law_step => k_is)
    (case c__law_step => k_is)
    (case k__law_step => k_is)
    (case a_law => k_is)
    (case l_law => k_is)
    (case c_law => k_is)
    (case k_law => k_is)
    (case z_isinstance => k_is)
    (case z_int => k_is)
    (case z_bool => k_is)
    (case z_len => k_is)
    (case z_list => k_is)
    (case z_str => k_is)
    (case z_range => k_is)
    (case v_GREATEST => exact ⟨_, by k_is⟩)
    (case v_MOST => exact ⟨_, by k_is⟩)
    (case v_WIDEST => exact ⟨_, by k_is⟩)
    (case v_RULES => k_is)
    (case tl_RULES => k_is)
    (case tz_RULES => decide)
    (case tv_RULES => exact (.cons ⟨_, rfl⟩ (.cons ⟨_, rfl⟩ .nil)))
    (case xx_LineError => k_exc)
    (case xk_LineError => k_is)
    (case xb_LineError => k_is)
    (case xt_LineError => k_is)
    (case xi_LineError => k_is)
    (case xs_LineError => first | k_is | rfl)
    (case xx_BadBoxes => k_exc)
    (case xk_BadBoxes => k_is)
    (case xb_BadBoxes => k_is)
    (case xt_BadBoxes => k_is)
    (case xi_BadBoxes => k_is)
    (case xs_BadBoxes => first | k_is | rfl)
    (case xx_BadShape => k_exc)
    (case xk_BadShape => k_is)
    (case xb_BadShape => k_is)
    (case xt_BadShape => k_is)
    (case xi_BadShape => k_is)
    (case xs_BadShape => first | k_is | rfl)
    (case xx_NoBox => k_exc)
    (case xk_NoBox => k_is)
    (case xb_NoBox => k_is)
    (case xt_NoBox => k_is)
    (case xi_NoBox => k_is)
    (case xs_NoBox => first | k_is | rfl)
    (case ng_Near => k_is)
    (case nh_Near => k_is)
    (case no_Near => k_is)
    (case ns_Near => k_is)
    (case nm_Near => k_is)
    (case nk_Near => k_is)
    (case na_Near_far => k_is)
    (case na_Near_room => k_is)
    (case na_Near_width => k_is)
    (case na_Near_rule => k_is)
    (case na_Near_order => k_is)
    (case na_Near_near => k_is)
    (case na_Near_written => k_is)
    (case na_Near_found => k_is)
    (case na_Near_missed => k_is)
    (case na_Near_back => k_is)
#print axioms PySem.Challenge.cw_nearlines_k12_whole_more_room_holds
