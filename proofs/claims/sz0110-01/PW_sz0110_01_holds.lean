import PyProof.Rows.All
import Wide.All
import OpenK.AllK
import Wide.FinOn
import PySem.Challenge.RW_sz0110_01
set_option Elab.async false
set_option maxRecDepth 100000
set_option maxHeartbeats 8000000
set_option linter.all false
set_option compiler.extract_closed false
section
open PySem PySem.W PyProof.Rows
namespace Mine
theorem rowSaid : PySem.Challenge.rw_sz0110_01.row.wellSaid = true := by
  unfold OpenRow.wellSaid
  repeat' with_reducible refine look_both ?_ ?_
  · unfold OpenRow.partSaid
    repeat' with_reducible refine look_both ?_ ?_
    · unfold looksOpen
      repeat' with_reducible refine look_both ?_ ?_
      all_goals decide +kernel
    all_goals decide +kernel
  all_goals decide +kernel
theorem said : PySem.Challenge.rw_sz0110_01.wellSaid = true := by
  unfold OpenLaw.wellSaid
  repeat' with_reducible refine look_both ?_ ?_
  · exact rowSaid
  all_goals decide +kernel
local macro_rules | `(({ $fs:structInstField,* } : $_)) => if fs.getElems.size == 6 then Lean.Macro.throwError "at once" else Lean.Macro.throwUnsupported
local macro_rules | `(tactic| decide +kernel) => `(tactic| with_reducible exact rowSaid)
open_top hd for PySem.Challenge.rw_sz0110_01.row
end Mine
end
section
open PySem PySem.W PySem.Spec PySem.Calls PyProof.Rows
namespace Mine
/-- what an exception does, and how many tokens were drawn, need not be known -/
theorem gen_et {α : Type} {M : Model} {A : Around} {t : Sem α} {Q : α → Shared → Prop} {E : Value → Shared → Prop} {h : Heap} {g d tk os} (k : ∀ (E' : Value → Shared → Prop) (n : Nat), wpAny M A t Q E' { heap := h, gens := g, drawn := d, toks := n, os := os }) :
    wpAny M A t Q E { heap := h, gens := g, drawn := d, toks := tk, os := os } := k E tk
theorem gen_e {α : Type} {M : Model} {A : Around} {t : Sem α} {Q : α → Shared → Prop} {E : Value → Shared → Prop} {s : Shared} (k : ∀ E' : Value → Shared → Prop, wpAny M A t Q E' s) : wpAny M A t Q E s := k E
theorem all2 {α : Type} {P : α → Prop} {a b : α} (h1 : P a) (h2 : P b) : ∀ q ∈ [a, b], P q := by
  intro q hq
  rcases List.mem_cons.mp hq with e | hq
  · exact e ▸ h1
  · exact List.mem_singleton.mp hq ▸ h2
theorem all3 {α : Type} {P : α → Prop} {a b c : α} (h1 : P a) (h2 : P b) (h3 : P c) : ∀ q ∈ [a, b, c], P q := by
  intro q hq
  rcases List.mem_cons.mp hq with e | hq
  · exact e ▸ h1
  · exact all2 h2 h3 q hq
theorem sub2 {α : Type} {a b : α} {l : List α} (h1 : a ∈ l) (h2 : b ∈ l) : ∀ q ∈ [a, b], q ∈ l := all2 h1 h2
theorem sub3 {α : Type} {a b c : α} {l : List α} (h1 : a ∈ l) (h2 : b ∈ l) (h3 : c ∈ l) : ∀ q ∈ [a, b, c], q ∈ l := all3 h1 h2 h3
theorem sub5 {α : Type} {a b c d e : α} {l : List α} (h1 : a ∈ l) (h2 : b ∈ l) (h3 : c ∈ l) (h4 : d ∈ l) (h5 : e ∈ l) : ∀ q ∈ [a, b, c, d, e], q ∈ l := by
  intro q hq
  rcases List.mem_cons.mp hq with e | hq
  · exact e ▸ h1
  rcases List.mem_cons.mp hq with e | hq
  · exact e ▸ h2
  · exact all3 h3 h4 h5 q hq

abbrev Sub (h h' : Heap) : Prop := ∀ b o, h.get? b = some o → h'.get? b = some o

abbrev PR : Program := PySem.Challenge.rw_sz0110_01.row.prog

/-- what a call of the def at f, upon these arguments, hands back: it changes nothing that stood -/
noncomputable def Asks (lv : Nat) (w : World) (f : Addr) (args : List Value) (s : Shared) (Post : Value → Heap → Prop) : Prop :=
  ∀ (dp un : Nat) (gd : Option (List Code)) (cn : Str) (cs : Scope) (a : Addr) (ccd : Value) (cl : List (Str × Addr)) (outer : List Env) (A₀ : Around) (base h₀ : Heap) (L : Addr) (m : Str → Option Value)
    (mean : ExcName → Option Value) (mg mb : Str → Option Value) (Q E : Value → Shared → Prop),
    Below A₀ base outer h₀ → Fr h₀ L s.heap m → (hd.heap_1 w.params).In h₀ → Top hd.view_1 (looseW hd.view_1 [Str.ofString "CONFED_KINDS"]) mean mg mb h₀ → cs.kind = .function →
    dp + lv < recursionLimit → un + 8 * lv < cLine →
    (∀ r h' tk', Sub s.heap h' → Post r h' → Q r { s with heap := h', toks := tk' }) →
    wpAny (model PySem.Challenge.rw_sz0110_01.row.prog w) (ktrTop dp un gd cn cs L a ccd cl outer) (call (.ref f) args) Q E s

theorem gsub_nil {H g : Heap} (h : GSub H g (([] : List (Addr × Obj)).map (·.1))) : Sub H g := fun b o e => h b o e (by simp)

end Mine
end
section
open PySem PySem.W PySem.Spec PySem.Calls PyProof.Rows
namespace Mine

/-- how a turn of a loop over a tuple that stood ahead of the frame ends -/
noncomputable def TEnd (h₀ : Heap) (L I : Addr) (io : Obj) (Jn : (Str → Option Value) → List (Addr × Obj) → Prop) (s : Shared) (Q : Flow → Shared → Prop) (f : Flow) (s₂ : Shared) : Prop :=
  match f with
  | .ret v => Q (.ret v) s₂
  | .brk => Q .next s₂
  | _ => ∃ h' tk m' news', s₂ = { s with heap := h', toks := tk } ∧ Fr h₀ L h' m' ∧ News h₀ L h' ((I, io) :: news') ∧ (∀ q ∈ news', q.1 ≠ I) ∧ Jn m' news'

section
variable {prog : Program} {w : World} {A : Around} {E : Value → Shared → Prop} {s : Shared} {env : Env} {h₀ : Heap} {target : Expr} {body : List Stmt} {Q : Flow → Shared → Prop} {m : Str → Option Value} {news : List (Addr × Obj)}

theorem iter_baseTup {p : Addr} {vs : List Value} (hh : A.handled = none) (ht : IsTup h₀ p vs.toArray) (F : Fr h₀ env.locals s.heap m) (N : News h₀ env.locals s.heap news)
    (J : Nat → (Str → Option Value) → List (Addr × Obj) → Prop) (h0 : J 0 m news)
    (step : ∀ I io i v m₁ news₁ h₁ tk₁, io.cls = .type "tuple_iterator" → vs[i]? = some v → J i m₁ news₁ → (∀ q ∈ news₁, q.1 ≠ I) → Fr h₀ env.locals h₁ m₁ → News h₀ env.locals h₁ ((I, io) :: news₁) →
      wpAny (model prog w) A (assign target env v) (fun _ s₃ => wpAny (model prog w) A (execs body env) (TEnd h₀ env.locals I io (J (i + 1)) s Q) E s₃) E { s with heap := h₁, toks := tk₁ })
    (done : ∀ h' tk m' news', Fr h₀ env.locals h' m' → News h₀ env.locals h' news' → J vs.length m' news' → Q .next { s with heap := h', toks := tk }) :
    wpAny (model prog w) A (pyIter (.ref p)) (fun it s₂ => TurnsAt prog w A h₀ env target body Q E it s₂) E s := by
  have hls : s.heap.IsTuple p vs.toArray := Heap.IsTuple.at ht fun o e => F.keep p o e
  obtain ⟨ol, hol, _⟩ := id ht
  have hlt : p < h₀.objs.size := Heap.lt_size hol
  have hne : p ≠ s.heap.objs.size := Nat.ne_of_lt (Nat.lt_trans (Nat.lt_of_lt_of_le hlt F.above) F.ns.lt)
  have hnone : h₀.get? s.heap.objs.size = none := Heap.get?_none_of_le (Nat.le_of_lt (Nat.lt_of_le_of_lt F.above F.ns.lt))
  refine wpAny_pyIter_tuple hls ?_
  refine ⟨s.heap.objs.size, [s.heap.objs.size, p], [s.heap.objs.size], vs.toArray.size, _, _, _, m, news, J, rfl,
    KTurns.ofWalks (Walks.tuple hh s.heap.objs.size p hne vs.toArray) (fun i v s Q E st q => letGo_tupleiter st.1 q), ?_, ?_, ?_,
    ⟨⟨_, Heap.get?_push_size _ rfl, rfl, rfl⟩, hls.at fun o e => Heap.get?_push_of_some _ e⟩, F.push _, fun q hq => ⟨Heap.get?_push_of_some _ (N q hq).1, (N q hq).2⟩, h0, ?_, ?_⟩
  · intro hm
    rcases List.mem_cons.mp hm with e | hm
    · exact absurd F.ns.lt (e ▸ Nat.lt_irrefl _)
    · exact absurd (Nat.lt_of_lt_of_le hlt F.above) ((List.mem_singleton.mp hm) ▸ Nat.lt_irrefl _)
  · intro b hb
    rw [List.mem_singleton.mp hb]
    exact hnone
  · intro q hq hI
    exact absurd (Heap.lt_size (N q hq).1) ((List.mem_singleton.mp hI) ▸ Nat.lt_irrefl _)
  · intro i v m₁ news₁ h₁ tk₁ own hi hP hJ hoff hown hget hall hst F₁ N₁
    obtain ⟨io, hio, hic, _⟩ := hst.1
    have hv : vs[i]? = some v := by
      have hP' : vs.toArray[i]? = some v := hP
      simpa using hP'
    have hnews : ∀ q ∈ news₁, q.1 ≠ s.heap.objs.size := fun q hq e => hoff q hq (by rw [e]; exact List.mem_singleton.mpr rfl)
    have NI : News h₀ env.locals h₁ ((s.heap.objs.size, io) :: news₁) := by
      intro q hq
      rcases List.mem_cons.mp hq with e | hq
      · rw [e]
        exact N₁ _ (List.mem_append_left _ (hall s.heap.objs.size (List.mem_cons_self ..) hnone io hio))
      · exact N₁ _ (List.mem_append_right _ hq)
    refine wpAny_mono (step s.heap.objs.size io i v m₁ news₁ h₁ tk₁ hic hv hJ hnews F₁ NI) (fun _ s₂ h₂ => wpAny_mono h₂ (fun f s₃ p' => ?_) fun _ _ e => e) fun _ _ e => e
    have key : (∃ h' tk m' news', s₃ = { s with heap := h', toks := tk } ∧ Fr h₀ env.locals h' m' ∧ News h₀ env.locals h' ((s.heap.objs.size, io) :: news') ∧ (∀ q ∈ news', q.1 ≠ s.heap.objs.size) ∧ J (i + 1) m' news') →
        LoopStepU h₀ env.locals [s.heap.objs.size] own (J (i + 1)) { s with heap := h₁, toks := tk₁ } .next s₃ := by
      rintro ⟨h', tk, m', news', rfl, F', N', hn', hJ'⟩
      refine ⟨rfl, h', tk, m', news', rfl, F', ?_, ?_, hJ'⟩
      · intro q hq
        rcases List.mem_append.mp hq with hq | hq
        · have hf := hown q hq
          have hg := hget q hq
          rcases List.mem_cons.mp hf with e | e
          · have : q = (s.heap.objs.size, io) := by
              obtain ⟨qa, qo⟩ := q
              have e' : qa = s.heap.objs.size := e
              subst e'
              have : some qo = some io := hg.symm.trans hio
              cases this
              rfl
            rw [this]
            exact N' _ (List.mem_cons_self ..)
          · have e' : q.1 = p := List.mem_singleton.mp e
            have hz : h₀.get? q.1 = none := (N₁ q (List.mem_append_left _ hq)).2.2
            rw [e', hol] at hz
            cases hz
        · exact N' _ (List.mem_cons_of_mem _ hq)
      · intro q hq hI
        exact hn' q hq (List.mem_singleton.mp hI)
    cases f with
    | ret v => exact p'
    | brk => exact p'
    | next => exact key p'
    | cont => exact key p'
  · intro h' tk m' news' F' N' _ hJ
    have : vs.toArray.size = vs.length := by simp
    exact done h' tk m' news' F' N' (this ▸ hJ)
end

/-- a tuple, as the machine makes it -/
noncomputable def Tup (h : Heap) (a : Addr) (vs : List Value) : Prop := ∃ n, h.get? a = some { cls := .type "tuple", data := .seq vs.toArray n }
theorem Tup.keeps {h h' : Heap} {a vs} (x : Tup h a vs) (k : Sub h h') : Tup h' a vs := let ⟨n, e⟩ := x; ⟨n, k _ _ e⟩
theorem Tup.isTup {h : Heap} {a vs} (x : Tup h a vs) : IsTup h a vs.toArray := let ⟨n, e⟩ := x; ⟨_, e, rfl, n, rfl⟩
/-- a tuple of ints -/
noncomputable def TupI (h : Heap) (a : Addr) (ns : List Int) : Prop := ∃ ws, Tup h a ws ∧ IntsAre ws ns
theorem TupI.keeps {h h' : Heap} {a ns} (x : TupI h a ns) (k : Sub h h') : TupI h' a ns := let ⟨ws, t, i⟩ := x; ⟨ws, t.keeps k, i⟩
/-- a path's segments: tuples of a kind and a tuple of numbers -/
noncomputable def SegAt (h : Heap) (v : Value) (g : Int × List Int) : Prop := ∃ a t b, v = .ref a ∧ Tup h a [.int g.1 t, .ref b] ∧ TupI h b g.2
inductive SegsAt (h : Heap) : List Value → List (Int × List Int) → Prop
  | nil : SegsAt h [] []
  | cons {v vs g gs} : SegAt h v g → SegsAt h vs gs → SegsAt h (v :: vs) (g :: gs)
noncomputable def PathAt (h : Heap) (p : Addr) (P : List (Int × List Int)) : Prop := ∃ vs, Tup h p vs ∧ SegsAt h vs P
theorem SegAt.keeps {h h' : Heap} {v g} (x : SegAt h v g) (k : Sub h h') : SegAt h' v g := by
  obtain ⟨a, t, b, e, h1, h2⟩ := x
  exact ⟨a, t, b, e, h1.keeps k, h2.keeps k⟩
theorem SegsAt.keeps {h h' : Heap} {vs gs} (x : SegsAt h vs gs) (k : Sub h h') : SegsAt h' vs gs := by
  induction x with
  | nil => exact .nil
  | cons a _ ih => exact .cons (a.keeps k) ih
theorem PathAt.keeps {h h' : Heap} {p P} (x : PathAt h p P) (k : Sub h h') : PathAt h' p P := by
  obtain ⟨vs, a, b⟩ := x
  exact ⟨vs, a.keeps k, b.keeps k⟩
theorem SegsAt.length {h : Heap} {vs gs} (x : SegsAt h vs gs) : vs.length = gs.length := by
  induction x with
  | nil => rfl
  | cons _ _ ih => simp [ih]
theorem SegsAt.get {h : Heap} {vs gs} (x : SegsAt h vs gs) {i : Nat} {v : Value} (e : vs[i]? = some v) : ∃ g, gs[i]? = some g ∧ SegAt h v g := by
  induction x generalizing i with
  | nil => simp at e
  | cons a _ ih =>
    cases i with
    | zero => simp at e; subst e; exact ⟨_, rfl, a⟩
    | succ i => simp at e; exact ih e

section
variable {prog : Program} {w : World} {A : Around} {E : Value → Shared → Prop} {s : Shared} {h₀ : Heap} {L l b : Addr} {m : Str → Option Value} {pre post : List (Addr × Obj)} {its : List Value} {n : Nat} {vs : List Value}
theorem ext_base {Q : Value → Shared → Prop} (F : Fr h₀ L s.heap m) (N : News h₀ L s.heap (pre ++ (l, W.listOf its.toArray n) :: post)) (a : ∀ p ∈ pre, p.1 ≠ l) (c : ∀ p ∈ post, p.1 ≠ l) (hb : Tup h₀ b vs)
    (hz : its.length + vs.length ≤ sizeLine)
    (h : ∀ h' n', Fr h₀ L h' m → News h₀ L h' (pre ++ (l, W.listOf (its ++ vs).toArray n') :: post) → Q .none { s with heap := h' }) : wpAny (model prog w) A (call (.builtin "list.extend") [.ref l, .ref b]) Q E s := by
  have z := N (l, W.listOf its.toArray n) (List.mem_append.mpr (.inr (.head _)))
  obtain ⟨k, hb⟩ := hb
  have q := PySem.IsL.update (N (l, W.listOf its.toArray n) (List.mem_append.mpr (.inr (.head _)))).1 (fun x => x ++ vs.toArray)
  have e : its.toArray ++ vs.toArray = (its ++ vs).toArray := by simp
  have hd : ¬(!its.toArray.isEmpty && Builtin.List.listTooLong (its.toArray.size + vs.toArray.size)) = true := by
    unfold Builtin.List.listTooLong
    simp only [List.size_toArray, Bool.and_eq_true, decide_eq_true_eq, not_and]
    omega
  rw [e] at q
  exact call_meets PySem.F.slot_list_extend ⟨_, z.1, rfl⟩ PySem.F.entry_list_extend (PySem.F.args_list_extend_2 _ _) (PySem.AutoSeq1.list_extend_list_tuple_0 l its.toArray n b vs.toArray k hd (by simp only [List.size_toArray]; omega) (by simp only [List.size_toArray]; omega)) ⟨z.1, F.keep _ _ hb, h _ _ (F.change (Heap.SameBut.update ..) z.2.1 z.2.2) (news_set N a c (Heap.SameBut.update ..) q)⟩
end

theorem sub_end {H g h : Heap} {L : Addr} {m : Str → Option Value} (GS : Sub H g) (F : Fr g L h m) : Sub H h := fun b o e => F.keep b o (GS b o e)
end Mine
namespace Mine
theorem canon2 {m' m₀ : Str → Option Value} {a b : Str} (h : ∀ y, y ≠ a → y ≠ b → m' y = m₀ y) :
    ∃ o1 o2, m' = fun y => if y = a then o1 else if y = b then o2 else m₀ y :=
  ⟨m' a, m' b, by
    funext y
    by_cases h1 : y = a
    · simp [h1]
    · by_cases h2 : y = b
      · subst h2; simp [h1]
      · simp [h1, h2, h y h1 h2]⟩
theorem canon3 {m' m₀ : Str → Option Value} {c a b : Str} {v : Value} (h : ∀ y, y ≠ c → y ≠ a → y ≠ b → m' y = m₀ y) (hc : m' c = some v) :
    ∃ o1 o2, m' = fun y => if y = c then some v else if y = a then o1 else if y = b then o2 else m₀ y :=
  ⟨m' a, m' b, by
    funext y
    by_cases h0 : y = c
    · simp [h0, hc]
    · by_cases h1 : y = a
      · subst h1; simp [h0]
      · by_cases h2 : y = b
        · subst h2; simp [h0, h1]
        · simp [h0, h1, h2, h y h0 h1 h2]⟩
end Mine
namespace Mine
theorem canonI {m' m₀ : Str → Option Value} {c a b : Str} {x x' : Int} {t : Tok} (h : ∀ y, y ≠ c → y ≠ a → y ≠ b → m' y = m₀ y) (hc : m' c = some (.int x' t)) (e : x' = x) :
    ∃ t o1 o2, m' = fun y => if y = c then some (Value.int x t) else if y = a then o1 else if y = b then o2 else m₀ y := by
  subst e
  exact ⟨t, canon3 h hc⟩
end Mine

namespace Mine
theorem confed_tup {w : World} {g : Heap} (X : (hd.heap_1 w.params).In g) : ∃ a b, Tup g 22 [.int 3 a, .int 4 b] :=
  ⟨_, _, _, X 22 _ rfl⟩
theorem inside_tup {w : World} {g : Heap} (X : (hd.heap_1 w.params).In g) : ∃ a b, Tup g 77 [.str (Str.ofString "ibgp") a, .str (Str.ofString "client") b] :=
  ⟨_, _, _, X 77 _ rfl⟩
theorem alone_tup {w : World} {g : Heap} (X : (hd.heap_1 w.params).In g) : ∃ a b c, Tup g 106 [.str (Str.ofString "local_pref") a, .str (Str.ofString "originator") b, .str (Str.ofString "clusters") c] :=
  ⟨_, _, _, _, X 106 _ rfl⟩
theorem ints2 {x y : Int} {a b : Tok} : IntsAre [.int x a, .int y b] [x, y] := IntsAre.cons _ _ (IntsAre.cons _ _ IntsAre.nil)
end Mine
namespace Mine
theorem int_is {x y : Int} {t : Tok} (e : x = y) : ∃ t', Value.int x t = Value.int y t' := ⟨t, by rw [e]⟩
theorem drop_at {α : Type} {P : List α} {i : Nat} {g : α} (h : P[i]? = some g) : P.drop i = g :: P.drop (i + 1) := by
  obtain ⟨hlt, e⟩ := List.getElem?_eq_some_iff.mp h
  rw [List.drop_eq_getElem_cons hlt, e]
end Mine
end
section
open PySem PySem.W PySem.Spec PySem.Calls PyProof.Rows
namespace Mine

noncomputable def Halt (p : Prop) : Prop := p
theorem Halt.mk {p : Prop} (h : Halt p) : p := h
theorem Halt.go {p : Prop} (h : p) : Halt p := h

noncomputable def Frozen (tl : List (Addr × Obj)) (h : Heap) : Prop := ∀ p ∈ tl, h.get? p.1 = some p.2
/-- what holds of every heap that has the base and the frozen objects -/
noncomputable def Seen (g : Heap) (tl : List (Addr × Obj)) (C : Heap → Prop) : Prop := ∀ h, Sub g h → Frozen tl h → C h
theorem Seen.base {g : Heap} {tl} {C : Heap → Prop} (h : ∀ h', Sub g h' → C h') : Seen g tl C := fun h' k _ => h h' k
theorem Seen.at {g h : Heap} {tl c : List (Addr × Obj)} {L : Addr} {m : Str → Option Value} {C : Heap → Prop} (x : Seen g tl C) (F : Fr g L h m) (N : News g L h (c ++ tl)) : C h :=
  x h F.keep fun p hp => (N p (List.mem_append_right _ hp)).1
theorem Seen.mono {g : Heap} {tl : List (Addr × Obj)} {C D : Heap → Prop} (x : Seen g tl C) (k : ∀ h, C h → D h) : Seen g tl D := fun h a b => k h (x h a b)

structure Snap (g : Heap) (L : Addr) (c tl : List (Addr × Obj)) (h : Heap) : Prop where
  all : ∀ a o, h.get? a = some o → g.get? a = some o ∨ a = L ∨ a ∈ c.map (·.1) ∨ (a, o) ∈ tl
  apart : ∀ p ∈ tl, ∀ q ∈ c, p.1 ≠ q.1

theorem freeze {g h : Heap} {L : Addr} {m : Str → Option Value} {c : List (Addr × Obj)} (F : Fr g L h m) (N : News g L h c) : ∃ tl, News g L h (c ++ tl) ∧ Snap g L c tl h := by
  refine ⟨(List.range h.objs.size).filterMap fun a => match h.get? a with
    | some o => if (g.get? a).isNone = true ∧ a ≠ L ∧ a ∉ c.map (·.1) then some (a, o) else none
    | none => none, ?_, ?_, ?_⟩
  · intro p hp
    rcases List.mem_append.mp hp with hp | hp
    · exact N p hp
    · obtain ⟨a, _, e⟩ := List.mem_filterMap.mp hp
      split at e
      · rename_i o ho
        split at e
        · rename_i hc
          cases e
          refine ⟨ho, hc.2.1, ?_⟩
          have := hc.1
          cases hq : g.get? a with
          | none => rfl
          | some x => rw [hq] at this; cases this
        · cases e
      · cases e
  · intro a o ho
    cases hq : g.get? a with
    | some x =>
      left
      have := F.keep a x hq
      rw [ho] at this
      exact this.symm
    | none =>
      right
      by_cases hL : a = L
      · exact .inl hL
      right
      by_cases hc : a ∈ c.map (·.1)
      · exact .inl hc
      right
      refine List.mem_filterMap.mpr ⟨a, List.mem_range.mpr (Heap.lt_size ho), ?_⟩
      rw [ho]
      dsimp only
      rw [if_pos ⟨by rw [hq]; rfl, hL, hc⟩]
  · intro p hp q hq e
    obtain ⟨a, _, ea⟩ := List.mem_filterMap.mp hp
    split at ea
    · split at ea
      · rename_i hc
        cases ea
        exact hc.2.2 (List.mem_map.mpr ⟨q, hq, e.symm⟩)
      · cases ea
    · cases ea

theorem frSub {g h h' : Heap} {L : Addr} {m : Str → Option Value} (F : Fr g L h m) (S : Sub h h') : Fr g L h' m :=
  ⟨F.ns.at' fun o e => S _ _ e, fun b o e => S _ _ (F.keep b o e), F.above⟩
theorem newsSub {g h h' : Heap} {L : Addr} {c : List (Addr × Obj)} (N : News g L h c) (S : Sub h h') : News g L h' c := fun p hp => ⟨S _ _ (N p hp).1, (N p hp).2⟩

theorem use {lv : Nat} {w : World} {f : Addr} {args : List Value} {s : Shared} {Post : Value → Heap → Prop} (C : Asks lv w f args s Post)
    {dp un : Nat} {gd : Option (List Code)} {cn : Str} {cs : Scope} {a : Addr} {ccd : Value} {cl : List (Str × Addr)} {outer : List Env} {A₀ : Around} {base h₀ : Heap} {L : Addr} {m : Str → Option Value}
    {mean : ExcName → Option Value} {mg mb : Str → Option Value} {Q E : Value → Shared → Prop} (c : List (Addr × Obj))
    (B : Below A₀ base outer h₀) (F : Fr h₀ L s.heap m) (X : (hd.heap_1 w.params).In h₀) (T : Top hd.view_1 (looseW hd.view_1 [Str.ofString "CONFED_KINDS"]) mean mg mb h₀) (hk : cs.kind = .function)
    (hd' : dp + lv < recursionLimit) (hu : un + 8 * lv < cLine) (N : News h₀ L s.heap c)
    (ret : ∀ r h' tk' tl, Fr h₀ L h' m → News h₀ L h' (c ++ tl) → Snap h₀ L c tl h' → Sub s.heap h' → Post r h' → Q r { s with heap := h', toks := tk' }) :
    wpAny (model PySem.Challenge.rw_sz0110_01.row.prog w) (ktrTop dp un gd cn cs L a ccd cl outer) (call (.ref f) args) Q E s := by
  refine C dp un gd cn cs a ccd cl outer A₀ base h₀ L m mean mg mb Q E B F X T hk hd' hu fun r h' tk' S P => ?_
  obtain ⟨tl, N', sn⟩ := freeze (frSub F S) (newsSub N S)
  exact ret r h' tk' tl (frSub F S) N' sn S P
end Mine
namespace Mine
theorem Fr.isDict {g h : Heap} {L : Addr} {m : Str → Option Value} (F : Fr g L h m) : ∃ o es ep, h.get? L = some o ∧ o.data = .dict es ep := by
  obtain ⟨o, es, ep, ho, hd, _⟩ := F.ns
  exact ⟨o, es, ep, ho, hd⟩
theorem Seen.obj {g h : Heap} {L : Addr} {m : Str → Option Value} {c tl : List (Addr × Obj)} (F : Fr g L h m) (N : News g L h (c ++ tl)) (Sn : Snap g L c tl h) {a : Addr} {o : Obj} (ho : h.get? a = some o) (hL : a ≠ L) (hc : ∀ q ∈ c, q.1 ≠ a) :
    Seen g tl fun h' => h'.get? a = some o := by
  intro h' k z
  rcases Sn.all a o ho with e | e | e | e
  · exact k _ _ e
  · exact absurd e hL
  · obtain ⟨q, hq, e⟩ := List.mem_map.mp e
    exact absurd e (hc q hq)
  · exact z _ e
noncomputable def NoTup (o : Obj) : Prop := ∀ (vs : List Value) (n : Nat), o ≠ { cls := .type "tuple", data := .seq vs.toArray n }
theorem NoTup.ofCls {o : Obj} (h : o.cls ≠ .type "tuple") : NoTup o := fun _ _ e => h (by rw [e])
theorem NoTup.ofCell {o : Obj} {v : Option Value} (h : o.data = .cell v) : NoTup o := fun _ _ e => by rw [e] at h; cases h
theorem Seen.tup {g h : Heap} {L : Addr} {m : Str → Option Value} {c tl : List (Addr × Obj)} (F : Fr g L h m) (N : News g L h (c ++ tl)) (Sn : Snap g L c tl h) (hcl : ∀ q ∈ c, NoTup q.2) {a : Addr} {vs : List Value} (ht : Tup h a vs) :
    Seen g tl fun h' => Tup h' a vs := by
  obtain ⟨n, ho⟩ := ht
  refine (Seen.obj F N Sn ho ?_ ?_).mono fun h' e => ⟨n, e⟩
  · intro e
    obtain ⟨o, es, ep, h1, h2⟩ := Fr.isDict F
    rw [← e, ho] at h1
    cases h1
    cases h2
  · intro q hq e
    have h1 := (N q (List.mem_append_left _ hq)).1
    rw [e, ho] at h1
    exact hcl q hq _ _ (Option.some.inj h1).symm
theorem Seen.tupI {g h : Heap} {L : Addr} {m : Str → Option Value} {c tl : List (Addr × Obj)} (F : Fr g L h m) (N : News g L h (c ++ tl)) (Sn : Snap g L c tl h) (hcl : ∀ q ∈ c, NoTup q.2) {a : Addr} {ns : List Int} (ht : TupI h a ns) :
    Seen g tl fun h' => TupI h' a ns := by
  obtain ⟨ws, ht, hi⟩ := ht
  exact (Seen.tup F N Sn hcl ht).mono fun h' e => ⟨ws, e, hi⟩
theorem Seen.seg {g h : Heap} {L : Addr} {m : Str → Option Value} {c tl : List (Addr × Obj)} (F : Fr g L h m) (N : News g L h (c ++ tl)) (Sn : Snap g L c tl h) (hcl : ∀ q ∈ c, NoTup q.2) {v : Value} {x : Int × List Int} (ht : SegAt h v x) :
    Seen g tl fun h' => SegAt h' v x := by
  obtain ⟨a, t, b, e, h1, h2⟩ := ht
  exact fun h' k z => ⟨a, t, b, e, Seen.tup F N Sn hcl h1 h' k z, Seen.tupI F N Sn hcl h2 h' k z⟩
theorem Seen.segs {g h : Heap} {L : Addr} {m : Str → Option Value} {c tl : List (Addr × Obj)} (F : Fr g L h m) (N : News g L h (c ++ tl)) (Sn : Snap g L c tl h) (hcl : ∀ q ∈ c, NoTup q.2) {vs : List Value} {xs : List (Int × List Int)} (ht : SegsAt h vs xs) :
    Seen g tl fun h' => SegsAt h' vs xs := by
  intro h' k z
  induction ht with
  | nil => exact .nil
  | cons a _ ih => exact .cons (Seen.seg F N Sn hcl a h' k z) ih
theorem Seen.path {g h : Heap} {L : Addr} {m : Str → Option Value} {c tl : List (Addr × Obj)} (F : Fr g L h m) (N : News g L h (c ++ tl)) (Sn : Snap g L c tl h) (hcl : ∀ q ∈ c, NoTup q.2) {p : Addr} {P : List (Int × List Int)} (ht : PathAt h p P) :
    Seen g tl fun h' => PathAt h' p P := by
  obtain ⟨vs, h1, h2⟩ := ht
  exact fun h' k z => ⟨vs, Seen.tup F N Sn hcl h1 h' k z, Seen.segs F N Sn hcl h2 h' k z⟩
end Mine
namespace Mine
theorem Seen.here {g h : Heap} {tl led : List (Addr × Obj)} {L : Addr} {m : Str → Option Value} {C : Heap → Prop} (x : Seen g tl C) (F : Fr g L h m) (N : News g L h led) (hs : ∀ p ∈ tl, p ∈ led) : C h :=
  x h F.keep fun p hp => (N p (hs p hp)).1
end Mine
end
section
open PySem PySem.W PySem.Spec PySem.Calls PyProof.Rows
namespace Mine
abbrev tupO (xs : List Value) (n : Nat) : Obj := { cls := .type "tuple", data := .seq xs.toArray n }
section
variable {prog : Program} {w : World} {A : Around} {E : Value → Shared → Prop} {s : Shared} {h₀ : Heap} {L l b : Addr} {m : Str → Option Value} {news : List (Addr × Obj)} {xs ys : List Value} {n : Nat}

/-- a tuple that the call made, and another one behind it -/
theorem add_tup {Q : Value → Shared → Prop} (F : Fr h₀ L s.heap m) (N : News h₀ L s.heap news) (ht : (l, tupO xs n) ∈ news) (hx : xs ≠ []) (hb : Tup s.heap b ys) (hz : xs.length + ys.length ≤ sizeLine)
    (h : ∀ q h' n', Fr h₀ L h' m → News h₀ L h' ((q, tupO (xs ++ ys) n') :: news) → Q (.ref q) { s with heap := h' }) :
    wpAny (model prog w) A (binaryOp .Add (.ref l) (.ref b)) Q E s := by
  have hl := N _ ht
  refine add_tuples F N ⟨_, hl.1, rfl, _, rfl⟩ hb.isTup (fun e => absurd e hx) (fun _ e => ?_) (fun _ _ h' F' N' => ?_) hz
  · subst e
    refine h l s.heap n F ?_
    rw [List.append_nil]
    intro p hp
    rcases List.mem_cons.mp hp with rfl | hp
    · exact hl
    · exact N p hp
  · exact h _ _ _ F' N'

theorem item_at {value slice : PySem.Expr} {t : Addr} {vs : List Value} {k : Int} {u : Tok} {x : Value} {Q : Value → Shared → Prop} (ht : IsTup s.heap t vs.toArray) (h0 : 0 ≤ k) (hk : k < 2 ^ 62) (hx : vs[k.toNat]? = some x) (h : Q x s)
    (hs : subscripted slice false (.ref t) (.int k u) = operate [.ref t, .int k u] (getItem (.ref t) (.int k u)) := by with_unfolding_all rfl) (hg : ∀ r, letTemporaryGo value (.ref t) r = pure () := by intro _; with_unfolding_all rfl) :
    wpAny (model prog w) A (subscriptTail value slice (.ref t) (.int k u)) Q E s := by
  have hlt : k.toNat < vs.length := by
    rcases Nat.lt_or_ge k.toNat vs.length with h1 | h1
    · exact h1
    · rw [List.getElem?_eq_none h1] at hx; cases hx
  refine item_tupleL ht (by omega) (by omega) (j := k.toNat) ?_ hx h hs hg
  unfold seqIndex?
  have h1 : ¬ k < 0 := by omega
  simp only [h1, if_false]
  first
    | (rw [if_neg]; first | rfl | omega)
    | (rw [if_pos]; first | rfl | omega)
    | (split <;> first | rfl | omega | simp_all)
end
end Mine
namespace Mine
section
variable {prog : Program} {w : World} {A : Around} {E : Value → Shared → Prop} {s : Shared} {h₀ h : Heap} {L q a b : Addr} {m : Str → Option Value} {news : List (Addr × Obj)} {vs : List Value} {n n2 : Nat} {k : Int} {t : Tok} {ns : List Int} {R : List (Int × List Int)}
theorem path_cons (N : News h₀ L h news) (hq : (q, tupO (.ref a :: vs) n) ∈ news) (ha : (a, tupO [.int k t, .ref b] n2) ∈ news) (hb : TupI h b ns) (hr : SegsAt h vs R) : PathAt h q ((k, ns) :: R) :=
  ⟨_, ⟨n, (N _ hq).1⟩, .cons ⟨a, t, b, rfl, ⟨n2, (N _ ha).1⟩, hb⟩ hr⟩
theorem len_at {t : Addr} {vs : List Value} {k : Nat} {Q : Value → Shared → Prop} (ht : IsTup s.heap t vs.toArray) (hk : vs.length = k) (hz : k < 2 ^ 62) (h : ∀ t1 tk1, Q (.int k t1) { s with toks := tk1 }) :
    wpAny (model prog w) A (call (.builtin "len") [.ref t]) Q E s := by
  have e : vs.toArray.size = k := by rw [List.size_toArray, hk]
  refine len_tuple ht (by rw [e]; omega) ?_
  rw [e]
  exact h _ _
end
end Mine
end
section
open PySem PySem.W PySem.Spec PySem.Calls PyProof.Rows PyProof.Rows.LCg
namespace Mine
section
variable {prog : Program} {w : World} {A : Around} {E : Value → Shared → Prop} {s : Shared} {h₀ : Heap} {L : Addr} {m : Str → Option Value} {env : Env}


/-- one turn of a comprehension, with a test -/
abbrev GTurnT (prog : Program) (w : World) (A : Around) (h₀ : Heap) (L : Addr) (m : Str → Option Value) (env : Env) (c elt : PySem.Expr) (scope : Scope) (cl : List (Str × Addr)) (s : Shared) (keep : List (Addr × Obj)) (n : Nat) (P : Nat → Value → Prop) (M : Nat → Value → (Str → Option Value) → Prop)
    (J : Nat → List Value → List (Addr × Obj) → Prop) : Prop :=
  ∀ i v ys news₁ I oI C oC D m₂ h tk (E' : Value → Shared → Prop), i < n → P i v → M i v m₂ → J i ys news₁ → NsObj oC m₂ → Fr h₀ L h m → News h₀ L h ((I, oI) :: (C, oC) :: (D, lst ys) :: news₁) → Off3 I C D news₁ → ((@Ne Nat I C) ∧ (@Ne Nat I D) ∧ (@Ne Nat C D)) → (∀ p ∈ keep, p ∈ news₁) →
    wpAny (model prog w) A (isTrue c (compEnvC scope cl C env) (eval c (compEnvC scope cl C env))) (fun okb s₃ => if okb = true then
        wpAny (model prog w) A (eval elt (compEnvC scope cl C env)) (CompEnd h₀ L m { s with heap := h, toks := tk } I oI C oC D (lst ys) (fun n' => ∀ p ∈ keep, p ∈ n') (fun y news' => J (i + 1) (ys ++ [y]) news')) E' s₃
        else CompEnd h₀ L m { s with heap := h, toks := tk } I oI C oC D (lst ys) (fun n' => ∀ p ∈ keep, p ∈ n') (fun _ news' => J (i + 1) ys news') .none s₃) E' { s with heap := h, toks := tk }

theorem gc_blockT {elt iter c target : PySem.Expr} {scope : Scope} {cl : List (Str × Addr)} {pos : Pos} {s₂ : Shared} {I : Addr} {fp wr : List Addr} {n : Nat} {P : Nat → Value → Prop} {Md : Nat → Value → Heap → Prop} {St : Nat → Heap → Prop} {keep news : List (Addr × Obj)}
    {M : Nat → Value → (Str → Option Value) → Prop} {J : Nat → List Value → List (Addr × Obj) → Prop} {RR : Value → Addr → Result → Shared → Prop}
    (W : KTurns prog w A target I fp wr n (fun i v _ => P i v) Md St) (self : ∀ (s : Shared) (Q : Value → Shared → Prop) (E : Value → Shared → Prop), St 0 s.heap → Q (.ref I) s → wpAny (model prog w) A (pyIter (.ref I)) Q E s)
    (hsz : n ≤ sizeLine) (hIo : ∀ i h, St i h → ∃ o, h.get? I = some o) (hI : I ∈ fp) (hwr : ∀ b ∈ wr, b = I) (hfp : ∀ b ∈ fp, b = I ∨ (∃ o, h₀.get? b = some o) ∨ ∃ o, (b, o) ∈ keep)
    (asg : ∀ i v (s : Shared) (m₁ : Str → Option Value) (C : Addr) (Q : Unit → Shared → Prop) (E : Value → Shared → Prop), i < n → P i v → s.heap.Ns C m₁ → (∀ b o, h₀.get? b = some o → s.heap.get? b = some o) → (∀ p ∈ keep, s.heap.get? p.1 = some p.2) →
      (∀ h' tk m₂, h'.Ns C m₂ → M i v m₂ → (∀ c o, c ≠ C → s.heap.get? c = some o → h'.get? c = some o) → Q () { s with heap := h', toks := tk }) → wpAny (model prog w) A (assign target (compEnvC scope cl C env) v) Q E s)
    (hcell : ∀ y ∈ scope.names, y.2 ≠ .cell) (hkind : scope.kind = .function)
    (hst : St 0 s₂.heap) (F : Fr h₀ L s₂.heap m) (N : News h₀ L s₂.heap news) (hIL : L ≠ I) (hI₀ : h₀.get? I = none) (off : ∀ p ∈ news, p.1 ≠ I) (hkeep : ∀ p ∈ keep, p ∈ news)
    (h0 : J 0 [] news) (R : GTurnT prog w A h₀ L m env c elt scope cl s₂ keep n P M J)
    (hRR : ∀ D C h tk m' ys news', Fr h₀ L h m → News h₀ L h ((D, lst ys) :: news') → Off1 D news' → h.Ns C m' → h₀.get? C = none → h₀.get? D = none → C ≠ L → D ≠ L → C ≠ D → (∀ p ∈ news', p.1 ≠ C) → J n ys news' → RR (.ref D) C (.ok .next) { s₂ with heap := h, toks := tk }) :
    wpAny (model prog w) A (newList []) (fun acc s₃ => wpAny (model prog w) A (newFunctionEnv scope env.globals cl [] env.qual none .none (some env)) (fun cenv s₄ =>
      codeAny (model prog w) A (.compStart (.ListComp elt [⟨target, iter, [c], 0⟩] scope pos) 0 (.ref I) acc { cenv with scope := relabel scope env }) (RR acc cenv.locals) s₄) E s₃) E s₂ := by
  refine wpAny_newObj_type (wpAny_newFunctionEnv hcell (by intro y hy; simp at hy) (fun h₁ hns₁ hsb₁ => ?_) hkind)
  dsimp only at hns₁ hsb₁ ⊢
  generalize hH2 : s₂.heap.push { cls := .type "list", dict := none, data := .seq ([] : List Value).toArray } = H2 at hns₁ hsb₁ ⊢
  have hC : H2.objs.size = s₂.heap.objs.size + 1 := by rw [← hH2, Heap.size_push]
  have hDC : s₂.heap.objs.size ≠ H2.objs.size := by rw [hC]; exact Nat.ne_of_lt (Nat.lt_succ_self _)
  have below : ∀ b, b < s₂.heap.objs.size → b ≠ H2.objs.size ∧ b ≠ s₂.heap.objs.size := fun b hb => ⟨by rw [hC]; exact Nat.ne_of_lt (Nat.lt_succ_of_lt hb), Nat.ne_of_lt hb⟩
  have hIlt : I < s₂.heap.objs.size := by obtain ⟨o, ho⟩ := hIo _ _ hst; exact Heap.lt_size ho
  have old : ∀ b o, s₂.heap.get? b = some o → h₁.get? b = some o := fun b o e => hsb₁.extBut b o (below b (Heap.lt_size e)).1 (Heap.get?_push_of_some _ (hH2 ▸ Heap.get?_push_of_some _ e))
  have hacc : h₁.get? s₂.heap.objs.size = some (lst []) := hsb₁.extBut _ _ hDC (Heap.get?_push_of_some _ (hH2 ▸ Heap.get?_push_size _ rfl))
  have hst₁ : St 0 h₁ := W.frame _ _ _ hst fun b _ o e => old b o e
  have fresh : ∀ a, s₂.heap.objs.size ≤ a → s₂.heap.get? a = none := fun a ha => by
    cases e : s₂.heap.get? a with
    | none => rfl
    | some o' => exact absurd (Heap.lt_size e) (Nat.not_lt.mpr ha)
  have fresh₀ : ∀ a, s₂.heap.objs.size ≤ a → h₀.get? a = none := fun a ha => by
    cases e : h₀.get? a with
    | none => rfl
    | some o' => have := F.keep a o' e; rw [fresh a ha] at this; cases this
  have hD₀ : h₀.get? s₂.heap.objs.size = none := fresh₀ _ (Nat.le_refl _)
  have hC₀ : h₀.get? H2.objs.size = none := fresh₀ _ (by rw [hC]; exact Nat.le_succ _)
  have hLlt : L < s₂.heap.objs.size := F.ns.lt
  have hDL : s₂.heap.objs.size ≠ L := Ne.symm (below L hLlt).2
  have hCL : H2.objs.size ≠ L := Ne.symm (below L hLlt).1
  have hCI : I ≠ H2.objs.size := (below I hIlt).1
  have hDI : I ≠ s₂.heap.objs.size := (below I hIlt).2
  have off₀ : Off3 I H2.objs.size s₂.heap.objs.size news := Off3.of fun p hp => ⟨off p hp, (below _ (Heap.lt_size (N p hp).1)).1, (below _ (Heap.lt_size (N p hp).1)).2⟩
  have hkf : ∀ (h h' : Heap) (nw : List (Addr × Obj)), (∀ p ∈ keep, p ∈ nw) → News h₀ L h' nw → (∀ b o, h₀.get? b = some o → h.get? b = some o) → (∀ b o, h₀.get? b = some o → h'.get? b = some o) → (∀ o, h.get? I = some o → h'.get? I = some o) → (∀ p ∈ keep, h.get? p.1 = some p.2) →
      ∀ b ∈ fp, ∀ o, h.get? b = some o → h'.get? b = some o := by
    intro h h' nw hk N' k1 k2 hi hk2 b hb o e
    rcases hfp b hb with rfl | ⟨o', e'⟩ | ⟨o', e'⟩
    · exact hi o e
    · have := k1 _ _ e'
      rw [e] at this
      cases this
      exact k2 _ _ e'
    · have := hk2 _ e'
      rw [e] at this
      cases this
      exact (N' _ (hk _ e')).1
  have loop : ∀ s₃ : Shared, s₃ = { s₂ with heap := h₁, toks := s₂.toks + ([] : List (Str × Value)).length } →
      codeAny (model prog w) A (.compLoop (.ListComp elt [⟨target, iter, [c], 0⟩] scope pos) 0 (.ref I) (.ref s₂.heap.objs.size) (compEnvC scope cl H2.objs.size env))
        (RR (.ref s₂.heap.objs.size) H2.objs.size) s₃ := by
    rintro s₃ rfl
    refine kct_loop
      (fun k s' => ∃ h' tk i ys m' news', s' = { s₂ with heap := h', toks := tk } ∧ i ≤ n ∧ k = n + 1 - i ∧ ys.length ≤ i ∧ St i h' ∧ Fr h₀ L h' m ∧ h'.Ns H2.objs.size m' ∧
        News h₀ L h' ((s₂.heap.objs.size, lst ys) :: news') ∧ Off3 I H2.objs.size s₂.heap.objs.size news' ∧ (∀ p ∈ keep, p ∈ news') ∧ J i ys news') ?_ (n + 1)
      ⟨h₁, _, 0, [], _, news, rfl, Nat.zero_le _, rfl, Nat.le_refl _, hst₁, F.keeps old, hns₁, fun p hp => ?_, off₀, hkeep, h0⟩
    · rintro k s' ⟨h', tk, i, ys, m', news', rfl, hi, rfl, hyl, hst', F', hn', N', off', hS', hJ⟩
      have off3 := off'.mem
      by_cases hlt : i < n
      · refine W.item i _ _ _ hlt hst' fun v h₂ tk₂ hMd hk₂ => ?_
        refine W.go i v _ _ _ hMd fun h₃ hP₃ hst₃ hk₃ => ?_
        have up₃ : ∀ c o, c ≠ I → h'.get? c = some o → h₃.get? c = some o := fun c o hc e => hk₃ c o (fun hb => hc (hwr c hb)) (hk₂ c o (fun hb => hc (hwr c hb)) e)
        have hb₃ : ∀ b o, h₀.get? b = some o → h₃.get? b = some o := fun b o e => up₃ b o (fun q => by rw [q, hI₀] at e; cases e) (F'.keep b o e)
        have hkp₃ : ∀ p ∈ keep, h₃.get? p.1 = some p.2 := fun p hp => up₃ _ _ (off3 p (hS' p hp)).1 (N' p (List.mem_cons_of_mem _ (hS' p hp))).1
        refine asg i v _ m' H2.objs.size _ _ hlt hP₃ (hn'.at' fun o e => up₃ _ o (Ne.symm hCI) e) hb₃ hkp₃ fun h₄ tk₄ m₄ hn₄ hM hs₄ => ?_
        have up : ∀ c o, c ≠ I → c ≠ H2.objs.size → h'.get? c = some o → h₄.get? c = some o := fun c o h1 h2 e => hs₄ c o h2 (up₃ c o h1 e)
        obtain ⟨oI, heI₃⟩ := hIo _ _ hst₃
        have heI : h₄.get? I = some oI := hs₄ I _ hCI heI₃
        obtain ⟨oC, heC, hoC⟩ := ns_obj hn₄
        have hb₄ : ∀ b o, h₀.get? b = some o → h₄.get? b = some o := fun b o e => up b o (fun q => by rw [q, hI₀] at e; cases e) (fun q => by rw [q, hC₀] at e; cases e) (F'.keep b o e)
        have F₄ : Fr h₀ L h₄ m := ⟨F'.ns.at' fun o e => up _ o hIL (Ne.symm hCL) e, hb₄, F'.above⟩
        have N₄ : News h₀ L h₄ ((I, oI) :: (H2.objs.size, oC) :: (s₂.heap.objs.size, lst ys) :: news') := fun q hq => by
          rcases List.mem_cons.mp hq with rfl | hq
          · exact ⟨heI, Ne.symm hIL, hI₀⟩
          · rcases List.mem_cons.mp hq with rfl | hq
            · exact ⟨heC, hCL, hC₀⟩
            · have z := N' q hq
              refine ⟨up _ _ ?_ ?_ z.1, z.2⟩
              · rcases List.mem_cons.mp hq with rfl | hq
                · exact Ne.symm hDI
                · exact (off3 q hq).1
              · rcases List.mem_cons.mp hq with rfl | hq
                · exact hDC
                · exact (off3 q hq).2.1
        have hkp₄ : ∀ p ∈ keep, h₄.get? p.1 = some p.2 := fun p hp => (N₄ p (List.mem_cons_of_mem _ (List.mem_cons_of_mem _ (List.mem_cons_of_mem _ (hS' p hp))))).1
        have hst₄ : St (i + 1) h₄ := by
          refine W.frame _ _ _ hst₃ fun b hb o e => hs₄ b o ?_ e
          rcases hfp b hb with rfl | ⟨o', e'⟩ | ⟨o', e'⟩
          · exact hCI
          · exact fun q => by rw [q, hC₀] at e'; cases e'
          · exact (off3 _ (hS' _ e')).2.1
        have fin : ∀ (ys' : List Value) (h₅ : Heap) (tk₅ : Nat) (news₅ : List (Addr × Obj)), ys'.length ≤ i + 1 → Fr h₀ L h₅ m → News h₀ L h₅ ((I, oI) :: (H2.objs.size, oC) :: (s₂.heap.objs.size, lst ys') :: news₅) → Off3 I H2.objs.size s₂.heap.objs.size news₅ → (∀ p ∈ keep, p ∈ news₅) → J (i + 1) ys' news₅ →
            ∃ q', q' < n + 1 - i ∧ (∃ h' tk i ys m' news', ({ s₂ with heap := h₅, toks := tk₅ } : Shared) = { s₂ with heap := h', toks := tk } ∧ i ≤ n ∧ q' = n + 1 - i ∧ ys.length ≤ i ∧ St i h' ∧ Fr h₀ L h' m ∧ h'.Ns H2.objs.size m' ∧
        News h₀ L h' ((s₂.heap.objs.size, lst ys) :: news') ∧ Off3 I H2.objs.size s₂.heap.objs.size news' ∧ (∀ p ∈ keep, p ∈ news') ∧ J i ys news') := by
          intro ys' h₅ tk₅ news₅ hl F₅ N₅ off₅ hS₅ hJ₅
          have zI := (N₅ (I, oI) List.mem_cons_self).1
          have zC := (N₅ (H2.objs.size, oC) (List.mem_cons_of_mem _ List.mem_cons_self)).1
          have N₅' : News h₀ L h₅ news₅ := fun q hq => N₅ q (List.mem_cons_of_mem _ (List.mem_cons_of_mem _ (List.mem_cons_of_mem _ hq)))
          refine ⟨n + 1 - (i + 1), by omega, h₅, tk₅, i + 1, ys', _, news₅, rfl, hlt, rfl, hl, ?_, F₅, hoC.ns zC, fun q hq => N₅ q (List.mem_cons_of_mem _ (List.mem_cons_of_mem _ hq)), off₅, hS₅, hJ₅⟩
          exact W.frame _ _ _ hst₄ (hkf h₄ h₅ news₅ hS₅ N₅' hb₄ F₅.keep (fun o e => by rw [heI] at e; cases e; exact zI) hkp₄)
        refine wpAny_mono (R i v ys news' I oI H2.objs.size oC s₂.heap.objs.size _ h₄ _ _ hlt hP₃ hM hJ hoC F₄ N₄ off' ⟨hCI, hDI, Ne.symm hDC⟩ hS') (fun okb s₅ h₅ => ?_) fun _ _ e => e
        cases okb with
        | false =>
          simp only [Bool.false_eq_true, if_false] at h₅ ⊢
          obtain ⟨h₅, tk₅, news₅, rfl, F₅, N₅, off₅, hS₅, R₅⟩ := h₅
          exact fin ys h₅ tk₅ news₅ (Nat.le_succ_of_le hyl) F₅ N₅ off₅ hS₅ R₅
        | true =>
          simp only [if_true] at h₅ ⊢
          refine wpAny_mono h₅ (fun y s₆ h₆ => ?_) fun _ _ e => e
          obtain ⟨h₅, tk₅, news₅, rfl, F₅, N₅, off₅, hS₅, R₅⟩ := h₆
          have zI := (N₅ (I, oI) List.mem_cons_self).1
          have zC := (N₅ (H2.objs.size, oC) (List.mem_cons_of_mem _ List.mem_cons_self)).1
          have zD := (N₅ (s₂.heap.objs.size, lst ys) (List.mem_cons_of_mem _ (List.mem_cons_of_mem _ List.mem_cons_self))).1
          have N₅' : News h₀ L h₅ news₅ := fun q hq => N₅ q (List.mem_cons_of_mem _ (List.mem_cons_of_mem _ (List.mem_cons_of_mem _ hq)))
          refine append_at (hsz := by show ys.toArray.size ≤ sizeLine; rw [List.size_toArray]; exact Nat.le_trans hyl (Nat.le_trans hi hsz)) zD fun h₆ hs₆ hD₆ => ?_
          have off5 := off₅.mem
          refine fin (ys ++ [y]) h₆ _ news₅ (by rw [List.length_append, List.length_singleton]; exact Nat.succ_le_succ hyl) (F₅.change hs₆ hDL hD₀) (fun q hq => ?_) off₅ hS₅ R₅
          rcases List.mem_cons.mp hq with rfl | hq
          · exact ⟨hs₆.extBut I oI hDI zI, Ne.symm hIL, hI₀⟩
          rcases List.mem_cons.mp hq with rfl | hq
          · exact ⟨hs₆.extBut _ oC (Ne.symm hDC) zC, hCL, hC₀⟩
          rcases List.mem_cons.mp hq with rfl | hq
          · exact ⟨hD₆.trans (congrArg some (lst_snoc ys y)), hDL, hD₀⟩
          · exact ⟨hs₆.extBut _ _ (off5 q hq).2.2 (N₅' q hq).1, (N₅' q hq).2⟩
      · have hin : i = n := Nat.le_antisymm hi (Nat.not_lt.mp hlt)
        subst hin
        refine W.done _ _ _ hst' fun h₂ tk₂ hk₂ => ?_
        have hk₂' : ∀ b o, b ∉ [I] → h'.get? b = some o → h₂.get? b = some o := fun b o hb e => hk₂ b o (fun hw => hb (by simp [hwr b hw])) e
        exact hRR _ _ h₂ tk₂ _ ys news' (fr_but F' hk₂' hIL hI₀) (news_but N' hk₂' fun p hp => by
          rcases List.mem_cons.mp hp with rfl | hp
          · exact Ne.symm hDI
          · exact (off3 p hp).1) off'.one (hn'.at' fun o e => hk₂' _ o (by simpa using Ne.symm hCI) e) hC₀ hD₀ hCL hDL (Ne.symm hDC) (fun p hp => (off3 p hp).2.1) hJ
    · rcases List.mem_cons.mp hp with rfl | hp
      · exact ⟨hacc, hDL, hD₀⟩
      · exact ⟨old _ _ (N p hp).1, (N p hp).2⟩
  exact codeAny_compStart_list (loop _ rfl) (self _ _ _ hst₁ (loop _ rfl))

/-- one turn of a comprehension, plain -/
abbrev GTurnP (prog : Program) (w : World) (A : Around) (h₀ : Heap) (L : Addr) (m : Str → Option Value) (env : Env) (elt : PySem.Expr) (scope : Scope) (cl : List (Str × Addr)) (s : Shared) (keep : List (Addr × Obj)) (n : Nat) (P : Nat → Value → Prop) (M : Nat → Value → (Str → Option Value) → Prop)
    (J : Nat → List Value → List (Addr × Obj) → Prop) : Prop :=
  ∀ i v ys news₁ I oI C oC D m₂ h tk (E' : Value → Shared → Prop), i < n → P i v → M i v m₂ → J i ys news₁ → NsObj oC m₂ → Fr h₀ L h m → News h₀ L h ((I, oI) :: (C, oC) :: (D, lst ys) :: news₁) → Off3 I C D news₁ → ((@Ne Nat I C) ∧ (@Ne Nat I D) ∧ (@Ne Nat C D)) → (∀ p ∈ keep, p ∈ news₁) →
    wpAny (model prog w) A (eval elt (compEnvC scope cl C env)) (CompEnd h₀ L m { s with heap := h, toks := tk } I oI C oC D (lst ys) (fun n' => ∀ p ∈ keep, p ∈ n') (fun y news' => J (i + 1) (ys ++ [y]) news')) E' { s with heap := h, toks := tk }

theorem gc_blockP {elt iter target : PySem.Expr} {scope : Scope} {cl : List (Str × Addr)} {pos : Pos} {s₂ : Shared} {I : Addr} {fp wr : List Addr} {n : Nat} {P : Nat → Value → Prop} {Md : Nat → Value → Heap → Prop} {St : Nat → Heap → Prop} {keep news : List (Addr × Obj)}
    {M : Nat → Value → (Str → Option Value) → Prop} {J : Nat → List Value → List (Addr × Obj) → Prop} {RR : Value → Addr → Result → Shared → Prop}
    (W : KTurns prog w A target I fp wr n (fun i v _ => P i v) Md St) (self : ∀ (s : Shared) (Q : Value → Shared → Prop) (E : Value → Shared → Prop), St 0 s.heap → Q (.ref I) s → wpAny (model prog w) A (pyIter (.ref I)) Q E s)
    (hsz : n ≤ sizeLine) (hIo : ∀ i h, St i h → ∃ o, h.get? I = some o) (hI : I ∈ fp) (hwr : ∀ b ∈ wr, b = I) (hfp : ∀ b ∈ fp, b = I ∨ (∃ o, h₀.get? b = some o) ∨ ∃ o, (b, o) ∈ keep)
    (asg : ∀ i v (s : Shared) (m₁ : Str → Option Value) (C : Addr) (Q : Unit → Shared → Prop) (E : Value → Shared → Prop), i < n → P i v → s.heap.Ns C m₁ → (∀ b o, h₀.get? b = some o → s.heap.get? b = some o) → (∀ p ∈ keep, s.heap.get? p.1 = some p.2) →
      (∀ h' tk m₂, h'.Ns C m₂ → M i v m₂ → (∀ c o, c ≠ C → s.heap.get? c = some o → h'.get? c = some o) → Q () { s with heap := h', toks := tk }) → wpAny (model prog w) A (assign target (compEnvC scope cl C env) v) Q E s)
    (hcell : ∀ y ∈ scope.names, y.2 ≠ .cell) (hkind : scope.kind = .function)
    (hst : St 0 s₂.heap) (F : Fr h₀ L s₂.heap m) (N : News h₀ L s₂.heap news) (hIL : L ≠ I) (hI₀ : h₀.get? I = none) (off : ∀ p ∈ news, p.1 ≠ I) (hkeep : ∀ p ∈ keep, p ∈ news)
    (h0 : J 0 [] news) (R : GTurnP prog w A h₀ L m env elt scope cl s₂ keep n P M J)
    (hRR : ∀ D C h tk m' ys news', Fr h₀ L h m → News h₀ L h ((D, lst ys) :: news') → Off1 D news' → h.Ns C m' → h₀.get? C = none → h₀.get? D = none → C ≠ L → D ≠ L → C ≠ D → (∀ p ∈ news', p.1 ≠ C) → J n ys news' → RR (.ref D) C (.ok .next) { s₂ with heap := h, toks := tk }) :
    wpAny (model prog w) A (newList []) (fun acc s₃ => wpAny (model prog w) A (newFunctionEnv scope env.globals cl [] env.qual none .none (some env)) (fun cenv s₄ =>
      codeAny (model prog w) A (.compStart (.ListComp elt [⟨target, iter, [], 0⟩] scope pos) 0 (.ref I) acc { cenv with scope := relabel scope env }) (RR acc cenv.locals) s₄) E s₃) E s₂ := by
  refine wpAny_newObj_type (wpAny_newFunctionEnv hcell (by intro y hy; simp at hy) (fun h₁ hns₁ hsb₁ => ?_) hkind)
  dsimp only at hns₁ hsb₁ ⊢
  generalize hH2 : s₂.heap.push { cls := .type "list", dict := none, data := .seq ([] : List Value).toArray } = H2 at hns₁ hsb₁ ⊢
  have hC : H2.objs.size = s₂.heap.objs.size + 1 := by rw [← hH2, Heap.size_push]
  have hDC : s₂.heap.objs.size ≠ H2.objs.size := by rw [hC]; exact Nat.ne_of_lt (Nat.lt_succ_self _)
  have below : ∀ b, b < s₂.heap.objs.size → b ≠ H2.objs.size ∧ b ≠ s₂.heap.objs.size := fun b hb => ⟨by rw [hC]; exact Nat.ne_of_lt (Nat.lt_succ_of_lt hb), Nat.ne_of_lt hb⟩
  have hIlt : I < s₂.heap.objs.size := by obtain ⟨o, ho⟩ := hIo _ _ hst; exact Heap.lt_size ho
  have old : ∀ b o, s₂.heap.get? b = some o → h₁.get? b = some o := fun b o e => hsb₁.extBut b o (below b (Heap.lt_size e)).1 (Heap.get?_push_of_some _ (hH2 ▸ Heap.get?_push_of_some _ e))
  have hacc : h₁.get? s₂.heap.objs.size = some (lst []) := hsb₁.extBut _ _ hDC (Heap.get?_push_of_some _ (hH2 ▸ Heap.get?_push_size _ rfl))
  have hst₁ : St 0 h₁ := W.frame _ _ _ hst fun b _ o e => old b o e
  have fresh : ∀ a, s₂.heap.objs.size ≤ a → s₂.heap.get? a = none := fun a ha => by
    cases e : s₂.heap.get? a with
    | none => rfl
    | some o' => exact absurd (Heap.lt_size e) (Nat.not_lt.mpr ha)
  have fresh₀ : ∀ a, s₂.heap.objs.size ≤ a → h₀.get? a = none := fun a ha => by
    cases e : h₀.get? a with
    | none => rfl
    | some o' => have := F.keep a o' e; rw [fresh a ha] at this; cases this
  have hD₀ : h₀.get? s₂.heap.objs.size = none := fresh₀ _ (Nat.le_refl _)
  have hC₀ : h₀.get? H2.objs.size = none := fresh₀ _ (by rw [hC]; exact Nat.le_succ _)
  have hLlt : L < s₂.heap.objs.size := F.ns.lt
  have hDL : s₂.heap.objs.size ≠ L := Ne.symm (below L hLlt).2
  have hCL : H2.objs.size ≠ L := Ne.symm (below L hLlt).1
  have hCI : I ≠ H2.objs.size := (below I hIlt).1
  have hDI : I ≠ s₂.heap.objs.size := (below I hIlt).2
  have off₀ : Off3 I H2.objs.size s₂.heap.objs.size news := Off3.of fun p hp => ⟨off p hp, (below _ (Heap.lt_size (N p hp).1)).1, (below _ (Heap.lt_size (N p hp).1)).2⟩
  have hkf : ∀ (h h' : Heap) (nw : List (Addr × Obj)), (∀ p ∈ keep, p ∈ nw) → News h₀ L h' nw → (∀ b o, h₀.get? b = some o → h.get? b = some o) → (∀ b o, h₀.get? b = some o → h'.get? b = some o) → (∀ o, h.get? I = some o → h'.get? I = some o) → (∀ p ∈ keep, h.get? p.1 = some p.2) →
      ∀ b ∈ fp, ∀ o, h.get? b = some o → h'.get? b = some o := by
    intro h h' nw hk N' k1 k2 hi hk2 b hb o e
    rcases hfp b hb with rfl | ⟨o', e'⟩ | ⟨o', e'⟩
    · exact hi o e
    · have := k1 _ _ e'
      rw [e] at this
      cases this
      exact k2 _ _ e'
    · have := hk2 _ e'
      rw [e] at this
      cases this
      exact (N' _ (hk _ e')).1
  have loop : ∀ s₃ : Shared, s₃ = { s₂ with heap := h₁, toks := s₂.toks + ([] : List (Str × Value)).length } →
      codeAny (model prog w) A (.compLoop (.ListComp elt [⟨target, iter, [], 0⟩] scope pos) 0 (.ref I) (.ref s₂.heap.objs.size) (compEnvC scope cl H2.objs.size env))
        (RR (.ref s₂.heap.objs.size) H2.objs.size) s₃ := by
    rintro s₃ rfl
    refine kcp_loop
      (fun k s' => ∃ h' tk i ys m' news', s' = { s₂ with heap := h', toks := tk } ∧ i ≤ n ∧ k = n + 1 - i ∧ ys.length ≤ i ∧ St i h' ∧ Fr h₀ L h' m ∧ h'.Ns H2.objs.size m' ∧
        News h₀ L h' ((s₂.heap.objs.size, lst ys) :: news') ∧ Off3 I H2.objs.size s₂.heap.objs.size news' ∧ (∀ p ∈ keep, p ∈ news') ∧ J i ys news') ?_ (n + 1)
      ⟨h₁, _, 0, [], _, news, rfl, Nat.zero_le _, rfl, Nat.le_refl _, hst₁, F.keeps old, hns₁, fun p hp => ?_, off₀, hkeep, h0⟩
    · rintro k s' ⟨h', tk, i, ys, m', news', rfl, hi, rfl, hyl, hst', F', hn', N', off', hS', hJ⟩
      have off3 := off'.mem
      by_cases hlt : i < n
      · refine W.item i _ _ _ hlt hst' fun v h₂ tk₂ hMd hk₂ => ?_
        refine W.go i v _ _ _ hMd fun h₃ hP₃ hst₃ hk₃ => ?_
        have up₃ : ∀ c o, c ≠ I → h'.get? c = some o → h₃.get? c = some o := fun c o hc e => hk₃ c o (fun hb => hc (hwr c hb)) (hk₂ c o (fun hb => hc (hwr c hb)) e)
        have hb₃ : ∀ b o, h₀.get? b = some o → h₃.get? b = some o := fun b o e => up₃ b o (fun q => by rw [q, hI₀] at e; cases e) (F'.keep b o e)
        have hkp₃ : ∀ p ∈ keep, h₃.get? p.1 = some p.2 := fun p hp => up₃ _ _ (off3 p (hS' p hp)).1 (N' p (List.mem_cons_of_mem _ (hS' p hp))).1
        refine asg i v _ m' H2.objs.size _ _ hlt hP₃ (hn'.at' fun o e => up₃ _ o (Ne.symm hCI) e) hb₃ hkp₃ fun h₄ tk₄ m₄ hn₄ hM hs₄ => ?_
        have up : ∀ c o, c ≠ I → c ≠ H2.objs.size → h'.get? c = some o → h₄.get? c = some o := fun c o h1 h2 e => hs₄ c o h2 (up₃ c o h1 e)
        obtain ⟨oI, heI₃⟩ := hIo _ _ hst₃
        have heI : h₄.get? I = some oI := hs₄ I _ hCI heI₃
        obtain ⟨oC, heC, hoC⟩ := ns_obj hn₄
        have hb₄ : ∀ b o, h₀.get? b = some o → h₄.get? b = some o := fun b o e => up b o (fun q => by rw [q, hI₀] at e; cases e) (fun q => by rw [q, hC₀] at e; cases e) (F'.keep b o e)
        have F₄ : Fr h₀ L h₄ m := ⟨F'.ns.at' fun o e => up _ o hIL (Ne.symm hCL) e, hb₄, F'.above⟩
        have N₄ : News h₀ L h₄ ((I, oI) :: (H2.objs.size, oC) :: (s₂.heap.objs.size, lst ys) :: news') := fun q hq => by
          rcases List.mem_cons.mp hq with rfl | hq
          · exact ⟨heI, Ne.symm hIL, hI₀⟩
          · rcases List.mem_cons.mp hq with rfl | hq
            · exact ⟨heC, hCL, hC₀⟩
            · have z := N' q hq
              refine ⟨up _ _ ?_ ?_ z.1, z.2⟩
              · rcases List.mem_cons.mp hq with rfl | hq
                · exact Ne.symm hDI
                · exact (off3 q hq).1
              · rcases List.mem_cons.mp hq with rfl | hq
                · exact hDC
                · exact (off3 q hq).2.1
        have hkp₄ : ∀ p ∈ keep, h₄.get? p.1 = some p.2 := fun p hp => (N₄ p (List.mem_cons_of_mem _ (List.mem_cons_of_mem _ (List.mem_cons_of_mem _ (hS' p hp))))).1
        have hst₄ : St (i + 1) h₄ := by
          refine W.frame _ _ _ hst₃ fun b hb o e => hs₄ b o ?_ e
          rcases hfp b hb with rfl | ⟨o', e'⟩ | ⟨o', e'⟩
          · exact hCI
          · exact fun q => by rw [q, hC₀] at e'; cases e'
          · exact (off3 _ (hS' _ e')).2.1
        have fin : ∀ (ys' : List Value) (h₅ : Heap) (tk₅ : Nat) (news₅ : List (Addr × Obj)), ys'.length ≤ i + 1 → Fr h₀ L h₅ m → News h₀ L h₅ ((I, oI) :: (H2.objs.size, oC) :: (s₂.heap.objs.size, lst ys') :: news₅) → Off3 I H2.objs.size s₂.heap.objs.size news₅ → (∀ p ∈ keep, p ∈ news₅) → J (i + 1) ys' news₅ →
            ∃ q', q' < n + 1 - i ∧ (∃ h' tk i ys m' news', ({ s₂ with heap := h₅, toks := tk₅ } : Shared) = { s₂ with heap := h', toks := tk } ∧ i ≤ n ∧ q' = n + 1 - i ∧ ys.length ≤ i ∧ St i h' ∧ Fr h₀ L h' m ∧ h'.Ns H2.objs.size m' ∧
        News h₀ L h' ((s₂.heap.objs.size, lst ys) :: news') ∧ Off3 I H2.objs.size s₂.heap.objs.size news' ∧ (∀ p ∈ keep, p ∈ news') ∧ J i ys news') := by
          intro ys' h₅ tk₅ news₅ hl F₅ N₅ off₅ hS₅ hJ₅
          have zI := (N₅ (I, oI) List.mem_cons_self).1
          have zC := (N₅ (H2.objs.size, oC) (List.mem_cons_of_mem _ List.mem_cons_self)).1
          have N₅' : News h₀ L h₅ news₅ := fun q hq => N₅ q (List.mem_cons_of_mem _ (List.mem_cons_of_mem _ (List.mem_cons_of_mem _ hq)))
          refine ⟨n + 1 - (i + 1), by omega, h₅, tk₅, i + 1, ys', _, news₅, rfl, hlt, rfl, hl, ?_, F₅, hoC.ns zC, fun q hq => N₅ q (List.mem_cons_of_mem _ (List.mem_cons_of_mem _ hq)), off₅, hS₅, hJ₅⟩
          exact W.frame _ _ _ hst₄ (hkf h₄ h₅ news₅ hS₅ N₅' hb₄ F₅.keep (fun o e => by rw [heI] at e; cases e; exact zI) hkp₄)
        refine wpAny_mono (R i v ys news' I oI H2.objs.size oC s₂.heap.objs.size _ h₄ _ _ hlt hP₃ hM hJ hoC F₄ N₄ off' ⟨hCI, hDI, Ne.symm hDC⟩ hS') (fun y s₆ h₆ => ?_) fun _ _ e => e
        obtain ⟨h₅, tk₅, news₅, rfl, F₅, N₅, off₅, hS₅, R₅⟩ := h₆
        have zI := (N₅ (I, oI) List.mem_cons_self).1
        have zC := (N₅ (H2.objs.size, oC) (List.mem_cons_of_mem _ List.mem_cons_self)).1
        have zD := (N₅ (s₂.heap.objs.size, lst ys) (List.mem_cons_of_mem _ (List.mem_cons_of_mem _ List.mem_cons_self))).1
        have N₅' : News h₀ L h₅ news₅ := fun q hq => N₅ q (List.mem_cons_of_mem _ (List.mem_cons_of_mem _ (List.mem_cons_of_mem _ hq)))
        refine append_at (hsz := by show ys.toArray.size ≤ sizeLine; rw [List.size_toArray]; exact Nat.le_trans hyl (Nat.le_trans hi hsz)) zD fun h₆ hs₆ hD₆ => ?_
        have off5 := off₅.mem
        refine fin (ys ++ [y]) h₆ _ news₅ (by rw [List.length_append, List.length_singleton]; exact Nat.succ_le_succ hyl) (F₅.change hs₆ hDL hD₀) (fun q hq => ?_) off₅ hS₅ R₅
        rcases List.mem_cons.mp hq with rfl | hq
        · exact ⟨hs₆.extBut I oI hDI zI, Ne.symm hIL, hI₀⟩
        rcases List.mem_cons.mp hq with rfl | hq
        · exact ⟨hs₆.extBut _ oC (Ne.symm hDC) zC, hCL, hC₀⟩
        rcases List.mem_cons.mp hq with rfl | hq
        · exact ⟨hD₆.trans (congrArg some (lst_snoc ys y)), hDL, hD₀⟩
        · exact ⟨hs₆.extBut _ _ (off5 q hq).2.2 (N₅' q hq).1, (N₅' q hq).2⟩
      · have hin : i = n := Nat.le_antisymm hi (Nat.not_lt.mp hlt)
        subst hin
        refine W.done _ _ _ hst' fun h₂ tk₂ hk₂ => ?_
        have hk₂' : ∀ b o, b ∉ [I] → h'.get? b = some o → h₂.get? b = some o := fun b o hb e => hk₂ b o (fun hw => hb (by simp [hwr b hw])) e
        exact hRR _ _ h₂ tk₂ _ ys news' (fr_but F' hk₂' hIL hI₀) (news_but N' hk₂' fun p hp => by
          rcases List.mem_cons.mp hp with rfl | hp
          · exact Ne.symm hDI
          · exact (off3 p hp).1) off'.one (hn'.at' fun o e => hk₂' _ o (by simpa using Ne.symm hCI) e) hC₀ hD₀ hCL hDL (Ne.symm hDC) (fun p hp => (off3 p hp).2.1) hJ
    · rcases List.mem_cons.mp hp with rfl | hp
      · exact ⟨hacc, hDL, hD₀⟩
      · exact ⟨old _ _ (N p hp).1, (N p hp).2⟩
  exact codeAny_compStart_list (loop _ rfl) (self _ _ _ hst₁ (loop _ rfl))

theorem gcompT {elt iter c target : PySem.Expr} {scope : Scope} {cl : List (Str × Addr)} {pos : Pos} {Q : Value → Shared → Prop} (_F₀ : Fr h₀ L s.heap m)
    (hclos : closureFor scope env = pure cl) (hcell : ∀ y ∈ scope.names, y.2 ≠ .cell) (hkind : scope.kind = .function)
    (hnames : ∀ y ∈ scope.names, y.2 = .local → scope.names.lookup y.1 = some .local)
    (h : wpAny (model prog w) A (eval iter env) (fun xv s₁ => wpAny (model prog w) A (pyIter xv) (fun it s₂ => ∃ (I : Addr) (fp wr : List Addr) (n : Nat) (P : Nat → Value → Prop) (Md : Nat → Value → Heap → Prop) (St : Nat → Heap → Prop) (keep news : List (Addr × Obj))
        (M : Nat → Value → (Str → Option Value) → Prop) (J : Nat → List Value → List (Addr × Obj) → Prop), it = .ref I ∧ KTurns prog w A target I fp wr n (fun i v _ => P i v) Md St ∧
        (∀ (s : Shared) (Q : Value → Shared → Prop) (E : Value → Shared → Prop), St 0 s.heap → Q (.ref I) s → wpAny (model prog w) A (pyIter (.ref I)) Q E s) ∧
        n ≤ sizeLine ∧ (∀ i h, St i h → ∃ o, h.get? I = some o) ∧ I ∈ fp ∧ (∀ b ∈ wr, b = I) ∧ (∀ b ∈ fp, b = I ∨ (∃ o, h₀.get? b = some o) ∨ ∃ o, (b, o) ∈ keep) ∧
        (∀ i v (s : Shared) (m₁ : Str → Option Value) (C : Addr) (Q : Unit → Shared → Prop) (E : Value → Shared → Prop), i < n → P i v → s.heap.Ns C m₁ → (∀ b o, h₀.get? b = some o → s.heap.get? b = some o) → (∀ p ∈ keep, s.heap.get? p.1 = some p.2) →
          (∀ h' tk m₂, h'.Ns C m₂ → M i v m₂ → (∀ c o, c ≠ C → s.heap.get? c = some o → h'.get? c = some o) → Q () { s with heap := h', toks := tk }) → wpAny (model prog w) A (assign target (compEnvC scope cl C env) v) Q E s) ∧
        St 0 s₂.heap ∧ Fr h₀ L s₂.heap m ∧ News h₀ L s₂.heap news ∧ L ≠ I ∧ h₀.get? I = none ∧ (∀ p ∈ news, p.1 ≠ I) ∧ (∀ p ∈ keep, p ∈ news) ∧ J 0 [] news ∧
        GTurnT prog w A h₀ L m env c elt scope cl s₂ keep n P M J ∧ ∀ ys news', J n ys news' → FinE h₀ L m s₂ Q ys news') E s₁) E s)
    (hs : ∀ x, foldedSetIterable iter env x = pure x := by intro _; rfl) :
    wpAny (model prog w) A (eval (.ListComp elt [⟨target, iter, [c], 0⟩] scope pos) env) Q E s := by
  rw [eval_ListComp]
  refine wpAny_comprehension_free (use := none) rfl hs hclos hkind hnames (wpAny_mono h (fun xv s₁ h₁ => wpAny_mono h₁ (fun it s₂ h₂ => ?_) fun _ _ e => e) fun _ _ e => e)
  obtain ⟨I, fp, wr, n, P, Md, St, keep, news, M, J, rfl, W, self, hsz, hIo, hI, hwr, hfp, asg, hst, F, N, hIL, hI₀, off, hkeep, h0, R, fin⟩ := h₂
  refine gc_blockT W self hsz hIo hI hwr hfp asg hcell hkind hst F N hIL hI₀ off hkeep h0 R ?_
  intro D C h tk m' ys news' F' N' o1 hn hC₀ hD₀ hCL hDL hCD offC hJ
  refine ⟨m', hn, fun h'' hs'' => fin ys news' hJ D h'' tk (F'.change hs'' hCL hC₀) (fun p hp => ?_) o1⟩
  refine ⟨hs''.extBut _ _ ?_ (N' p hp).1, (N' p hp).2⟩
  rcases List.mem_cons.mp hp with rfl | hp
  · exact Ne.symm hCD
  · exact offC p hp

theorem gcompP {elt iter target : PySem.Expr} {scope : Scope} {cl : List (Str × Addr)} {pos : Pos} {Q : Value → Shared → Prop} (_F₀ : Fr h₀ L s.heap m)
    (hclos : closureFor scope env = pure cl) (hcell : ∀ y ∈ scope.names, y.2 ≠ .cell) (hkind : scope.kind = .function)
    (hnames : ∀ y ∈ scope.names, y.2 = .local → scope.names.lookup y.1 = some .local)
    (h : wpAny (model prog w) A (eval iter env) (fun xv s₁ => wpAny (model prog w) A (pyIter xv) (fun it s₂ => ∃ (I : Addr) (fp wr : List Addr) (n : Nat) (P : Nat → Value → Prop) (Md : Nat → Value → Heap → Prop) (St : Nat → Heap → Prop) (keep news : List (Addr × Obj))
        (M : Nat → Value → (Str → Option Value) → Prop) (J : Nat → List Value → List (Addr × Obj) → Prop), it = .ref I ∧ KTurns prog w A target I fp wr n (fun i v _ => P i v) Md St ∧
        (∀ (s : Shared) (Q : Value → Shared → Prop) (E : Value → Shared → Prop), St 0 s.heap → Q (.ref I) s → wpAny (model prog w) A (pyIter (.ref I)) Q E s) ∧
        n ≤ sizeLine ∧ (∀ i h, St i h → ∃ o, h.get? I = some o) ∧ I ∈ fp ∧ (∀ b ∈ wr, b = I) ∧ (∀ b ∈ fp, b = I ∨ (∃ o, h₀.get? b = some o) ∨ ∃ o, (b, o) ∈ keep) ∧
        (∀ i v (s : Shared) (m₁ : Str → Option Value) (C : Addr) (Q : Unit → Shared → Prop) (E : Value → Shared → Prop), i < n → P i v → s.heap.Ns C m₁ → (∀ b o, h₀.get? b = some o → s.heap.get? b = some o) → (∀ p ∈ keep, s.heap.get? p.1 = some p.2) →
          (∀ h' tk m₂, h'.Ns C m₂ → M i v m₂ → (∀ c o, c ≠ C → s.heap.get? c = some o → h'.get? c = some o) → Q () { s with heap := h', toks := tk }) → wpAny (model prog w) A (assign target (compEnvC scope cl C env) v) Q E s) ∧
        St 0 s₂.heap ∧ Fr h₀ L s₂.heap m ∧ News h₀ L s₂.heap news ∧ L ≠ I ∧ h₀.get? I = none ∧ (∀ p ∈ news, p.1 ≠ I) ∧ (∀ p ∈ keep, p ∈ news) ∧ J 0 [] news ∧
        GTurnP prog w A h₀ L m env elt scope cl s₂ keep n P M J ∧ ∀ ys news', J n ys news' → FinE h₀ L m s₂ Q ys news') E s₁) E s)
    (hs : ∀ x, foldedSetIterable iter env x = pure x := by intro _; rfl) :
    wpAny (model prog w) A (eval (.ListComp elt [⟨target, iter, [], 0⟩] scope pos) env) Q E s := by
  rw [eval_ListComp]
  refine wpAny_comprehension_free (use := none) rfl hs hclos hkind hnames (wpAny_mono h (fun xv s₁ h₁ => wpAny_mono h₁ (fun it s₂ h₂ => ?_) fun _ _ e => e) fun _ _ e => e)
  obtain ⟨I, fp, wr, n, P, Md, St, keep, news, M, J, rfl, W, self, hsz, hIo, hI, hwr, hfp, asg, hst, F, N, hIL, hI₀, off, hkeep, h0, R, fin⟩ := h₂
  refine gc_blockP W self hsz hIo hI hwr hfp asg hcell hkind hst F N hIL hI₀ off hkeep h0 R ?_
  intro D C h tk m' ys news' F' N' o1 hn hC₀ hD₀ hCL hDL hCD offC hJ
  refine ⟨m', hn, fun h'' hs'' => fin ys news' hJ D h'' tk (F'.change hs'' hCL hC₀) (fun p hp => ?_) o1⟩
  refine ⟨hs''.extBut _ _ ?_ (N' p hp).1, (N' p hp).2⟩
  rcases List.mem_cons.mp hp with rfl | hp
  · exact Ne.symm hCD
  · exact offC p hp
end
end Mine
end
section
open PySem PySem.W PySem.Spec PySem.Calls PyProof.Rows PyProof.Rows.LCg
namespace Mine
section
variable {prog : Program} {w : World} {A : Around} {E : Value → Shared → Prop} {s : Shared} {h₀ : Heap} {L : Addr} {m : Str → Option Value} {env : Env} {news : List (Addr × Obj)}

/-- what a target makes of an item, in a comprehension's own names -/
abbrev Asg (prog : Program) (w : World) (A : Around) (h₀ : Heap) (env : Env) (target : PySem.Expr) (scope : Scope) (cl : List (Str × Addr)) (keep : List (Addr × Obj)) (n : Nat) (P : Nat → Value → Prop) (M : Nat → Value → (Str → Option Value) → Prop) : Prop :=
  ∀ i v (s : Shared) (m₁ : Str → Option Value) (C : Addr) (Q : Unit → Shared → Prop) (E : Value → Shared → Prop), i < n → P i v → s.heap.Ns C m₁ → (∀ b o, h₀.get? b = some o → s.heap.get? b = some o) → (∀ p ∈ keep, s.heap.get? p.1 = some p.2) →
    (∀ h' tk m₂, h'.Ns C m₂ → M i v m₂ → (∀ c o, c ≠ C → s.heap.get? c = some o → h'.get? c = some o) → Q () { s with heap := h', toks := tk }) → wpAny (model prog w) A (assign target (compEnvC scope cl C env) v) Q E s

theorem asg_name {x : Str} {px : Pos} {scope : Scope} {cl : List (Str × Addr)} {keep : List (Addr × Obj)} {n : Nat} {P : Nat → Value → Prop} (hkind : scope.kind = .function) (hx : scope.names.lookup x = some .local) :
    Asg prog w A h₀ env (.Name x px) scope cl keep n P (fun _ v m₂ => m₂ x = some v) := by
  intro i v s m₁ C Q E _ _ hn _ _ h
  exact wpAny_assign_Name (wpAny_storeName_local (lookup_relabel_local hx) hn (fun h₃ hn₃ hs₃ => h _ _ _ hn₃ (by simp) fun c o hc e => hs₃.extBut c o hc e) (by simp [compEnvC, relabel, hkind]))
theorem asg_pair {x y : Str} {px py pt : Pos} {kk : Nat} {scope : Scope} {cl : List (Str × Addr)} {keep : List (Addr × Obj)} {n : Nat} {P : Nat → Value → Prop} (hh : A.handled = none) (hkind : scope.kind = .function) (hx : scope.names.lookup x = some .local) (hy : scope.names.lookup y = some .local) (hxy : ¬ x = y)
    {P2 : Nat → Value → Value → Prop} (hP : ∀ i v, P i v → ∃ T a b, v = .ref T ∧ P2 i a b ∧ ∀ h : Heap, (∀ b o, h₀.get? b = some o → h.get? b = some o) → (∀ p ∈ keep, h.get? p.1 = some p.2) → h.IsTuple T #[a, b]) :
    Asg prog w A h₀ env (.Tuple [.Name x px, .Name y py] kk pt) scope cl keep n P (fun i _ m₂ => ∃ a b, P2 i a b ∧ m₂ x = some a ∧ m₂ y = some b) := by
  intro i v s m₁ C Q E _ hv hn hb hk h
  obtain ⟨T, a, b, rfl, h2, ht⟩ := hP i v hv
  refine kcp_assign (env := compEnvC scope cl C env) hh (ht _ hb hk) (lookup_relabel_local hx) (lookup_relabel_local hy) (by simp [compEnvC, relabel, hkind]) hn fun h₄ tk₄ hn₄ hs₄ => ?_
  exact h _ _ _ hn₄ ⟨a, b, h2, by simp [hxy], by simp⟩ hs₄
theorem asg_triple {x y z : Str} {px py pz pt : Pos} {kk : Nat} {scope : Scope} {cl : List (Str × Addr)} {keep : List (Addr × Obj)} {n : Nat} {P : Nat → Value → Prop} (hh : A.handled = none) (hkind : scope.kind = .function) (hx : scope.names.lookup x = some .local) (hy : scope.names.lookup y = some .local) (hz : scope.names.lookup z = some .local)
    (hxy : ¬ x = y) (hxz : ¬ x = z) (hyz : ¬ y = z)
    {P3 : Nat → Value → Value → Value → Prop} (hP : ∀ i v, P i v → ∃ T a b c, v = .ref T ∧ P3 i a b c ∧ ∀ h : Heap, (∀ b o, h₀.get? b = some o → h.get? b = some o) → (∀ p ∈ keep, h.get? p.1 = some p.2) → h.IsTuple T #[a, b, c]) :
    Asg prog w A h₀ env (.Tuple [.Name x px, .Name y py, .Name z pz] kk pt) scope cl keep n P (fun i _ m₂ => ∃ a b c, P3 i a b c ∧ m₂ x = some a ∧ m₂ y = some b ∧ m₂ z = some c) := by
  intro i v s m₁ C Q E _ hv hn hb hk h
  obtain ⟨T, a, b, c, rfl, h2, ht⟩ := hP i v hv
  have ht := ht _ hb hk
  have hp : ((compEnvC scope cl C env).scope.kind == .class || ((compEnvC scope cl C env).scope.kind == .module && (compEnvC scope cl C env).locals != (compEnvC scope cl C env).globals)) = false := by simp [compEnvC, relabel, hkind]
  refine wpAny_assign_Tuple hh ht rfl rfl fun h₁ he₁ => ?_
  have hL : C ≠ s.heap.objs.size := Nat.ne_of_lt hn.lt
  have hn₁ : h₁.Ns C m₁ := hn.at' fun o e => he₁ _ o hL e
  have up₁ : ∀ c o, s.heap.get? c = some o → h₁.get? c = some o := fun c o e => he₁ c o (Nat.ne_of_lt (Heap.lt_size e)) e
  show wpAny _ _ (assignInOrder [assign (.Name x px) (compEnvC scope cl C env), assign (.Name y py) (compEnvC scope cl C env), assign (.Name z pz) (compEnvC scope cl C env)] [a, b, c]) _ _ _
  refine assignInOrder_cons ?_
  refine wpAny_assign_Name (wpAny_storeName_local (lookup_relabel_local hx) hn₁ (fun h₂ hn₂ hs₂ => ?_) hp)
  refine assignInOrder_cons ?_
  refine wpAny_assign_Name (wpAny_storeName_local (lookup_relabel_local hy) hn₂ (fun h₃ hn₃ hs₃ => ?_) hp)
  refine assignInOrder_cons ?_
  refine wpAny_assign_Name (wpAny_storeName_local (lookup_relabel_local hz) hn₃ (fun h₄ hn₄ hs₄ => ?_) hp)
  refine assignInOrder_nil ?_
  exact h h₄ _ _ hn₄ ⟨a, b, c, h2, by simp [hxy, hxz], by simp [hyz], by simp⟩ fun c o hc e => hs₄.extBut c o hc (hs₃.extBut c o hc (hs₂.extBut c o hc (up₁ c o e)))

theorem tup_src {p : Addr} {vs : List Value} {keep : List (Addr × Obj)} (hh : A.handled = none) (hsrc : IsTup h₀ p vs.toArray ∨ ∃ o, (p, o) ∈ keep ∧ o.cls = .type "tuple" ∧ ∃ n, o.data = .seq vs.toArray n) (F : Fr h₀ L s.heap m) (N : News h₀ L s.heap news) (hkeep : ∀ p ∈ keep, p ∈ news)
    {Q : Value → Shared → Prop}
    (h : ∀ (I : Addr) (g : Heap), Fr h₀ L g m → News h₀ L g news → L ≠ I → h₀.get? I = none → (∀ q ∈ news, q.1 ≠ I) → (g.IsTupleIter I p 0 ∧ g.IsTuple p vs.toArray) →
      (∀ target : PySem.Expr, KTurns prog w A target I [I, p] [I] vs.length (fun i v _ => vs[i]? = some v) (fun i v h => vs.toArray[i]? = some v ∧ h.IsTupleIter I p (i + 1) ∧ h.IsTuple p vs.toArray) (fun i h => h.IsTupleIter I p i ∧ h.IsTuple p vs.toArray)) →
      (∀ b ∈ [I, p], b = I ∨ (∃ o, h₀.get? b = some o) ∨ ∃ o, (b, o) ∈ keep) → Q (.ref I) { s with heap := g }) :
    wpAny (model prog w) A (pyIter (.ref p)) Q E s := by
  have hls : s.heap.IsTuple p vs.toArray := by
    rcases hsrc with ht | ⟨o, hm, hc, n, hd⟩
    · exact Heap.IsTuple.at ht fun o e => F.keep p o e
    · exact ⟨o, (N _ (hkeep _ hm)).1, hc, n, hd⟩
  have hpl : p < s.heap.objs.size := by obtain ⟨o, ho, _⟩ := hls; exact Heap.lt_size ho
  have hne : p ≠ s.heap.objs.size := Nat.ne_of_lt hpl
  refine wpAny_pyIter_tuple hls ?_
  have W := fun target : PySem.Expr => KTurns.ofWalks (target := target) (Walks.tuple (prog := prog) (w := w) hh s.heap.objs.size p hne vs.toArray) (fun i v s Q E st q => letGo_tupleiter st.1 q)
  have e : vs.toArray.size = vs.length := by simp
  refine h _ _ (F.push _) (fun q hq => ⟨Heap.get?_push_of_some _ (N q hq).1, (N q hq).2⟩) (Nat.ne_of_lt F.ns.lt) (next_is_new F) (fun q hq => Nat.ne_of_lt (Heap.lt_size (N q hq).1)) ⟨⟨_, Heap.get?_push_size _ rfl, rfl, rfl⟩, hls.at fun o e => Heap.get?_push_of_some _ e⟩ ?_ ?_
  · intro target
    have W := W target
    rw [e] at W
    have e2 : (fun (i : Nat) (v : Value) (_ : Heap) => vs.toArray[i]? = some v) = fun i v _ => vs[i]? = some v := by
      funext i v _; simp
    rw [e2] at W
    exact W
  · intro b hb
    have hb' : b = s.heap.objs.size ∨ b = p := by simpa using hb
    rcases hb' with rfl | rfl
    · exact .inl rfl
    · rcases hsrc with ⟨o, ho, _⟩ | ⟨o, hm, _⟩
      · exact .inr (.inl ⟨o, ho⟩)
      · exact .inr (.inr ⟨o, hm⟩)
theorem tup_self {I p : Addr} {vs : List Value} : ∀ (s : Shared) (Q : Value → Shared → Prop) (E : Value → Shared → Prop), (s.heap.IsTupleIter I p 0 ∧ s.heap.IsTuple p vs.toArray) → Q (.ref I) s → wpAny (model prog w) A (pyIter (.ref I)) Q E s :=
  fun _ _ _ st hQ => wpAny_pyIter_tupleiter st.1 hQ
theorem tup_io {I p : Addr} {vs : List Value} : ∀ (i : Nat) (h : Heap), (h.IsTupleIter I p i ∧ h.IsTuple p vs.toArray) → ∃ o, h.get? I = some o := fun _ _ st => let ⟨o, ho, _⟩ := st.1; ⟨o, ho⟩
end
end Mine
end
section
open PySem PySem.W PySem.Spec PySem.Calls PyProof.Rows PyProof.Rows.LCg
namespace Mine
theorem keys_miss : typeLookup (.type "list") "keys" = pure none := am_miss_of_fast (by first | rfl | decide +kernel | kernel_rfl)

theorem keys_of_list {prog : Program} {w : World} {A : Around} {E : Value → Shared → Prop} {s : Shared} {a : Addr} {xs : Array Value} {k : Nat} {Q : Option Value → Shared → Prop}
    (hx : s.heap.get? a = some { cls := .type "list", data := .seq xs k }) (hA : A.handled = none)
    (h : ∀ h' tk, Sub s.heap h' → Q none { s with heap := h', toks := tk }) :
    wpAny (model prog w) A (getAttr? (.ref a) "keys") Q E s := by
  obtain ⟨hp, g, d, tk, os⟩ := s
  have hT : ∀ tk', (⟨hp, g, d, tk', os⟩ : Shared).TypeIs (.ref a) "list" := fun _ => ⟨_, hx, rfl⟩
  have f1 := sub_AttributeError
  have f3 := F.slot_list_getattribute.lookup
  have f4 := F.slot_list_getattribute.bind (.ref a)
  have f5 := am_list_getattr_none
  unfold getAttr? getAttrBy? getAttrBy
  repeat (any_goals (first | assumption | exact hT _ | ((with_reducible show wpAny _ _ (call (Value.builtin "list.__getattribute__") _ _) _ _ _); refine call_meets F.slot_list_getattribute (hT _) am_entry_list_getattribute (F.args_list_getattribute_2 _ _) (meets_getattribute_miss_list a xs k #[] "keys" _ keys_miss (by decide) (by rw [sizeLine_eq]; decide)) ⟨hx, hA, fun h' tk' e hx' => ?_⟩) | wp_step))
  obtain ⟨t', u', he⟩ := hx'.there
  have hTe : ∀ tk', (⟨h', g, d, tk', os⟩ : Shared).TypeIs (.ref e) "AttributeError" := fun _ => ⟨_, he, rfl⟩
  show wpAny _ _ (getattributeRaised _ _ _ _ _ _ _) _ _ _
  unfold getattributeRaised
  repeat (any_goals (first | assumption | exact hTe _ | wp_step))
  all_goals first | exact h _ _ hx'.keeps
end Mine
namespace Mine
open PySem.Builtin
theorem entry_upd_loop : entryFor table "dict.update.loop" = some Builtin.«dict.update.loop» := entryFor_of_fast (by kernel_rfl)
theorem plain_upd_loop : plainId "dict.update.loop" = true := by decide +kernel
theorem plain_quiet (args : Args) : (Code.builtin "dict.update.loop" args).quiet = true := plainId_quiet plain_upd_loop args

/-- items of a list that are pairs of a name and a value -/
inductive PairsAt (h : Heap) : List Value → List (Str × Value) → Prop
  | nil : PairsAt h [] []
  | cons {T : Addr} {t : Tok} {k : Str} {v : Value} {vs kvs} : h.IsTuple T #[.str k t, v] → PairsAt h vs kvs → PairsAt h (.ref T :: vs) ((k, v) :: kvs)
theorem PairsAt.mono {h h' : Heap} {vs kvs} (x : PairsAt h vs kvs) (k : ∀ T xs, h.IsTuple T xs → h'.IsTuple T xs) : PairsAt h' vs kvs := by
  induction x with
  | nil => exact .nil
  | cons a _ ih => exact .cons (k _ _ a) ih
theorem PairsAt.length {h : Heap} {vs kvs} (x : PairsAt h vs kvs) : vs.length = kvs.length := by
  induction x with
  | nil => rfl
  | cons _ _ ih => simp [ih]
theorem tuple_off {h h' : Heap} {d it : Addr} (hd : ∀ o, h.get? d = some o → o.cls ≠ .type "tuple") (hi : ∀ o, h.get? it = some o → o.cls ≠ .type "tuple") (k : ∀ b o, b ≠ d → b ≠ it → h.get? b = some o → h'.get? b = some o)
    (T : Addr) (xs : Array Value) (x : h.IsTuple T xs) : h'.IsTuple T xs := by
  obtain ⟨o, ho, hc, r⟩ := x
  exact ⟨o, k T o (fun e => hd o (e ▸ ho) hc) (fun e => hi o (e ▸ ho) hc) ho, hc, r⟩
theorem stored_new (acc : List (Str × Value)) (k : Str) (v : Value) (h : k ∉ acc.map (·.1)) : stored acc k v = acc ++ [(k, v)] := by
  unfold stored
  rw [if_neg]
  intro e
  obtain ⟨p, hp, e⟩ := List.any_eq_true.mp e
  exact h (List.mem_map.mpr ⟨p, hp, of_decide_eq_true e⟩)

section
variable {prog : Program} {w : World}
theorem upd_loop {d it l : Addr} {items : List Value} {E : Value → Shared → Prop} {Q : Value → Shared → Prop} : ∀ (rest : List Value) (kvs : List (Str × Value)) (A : Around) (i : Int) (j : Nat) (acc : List (Str × Value)) (s : Shared), A.handled = none →
    s.heap.IsListIter it l j → s.heap.IsList l items.toArray → items.drop j = rest → PairsAt s.heap rest kvs → s.heap.DictOf (strKind prog w) d acc → it ≠ l → d ≠ it → d ≠ l → ((acc ++ kvs).map (·.1)).Nodup → (acc ++ kvs).length ≤ sizeLine →
    (∀ h' tk', h'.DictOf (strKind prog w) d (acc ++ kvs) → (∀ b o, b ≠ d → b ≠ it → s.heap.get? b = some o → h'.get? b = some o) → Q .none { s with heap := h', toks := tk' }) →
    codeAny (model prog w) A (.builtin "dict.update.loop" ⟨[.ref d, .ref it, .int i 0, .none], []⟩) (wants Q E) s := by
  intro rest
  induction rest with
  | nil =>
    intro kvs A i j acc s hA hit hl hr hp hd _ _ _ _ _ h
    cases hp
    refine codeAny_builtin entry_upd_loop ?_
    rw [Around.under_plainId plain_upd_loop]
    unfold Builtin.«dict.update.loop»
    have hnone : items.toArray[j]? = none := by
      have : items.length ≤ j := by
        have := congrArg List.length hr
        simp at this
        omega
      simp [this]
    refine wpAny_bind (wpAny_pyNext_list_end hA hit hl hnone fun h' hx => ?_)
    show wpAny _ _ (Builtin.Dict.addKeywords d [] >>= _) _ _ _
    refine wpAny_bind (wpAny_pure (wpAny_pure ?_))
    rw [List.append_nil] at h
    have hdi : d ≠ it := by assumption
    exact h h' _ (hd.extBut hx hdi) fun b o _ hb e => hx b o hb e
  | cons v rest ih =>
    intro kvs A i j acc s hA hit hl hr hp hd hil hdi hdl hn hz h
    cases hp with
    | @cons T t k x _ kvs hT hp =>
    refine codeAny_builtin entry_upd_loop ?_
    rw [Around.under_plainId plain_upd_loop]
    unfold Builtin.«dict.update.loop»
    have hj : items[j]? = some (.ref T) := by
      have := congrArg (fun l => l[0]?) hr
      simpa using this
    have hclsd : ∀ o, s.heap.get? d = some o → o.cls ≠ .type "tuple" := by
      intro o ho
      obtain ⟨o', ho', hc'⟩ := hd.typeIs
      rw [ho] at ho'
      cases ho'
      rw [hc']
      decide
    have hclsi : ∀ o, s.heap.get? it = some o → o.cls ≠ .type "tuple" := by
      intro o ho
      obtain ⟨o', ho', hc', _⟩ := hit
      rw [ho] at ho'
      cases ho'
      rw [hc']
      decide
    refine wpAny_bind (wpAny_pyNext_list_item hit hl (x := .ref T) (by simpa using hj) fun h₁ hit₁ hs₁ => ?_)
    have hT₁ : h₁.IsTuple T #[.str k t, x] := tuple_off hclsd hclsi (fun b o _ hb e => hs₁.extBut b o hb e) _ _ hT
    have hd₁ : h₁.DictOf (strKind prog w) d acc := hd.sameBut hs₁ hdi
    have hl₁ : h₁.IsList l items.toArray := hl.extBut hs₁.extBut (Ne.symm hil)
    obtain ⟨oT, hoT, hcT, nT, hdT⟩ := id hT₁
    refine wpAny_bind (wpAny_holding ?_)
    refine wpAny_bind (wpAny_tryCatch ?_)
    unfold Builtin.Dict.pairItems
    refine wpAny_bind (wpAny_typeOf ⟨oT, hoT, hcT⟩ ?_)
    rw [if_pos (by decide)]
    refine wpAny_bind (wpAny_seqItems hoT hdT (wpAny_pure ?_))
    show wpAny _ _ (holding [.str k t, x] (dictSet d (.str k t) x)) _ _ _
    refine wpAny_holding (wpAny_dictSet_pairs (strKind_is prog w k t) hd₁ (fun h₂ hd₂ hs₂ => ?_) (by rw [List.length_append] at hz; omega))
    have hk : k ∉ acc.map (·.1) := by
      intro hm
      rw [List.map_append, List.map_cons] at hn
      have := (List.nodup_append.mp hn).2.2
      exact this _ hm _ (List.mem_cons_self ..) rfl
    rw [stored_new acc k x hk] at hd₂
    refine wpAny_pure ⟨plain_quiet _, ?_⟩
    have hit₂ : h₂.IsListIter it l (j + 1) := hit₁.extBut hs₂.extBut (Ne.symm hdi)
    have hl₂ : h₂.IsList l items.toArray := hl₁.extBut hs₂.extBut (Ne.symm hdl)
    have keep : ∀ b o, b ≠ d → b ≠ it → s.heap.get? b = some o → h₂.get? b = some o := fun b o hb hb' e => hs₂.extBut b o hb (hs₁.extBut b o hb' e)
    have e : acc ++ [(k, x)] ++ kvs = acc ++ (k, x) :: kvs := by simp
    refine ih kvs _ (i + 1) (j + 1) (acc ++ [(k, x)]) _ hA hit₂ hl₂ ?_ (hp.mono (tuple_off hclsd hclsi keep)) hd₂ hil hdi hdl (by rw [e]; exact hn) (by rw [e]; exact hz) fun h' tk' hd' k' => ?_
    · rw [← List.drop_drop, hr]
      rfl
    · rw [e] at hd'
      exact h h' tk' hd' fun b o hb hb' eo => k' b o hb hb' (keep b o hb hb' eo)
end
end Mine
namespace Mine
section
variable {prog : Program} {w : World} {A : Around} {E : Value → Shared → Prop} {s : Shared}
theorem call_dict_pairs {l : Addr} {n : Nat} {items : List Value} {kvs : List (Str × Value)} {Q : Value → Shared → Prop} (hA : A.handled = none) (hl : s.heap.get? l = some { cls := .type "list", data := .seq items.toArray n }) (hp : PairsAt s.heap items kvs)
    (hn : (kvs.map (·.1)).Nodup) (hz : kvs.length ≤ sizeLine)
    (h : ∀ h' tk', h'.DictOf (strKind prog w) s.heap.objs.size kvs → Sub s.heap h' → Q (.ref s.heap.objs.size) { s with heap := h', toks := tk' }) :
    wpAny (model prog w) A (call (.type "dict") [.ref l]) Q E s := by
  refine callType_codes (Q₁ := fun obj s₁ => obj = .ref s.heap.objs.size ∧ s₁ = { s with heap := s.heap.push { cls := .type "dict", data := .dict #[] } }) F.kt_called_dict (F.kt_typeCall_dict_1 _) F.entry_dict_init (kt_code_dict_new _ ⟨rfl, rfl⟩) ?_
  rintro obj s₁ ⟨rfl, rfl⟩
  have hnew : (s.heap.push { cls := .type "dict", data := .dict #[] }).DictOf (strKind prog w) s.heap.objs.size [] := Heap.DictOf.new s.heap
  have hl' : (s.heap.push { cls := .type "dict", data := .dict #[] }).get? l = some { cls := .type "list", data := .seq items.toArray n } := Heap.get?_push_of_some _ hl
  have hfresh : s.heap.get? s.heap.objs.size = none := by
    cases e : s.heap.get? s.heap.objs.size with
    | none => rfl
    | some o => exact absurd (Heap.lt_size e) (Nat.lt_irrefl _)
  have hdl : s.heap.objs.size ≠ l := fun e => by rw [e, hl] at hfresh; cases hfresh
  refine ⟨hnew.typeIs, F.args_dict_init_2 _ _, ?_⟩
  unfold Builtin.«dict.__init__»
  refine wpAny_bind ?_
  unfold Builtin.Dict.selfAndRest
  refine wpAny_bind (wpAny_notOrdered_dict hnew.typeIs ?_)
  show wpAny _ _ (pure (s.heap.objs.size, [Value.ref l])) _ _ _
  refine wpAny_pure ?_
  show wpAny _ _ (Builtin.Dict.updateFrom "dict.__init__" s.heap.objs.size (.ref l) [] .none) _ _ _
  unfold Builtin.Dict.updateFrom
  refine wpAny_bind (wpAny_typeOf ⟨_, hl', rfl⟩ ?_)
  rw [if_pos (by decide)]
  refine wpAny_bind (keys_of_list hl' hA fun h₁ tk₁ S₁ => ?_)
  rw [if_pos (show (none : Option Value).isNone = true from rfl)]
  refine wpAny_bind (wpAny_rule ?_)
  have hl₁ : h₁.IsList l items.toArray := ⟨_, S₁ _ _ hl', rfl, _, rfl⟩
  refine wpAny_bind (wpAny_pyIter_list hl₁ ?_)
  refine wpAny_pure ⟨plain_quiet _, ?_⟩
  have S₂ : Sub s.heap (h₁.push { cls := .type "list_iterator", data := .fields #[.ref l, .int 0 0] }) := fun b o e => Heap.get?_push_of_some _ (S₁ _ _ (Heap.get?_push_of_some _ e))
  have hd₁ : h₁.DictOf (strKind prog w) s.heap.objs.size [] := hnew.keep S₁
  have hlt : s.heap.objs.size < h₁.objs.size := by
    obtain ⟨_, _, _, ho, _⟩ := hd₁
    exact Heap.lt_size ho
  have hll : l < h₁.objs.size := Heap.lt_size (S₁ _ _ hl')
  refine upd_loop (it := h₁.objs.size) (l := l) items kvs A.in1 0 0 [] _ hA ⟨_, Heap.get?_push_size _ rfl, rfl, rfl⟩ (hl₁.push _) rfl (hp.mono fun T xs x => x.at fun o e => S₂ _ _ e) (hd₁.push _) (Nat.ne_of_gt hll) (Nat.ne_of_lt hlt) hdl (by simpa using hn) (by simpa using hz) fun h' tk' hd' k' => ?_
  rw [List.nil_append] at hd'
  refine ⟨rfl, h _ _ hd' fun b o e => ?_⟩
  have hb : b < s.heap.objs.size := Heap.lt_size e
  exact k' b o (Nat.ne_of_lt hb) (Nat.ne_of_lt (Nat.lt_trans hb hlt)) (S₂ _ _ e)
end
end Mine
end
section
open PySem PySem.W PySem.Spec PySem.Calls PyProof.Rows PyProof.Rows.LCg
namespace Mine
theorem strKind_inv {prog : Program} {w : World} {k : Str} {v : Value} (h : (PySem.strKind prog w).is k v = true) : ∃ t, v = .str k t := by
  cases v <;> simp_all [PySem.strKind, Value.isStrOf]

section
variable {prog : Program} {w : World} {A : Around} {E : Value → Shared → Prop} {s : Shared} {h₀ : Heap} {L : Addr} {m : Str → Option Value} {env : Env} {news : List (Addr × Obj)}
theorem dict_src {d : Addr} {kvs : List (Str × Value)} (hh : A.handled = none) (hd : h₀.DictOf (PySem.strKind prog w) d kvs) (lo : (d == sysModules) = false) (F : Fr h₀ L s.heap m) (N : News h₀ L s.heap news)
    {Q : Value → Shared → Prop}
    (h : ∀ (I ep : Nat) (g : Heap), Fr h₀ L g m → News h₀ L g news → L ≠ I → h₀.get? I = none → (∀ q ∈ news, q.1 ≠ I) → (g.IsKeyIter I d 0 kvs.length ep ∧ g.DictAt (PySem.strKind prog w) d kvs ep) →
      (∀ target : PySem.Expr, KTurns prog w A target I [I, d] [I] kvs.length (fun i v _ => ∃ k x t, kvs[i]? = some (k, x) ∧ v = .str k t) (fun i v h => (∃ k x t, kvs[i]? = some (k, x) ∧ v = .str k t) ∧ h.IsKeyIter I d (i + 1) kvs.length ep ∧ h.DictAt (PySem.strKind prog w) d kvs ep)
        (fun i h => h.IsKeyIter I d i kvs.length ep ∧ h.DictAt (PySem.strKind prog w) d kvs ep)) →
      (∀ (s : Shared) (Q : Value → Shared → Prop) (E : Value → Shared → Prop), (s.heap.IsKeyIter I d 0 kvs.length ep ∧ s.heap.DictAt (PySem.strKind prog w) d kvs ep) → Q (.ref I) s → wpAny (model prog w) A (pyIter (.ref I)) Q E s) →
      (∀ (i : Nat) (h : Heap), (h.IsKeyIter I d i kvs.length ep ∧ h.DictAt (PySem.strKind prog w) d kvs ep) → ∃ o, h.get? I = some o) →
      (∀ b ∈ [I, d], b = I ∨ (∃ o, h₀.get? b = some o) ∨ ∃ o, (b, o) ∈ ([] : List (Addr × Obj))) → Q (.ref I) { s with heap := g }) :
    wpAny (model prog w) A (pyIter (.ref d)) Q E s := by
  have hds : s.heap.DictOf (PySem.strKind prog w) d kvs := hd.keep F.keep
  obtain ⟨ep, hat⟩ := hds.dictAt
  have hpl : d < s.heap.objs.size := by obtain ⟨o, _, _, ho, _⟩ := hds; exact Heap.lt_size ho
  have hne : d ≠ s.heap.objs.size := Nat.ne_of_lt hpl
  refine wpAny_pyIter_dict lo hat ?_
  have W := fun target : PySem.Expr => KTurns.ofWalks (target := target) (Walks.dictKeys (prog := prog) (w := w) (knd := PySem.strKind prog w) hh s.heap.objs.size d hne kvs ep) (fun i v s Q E st q => letGo_keyiter st.1 q)
  have e2 : ∀ (i : Nat) (v : Value), (∃ k x, kvs[i]? = some (k, x) ∧ (PySem.strKind prog w).is k v = true) = ∃ k x t, kvs[i]? = some (k, x) ∧ v = .str k t := by
    intro i v
    apply propext
    constructor
    · rintro ⟨k, x, h1, h2⟩
      obtain ⟨t, e⟩ := strKind_inv h2
      exact ⟨k, x, t, h1, e⟩
    · rintro ⟨k, x, t, h1, e⟩
      exact ⟨k, x, h1, e ▸ strKind_is prog w k t⟩
  refine h _ ep _ (F.push _) (fun q hq => ⟨Heap.get?_push_of_some _ (N q hq).1, (N q hq).2⟩) (Nat.ne_of_lt F.ns.lt) (next_is_new F) (fun q hq => Nat.ne_of_lt (Heap.lt_size (N q hq).1)) ⟨⟨_, Heap.get?_push_size _ rfl, rfl, rfl⟩, hat.push _⟩ ?_ ?_ ?_ ?_
  · intro target
    have W := W target
    simp only [e2] at W
    exact W
  · exact fun _ _ _ st hQ => wpAny_pyIter_keyiter st.1 hQ
  · intro i h st
    obtain ⟨o, ho, _⟩ := st.1
    exact ⟨o, ho⟩
  · intro b hb
    have hb' : b = s.heap.objs.size ∨ b = d := by simpa using hb
    rcases hb' with rfl | rfl
    · exact .inl rfl
    · obtain ⟨o, _, _, ho, _⟩ := hd
      exact .inr (.inl ⟨o, ho⟩)
end
end Mine
namespace Mine
theorem valueAt_nil (k : Str) : valueAt ([] : List (Str × Value)) k = none := rfl
theorem valueAt_cons (p : Str × Value) (kvs : List (Str × Value)) (k : Str) : valueAt (p :: kvs) k = if p.1 = k then some p.2 else valueAt kvs k := by
  unfold valueAt
  rw [List.find?_cons]
  by_cases h : p.1 = k <;> simp [h]
theorem valueAt_filter (p : Str → Bool) : ∀ (kvs : List (Str × Value)) (k : Str), valueAt (kvs.filter fun kv => p kv.1) k = if p k then valueAt kvs k else none
  | [], k => by simp [valueAt_nil]
  | q :: kvs, k => by
    rw [List.filter_cons, valueAt_cons]
    by_cases h : p q.1
    · rw [if_pos h, valueAt_cons, valueAt_filter p kvs k]
      by_cases e : q.1 = k
      · subst e; simp [h]
      · simp [e]
    · rw [if_neg h, valueAt_filter p kvs k]
      by_cases e : q.1 = k
      · subst e; simp [h]
      · simp [e]
theorem valueAt_without (kvs : List (Str × Value)) (k k' : Str) : valueAt (without kvs k) k' = if k' = k then none else valueAt kvs k' := by
  unfold without
  have := valueAt_filter (fun x => decide (x ≠ k)) kvs k'
  rw [this]
  by_cases h : k' = k <;> simp [h]
theorem valueAt_append (xs ys : List (Str × Value)) (k : Str) : valueAt (xs ++ ys) k = (valueAt xs k).or (valueAt ys k) := by
  induction xs with
  | nil => simp [valueAt_nil]
  | cons p xs ih =>
    rw [List.cons_append, valueAt_cons, valueAt_cons, ih]
    by_cases h : p.1 = k <;> simp [h]
theorem valueAt_map (kvs : List (Str × Value)) (k : Str) (v : Value) (k' : Str) : valueAt (kvs.map fun kv => if kv.1 = k then (kv.1, v) else kv) k' = if k' = k then (valueAt kvs k').map fun _ => v else valueAt kvs k' := by
  induction kvs with
  | nil => simp [valueAt_nil]
  | cons p kvs ih =>
    rw [List.map_cons, valueAt_cons, valueAt_cons, ih]
    by_cases h : p.1 = k
    · rw [if_pos h]
      dsimp only
      by_cases e : p.1 = k'
      · have : k' = k := e ▸ h
        simp [e, this]
      · by_cases e2 : k' = k
        · exact absurd (h.trans e2.symm) e
        · simp [e, e2]
    · rw [if_neg h]
      by_cases e : p.1 = k'
      · have : ¬ k' = k := fun q => h (e.trans q)
        simp [e, this]
      · simp [e]
theorem valueAt_stored (kvs : List (Str × Value)) (k : Str) (v : Value) (k' : Str) : valueAt (stored kvs k v) k' = if k' = k then some v else valueAt kvs k' := by
  unfold stored
  by_cases h : kvs.any (fun kv => kv.1 = k)
  · rw [if_pos h, valueAt_map]
    by_cases e : k' = k
    · subst e
      have := PyProof.Rows.valueAt_isSome_eq_any kvs k'
      rw [h] at this
      obtain ⟨x, hx⟩ := Option.isSome_iff_exists.mp this
      simp [hx]
    · simp [e]
  · rw [if_neg h, valueAt_append, valueAt_cons, valueAt_nil]
    have := PyProof.Rows.valueAt_isSome_eq_any kvs k
    rw [Bool.not_eq_true] at h
    rw [h] at this
    by_cases e : k' = k
    · subst e
      have hn : valueAt kvs k' = none := by
        cases q : valueAt kvs k' with
        | none => rfl
        | some x => rw [q] at this; cases this
      simp [hn]
    · have : ¬ k = k' := fun q => e q.symm
      cases valueAt kvs k' <;> simp [this, e]
theorem valueAt_isSome_mem {kvs : List (Str × Value)} {k : Str} (h : k ∈ kvs.map (·.1)) : (valueAt kvs k).isSome = true := by
  rw [PyProof.Rows.valueAt_isSome_eq_any]
  obtain ⟨p, hp, e⟩ := List.mem_map.mp h
  exact List.any_eq_true.mpr ⟨p, hp, by simp [e]⟩

/-- three things that nobody knows: flags, a code, octets -/
noncomputable def TripAt (h : Heap) (v : Value) (u : Int × Int × Array UInt8) : Prop := ∃ a t1 t2 t3, v = .ref a ∧ Tup h a [.int u.1 t1, .int u.2.1 t2, .bytes u.2.2 t3]
inductive TripsAt (h : Heap) : List Value → List (Int × Int × Array UInt8) → Prop
  | nil : TripsAt h [] []
  | cons {v vs u us} : TripAt h v u → TripsAt h vs us → TripsAt h (v :: vs) (u :: us)
noncomputable def UnkAt (h : Heap) (p : Addr) (us : List (Int × Int × Array UInt8)) : Prop := ∃ vs, Tup h p vs ∧ TripsAt h vs us
theorem TripAt.keeps {h h' : Heap} {v u} (x : TripAt h v u) (k : Sub h h') : TripAt h' v u := by
  obtain ⟨a, t1, t2, t3, e, h1⟩ := x
  exact ⟨a, t1, t2, t3, e, h1.keeps k⟩
theorem TripsAt.keeps {h h' : Heap} {vs us} (x : TripsAt h vs us) (k : Sub h h') : TripsAt h' vs us := by
  induction x with
  | nil => exact .nil
  | cons a _ ih => exact .cons (a.keeps k) ih
theorem UnkAt.keeps {h h' : Heap} {p us} (x : UnkAt h p us) (k : Sub h h') : UnkAt h' p us := by
  obtain ⟨vs, a, b⟩ := x
  exact ⟨vs, a.keeps k, b.keeps k⟩
theorem TripsAt.length {h : Heap} {vs us} (x : TripsAt h vs us) : vs.length = us.length := by
  induction x with
  | nil => rfl
  | cons _ _ ih => simp [ih]
theorem TripsAt.get {h : Heap} {vs us} (x : TripsAt h vs us) {i : Nat} {v : Value} (e : vs[i]? = some v) : ∃ u, us[i]? = some u ∧ TripAt h v u := by
  induction x generalizing i with
  | nil => simp at e
  | cons a _ ih =>
    cases i with
    | zero => simp at e; subst e; exact ⟨_, rfl, a⟩
    | succ i => simp at e; exact ih e

inductive FV where
  | int (n : Int)
  | path (P : List (Int × List Int))
  | nums (ns : List Int)
  | unk (us : List (Int × Int × Array UInt8))
noncomputable def ValAt (h : Heap) (v : Value) : FV → Prop
  | .int n => ∃ t, v = .int n t
  | .path P => ∃ p, v = .ref p ∧ PathAt h p P
  | .nums ns => ∃ p, v = .ref p ∧ TupI h p ns
  | .unk us => ∃ p, v = .ref p ∧ UnkAt h p us
theorem ValAt.keeps {h h' : Heap} {v fv} (x : ValAt h v fv) (k : Sub h h') : ValAt h' v fv := by
  cases fv with
  | int n => exact x
  | path P => obtain ⟨p, e, y⟩ := x; exact ⟨p, e, y.keeps k⟩
  | nums ns => obtain ⟨p, e, y⟩ := x; exact ⟨p, e, y.keeps k⟩
  | unk us => obtain ⟨p, e, y⟩ := x; exact ⟨p, e, y.keeps k⟩
noncomputable def OptAt (h : Heap) : Option Value → Option FV → Prop
  | some v, some fv => ValAt h v fv
  | none, none => True
  | _, _ => False
noncomputable def DRel (h : Heap) (f : Str → Option Value) (R : Str → Option FV) : Prop := ∀ k, OptAt h (f k) (R k)
theorem OptAt.keeps {h h' : Heap} {v fv} (x : OptAt h v fv) (k : Sub h h') : OptAt h' v fv := by
  cases v <;> cases fv <;> first | exact x | exact ValAt.keeps x k
theorem DRel.keeps {h h' : Heap} {f R} (x : DRel h f R) (k : Sub h h') : DRel h' f R := fun n => (x n).keeps k
theorem DRel.some {h : Heap} {f R} (x : DRel h f R) {k : Str} {fv : FV} (e : R k = some fv) : ∃ v, f k = some v ∧ ValAt h v fv := by
  have := x k
  rw [e] at this
  cases q : f k with
  | none => rw [q] at this; exact this.elim
  | some v => rw [q] at this; exact ⟨v, rfl, this⟩
theorem DRel.none {h : Heap} {f R} (x : DRel h f R) {k : Str} (e : R k = none) : f k = none := by
  have := x k
  rw [e] at this
  cases q : f k with
  | none => rfl
  | some v => rw [q] at this; exact this.elim
theorem DRel.isSome {h : Heap} {f R} (x : DRel h f R) (k : Str) : (f k).isSome = (R k).isSome := by
  cases e : R k with
  | none => rw [x.none e]; rfl
  | some fv => obtain ⟨v, hv, _⟩ := x.some e; rw [hv]; rfl
noncomputable def upd (R : Str → Option FV) (k : Str) (v : Option FV) : Str → Option FV := fun k' => if k' = k then v else R k'
theorem DRel.upd {h : Heap} {f R} (x : DRel h f R) {k : Str} {v : Value} {fv : FV} (hv : ValAt h v fv) : DRel h (fun k' => if k' = k then Option.some v else f k') (upd R k (Option.some fv)) := by
  intro k'
  unfold Mine.upd
  dsimp only
  by_cases e : k' = k
  · rw [if_pos e, if_pos e]; exact hv
  · rw [if_neg e, if_neg e]; exact x k'
theorem DRel.stored {h : Heap} {kvs R} (x : DRel h (valueAt kvs) R) {k : Str} {v : Value} {fv : FV} (hv : ValAt h v fv) : DRel h (valueAt (PySem.stored kvs k v)) (Mine.upd R k (Option.some fv)) := by
  intro k'
  rw [valueAt_stored]
  exact (x.upd hv) k'
theorem DRel.without {h : Heap} {kvs R} (x : DRel h (valueAt kvs) R) (k : Str) : DRel h (valueAt (PySem.without kvs k)) (Mine.upd R k Option.none) := by
  intro k'
  rw [valueAt_without]
  unfold Mine.upd
  by_cases e : k' = k
  · rw [if_pos e, if_pos e]; trivial
  · rw [if_neg e, if_neg e]; exact x k'
theorem DRel.filter {h : Heap} {kvs R} (x : DRel h (valueAt kvs) R) (p : Str → Bool) : DRel h (valueAt (kvs.filter fun kv => p kv.1)) (fun k => if p k then R k else Option.none) := by
  intro k'
  rw [valueAt_filter]
  dsimp only
  by_cases e : p k'
  · rw [if_pos e, if_pos e]; exact x k'
  · rw [if_neg e, if_neg e]; trivial

noncomputable def attNames : List Str := ["origin", "as_path", "next_hop", "med", "communities", "unknown", "local_pref", "originator", "clusters"]
noncomputable def Dom (R : Str → Option FV) : Prop := ∀ k, k ∉ attNames → R k = none
theorem nodup_le : ∀ (ks ns : List Str), ks.Nodup → (∀ k ∈ ks, k ∈ ns) → ks.length ≤ ns.length
  | [], _, _, _ => Nat.zero_le _
  | k :: ks, ns, hn, hs => by
    have hk := hs k (List.mem_cons_self ..)
    have hn' := List.nodup_cons.mp hn
    have := nodup_le ks (ns.erase k) hn'.2 fun q hq => (List.mem_erase_of_ne (fun (e : q = k) => hn'.1 (e ▸ hq))).mpr (hs q (List.mem_cons_of_mem _ hq))
    rw [List.length_erase_of_mem hk] at this
    have hp : 0 < ns.length := List.length_pos_of_mem hk
    simp only [List.length_cons]
    omega
theorem dom_le {h : Heap} {kvs R} (x : DRel h (valueAt kvs) R) (hd : Dom R) (hn : (kvs.map (·.1)).Nodup) : kvs.length ≤ 9 := by
  have := nodup_le (kvs.map (·.1)) attNames hn fun k hk => by
    by_cases e : k ∈ attNames
    · exact e
    · have h1 := x.none (hd k e)
      have h2 := valueAt_isSome_mem hk
      rw [h1] at h2
      cases h2
  rw [List.length_map] at this
  exact this
noncomputable def AttAt (w : World) (h : Heap) (d : Addr) (R : Str → Option FV) : Prop := ∃ kvs, h.DictOf (PySem.strKind PR w) d kvs ∧ (d == sysModules) = false ∧ DRel h (valueAt kvs) R
theorem AttAt.keeps {w : World} {h h' : Heap} {d R} (x : AttAt w h d R) (k : Sub h h') : AttAt w h' d R := by
  obtain ⟨kvs, a, b, c⟩ := x
  exact ⟨kvs, a.keep k, b, c.keeps k⟩
end Mine
namespace Mine
/-- a speaker -/
noncomputable def OwnAt (w : World) (h : Heap) (o : Addr) (id mem clu adr : Int) : Prop := ∃ kvs, h.DictOf (PySem.strKind PR w) o kvs ∧ (∃ t, valueAt kvs (Str.ofString "id") = some (.int id t)) ∧ (∃ t, valueAt kvs (Str.ofString "as") = some (.int 9 t)) ∧
  (∃ t, valueAt kvs (Str.ofString "member") = some (.int mem t)) ∧ (∃ t, valueAt kvs (Str.ofString "cluster") = some (.int clu t)) ∧ ∃ t, valueAt kvs (Str.ofString "addr") = some (.int adr t)
theorem OwnAt.keeps {w : World} {h h' : Heap} {o id mem clu adr} (x : OwnAt w h o id mem clu adr) (k : Sub h h') : OwnAt w h' o id mem clu adr := by
  obtain ⟨kvs, a, b⟩ := x
  exact ⟨kvs, a.keep k, b⟩
section
variable {prog : Program} {w : World} {A : Around} {E : Value → Shared → Prop} {s : Shared} {h₀ : Heap} {L : Addr} {m : Str → Option Value} {d : Addr} {kvs : List (Str × Value)} {k : Str} {t : Tok} {v : Value}
theorem bd_item {value slice : PySem.Expr} {Q : Value → Shared → Prop} (hd : s.heap.DictOf (PySem.strKind prog w) d kvs) (hl : valueAt kvs k = some v) (h : Q v { s with toks := s.toks + 1 })
    (hs : subscripted slice false (.ref d) (.str k t) = operate [.ref d, .str k t] (getItem (.ref d) (.str k t)) := by with_unfolding_all rfl) (hg : ∀ r, letTemporaryGo value (.ref d) r = pure () := by intro _; with_unfolding_all rfl) :
    wpAny (model prog w) A (subscriptTail value slice (.ref d) (.str k t)) Q E s :=
  subscriptTail_builtin hd.typeIs slot_dict_getitem.lookup (wpAny_getItem_of (strKind_is prog w k t) hd.mapOf hl h) hs hg
theorem bd_in {Q : Value → Shared → Prop} (hd : s.heap.DictOf (PySem.strKind prog w) d kvs) (lo : (d == sysModules) = false) (b : Bool) (hb : (valueAt kvs k).isSome = b) (h : Q (.bool b) { s with toks := s.toks + 1 }) :
    wpAny (model prog w) A (compareOp .In (.str k t) (.ref d)) Q E s := wpAny_in_of (strKind_is prog w k t) lo hd.mapOf (by rw [hb]; exact h)
theorem bd_notin {Q : Value → Shared → Prop} (hd : s.heap.DictOf (PySem.strKind prog w) d kvs) (lo : (d == sysModules) = false) (b : Bool) (hb : (valueAt kvs k).isSome = b) (h : Q (.bool (!b)) { s with toks := s.toks + 1 }) :
    wpAny (model prog w) A (compareOp .NotIn (.str k t) (.ref d)) Q E s := wpAny_notIn_of (strKind_is prog w k t) lo hd.mapOf (by rw [hb]; exact h)
theorem bd_method {pl : Sem Bool} {Q : Value × List Value → Shared → Prop} (hd : s.heap.DictOf (PySem.strKind prog w) d kvs) (h : Q (.builtin "dict.get", [.ref d]) s) : wpAny (model prog w) A (getMethod (.ref d) "get" pl) Q E s :=
  getMethod_builtin hd.typeIs PySem.F.plainAttrs_dict PySem.F.slot_dict_get PySem.F.type_dict_get hd.mapOf.noDict h
theorem bd_get2 {Q : Value → Shared → Prop} {dflt : Value} (hd : s.heap.DictOf (PySem.strKind prog w) d kvs) (lo : (d == sysModules) = false) (x : Option Value) (hl : valueAt kvs k = x) (h : Q (x.getD dflt) { s with toks := s.toks + 1 }) :
    wpAny (model prog w) A (call (.builtin "dict.get") [.ref d, .str k t, dflt]) Q E s :=
  call_meetsIn PySem.F.slot_dict_get hd.typeIs PySem.F.entry_dict_get (PySem.F.args_dict_get_3 _ _ _) (meets_dict_get_default (PySem.strKind prog w) d (strKind_is prog w k t) lo dflt) ⟨_, hd.mapOf, by rw [hl]; exact h⟩
end
end Mine
namespace Mine
inductive PairsN (tl : List (Addr × Obj)) : List Value → List (Str × Value) → Prop
  | nil : PairsN tl [] []
  | cons {T n : Nat} {t : Tok} {k : Str} {v : Value} {vs kvs} : (T, tupO [.str k t, v] n) ∈ tl → PairsN tl vs kvs → PairsN tl (.ref T :: vs) ((k, v) :: kvs)
theorem PairsN.mono {tl tl' : List (Addr × Obj)} {vs kvs} (x : PairsN tl vs kvs) (k : ∀ p ∈ tl, p ∈ tl') : PairsN tl' vs kvs := by
  induction x with
  | nil => exact .nil
  | cons a _ ih => exact .cons (k _ a) ih
theorem PairsN.append {tl : List (Addr × Obj)} {vs ws kvs kws} (x : PairsN tl vs kvs) (y : PairsN tl ws kws) : PairsN tl (vs ++ ws) (kvs ++ kws) := by
  induction x with
  | nil => exact y
  | cons a _ ih => exact .cons a ih
theorem PairsN.at {tl led : List (Addr × Obj)} {g h : Heap} {L : Addr} {vs kvs} (x : PairsN tl vs kvs) (N : News g L h led) (hs : ∀ p ∈ tl, p ∈ led) : PairsAt h vs kvs := by
  induction x with
  | nil => exact .nil
  | cons a _ ih => exact .cons ⟨_, (N _ (hs _ a)).1, rfl, _, rfl⟩ ih
end Mine

namespace Mine
section
variable {prog : Program} {w : World} {A : Around} {E : Value → Shared → Prop} {s : Shared} {h₀ : Heap} {L : Addr} {m : Str → Option Value} {led tl : List (Addr × Obj)}
theorem fresh_size {h : Heap} : h.get? h.objs.size = none := by
  cases e : h.get? h.objs.size with
  | none => rfl
  | some o => exact absurd (Heap.lt_size e) (Nat.lt_irrefl _)
theorem dict_made {D : Addr} {ys : List Value} {kvs : List (Str × Value)} {Q : Value → Shared → Prop} (hA : A.handled = none) (F : Fr h₀ L s.heap m) (N : News h₀ L s.heap led) (hlim : h₀.NoLimit) (hD : (D, lst ys) ∈ led) (hp : PairsN tl ys kvs) (hs : ∀ p ∈ tl, p ∈ led)
    (hn : (kvs.map (·.1)).Nodup) (hz : kvs.length ≤ sizeLine)
    (h : ∀ d o h' tk', Fr h₀ L h' m → News h₀ L h' ((d, o) :: led) → o.IsDictOf (PySem.strKind prog w) kvs → (d == sysModules) = false → (∀ p ∈ led, p.1 ≠ d) → Sub s.heap h' → s.heap.get? d = none → Q (.ref d) { s with heap := h', toks := tk' }) :
    wpAny (model prog w) A (call (.type "dict") [.ref D]) Q E s := by
  refine call_dict_pairs hA (N _ hD).1 (hp.at N hs) hn hz fun h' tk' hd S => ?_
  obtain ⟨o, ho, hd'⟩ := Heap.dictOf_iff.mp hd
  have hne : ∀ p ∈ led, p.1 ≠ s.heap.objs.size := fun p hp => Nat.ne_of_lt (Heap.lt_size (N p hp).1)
  refine h _ o h' tk' (frSub F S) (fun p hp => ?_) hd' (F.notModules (modules_low hlim)) hne S fresh_size
  rcases List.mem_cons.mp hp with rfl | hp
  · exact ⟨ho, Nat.ne_of_gt F.ns.lt, next_is_new F⟩
  · exact newsSub N S p hp
end
end Mine

namespace Mine
theorem NoTup.ofDict {prog : Program} {w : World} {o : Obj} {kvs : List (Str × Value)} (h : o.IsDictOf (PySem.strKind prog w) kvs) : NoTup o := by
  obtain ⟨es, ep, _, hd, _⟩ := h
  intro vs n e
  rw [e] at hd
  cases hd
section
variable {prog : Program} {w : World} {A : Around} {E : Value → Shared → Prop} {s : Shared} {h₀ : Heap} {L d : Addr} {m : Str → Option Value} {led rest : List (Addr × Obj)} {o : Obj} {kvs : List (Str × Value)} {k : Str} {t : Tok} {v : Value}
theorem dict_set {Q : Unit → Shared → Prop} (F : Fr h₀ L s.heap m) (N : News h₀ L s.heap led) (hm : (d, o) ∈ led) (hr : ∀ p ∈ rest, p ∈ led) (hne : ∀ p ∈ rest, p.1 ≠ d) (hd : o.IsDictOf (PySem.strKind prog w) kvs) (hz : kvs.length ≤ sizeLine)
    (h : ∀ h' o' tk', Fr h₀ L h' m → News h₀ L h' ((d, o') :: rest) → o'.IsDictOf (PySem.strKind prog w) (stored kvs k v) → Q () { s with heap := h', toks := tk' }) :
    wpAny (model prog w) A (setItem (.ref d) (.str k t) v) Q E s := by
  have hg := N _ hm
  refine wpAny_setItem_pairs (hsz := hz) (strKind_is prog w k t) (Heap.dictOf_iff.mpr ⟨o, hg.1, hd⟩) fun h' hmm hs => ?_
  obtain ⟨o', ho', hd'⟩ := Heap.dictOf_iff.mp hmm
  refine h h' o' _ (F.change hs hg.2.1 hg.2.2) (fun p hp => ?_) hd'
  rcases List.mem_cons.mp hp with rfl | hp
  · exact ⟨ho', hg.2⟩
  · exact ⟨hs.extBut _ _ (hne p hp) (N p (hr p hp)).1, (N p (hr p hp)).2⟩
theorem dict_pop {more : List Value} {Q : Value → Shared → Prop} (F : Fr h₀ L s.heap m) (N : News h₀ L s.heap led) (hm : (d, o) ∈ led) (hr : ∀ p ∈ rest, p ∈ led) (hne : ∀ p ∈ rest, p.1 ≠ d) (hd : o.IsDictOf (PySem.strKind prog w) kvs) (hz : kvs.length ≤ sizeLine)
    (hmore : more = [] ∨ ∃ x, more = [x]) (hl : valueAt kvs k = some v)
    (h : ∀ h' o' tk', Fr h₀ L h' m → News h₀ L h' ((d, o') :: rest) → o'.IsDictOf (PySem.strKind prog w) (without kvs k) → Q v { s with heap := h', toks := tk' }) :
    wpAny (model prog w) A (call (.builtin "dict.pop") (.ref d :: .str k t :: more)) Q E s := by
  have hg := N _ hm
  have hD : s.heap.DictOf (PySem.strKind prog w) d kvs := Heap.dictOf_iff.mpr ⟨o, hg.1, hd⟩
  have hargs : argsOk "dict.pop" ⟨.ref d :: .str k t :: more, []⟩ := by
    rcases hmore with rfl | ⟨x, rfl⟩
    · exact PySem.F.args_dict_pop_2 _ _
    · exact PySem.F.args_dict_pop_3 _ _ _
  refine call_meetsIn PySem.F.slot_dict_pop hD.typeIs PySem.F.entry_dict_pop hargs (meets_dict_pop_there (PySem.strKind prog w) d (strKind_is prog w k t) more hmore rfl) ⟨kvs, v, hD, hz, hl, fun h' hmm hs => ?_⟩
  obtain ⟨o', ho', hd'⟩ := Heap.dictOf_iff.mp hmm
  refine h h' o' _ (F.change hs hg.2.1 hg.2.2) (fun p hp => ?_) hd'
  rcases List.mem_cons.mp hp with rfl | hp
  · exact ⟨ho', hg.2⟩
  · exact ⟨hs.extBut _ _ (hne p hp) (N p (hr p hp)).1, (N p (hr p hp)).2⟩
end
end Mine
namespace Mine
theorem att_of {w : World} {g h : Heap} {L d : Addr} {led : List (Addr × Obj)} {o : Obj} {kvs : List (Str × Value)} {R : Str → Option FV} (N : News g L h led) (hm : (d, o) ∈ led) (hd : o.IsDictOf (PySem.strKind PR w) kvs) (lo : (d == sysModules) = false)
    (r : DRel h (valueAt kvs) R) : AttAt w h d R := ⟨kvs, Heap.dictOf_iff.mpr ⟨o, (N _ hm).1, hd⟩, lo, r⟩
theorem none_back {h h' : Heap} {d : Addr} (S : Sub h h') (e : h'.get? d = none) : h.get? d = none := by
  cases q : h.get? d with
  | none => rfl
  | some o => rw [S _ _ q] at e; cases e
end Mine
end
section
open PySem PySem.W PySem.Spec PySem.Calls PyProof.Rows
namespace Mine
section
variable {prog : Program} {w : World} {A₀ A : Around} {s : Shared} {base h₀ : Heap} {outer : List Env} {L : Addr} {m : Str → Option Value} {env : Env} {K : Frag}
  {p : Program} {loose : List Str} {mean : ExcName → Option Value} {mg mb : Str → Option Value}
  {R : Result → Shared → Prop} {name qual : Str} {params : Arguments} {body : List Stmt} {scope : Scope} {dV kV doc pm cdv ct oc : Value} {an od : Option Addr} {osl : Array (Option Value)} {f : Addr} {args : Args} {binds : List (Str × Value)}

/-- into a def with captured names; all that stands at the call is what its frame stands upon -/
theorem enterC (B : Below A₀ base outer h₀) (F : Fr h₀ L s.heap m) (X₀ : K.In h₀) (T : Top p loose mean mg mb h₀) (hA : A.frames = some (env :: outer)) (hf : env.frame = some L) (hke : env.scope.kind = .function)
    (ho : K.lookup f = some ⟨oc, od, .func (fnOf name qual params body scope dV kV doc pm an cdv ct), osl⟩) (hcd : codeIn K cdv qual = true) (hroom : A.depth < recursionLimit)
    (hbind : BindsTo s (fnOf name qual params body scope dV kV doc pm an cdv ct) args binds) (hkind : (binds.all fun y => scope.names.lookup y.1 == some .local || scope.names.lookup y.1 == some .cell) = true)
    (hnd : ((cellsFrom 0 scope.names []).map (·.1)).Nodup)
    (h : ∀ g L' h₁ tk cells, Sub s.heap g → Fr h₀ L g m → Fr g L' h₁ (bindL (envOfC qual scope L' f cdv).kindOf binds fun _ => none) → News g L' h₁ cells →
      CellsAre (bindC (envOfC qual scope L' f cdv).kindOf binds fun _ => none) (cellsFrom (L' + 1) scope.names []) cells → Below A base (env :: outer) g → K.In g → Top p loose mean mg mb g →
      wpAny (model prog w) (A.deeper (envOfC qual scope L' f cdv)) (execs body (envOfC qual scope L' f cdv))
        (fun fl s' => LeaveK h₀ L m g R (match fl with | .ret v => v | _ => .none) s')
        (fun e s' => wpAny (model prog w) (A.deeper (envOfC qual scope L' f cdv)) (leaving (envOfC qual scope L' f cdv) e) (fun _ s'' => R (.error e) s'') (fun e' s'' => R (.error e') s'') s')
        { s with heap := h₁, toks := tk })
    (hco : scope.isCoroutine = false) (hgen : scope.isGenerator = false) (hk : scope.kind = .function) : codeAny (model prog w) A (.call (.ref f) args) R s := by
  have fo := (X₀.keeps F.keep) _ _ ho
  have BG : Below A base (env :: outer) s.heap := ⟨hA, fun b o e => F.keep b o (B.stays b o e), (pushX B F hf hke).frames⟩
  refine codeAny_call_function hroom fo rfl hco hgen rfl (codeRec_of (X₀.keeps F.keep) hcd) (hbind _ _ _ _ ?_)
  refine wpAny_newFunctionEnv_cells hk (kindsX hkind _) fun env' he s' x => ?_
  subst he
  refine ⟨(T.nolimit.keeps F.keep).keeps x.toInCall.keep, codeAny_func ?_⟩
  obtain ⟨h₁, tk, rfl, _⟩ := x.done
  obtain ⟨cells, NC, Y⟩ := Cl.news (h₀ := s.heap) (Nat.le_refl _) fun n c hm => ⟨x.cell n c (lookup_of_mem_nodup (cellsFrom_names scope.names 0 (s.heap.objs.size + 1) [] [] rfl ▸ hnd) hm), x.above n c hm⟩
  refine wpAny_mono (h s.heap s.heap.objs.size h₁ tk cells (fun _ _ e => e) F ⟨x.toInCall.ns, x.toInCall.keep, Nat.le_refl _⟩ NC Y BG (X₀.keeps F.keep) (T.keeps F.keep)) (fun fl s' hl => ?_) fun _ _ y => y
  obtain ⟨L', m', news', F', N', k⟩ := hl
  refine k ⟨F.ns.at' fun o e => F'.keep _ o e, fun b o e => F'.keep b o (F.keep b o e), F.above⟩ fun q hq => ⟨(N' q hq).1, fun e => ?_, ?_⟩
  · obtain ⟨oL, _, _, hL, _⟩ := F.ns
    have := (N' q hq).2.2
    rw [e, hL] at this
    cases this
  · cases e : h₀.get? q.1 with
    | none => rfl
    | some o => have := (N' q hq).2.2; rw [F.keep _ _ e] at this; cases this
end
end Mine
end
section
open PySem PySem.W PySem.Spec PySem.Calls PyProof.Rows PyProof.Rows.LCg
namespace Mine
section
variable {g h : Heap} {L : Addr} {m : Str → Option Value} {c tl : List (Addr × Obj)}
theorem Seen.trip (F : Fr g L h m) (N : News g L h (c ++ tl)) (Sn : Snap g L c tl h) (hcl : ∀ q ∈ c, NoTup q.2) {v : Value} {u : Int × Int × Array UInt8} (ht : TripAt h v u) : Seen g tl fun h' => TripAt h' v u := by
  obtain ⟨a, t1, t2, t3, e, h1⟩ := ht
  exact fun h' k z => ⟨a, t1, t2, t3, e, Seen.tup F N Sn hcl h1 h' k z⟩
theorem Seen.trips (F : Fr g L h m) (N : News g L h (c ++ tl)) (Sn : Snap g L c tl h) (hcl : ∀ q ∈ c, NoTup q.2) {vs : List Value} {us : List (Int × Int × Array UInt8)} (ht : TripsAt h vs us) : Seen g tl fun h' => TripsAt h' vs us := by
  intro h' k z
  induction ht with
  | nil => exact .nil
  | cons a _ ih => exact .cons (Seen.trip F N Sn hcl a h' k z) ih
theorem Seen.unk (F : Fr g L h m) (N : News g L h (c ++ tl)) (Sn : Snap g L c tl h) (hcl : ∀ q ∈ c, NoTup q.2) {p : Addr} {us : List (Int × Int × Array UInt8)} (ht : UnkAt h p us) : Seen g tl fun h' => UnkAt h' p us := by
  obtain ⟨vs, h1, h2⟩ := ht
  exact fun h' k z => ⟨vs, Seen.tup F N Sn hcl h1 h' k z, Seen.trips F N Sn hcl h2 h' k z⟩
theorem Seen.val (F : Fr g L h m) (N : News g L h (c ++ tl)) (Sn : Snap g L c tl h) (hcl : ∀ q ∈ c, NoTup q.2) {v : Value} {fv : FV} (ht : ValAt h v fv) : Seen g tl fun h' => ValAt h' v fv := by
  cases fv with
  | int n => exact fun _ _ _ => ht
  | path P => obtain ⟨p, e, y⟩ := ht; exact fun h' k z => ⟨p, e, Seen.path F N Sn hcl y h' k z⟩
  | nums ns => obtain ⟨p, e, y⟩ := ht; exact fun h' k z => ⟨p, e, Seen.tupI F N Sn hcl y h' k z⟩
  | unk us => obtain ⟨p, e, y⟩ := ht; exact fun h' k z => ⟨p, e, Seen.unk F N Sn hcl y h' k z⟩
theorem Seen.drel (F : Fr g L h m) (N : News g L h (c ++ tl)) (Sn : Snap g L c tl h) (hcl : ∀ q ∈ c, NoTup q.2) {f : Str → Option Value} {R : Str → Option FV} (ht : DRel h f R) : Seen g tl fun h' => DRel h' f R := by
  intro h' k z n
  have := ht n
  cases e1 : f n <;> cases e2 : R n <;> rw [e1, e2] at this
  · trivial
  · exact this.elim
  · exact this.elim
  · exact Seen.val F N Sn hcl this h' k z
theorem adopt {hpre : Heap} {d : Addr} {o : Obj} (F : Fr g L hpre m) (hfr : hpre.get? d = none) (N : News g L h c) (ho : h.get? d = some o) : News g L h ((d, o) :: c) := by
  intro p hp
  rcases List.mem_cons.mp hp with rfl | hp
  · refine ⟨ho, fun e => ?_, ?_⟩
    · obtain ⟨oL, _, _, hL, _⟩ := F.ns
      rw [← e, hfr] at hL
      cases hL
    · cases q : g.get? d with
      | none => rfl
      | some x => rw [F.keep _ _ q] at hfr; cases hfr
  · exact N p hp
end
section
variable {prog : Program} {w : World} {A : Around} {E : Value → Shared → Prop} {s : Shared} {h₀ : Heap} {L : Addr} {m : Str → Option Value} {led : List (Addr × Obj)}
theorem dict_copy {src : Addr} {kvs : List (Str × Value)} {Q : Value → Shared → Prop} (F : Fr h₀ L s.heap m) (N : News h₀ L s.heap led) (hlim : h₀.NoLimit) (hd : s.heap.DictOf (PySem.strKind prog w) src kvs) (lo : (src == sysModules) = false) (hz : kvs.length ≤ sizeLine)
    (h : ∀ d o h' tk', Fr h₀ L h' m → News h₀ L h' ((d, o) :: led) → o.IsDictOf (PySem.strKind prog w) kvs → (d == sysModules) = false → (∀ p ∈ led, p.1 ≠ d) → Sub s.heap h' → s.heap.get? d = none → Q (.ref d) { s with heap := h', toks := tk' }) :
    wpAny (model prog w) A (call (.type "dict") [.ref src]) Q E s := by
  refine kt_call_dict lo hd hz fun h' hm hs => ?_
  have S : Sub s.heap h' := fun b o e => hs.extBut b o (Nat.ne_of_lt (Heap.lt_size e)) (Heap.get?_push_of_some _ e)
  obtain ⟨o, ho, hd'⟩ := Heap.dictOf_iff.mp hm
  refine h _ o h' _ (frSub F S) (adopt F fresh_size (newsSub N S) ho) hd' (F.notModules (modules_low hlim)) (fun p hp => Nat.ne_of_lt (Heap.lt_size (N p hp).1)) S fresh_size
end
end Mine
end
section
open PySem PySem.W PySem.Spec PySem.Calls PyProof.Rows
set_option pp.deepTerms false
set_option pp.deepTerms.threshold 6
set_option pp.proofs false
namespace Mine
noncomputable def mayTold (ns : List Int) (kind : Str) : Bool :=
  if 4294967042 ∈ ns then false
  else if kind = Str.ofString "ebgp" then decide (4294967041 ∉ ns) && decide (4294967043 ∉ ns)
  else decide (kind ≠ Str.ofString "confed") || decide (4294967043 ∉ ns)
theorem any_mem (ns : List Int) (k : Int) : (ns.any fun x => x == k) = decide (k ∈ ns) := by
  induction ns with
  | nil => simp
  | cons a ns ih =>
    simp only [List.any_cons, ih, List.mem_cons]
    by_cases h : a = k
    · subst h; simp
    · have : ¬ k = a := fun e => h e.symm
      simp [h, this]
theorem ct_may (w : World) (s : Shared) (t : Addr) (ns : List Int) (kind : Str) (tk : Tok) (ht : TupI s.heap t ns) :
    Asks 8 w 21 [.ref t, .str kind tk] s (fun r _ => r = .bool (mayTold ns kind)) := by
  w_top off
  unfold Asks
  k_fill
  intro dp un gd cn cs a₀ ccd cl outer A₀ base h₀ L m mean mg mb Q E B F X T hk hdp hun hret
  refine wpAny_call ?_
  refine' code_defG ?k1 ?k2 ?k3 News.nil ?k5 ?kA ?kF ?kK ?k6 ?k7 ?k8 ?k9 ?kB ?_ ?c2 ?c3 ?c4 ?c5
  (case k1 => k_asm); (case k2 => k_asm); (case k3 => k_asm); (case k5 => k_asm); (case kA => exact rfl); (case kF => exact rfl); (case kK => assumption)
  (case k6 => k_is); (case k7 => k_is); (case k8 => ktr_room); (case k9 => exact BindsTo.of_eq rfl); (case c5 => decide); (case kB => exact locs rfl); (case c2 => exact rfl); (case c3 => exact rfl); (case c4 => exact rfl)
  intro g' L' h' FG' F' N' B' X' T' GS
  replace GS := gsub_nil GS
  refine gen_et ?_
  intro Eg tkg
  obtain ⟨ws, ht, hi⟩ := ht.keeps GS
  replace ht := ht.isTup
  have hce : Str.ofString "confed" ≠ Str.ofString "ebgp" := by decide
  (try dsimp only); (try k_fold)
  k_steps
  all_goals refine hret _ _ _ (sub_end GS (by assumption)) ?_
  all_goals simp only [any_mem, beq_iff_eq, decide_eq_true_eq, decide_eq_false_iff_not, beq_eq_false_iff_ne, bne_iff_ne, bne_eq_false_iff_eq, ne_eq] at *
  all_goals simp [mayTold, *]
end Mine
end
section
open PySem PySem.W PySem.Spec PySem.Calls PyProof.Rows
set_option pp.deepTerms false
set_option pp.deepTerms.threshold 6
set_option pp.proofs false
namespace Mine
local macro_rules | `(tactic| walk_at "call builtin:len") => `(tactic| (k_here; (with_reducible show wpAny _ _ (call (Value.builtin "len") [Value.ref _]) _ _ _); refine len_tuple (Fr.tup (by assumption) (by assumption)) (by simp only [List.size_toArray]; omega) ?_))
noncomputable def segLen (g : Int × List Int) : Int := if g.1 = 2 then (g.2.length : Int) else if g.1 = 1 then 1 else 0
noncomputable def pathLen (P : List (Int × List Int)) : Int := (P.map segLen).sum

theorem ct_len (w : World) (s : Shared) (p : Addr) (P : List (Int × List Int)) (hp : PathAt s.heap p P) (hsz : ∀ g ∈ P, g.2.length < 2 ^ 20) :
    Asks 8 w 29 [.ref p] s (fun r _ => ∃ t, r = .int (pathLen P) t) := by
  w_top off
  unfold Asks
  k_fill
  intro dp un gd cn cs a₀ ccd cl outer A₀ base h₀ L m mean mg mb Q E B F X T hk hdp hun hret
  refine wpAny_call ?_
  refine' code_defG ?k1 ?k2 ?k3 News.nil ?k5 ?kA ?kF ?kK ?k6 ?k7 ?k8 ?k9 ?kB ?_ ?c2 ?c3 ?c4 ?c5
  (case k1 => k_asm); (case k2 => k_asm); (case k3 => k_asm); (case k5 => k_asm); (case kA => exact rfl); (case kF => exact rfl); (case kK => assumption)
  (case k6 => k_is); (case k7 => k_is); (case k8 => ktr_room); (case k9 => exact BindsTo.of_eq rfl); (case c5 => decide); (case kB => exact locs rfl); (case c2 => exact rfl); (case c3 => exact rfl); (case c4 => exact rfl)
  intro g' L' h' FG' F' N' B' X' T' GS
  replace GS := gsub_nil GS
  obtain ⟨vs, ht, hsg⟩ := hp.keeps GS
  (try dsimp only); (try k_fold)
  k_steps
  refine For_turns (by assumption) ?_
  k_steps
  rename Fr g' _ _ _ => F1
  rename News g' _ _ _ => N1
  refine iter_baseTup rfl ht.isTup F1 N1 (fun i m' n' => n' = [] ∧ ∃ t o1 o2, m' = fun y => if y = Str.ofString "found" then some (.int (((P.take i).map segLen).sum) t) else if y = Str.ofString "kind" then o1 else if y = Str.ofString "numbers" then o2 else List.lookup y [(Str.ofString "path", Value.ref p)]) ?h0 ?step ?done
  case h0 => exact ⟨rfl, canonI (by intro y h1 h2 h3; simp only [if_neg h1]; rfl) rfl rfl⟩
  case step =>
    rintro I io i v m₁ news₁ h₁ tk₁ hio hv ⟨rfl, t, o1, o2, rfl⟩ hoff F2 N2
    obtain ⟨⟨k, ns⟩, hPi, a, t1, b, rfl, hT1, ws, hT2, hI⟩ := hsg.get hv
    have hlen : ws.length = ns.length := hI.length
    have hsz1 := hsz _ (List.mem_of_getElem? hPi)
    dsimp only at hT1 hI hsz1
    replace hT1 := hT1.isTup
    replace hT2 := hT2.isTup
    have hsum : ((P.take (i + 1)).map segLen).sum = ((P.take i).map segLen).sum + segLen (k, ns) := by
      rw [List.take_add_one, hPi]; simp
    k_steps
    all_goals refine ⟨_, _, _, [], rfl, (by assumption), (by assumption), hoff, rfl, canonI (by intro y h1 h2 h3; simp only [if_neg h1, if_neg h2, if_neg h3]) rfl (by rw [hsum]; simp [segLen, *])⟩
  case done =>
    rintro h₂ tk₂ m₂ n₂ F2 N2 ⟨rfl, t, o1, o2, rfl⟩
    rw [hsg.length, List.take_length] at F2
    k_steps
    exact hret _ _ _ (sub_end GS (by assumption)) ⟨_, rfl⟩
end Mine
end
section
open PySem PySem.W PySem.Spec PySem.Calls PyProof.Rows
set_option pp.deepTerms false
set_option pp.deepTerms.threshold 6
set_option pp.proofs false
namespace Mine
noncomputable def outerN (P : List (Int × List Int)) : List Int := P.flatMap fun g => if g.1 = 3 ∨ g.1 = 4 then [] else g.2
noncomputable def sizes (P : List (Int × List Int)) : Nat := (P.map fun g => g.2.length).sum

noncomputable def innerN (P : List (Int × List Int)) : List Int := P.flatMap fun g => if g.1 = 3 ∨ g.1 = 4 then g.2 else []
theorem inner_le (P : List (Int × List Int)) : (innerN P).length ≤ sizes P := by
  unfold innerN sizes
  induction P with
  | nil => simp
  | cons g P ih =>
    simp only [List.flatMap_cons, List.length_append, List.map_cons, List.sum_cons]
    split <;> (try simp only [List.length_nil]) <;> omega
theorem sizes_take2 {P : List (Int × List Int)} {i : Nat} {g : Int × List Int} (h : P[i]? = some g) : (innerN (P.take i)).length + g.2.length ≤ sizes P := by
  have h1 := inner_le (P.take i)
  have h2 : sizes P = sizes (P.take i) + sizes (P.drop i) := by
    unfold sizes
    rw [← List.sum_append, ← List.map_append, List.take_append_drop]
  have h3 : P.drop i = g :: P.drop (i + 1) := by
    obtain ⟨hlt, e⟩ := List.getElem?_eq_some_iff.mp h
    rw [List.drop_eq_getElem_cons hlt, e]
  rw [h3] at h2
  have h4 : sizes (g :: P.drop (i + 1)) = g.2.length + sizes (P.drop (i + 1)) := by unfold sizes; simp
  omega
theorem outer_le (P : List (Int × List Int)) : (outerN P).length ≤ sizes P := by
  unfold outerN sizes
  induction P with
  | nil => simp
  | cons g P ih =>
    simp only [List.flatMap_cons, List.length_append, List.map_cons, List.sum_cons]
    split <;> (try simp only [List.length_nil]) <;> omega
theorem sizes_take {P : List (Int × List Int)} {i : Nat} {g : Int × List Int} (h : P[i]? = some g) : (outerN (P.take i)).length + g.2.length ≤ sizes P := by
  have h1 := outer_le (P.take i)
  have h2 : sizes P = sizes (P.take i) + sizes (P.drop i) := by
    unfold sizes
    rw [← List.sum_append, ← List.map_append, List.take_append_drop]
  have h3 : P.drop i = g :: P.drop (i + 1) := by
    obtain ⟨hlt, e⟩ := List.getElem?_eq_some_iff.mp h
    rw [List.drop_eq_getElem_cons hlt, e]
  rw [h3] at h2
  have h4 : sizes (g :: P.drop (i + 1)) = g.2.length + sizes (P.drop (i + 1)) := by unfold sizes; simp
  omega

theorem ct_outer (w : World) (s : Shared) (p : Addr) (P : List (Int × List Int)) (hp : PathAt s.heap p P) (hsz : sizes P < 2 ^ 20) :
    Asks 8 w 36 [.ref p] s (fun r h => ∃ l zs, r = .ref l ∧ h.IsList l zs.toArray ∧ IntsAre zs (outerN P)) := by
  w_top off
  unfold Asks
  k_fill
  intro dp un gd cn cs a₀ ccd cl outer A₀ base h₀ L m mean mg mb Q E B F X T hk hdp hun hret
  refine wpAny_call ?_
  refine' code_defG ?k1 ?k2 ?k3 News.nil ?k5 ?kA ?kF ?kK ?k6 ?k7 ?k8 ?k9 ?kB ?_ ?c2 ?c3 ?c4 ?c5
  (case k1 => k_asm); (case k2 => k_asm); (case k3 => k_asm); (case k5 => k_asm); (case kA => exact rfl); (case kF => exact rfl); (case kK => assumption)
  (case k6 => k_is); (case k7 => k_is); (case k8 => ktr_room); (case k9 => exact BindsTo.of_eq rfl); (case c5 => decide); (case kB => exact locs rfl); (case c2 => exact rfl); (case c3 => exact rfl); (case c4 => exact rfl)
  intro g' L' h' FG' F' N' B' X' T' GS
  replace GS := gsub_nil GS
  obtain ⟨vs, ht, hsg⟩ := hp.keeps GS
  obtain ⟨tc1, tc2, hck⟩ := confed_tup X'
  replace hck := hck.isTup
  have hcki : IntsAre [.int 3 tc1, .int 4 tc2] [3, 4] := ints2
  (try dsimp only); (try k_fold)
  k_steps
  refine For_turns (by assumption) ?_
  k_steps
  rename_i l h8 l8 h9 F1 N1
  refine iter_baseTup rfl ht.isTup F1 N1 (fun i m' n' => ∃ zs c, n' = [(l, W.listOf zs.toArray c)] ∧ IntsAre zs (outerN (P.take i)) ∧ ∃ o1 o2, m' = fun y => if y = Str.ofString "kind" then o1 else if y = Str.ofString "numbers" then o2 else (fun z => if z = Str.ofString "found" then some (Value.ref l) else List.lookup z [(Str.ofString "path", Value.ref p)]) y) ?h0 ?step ?done
  case h0 => exact ⟨[], 0, rfl, .nil, canon2 (by intro y h1 h2; rfl)⟩
  case step =>
    rintro I io i v m₁ news₁ h₁ tk₁ hio hv ⟨zs, c, rfl, hz, o1, o2, rfl⟩ hoff F2 N2
    obtain ⟨⟨k, ns⟩, hPi, a, t1, b, rfl, hT1, ws, hT2, hI⟩ := hsg.get hv
    have hlen : ws.length = ns.length := hI.length
    dsimp only at hT1 hI
    replace hT1 := hT1.isTup
    have hsum : outerN (P.take (i + 1)) = outerN (P.take i) ++ (if k = 3 ∨ k = 4 then [] else ns) := by
      unfold outerN
      rw [List.take_add_one, hPi]; simp
    k_steps
    · refine ⟨_, _, _, [(l, W.listOf zs.toArray c)], rfl, (by assumption), (by assumption), hoff, zs, c, rfl, ?_, canon2 (by intro y h1 h2; simp only [if_neg h1, if_neg h2])⟩
      rename (List.any _ _ = _) => hno
      have : k = 3 ∨ k = 4 := by simp at hno; omega
      rw [hsum, if_pos this, List.append_nil]
      exact hz
    · rename (List.any _ _ = _) => hno
      have hno2 : ¬ (k = 3 ∨ k = 4) := by
        intro e
        rcases e with rfl | rfl <;> simp at hno
      have hz1 : zs.length + ws.length ≤ sizeLine := by
        rw [hlen, hz.length, sizeLine_eq]
        have h5 : (outerN (P.take i)).length + ns.length ≤ sizes P := sizes_take hPi
        omega
      refine ext_base (pre := [(I, io)]) (post := []) (by assumption) (by assumption) (fun q hq => ?_) (fun q hq => nomatch hq) hT2 hz1 ?_
      · rw [List.mem_singleton.mp hq]
        exact fun e => hoff _ (.head _) e.symm
      intro h9 n9 F9 N9
      k_steps
      refine ⟨_, _, _, [(l, W.listOf (zs ++ ws).toArray n9)], rfl, (by assumption), (by assumption), (fun q hq => ?_), zs ++ ws, n9, rfl, ?_, canon2 (by intro y h1 h2; simp only [if_neg h1, if_neg h2])⟩
      · rw [List.mem_singleton.mp hq]
        exact hoff (l, W.listOf zs.toArray c) (.head _)
      · rw [hsum, if_neg hno2]
        exact hz.append hI
  case done =>
    rintro h₂ tk₂ m₂ n₂ F2 N2 ⟨zs, c, rfl, hz, o1, o2, rfl⟩
    rw [hsg.length, List.take_length] at hz
    k_steps
    exact hret _ _ _ (sub_end GS (by assumption)) ⟨_, _, rfl, News.isList (by assumption) (.head _), hz⟩
theorem ct_inner (w : World) (s : Shared) (p : Addr) (P : List (Int × List Int)) (hp : PathAt s.heap p P) (hsz : sizes P < 2 ^ 20) :
    Asks 8 w 43 [.ref p] s (fun r h => ∃ l zs, r = .ref l ∧ h.IsList l zs.toArray ∧ IntsAre zs (innerN P)) := by
  w_top off
  unfold Asks
  k_fill
  intro dp un gd cn cs a₀ ccd cl outer A₀ base h₀ L m mean mg mb Q E B F X T hk hdp hun hret
  refine wpAny_call ?_
  refine' code_defG ?k1 ?k2 ?k3 News.nil ?k5 ?kA ?kF ?kK ?k6 ?k7 ?k8 ?k9 ?kB ?_ ?c2 ?c3 ?c4 ?c5
  (case k1 => k_asm); (case k2 => k_asm); (case k3 => k_asm); (case k5 => k_asm); (case kA => exact rfl); (case kF => exact rfl); (case kK => assumption)
  (case k6 => k_is); (case k7 => k_is); (case k8 => ktr_room); (case k9 => exact BindsTo.of_eq rfl); (case c5 => decide); (case kB => exact locs rfl); (case c2 => exact rfl); (case c3 => exact rfl); (case c4 => exact rfl)
  intro g' L' h' FG' F' N' B' X' T' GS
  replace GS := gsub_nil GS
  obtain ⟨vs, ht, hsg⟩ := hp.keeps GS
  obtain ⟨tc1, tc2, hck⟩ := confed_tup X'
  replace hck := hck.isTup
  have hcki : IntsAre [.int 3 tc1, .int 4 tc2] [3, 4] := ints2
  (try dsimp only); (try k_fold)
  k_steps
  refine For_turns (by assumption) ?_
  k_steps
  rename_i l h8 l8 h9 F1 N1
  refine iter_baseTup rfl ht.isTup F1 N1 (fun i m' n' => ∃ zs c, n' = [(l, W.listOf zs.toArray c)] ∧ IntsAre zs (innerN (P.take i)) ∧ ∃ o1 o2, m' = fun y => if y = Str.ofString "kind" then o1 else if y = Str.ofString "numbers" then o2 else (fun z => if z = Str.ofString "found" then some (Value.ref l) else List.lookup z [(Str.ofString "path", Value.ref p)]) y) ?h0 ?step ?done
  case h0 => exact ⟨[], 0, rfl, .nil, canon2 (by intro y h1 h2; rfl)⟩
  case step =>
    rintro I io i v m₁ news₁ h₁ tk₁ hio hv ⟨zs, c, rfl, hz, o1, o2, rfl⟩ hoff F2 N2
    obtain ⟨⟨k, ns⟩, hPi, a, t1, b, rfl, hT1, ws, hT2, hI⟩ := hsg.get hv
    have hlen : ws.length = ns.length := hI.length
    dsimp only at hT1 hI
    replace hT1 := hT1.isTup
    have hsum : innerN (P.take (i + 1)) = innerN (P.take i) ++ (if k = 3 ∨ k = 4 then ns else []) := by
      unfold innerN
      rw [List.take_add_one, hPi]; simp
    k_steps
    · rename (List.any _ _ = _) => hno
      have hno2 : k = 3 ∨ k = 4 := by simp at hno; omega
      have hz1 : zs.length + ws.length ≤ sizeLine := by
        rw [hlen, hz.length, sizeLine_eq]
        have h5 : (innerN (P.take i)).length + ns.length ≤ sizes P := sizes_take2 hPi
        omega
      refine ext_base (pre := [(I, io)]) (post := []) (by assumption) (by assumption) (fun q hq => ?_) (fun q hq => nomatch hq) hT2 hz1 ?_
      · rw [List.mem_singleton.mp hq]
        exact fun e => hoff _ (.head _) e.symm
      intro h9 n9 F9 N9
      k_steps
      refine ⟨_, _, _, [(l, W.listOf (zs ++ ws).toArray n9)], rfl, (by assumption), (by assumption), (fun q hq => ?_), zs ++ ws, n9, rfl, ?_, canon2 (by intro y h1 h2; simp only [if_neg h1, if_neg h2])⟩
      · rw [List.mem_singleton.mp hq]
        exact hoff (l, W.listOf zs.toArray c) (.head _)
      · rw [hsum, if_pos hno2]
        exact hz.append hI
    · refine ⟨_, _, _, [(l, W.listOf zs.toArray c)], rfl, (by assumption), (by assumption), hoff, zs, c, rfl, ?_, canon2 (by intro y h1 h2; simp only [if_neg h1, if_neg h2])⟩
      rename (List.any _ _ = _) => hno
      have : ¬ (k = 3 ∨ k = 4) := by
        intro e
        rcases e with rfl | rfl <;> simp at hno
      rw [hsum, if_neg this, List.append_nil]
      exact hz
  case done =>
    rintro h₂ tk₂ m₂ n₂ F2 N2 ⟨zs, c, rfl, hz, o1, o2, rfl⟩
    rw [hsg.length, List.take_length] at hz
    k_steps
    exact hret _ _ _ (sub_end GS (by assumption)) ⟨_, _, rfl, News.isList (by assumption) (.head _), hz⟩
end Mine
end
section
open PySem PySem.W PySem.Spec PySem.Calls PyProof.Rows
set_option pp.deepTerms false
set_option pp.deepTerms.threshold 6
set_option pp.proofs false
namespace Mine
local macro_rules | `(tactic| walk_at "call builtin:len") => `(tactic| (k_here; (with_reducible show wpAny _ _ (call (Value.builtin "len") [Value.ref _]) _ _ _); refine len_tuple (Fr.tup (by assumption) (by assumption)) (by simp only [List.size_toArray]; omega) ?_))
noncomputable def neigh : List (Int × List Int) → Int
  | [] => 0
  | g :: P => if g.1 = 2 ∧ 0 < g.2.length then g.2.headD 0 else if g.1 = 1 then 0 else neigh P

theorem ct_neigh (w : World) (s : Shared) (p : Addr) (P : List (Int × List Int)) (hp : PathAt s.heap p P) (hsz : ∀ g ∈ P, g.2.length < 2 ^ 20) :
    Asks 8 w 50 [.ref p] s (fun r _ => ∃ t, r = .int (neigh P) t) := by
  w_top off
  unfold Asks
  k_fill
  intro dp un gd cn cs a₀ ccd cl outer A₀ base h₀ L m mean mg mb Q E B F X T hk hdp hun hret
  refine wpAny_call ?_
  refine' code_defG ?k1 ?k2 ?k3 News.nil ?k5 ?kA ?kF ?kK ?k6 ?k7 ?k8 ?k9 ?kB ?_ ?c2 ?c3 ?c4 ?c5
  (case k1 => k_asm); (case k2 => k_asm); (case k3 => k_asm); (case k5 => k_asm); (case kA => exact rfl); (case kF => exact rfl); (case kK => assumption)
  (case k6 => k_is); (case k7 => k_is); (case k8 => ktr_room); (case k9 => exact BindsTo.of_eq rfl); (case c5 => decide); (case kB => exact locs rfl); (case c2 => exact rfl); (case c3 => exact rfl); (case c4 => exact rfl)
  intro g' L' h' FG' F' N' B' X' T' GS
  replace GS := gsub_nil GS
  obtain ⟨vs, ht, hsg⟩ := hp.keeps GS
  (try dsimp only); (try k_fold)
  k_steps
  refine For_turns (by assumption) ?_
  k_steps
  rename Fr g' _ _ _ => F1
  rename News g' _ _ _ => N1
  refine iter_baseTup rfl ht.isTup F1 N1 (fun i m' n' => n' = [] ∧ neigh (P.drop i) = neigh P ∧ ∃ o1 o2, m' = fun y => if y = Str.ofString "kind" then o1 else if y = Str.ofString "numbers" then o2 else List.lookup y [(Str.ofString "path", Value.ref p)]) ?h0 ?step ?done
  case h0 => exact ⟨rfl, by simp, canon2 (by intro y h2 h3; rfl)⟩
  case step =>
    rintro I io i v m₁ news₁ h₁ tk₁ hio hv ⟨rfl, hne, o1, o2, rfl⟩ hoff F2 N2
    obtain ⟨⟨k, ns⟩, hPi, a, t1, b, rfl, hT1, ws, hT2, hI⟩ := hsg.get hv
    have hlen : ws.length = ns.length := hI.length
    have hsz1 := hsz _ (List.mem_of_getElem? hPi)
    dsimp only at hT1 hI hsz1
    replace hT1 := hT1.isTup
    replace hT2 := hT2.isTup
    have hn2 : neigh P = if k = 2 ∧ 0 < ns.length then ns.headD 0 else if k = 1 then 0 else neigh (P.drop (i + 1)) := by
      rw [← hne, drop_at hPi]
      rfl
    have hsz2 : ws.toArray.size = ns.length := by rw [List.size_toArray, hlen]
    have hget : ns.getD (Int.toNat 0) 0 = ns.headD 0 := by cases ns <;> rfl
    k_steps
    · (try dsimp only [TEnd]); k_steps
      exact hret _ _ _ (sub_end GS (by assumption)) (int_is (hget.trans (by rw [hn2, if_pos (by omega)])))
    · (try dsimp only [TEnd]); k_steps
      exact hret _ _ _ (sub_end GS (by assumption)) (int_is (by rw [hn2, if_neg (by omega), if_pos (by assumption)]))
    · refine ⟨_, _, _, [], rfl, (by assumption), (by assumption), hoff, rfl, ?_, canon2 (by intro y h1 h2; simp only [if_neg h1, if_neg h2])⟩
      rw [hn2, if_neg (by omega), if_neg (by assumption)]
    · (try dsimp only [TEnd]); k_steps
      exact hret _ _ _ (sub_end GS (by assumption)) (int_is (by rw [hn2, if_neg (by omega), if_pos (by assumption)]))
    · refine ⟨_, _, _, [], rfl, (by assumption), (by assumption), hoff, rfl, ?_, canon2 (by intro y h1 h2; simp only [if_neg h1, if_neg h2])⟩
      rw [hn2, if_neg (by omega), if_neg (by assumption)]
  case done =>
    rintro h₂ tk₂ m₂ n₂ F2 N2 ⟨rfl, hne, o1, o2, rfl⟩
    rw [hsg.length, List.drop_length] at hne
    k_steps
    exact hret _ _ _ (sub_end GS (by assumption)) (int_is hne)
end Mine
end
section
open PySem PySem.W PySem.Spec PySem.Calls PyProof.Rows
set_option pp.deepTerms false
set_option pp.deepTerms.threshold 6
set_option pp.proofs false
namespace Mine
local macro_rules | `(tactic| walk_at "pad") => `(tactic| skip)
local macro_rules | `(tactic| walk_at "call ref") => `(tactic| (refine Halt.mk ?_))

noncomputable def backs (P : List (Int × List Int)) (x y : Int) : Bool := decide (x ∈ outerN P) || (decide (y ≠ 0) && decide (y ∈ innerN P))
theorem ct_back (w : World) (s : Shared) (p : Addr) (P : List (Int × List Int)) (x y : Int) (tx ty : Tok) (hp : PathAt s.heap p P) (hsz : sizes P < 2 ^ 20) :
    Asks 12 w 76 [.ref p, .int x tx, .int y ty] s (fun r _ => r = .bool (backs P x y)) := by
  w_top off
  unfold Asks
  k_fill
  intro dp un gd cn cs a₀ ccd cl outer A₀ base h₀ L m mean mg mb Q E B F X T hk hdp hun hret
  refine wpAny_call ?_
  refine' code_defG ?k1 ?k2 ?k3 News.nil ?k5 ?kA ?kF ?kK ?k6 ?k7 ?k8 ?k9 ?kB ?_ ?c2 ?c3 ?c4 ?c5
  (case k1 => k_asm); (case k2 => k_asm); (case k3 => k_asm); (case k5 => k_asm); (case kA => exact rfl); (case kF => exact rfl); (case kK => assumption)
  (case k6 => k_is); (case k7 => k_is); (case k8 => ktr_room); (case k9 => exact BindsTo.of_eq rfl); (case c5 => decide); (case kB => exact locs rfl); (case c2 => exact rfl); (case c3 => exact rfl); (case c4 => exact rfl)
  intro g' L' h' FG' F' N' B' X' T' GS
  replace GS := gsub_nil GS
  replace hp := hp.keeps GS
  (try dsimp only); (try k_fold)
  k_steps
  refine Halt.go ?_
  refine' use (ct_outer _ _ _ _ (hp.keeps (Fr.keep (by assumption))) hsz) [] ?B ?F ?X ?T ?hk ?d ?u News.nil ?_
  (case B => k_asm); (case F => k_asm); (case X => k_asm); (case T => k_asm); (case hk => first | exact rfl | assumption)
  (case d => ktr_room)
  (case u => ktr_units)
  rintro r h9 tk9 tl F9 N9 Sn S9 ⟨l, zs, rfl, hl, hz⟩
  k_steps
  · refine hret _ _ _ (sub_end GS F9) ?_
    simp only [any_mem, decide_eq_true_eq, decide_eq_false_iff_not] at *
    simp [backs, *]
  · skip
    refine Halt.go ?_
    refine' use (ct_inner _ _ _ _ (hp.keeps (Fr.keep (by assumption))) hsz) [] ?B ?F ?X ?T ?hk ?d ?u News.nil ?_
    (case B => k_asm); (case F => k_asm); (case X => k_asm); (case T => k_asm); (case hk => first | exact rfl | assumption)
    (case d => ktr_room)
    (case u => ktr_units)
    rintro r h8 tk8 tl F8 N8 Sn S9 ⟨l, zs, rfl, hl, hz⟩
    k_steps
    all_goals refine hret _ _ _ (sub_end GS F8) ?_
    all_goals simp only [any_mem, decide_eq_true_eq, decide_eq_false_iff_not, ne_eq] at *
    all_goals simp [backs, *]
  · refine hret _ _ _ (sub_end GS F9) ?_
    simp only [any_mem, decide_eq_true_eq, decide_eq_false_iff_not] at *
    simp [backs, *]
end Mine
end
section
open PySem PySem.W PySem.Spec PySem.Calls PyProof.Rows
set_option pp.deepTerms false
set_option pp.deepTerms.threshold 6
set_option pp.proofs false
namespace Mine
local macro_rules | `(tactic| walk_at "call builtin:len") => `(tactic| (k_here; (with_reducible show wpAny _ _ (call (Value.builtin "len") [Value.ref _]) _ _ _); refine' len_at ?t ?k ?z ?_; (case t => exact Fr.tup (by assumption) (by assumption)); (case k => assumption); (case z => omega); intro tlen tklen))
local macro_rules | `(tactic| walk_at "subscriptTail") => `(tactic| (k_here; (with_reducible show wpAny _ _ (subscriptTail _ _ (Value.ref _) (Value.int _ _)) _ _ _); (with_unfolding_all refine' item_at ?t ?a ?b ?x ?_); (case t => exact Fr.tup (by assumption) (by assumption)); (case a => decide); (case b => decide); (case x => exact rfl); k_whole))
local macro_rules | `(tactic| walk_at "subscriptTail Name Slice ref ref") => `(tactic| (k_here; (with_reducible show wpAny _ _ (subscriptTail _ _ (Value.ref _) (Value.ref _)) _ _ _); (with_unfolding_all refine slice_tuple_from (a := 1) (by assumption) (by assumption) (Fr.tup (by assumption) (by assumption)) (by decide) (by simp) ?_ (hsz := by simp only [List.size_toArray, sizeLine_eq]; omega)); intro h1 F1 N1))
local macro_rules | `(tactic| walk_at "binaryOp Add ref ref") => `(tactic| (k_here; (with_reducible show wpAny _ _ (binaryOp Operator.Add (Value.ref _) (Value.ref _)) _ _ _); refine' add_tup ?F ?N ?l ?x ?b ?z ?_; (case F => k_asm); (case N => k_asm); (case l => k_mem); (case x => simp); (case b => first | exact Tup.keeps (by assumption) (Fr.keep (by assumption)) | exact ⟨_, News.get (by k_asm) (by k_mem)⟩); (case z => simp only [List.length_cons, List.length_nil, sizeLine_eq] at *; first | omega | (simp; omega)); intro q h1 n1 F1 N1))

noncomputable def putA (P : List (Int × List Int)) (x k most : Int) : List (Int × List Int) := match P with
  | [] => [(k, [x])]
  | g :: R => if g.1 = k ∧ (g.2.length : Int) < most then (k, x :: g.2) :: R else (k, [x]) :: g :: R
theorem ct_put (w : World) (s : Shared) (p : Addr) (P : List (Int × List Int)) (x k mo : Int) (tx tk tm : Tok) (hp : PathAt s.heap p P) (hsz : ∀ g ∈ P, g.2.length < 2 ^ 20) (hP : P.length < 2 ^ 20) :
    Asks 8 w 57 [.ref p, .int x tx, .int k tk, .int mo tm] s (fun r h => ∃ q, r = .ref q ∧ PathAt h q (putA P x k mo)) := by
  w_top off
  unfold Asks
  k_fill
  intro dp un gd cn cs a₀ ccd cl outer A₀ base h₀ L m mean mg mb Q E B F X T hk hdp hun hret
  refine wpAny_call ?_
  refine' code_defG ?k1 ?k2 ?k3 News.nil ?k5 ?kA ?kF ?kK ?k6 ?k7 ?k8 ?k9 ?kB ?_ ?c2 ?c3 ?c4 ?c5
  (case k1 => k_asm); (case k2 => k_asm); (case k3 => k_asm); (case k5 => k_asm); (case kA => exact rfl); (case kF => exact rfl); (case kK => assumption)
  (case k6 => k_is); (case k7 => k_is); (case k8 => ktr_room); (case k9 => exact BindsTo.of_eq rfl); (case c5 => decide); (case kB => exact locs rfl); (case c2 => exact rfl); (case c3 => exact rfl); (case c4 => exact rfl)
  intro g' L' h' FG' F' N' B' X' T' GS
  replace GS := gsub_nil GS
  refine gen_et ?_
  intro Eg tkg
  obtain ⟨vs, ht, hsg⟩ := hp.keeps GS
  have hvl := hsg.length
  (try dsimp only); (try k_fold)
  cases hsg with
  | nil =>
    have hT := ht.isTup
    have hvn : ([] : List Value).length = 0 := rfl
    k_steps
    refine hret _ _ _ (sub_end GS (by assumption)) ⟨_, rfl, path_cons (by assumption) (by k_mem) (by k_mem) ⟨_, ⟨_, News.get (by assumption) (by k_mem)⟩, .cons _ _ .nil⟩ .nil⟩
  | @cons v vs g R hs hR =>
    obtain ⟨k0, ns⟩ := g
    obtain ⟨a, t, b, rfl, hT1, ws, hT2, hI⟩ := hs
    have hwl : ws.length = ns.length := hI.length
    have hsz1 := hsz _ (List.mem_cons_self ..)
    dsimp only at hT1 hI hwl hsz1
    have hT := ht.isTup
    have hTa := hT1.isTup
    have hTb := hT2.isTup
    have hvn : (Value.ref a :: vs).length = vs.length + 1 := rfl
    have hvn2 : vs.length < 2 ^ 20 := by
      have : vs.length = R.length := hR.length
      simp only [List.length_cons] at hP
      omega
    have hseg : SegsAt g' (Value.ref a :: vs) ((k0, ns) :: R) := .cons ⟨a, t, b, rfl, hT1, ws, hT2, hI⟩ hR
    k_steps
    · refine hret _ _ _ (sub_end GS (by assumption)) ⟨_, rfl, ?_⟩
      rw [show putA ((k0, ns) :: R) x k mo = (k, x :: ns) :: R from if_pos ⟨by assumption, by assumption⟩]
      exact path_cons (by assumption) (by k_mem) (by k_mem) ⟨_, ⟨_, News.get (by assumption) (by k_mem)⟩, .cons _ _ hI⟩ (hR.keeps (Fr.keep (by assumption)))
    all_goals refine hret _ _ _ (sub_end GS (by assumption)) ⟨_, rfl, ?_⟩
    all_goals rw [show putA ((k0, ns) :: R) x k mo = (k, [x]) :: (k0, ns) :: R from if_neg (fun e => by first | exact absurd e.1 (by assumption) | exact absurd e.2 (by assumption))]
    all_goals exact path_cons (by assumption) (by k_mem) (by k_mem) ⟨_, ⟨_, News.get (by assumption) (by k_mem)⟩, .cons _ _ .nil⟩ (hseg.keeps (Fr.keep (by assumption)))
end Mine
end
section
open PySem PySem.W PySem.Spec PySem.Calls PyProof.Rows
set_option pp.deepTerms false
set_option pp.deepTerms.threshold 6
set_option pp.proofs false
namespace Mine
local macro_rules | `(tactic| walk_at "call ref") => `(tactic| (refine Halt.mk ?_))

theorem ct_pre (w : World) (s : Shared) (p : Addr) (P : List (Int × List Int)) (x : Int) (tx tk : Tok) (hp : PathAt s.heap p P) (hsz : ∀ g ∈ P, g.2.length < 2 ^ 20) (hP : P.length < 2 ^ 20) :
    Asks 12 w 64 [.ref p, .int x tx, .int 1 tk] s (fun r h => ∃ q, r = .ref q ∧ PathAt h q (putA P x 2 255)) := by
  w_top off
  unfold Asks
  k_fill
  intro dp un gd cn cs a₀ ccd cl outer A₀ base h₀ L m mean mg mb Q E B F X T hk hdp hun hret
  refine wpAny_call ?_
  refine' code_defG ?k1 ?k2 ?k3 News.nil ?k5 ?kA ?kF ?kK ?k6 ?k7 ?k8 ?k9 ?kB ?_ ?c2 ?c3 ?c4 ?c5
  (case k1 => k_asm); (case k2 => k_asm); (case k3 => k_asm); (case k5 => k_asm); (case kA => exact rfl); (case kF => exact rfl); (case kK => assumption)
  (case k6 => k_is); (case k7 => k_is); (case k8 => ktr_room); (case k9 => exact BindsTo.of_eq rfl); (case c5 => decide); (case kB => exact locs rfl); (case c2 => exact rfl); (case c3 => exact rfl); (case c4 => exact rfl)
  intro g' L' h' FG' F' N' B' X' T' GS
  replace GS := gsub_nil GS
  replace hp := hp.keeps GS
  (try dsimp only); (try k_fold)
  k_steps
  refine Halt.go ?_
  refine' use (ct_put _ _ _ _ _ _ _ _ _ _ (hp.keeps (Fr.keep (by assumption))) hsz hP) _ ?B ?F ?X ?T ?hk ?d ?u (by assumption) ?_
  (case B => k_asm); (case F => k_asm); (case X => k_asm); (case T => k_asm); (case hk => first | exact rfl | assumption)
  (case d => ktr_room)
  (case u => ktr_units)
  rintro r h9 tk9 tl F9 N9 Sn S9 ⟨q, rfl, hq⟩
  replace hq := Seen.path F9 N9 Sn (by
    intro p hp
    simp only [List.mem_cons, List.not_mem_nil, or_false] at hp
    subst hp
    exact NoTup.ofCls (by simp [itR])) hq
  simp only [List.cons_append, List.nil_append] at N9
  k_steps
  refine ⟨_, _, _, tl, rfl, (by assumption), (by assumption), fun p hp => Sn.apart p hp _ (.head _), ?_⟩
  rintro h2 tk2 F2 N2
  k_steps
  exact hret _ _ _ (sub_end GS (by assumption)) ⟨_, rfl, hq.here F2 N2 fun p hp => hp⟩
end Mine
end
section
open PySem PySem.W PySem.Spec PySem.Calls PyProof.Rows
set_option pp.deepTerms false
set_option pp.deepTerms.threshold 6
set_option pp.proofs false
namespace Mine
open PyProof.Rows.LCg
local macro_rules | `(tactic| walk_at "pad") => `(tactic| skip)
local macro_rules | `(tactic| walk_at "eval ListComp") => `(tactic| (refine Halt.mk ?_))
noncomputable def noConf (P : List (Int × List Int)) : List (Int × List Int) := P.filter fun g => ¬ (g.1 = 3 ∨ g.1 = 4)

theorem SegsAt.append {h : Heap} {vs ws : List Value} {xs ys : List (Int × List Int)} (x : SegsAt h vs xs) (y : SegsAt h ws ys) : SegsAt h (vs ++ ws) (xs ++ ys) := by
  induction x with
  | nil => exact y
  | cons a _ ih => exact .cons a ih
theorem ct_noconf (w : World) (s : Shared) (p : Addr) (P : List (Int × List Int)) (hp : PathAt s.heap p P) (hP : P.length < 2 ^ 20) :
    Asks 8 w 69 [.ref p] s (fun r h => ∃ q, r = .ref q ∧ PathAt h q (noConf P)) := by
  w_top off
  unfold Asks
  k_fill
  intro dp un gd cn cs a₀ ccd cl outer A₀ base h₀ L m mean mg mb Q E B F X T hk hdp hun hret
  refine wpAny_call ?_
  refine' code_defG ?k1 ?k2 ?k3 News.nil ?k5 ?kA ?kF ?kK ?k6 ?k7 ?k8 ?k9 ?kB ?_ ?c2 ?c3 ?c4 ?c5
  (case k1 => k_asm); (case k2 => k_asm); (case k3 => k_asm); (case k5 => k_asm); (case kA => exact rfl); (case kF => exact rfl); (case kK => assumption)
  (case k6 => k_is); (case k7 => k_is); (case k8 => ktr_room); (case k9 => exact BindsTo.of_eq rfl); (case c5 => decide); (case kB => exact locs rfl); (case c2 => exact rfl); (case c3 => exact rfl); (case c4 => exact rfl)
  intro g' L' h' FG' F' N' B' X' T' GS
  replace GS := gsub_nil GS
  refine gen_et ?_
  intro Eg tkg
  obtain ⟨vs, ht, hsg⟩ := hp.keeps GS
  have hvl := hsg.length
  obtain ⟨tc1, tc2, hck⟩ := confed_tup X'
  replace hck := hck.isTup
  have hcki : IntsAre [.int 3 tc1, .int 4 tc2] [3, 4] := ints2
  (try dsimp only); (try k_fold)
  k_steps
  refine Halt.go ?_
  refine gcompT (by assumption) rfl (by decide) rfl (by decide) ?_
  k_steps
  rename Fr g' _ _ _ => F1
  rename News g' _ _ _ => N1
  refine tup_src (keep := []) rfl (.inl ht.isTup) F1 N1 (fun _ h => nomatch h) ?_
  intro I g9 F2 N2 hLI hI0 hoff hst W hfp
  refine ⟨I, _, _, vs.length, _, _, _, [], [], _, fun i ys n' => n' = [] ∧ SegsAt g' ys (noConf (P.take i)), rfl, W _, tup_self, (by rw [hvl, sizeLine_eq]; omega), tup_io, (by simp), (by simp), hfp, asg_name rfl (by decide), hst, F2, N2, hLI, hI0, hoff, (fun _ h => nomatch h), ⟨rfl, .nil⟩, ?_, ?_⟩
  · rintro i v ys n1 I oI C oC D m2 h3 tk3 E' hi hv hm ⟨rfl, hys⟩ hoC F3 N3 O3 hne hkp
    obtain ⟨⟨k, ns⟩, hPi, a, t, b, rfl, hT1, hI⟩ := hsg.get hv
    dsimp only at hT1
    have hTa := hT1.isTup
    have hlk : noConf (P.take (i + 1)) = noConf (P.take i) ++ (if k = 3 ∨ k = 4 then [] else [(k, (k, b).1)].map fun _ => (k, ns)) := by
      unfold noConf
      rw [List.take_add_one, hPi]
      by_cases h : k = 3 ∨ k = 4
      · simp only [if_pos h, List.append_nil, List.filter_append, Option.toList]
        rw [List.filter_cons_of_neg (by simp; omega)]
        simp
      · simp only [if_neg h, List.filter_append, Option.toList]
        rw [List.filter_cons_of_pos (by simp; omega)]
        simp
    k_steps
    · rename (List.any _ _ = _) => hno
      have hk2 : k = 3 ∨ k = 4 := by simp at hno; omega
      rw [if_pos hk2, List.append_nil] at hlk
      exact ⟨_, _, _, rfl, (by assumption), (by assumption), O3, hkp, rfl, hlk ▸ hys⟩
    · rename (List.any _ _ = _) => hno
      have hk2 : ¬ (k = 3 ∨ k = 4) := by
        intro e
        rcases e with rfl | rfl <;> simp at hno
      rw [if_neg hk2] at hlk
      exact ⟨_, _, _, rfl, (by assumption), (by assumption), O3, hkp, rfl, hlk ▸ hys.append (.cons ⟨a, t, b, rfl, hT1, hI⟩ .nil)⟩
  · rintro ys n1 ⟨rfl, hys⟩ D h3 tk3 F3 N3 O3
    rw [hvl, List.take_length] at hys
    have hyl : ys.length ≤ sizeLine := by
      have h1 := hys.length
      have h2 : (noConf P).length ≤ P.length := List.length_filter_le _ _
      rw [sizeLine_eq]
      omega
    k_steps
    exact hret _ _ _ (sub_end GS (by assumption)) ⟨_, rfl, ys, ⟨_, News.get (by assumption) (.head _)⟩, hys.keeps (Fr.keep (by assumption))⟩
end Mine
end
section
open PySem PySem.W PySem.Spec PySem.Calls PyProof.Rows
set_option pp.deepTerms false
set_option pp.deepTerms.threshold 6
set_option pp.proofs false
namespace Mine
local macro_rules | `(tactic| walk_at "pad") => `(tactic| skip)
local macro_rules | `(tactic| walk_at "subscriptTail") => `(tactic| (k_here; (with_reducible show wpAny _ _ (subscriptTail _ _ (Value.ref _) (Value.str _ _)) _ _ _); (with_unfolding_all refine' bd_item ?d ?l ?_); (case d => first | exact kda_dict (by k_asm) (by k_mem) (by assumption) | exact Heap.DictOf.keep (by assumption) (Fr.keep (by assumption))); (case l => assumption); k_whole))
local macro_rules | `(tactic| walk_at "call ref") => `(tactic| (refine Halt.mk ?_))
noncomputable def isInside (k : Str) : Bool := [Str.ofString "ibgp", Str.ofString "client"].any fun x => x == k
noncomputable def mayPass (teller hearer : Str) (b : Bool) : Bool := if isInside teller && isInside hearer then b && (teller == Str.ofString "client" || hearer == Str.ofString "client") else true
theorem ct_pass (w : World) (s : Shared) (teller hearer : Str) (t1 t2 : Tok) (b : Bool) :
    Asks 8 w 84 [.str teller t1, .str hearer t2, .bool b] s (fun r _ => r = .bool (mayPass teller hearer b)) := by
  w_top off
  unfold Asks
  k_fill
  intro dp un gd cn cs a₀ ccd cl outer A₀ base h₀ L m mean mg mb Q E B F X T hk hdp hun hret
  refine wpAny_call ?_
  refine' code_defG ?k1 ?k2 ?k3 News.nil ?k5 ?kA ?kF ?kK ?k6 ?k7 ?k8 ?k9 ?kB ?_ ?c2 ?c3 ?c4 ?c5
  (case k1 => k_asm); (case k2 => k_asm); (case k3 => k_asm); (case k5 => k_asm); (case kA => exact rfl); (case kF => exact rfl); (case kK => assumption)
  (case k6 => k_is); (case k7 => k_is); (case k8 => ktr_room); (case k9 => exact BindsTo.of_eq rfl); (case c5 => decide); (case kB => exact locs rfl); (case c2 => exact rfl); (case c3 => exact rfl); (case c4 => exact rfl)
  intro g' L' h' FG' F' N' B' X' T' GS
  replace GS := gsub_nil GS
  refine gen_et ?_
  intro Eg tkg
  obtain ⟨tc1, tc2, hck⟩ := inside_tup X'
  replace hck := hck.isTup
  have hcki : StrsAre [.str (Str.ofString "ibgp") tc1, .str (Str.ofString "client") tc2] [Str.ofString "ibgp", Str.ofString "client"] := .cons _ _ (.cons _ _ .nil)
  (try dsimp only); (try k_fold)
  k_steps
  all_goals refine hret _ _ _ (sub_end GS (by assumption)) ?_
  all_goals unfold mayPass isInside
  all_goals simp only [*, Bool.false_and, Bool.true_and, Bool.and_self, if_true, Bool.false_eq_true, if_false, Bool.or_false, Bool.true_or, Bool.or_true, Bool.and_false, Bool.false_or]
theorem ct_refl (w : World) (s : Shared) (teller hearer : Str) (t1 t2 : Tok) :
    Asks 8 w 91 [.str teller t1, .str hearer t2] s (fun r _ => r = .bool (isInside teller && isInside hearer)) := by
  w_top off
  unfold Asks
  k_fill
  intro dp un gd cn cs a₀ ccd cl outer A₀ base h₀ L m mean mg mb Q E B F X T hk hdp hun hret
  refine wpAny_call ?_
  refine' code_defG ?k1 ?k2 ?k3 News.nil ?k5 ?kA ?kF ?kK ?k6 ?k7 ?k8 ?k9 ?kB ?_ ?c2 ?c3 ?c4 ?c5
  (case k1 => k_asm); (case k2 => k_asm); (case k3 => k_asm); (case k5 => k_asm); (case kA => exact rfl); (case kF => exact rfl); (case kK => assumption)
  (case k6 => k_is); (case k7 => k_is); (case k8 => ktr_room); (case k9 => exact BindsTo.of_eq rfl); (case c5 => decide); (case kB => exact locs rfl); (case c2 => exact rfl); (case c3 => exact rfl); (case c4 => exact rfl)
  intro g' L' h' FG' F' N' B' X' T' GS
  replace GS := gsub_nil GS
  refine gen_et ?_
  intro Eg tkg
  obtain ⟨tc1, tc2, hck⟩ := inside_tup X'
  replace hck := hck.isTup
  have hcki : StrsAre [.str (Str.ofString "ibgp") tc1, .str (Str.ofString "client") tc2] [Str.ofString "ibgp", Str.ofString "client"] := .cons _ _ (.cons _ _ .nil)
  (try dsimp only); (try k_fold)
  k_steps
  all_goals refine hret _ _ _ (sub_end GS (by assumption)) ?_
  all_goals unfold isInside
  all_goals simp only [*, Bool.false_and, Bool.true_and]
end Mine
end
section
open PySem PySem.W PySem.Spec PySem.Calls PyProof.Rows
set_option pp.deepTerms false
set_option pp.deepTerms.threshold 6
set_option pp.proofs false
namespace Mine
local macro_rules | `(tactic| walk_at "subscriptTail") => `(tactic| (k_here; (with_reducible show wpAny _ _ (subscriptTail _ _ (Value.ref _) (Value.str _ _)) _ _ _); (with_unfolding_all refine' bd_item ?d ?l ?_); (case d => first | exact kda_dict (by k_asm) (by k_mem) (by assumption) | exact Heap.DictOf.keep (by assumption) (Fr.keep (by assumption))); (case l => assumption); k_whole))
local macro_rules | `(tactic| walk_at "call ref") => `(tactic| (refine Halt.mk ?_))
local macro_rules | `(tactic| walk_at "getMethod ref") => `(tactic| (k_here; (with_reducible show wpAny _ _ (getMethod (Value.ref _) _ _) _ _ _); refine' bd_method ?d ?_; (case d => exact Heap.DictOf.keep (by assumption) (Fr.keep (by assumption))); k_whole))
local macro_rules | `(tactic| walk_at "call builtin:dict.get") => `(tactic| (k_here; refine' bd_get2 ?d ?lo _ ?hb ?_; (case d => exact Heap.DictOf.keep (by assumption) (Fr.keep (by assumption))); (case lo => assumption); (case hb => assumption); k_whole))
noncomputable def ogOf (og : Option Int) : Int := og.getD 0
noncomputable def goesRound (P : List (Int × List Int)) (og : Option Int) (cls : Option (List Int)) (id mem clu : Int) (kind : Str) : Bool :=
  if backs P 9 mem then true else if isInside kind then (og.getD 0 == id || (clu != 0 && decide (clu ∈ cls.getD []))) else false
theorem ct_round (w : World) (s : Shared) (d o : Addr) (kind : Str) (tk : Tok) (R : Str → Option FV) (P : List (Int × List Int)) (og : Option Int) (cls : Option (List Int)) (id mem clu adr : Int) (hd : AttAt w s.heap d R) (hP : R (Str.ofString "as_path") = some (.path P))
    (hog : R (Str.ofString "originator") = og.map .int) (hcl : R (Str.ofString "clusters") = cls.map .nums) (ho : OwnAt w s.heap o id mem clu adr) (hsz : sizes P < 2 ^ 20) :
    Asks 16 w 98 [.ref d, .ref o, .str kind tk] s (fun r _ => r = .bool (goesRound P og cls id mem clu kind)) := by
  w_top off
  unfold Asks
  k_fill
  intro dp un gd cn cs a₀ ccd cl outer A₀ base h₀ L m mean mg mb Q E B F X T hk hdp hun hret
  refine wpAny_call ?_
  refine' code_defG ?k1 ?k2 ?k3 News.nil ?k5 ?kA ?kF ?kK ?k6 ?k7 ?k8 ?k9 ?kB ?_ ?c2 ?c3 ?c4 ?c5
  (case k1 => k_asm); (case k2 => k_asm); (case k3 => k_asm); (case k5 => k_asm); (case kA => exact rfl); (case kF => exact rfl); (case kK => assumption)
  (case k6 => k_is); (case k7 => k_is); (case k8 => ktr_room); (case k9 => exact BindsTo.of_eq rfl); (case c5 => decide); (case kB => exact locs rfl); (case c2 => exact rfl); (case c3 => exact rfl); (case c4 => exact rfl)
  intro g' L' h' FG' F' N' B' X' T' GS
  replace GS := gsub_nil GS
  refine gen_et ?_
  intro Eg tkg
  obtain ⟨kvs, hdd, hlo, hrel⟩ := hd.keeps GS
  obtain ⟨kvo, hdo, ⟨t1, ho1⟩, ⟨t2, ho2⟩, ⟨t3, ho3⟩, ⟨t4, ho4⟩, ⟨t5, ho5⟩⟩ := ho.keeps GS
  obtain ⟨_, hvp, pp, rfl, hpp⟩ := hrel.some hP
  obtain ⟨tc1, tc2, hck⟩ := inside_tup X'
  replace hck := hck.isTup
  have hcki : StrsAre [.str (Str.ofString "ibgp") tc1, .str (Str.ofString "client") tc2] [Str.ofString "ibgp", Str.ofString "client"] := .cons _ _ (.cons _ _ .nil)
  have hgo : ∃ v, valueAt kvs (Str.ofString "originator") = v ∧ ∀ t, ∃ t', v.getD (.int 0 t) = .int (og.getD 0) t' := by
    cases og with
    | none => exact ⟨none, hrel.none hog, fun t => ⟨t, rfl⟩⟩
    | some n =>
      obtain ⟨_, h1, t', rfl⟩ := hrel.some hog
      exact ⟨_, h1, fun _ => ⟨t', rfl⟩⟩
  obtain ⟨vo, hvo, hvo2⟩ := hgo
  obtain ⟨vc, hvc⟩ : ∃ v, valueAt kvs (Str.ofString "clusters") = v := ⟨_, rfl⟩
  (try dsimp only); (try k_fold)
  k_steps
  refine Halt.go ?_
  refine' use (ct_back _ _ _ _ _ _ _ _ (hpp.keeps (Fr.keep (by assumption))) hsz) [] ?B ?F ?X ?T ?hk ?d ?u News.nil ?_
  (case B => k_asm); (case F => k_asm); (case X => k_asm); (case T => k_asm); (case hk => first | exact rfl | assumption)
  (case d => ktr_room)
  (case u => ktr_units)
  rintro r h9 tk9 tl F9 N9 Sn S9 rfl
  k_steps
  · refine hret _ _ _ (sub_end GS F9) ?_
    unfold goesRound
    rw [if_pos (by assumption)]
  · obtain ⟨t9, e9⟩ := hvo2 (tk9 + 1)
    rw [e9]
    k_steps
    · refine hret _ _ _ (sub_end GS F9) ?_
      rename (backs P 9 mem = false) => hb
      rename (List.any _ _ = true) => hk
      rename (og.getD 0 = id) => he
      unfold goesRound isInside
      rw [hb, hk, he]
      simp
    · rename_i D2 h2 F2 N2 l2
      have hq : ∃ q ws, vc.getD (.ref D2) = .ref q ∧ IsTup h2 q ws.toArray ∧ IntsAre ws (cls.getD []) := by
        cases hcl2 : cls with
        | none =>
          rw [hcl2] at hcl
          rw [hrel.none hcl] at hvc
          subst hvc
          exact ⟨D2, [], rfl, ⟨_, (N2 _ (.head _)).1, rfl, _, rfl⟩, .nil⟩
        | some cs2 =>
          rw [hcl2] at hcl
          obtain ⟨_, h1, p2, rfl, ws, h3, h4⟩ := hrel.some hcl
          rw [h1] at hvc
          subst hvc
          exact ⟨p2, ws, rfl, (h3.keeps F2.keep).isTup, h4⟩
      obtain ⟨q, ws, e5, ht5, hi5⟩ := hq
      rw [e5]
      refine in_tuple_ints ht5 hi5 ?_
      k_steps
      refine hret _ _ _ (sub_end GS F2) ?_
      rename (backs P 9 mem = false) => hb
      rename (List.any _ _ = true) => hk
      rename (og.getD 0 ≠ id) => he
      rename (clu ≠ 0) => hc
      unfold goesRound isInside
      rw [hb, hk, any_mem, beq_false_of_ne he, bne_iff_ne.mpr hc]
      simp
    · refine hret _ _ _ (sub_end GS F9) ?_
      rename (backs P 9 mem = false) => hb
      rename (List.any _ _ = true) => hk
      rename (og.getD 0 ≠ id) => he
      rename (clu = 0) => hc
      unfold goesRound isInside
      rw [hb, hk, beq_false_of_ne he, hc]
      simp
  · refine hret _ _ _ (sub_end GS F9) ?_
    unfold goesRound isInside
    rename (backs P 9 mem = false) => hb
    rename (List.any _ _ = false) => hk
    rw [hb, hk]
    rfl
end Mine
end
section
open PySem PySem.W PySem.Spec PySem.Calls PyProof.Rows
set_option pp.deepTerms false
set_option pp.deepTerms.threshold 6
set_option pp.proofs false
namespace Mine
open PyProof.Rows.LCg
local macro_rules | `(tactic| walk_at "eval ListComp") => `(tactic| (refine Halt.mk ?_))
noncomputable def unkOn (us : List (Int × Int × Array UInt8)) : List (Int × Int × Array UInt8) := (us.filter fun u => decide (u.1 = 192 ∨ u.1 = 224)).map fun u => (224, u.2)
inductive TripsN (tl : List (Addr × Obj)) : List Value → List (Int × Int × Array UInt8) → Prop
  | nil : TripsN tl [] []
  | cons {T n : Nat} {t1 t2 t3 : Tok} {u vs us} : (T, tupO [.int u.1 t1, .int u.2.1 t2, .bytes u.2.2 t3] n) ∈ tl → TripsN tl vs us → TripsN tl (.ref T :: vs) (u :: us)
theorem TripsN.mono {tl tl' : List (Addr × Obj)} {vs us} (x : TripsN tl vs us) (k : ∀ p ∈ tl, p ∈ tl') : TripsN tl' vs us := by
  induction x with
  | nil => exact .nil
  | cons a _ ih => exact .cons (k _ a) ih
theorem TripsN.append {tl : List (Addr × Obj)} {vs ws us us2} (x : TripsN tl vs us) (y : TripsN tl ws us2) : TripsN tl (vs ++ ws) (us ++ us2) := by
  induction x with
  | nil => exact y
  | cons a _ ih => exact .cons a ih
theorem TripsN.at {tl led : List (Addr × Obj)} {g h : Heap} {L : Addr} {vs us} (x : TripsN tl vs us) (N : News g L h led) (hs : ∀ p ∈ tl, p ∈ led) : TripsAt h vs us := by
  induction x with
  | nil => exact .nil
  | cons a _ ih => exact .cons ⟨_, _, _, _, rfl, _, (N _ (hs _ a)).1⟩ ih
theorem TripsN.length {tl : List (Addr × Obj)} {vs us} (x : TripsN tl vs us) : vs.length = us.length := by
  induction x with
  | nil => rfl
  | cons _ _ ih => simp [ih]
noncomputable def Flags (us : List (Int × Int × Array UInt8)) : Prop := ∀ u ∈ us, u.1 = 128 ∨ u.1 = 192 ∨ u.1 = 224

theorem ct_unk (w : World) (s : Shared) (p : Addr) (us : List (Int × Int × Array UInt8)) (hp : UnkAt s.heap p us) (hf : Flags us) (hP : us.length < 2 ^ 20) :
    Asks 8 w 111 [.ref p] s (fun r h => ∃ q, r = .ref q ∧ UnkAt h q (unkOn us)) := by
  w_top off
  unfold Asks
  k_fill
  intro dp un gd cn cs a₀ ccd cl outer A₀ base h₀ L m mean mg mb Q E B F X T hk hdp hun hret
  refine wpAny_call ?_
  refine' code_defG ?k1 ?k2 ?k3 News.nil ?k5 ?kA ?kF ?kK ?k6 ?k7 ?k8 ?k9 ?kB ?_ ?c2 ?c3 ?c4 ?c5
  (case k1 => k_asm); (case k2 => k_asm); (case k3 => k_asm); (case k5 => k_asm); (case kA => exact rfl); (case kF => exact rfl); (case kK => assumption)
  (case k6 => k_is); (case k7 => k_is); (case k8 => ktr_room); (case k9 => exact BindsTo.of_eq rfl); (case c5 => decide); (case kB => exact locs rfl); (case c2 => exact rfl); (case c3 => exact rfl); (case c4 => exact rfl)
  intro g' L' h' FG' F' N' B' X' T' GS
  replace GS := gsub_nil GS
  refine gen_et ?_
  intro Eg tkg
  obtain ⟨vs, ht, hsg⟩ := hp.keeps GS
  have hvl := hsg.length
  (try dsimp only); (try k_fold)
  k_steps
  refine Halt.go ?_
  refine gcompT (by assumption) rfl (by decide) rfl (by decide) ?_
  k_steps
  rename Fr g' _ _ _ => F1
  rename News g' _ _ _ => N1
  refine tup_src (keep := []) rfl (.inl ht.isTup) F1 N1 (fun _ h => nomatch h) ?_
  intro I g9 F2 N2 hLI hI0 hoff hst W hfp
  refine ⟨I, _, _, vs.length, _, _, _, [], [], _, fun i ys n' => TripsN n' ys (unkOn (us.take i)), rfl, W _, tup_self, (by rw [hvl, sizeLine_eq]; omega), tup_io, (by simp), (by simp), hfp, asg_triple rfl rfl rfl rfl rfl (by decide) (by decide) (by decide) (P3 := fun i a b c => ∃ u t1 t2 t3, us[i]? = some u ∧ a = .int u.1 t1 ∧ b = .int u.2.1 t2 ∧ c = .bytes u.2.2 t3) ?_, hst, F2, N2, hLI, hI0, hoff, (fun _ h => nomatch h), .nil, ?_, ?_⟩
  · intro i v hv
    obtain ⟨u, hu, a, t1, t2, t3, rfl, h1⟩ := hsg.get hv
    exact ⟨a, _, _, _, rfl, ⟨u, t1, t2, t3, hu, rfl, rfl, rfl⟩, fun h k _ => (h1.keeps k).isTup⟩
  · rintro i v ys n1 I oI C oC D m2 h3 tk3 E' hi hv ⟨_, _, _, ⟨u, t1, t2, t3, hu, rfl, rfl, rfl⟩, hm1, hm2, hm3⟩ hys hoC F3 N3 O3 hne hkp
    obtain ⟨fl, cd, oc⟩ := u
    have hfl := hf _ (List.mem_of_getElem? hu)
    dsimp only at hfl hm1 hm2 hm3
    have hlk : unkOn (us.take (i + 1)) = unkOn (us.take i) ++ (if fl = 192 ∨ fl = 224 then [(224, cd, oc)] else []) := by
      unfold unkOn
      rw [List.take_add_one, hu]
      by_cases h : fl = 192 ∨ fl = 224
      · simp only [if_pos h, List.filter_append, List.map_append, Option.toList]
        rw [List.filter_cons_of_pos (by simpa using h)]
        simp
      · simp only [if_neg h, List.append_nil, List.filter_append, List.map_append, Option.toList]
        rw [List.filter_cons_of_neg (by simpa using h)]
        simp
    rcases hfl with rfl | rfl | rfl
    · k_steps
      rw [if_neg (by omega), List.append_nil] at hlk
      exact ⟨_, _, _, rfl, (by assumption), cb_drop (by assumption) (fun p hp => hp), O3, (fun _ h => nomatch h), (by show TripsN n1 ys (unkOn (us.take (i + 1))); rw [hlk]; exact hys)⟩
    · k_steps
      rename_i D2 h2 F2' N2' hlt
      have hN : ∃ tt, News g' L' h2 ((D2, tupO [.int 224 tt, .int cd t2, .bytes oc t3] 0) :: (I, oI) :: (C, oC) :: (D, lst ys) :: n1) := ⟨_, N2'⟩
      obtain ⟨tt, N3'⟩ := hN
      clear N2'
      rw [if_pos (by omega)] at hlk
      refine ⟨_, _, (D2, tupO [.int 224 tt, .int cd t2, .bytes oc t3] 0) :: n1, rfl, (by assumption), cb_drop (by assumption) ?_, Off3.of ?_, (fun _ h => nomatch h), ?_⟩
      · intro p hp
        simp only [List.mem_cons] at hp ⊢
        rcases hp with e | e | e | e | e <;> simp [e]
      · intro p hp
        rcases List.mem_cons.mp hp with e | e
        · rw [e]
          dsimp only
          refine ⟨?_, ?_, ?_⟩ <;> refine neN ?_ <;> omega
        · exact O3.mem p e
      · rw [hlk]
        exact (hys.mono fun p hp => List.mem_cons_of_mem _ hp).append (.cons (List.mem_cons_self ..) .nil)
    · k_steps
      rename_i D2 h2 F2' N2' hlt
      have hN : ∃ tt, News g' L' h2 ((D2, tupO [.int 224 tt, .int cd t2, .bytes oc t3] 0) :: (I, oI) :: (C, oC) :: (D, lst ys) :: n1) := ⟨_, N2'⟩
      obtain ⟨tt, N3'⟩ := hN
      clear N2'
      rw [if_pos (by omega)] at hlk
      refine ⟨_, _, (D2, tupO [.int 224 tt, .int cd t2, .bytes oc t3] 0) :: n1, rfl, (by assumption), cb_drop (by assumption) ?_, Off3.of ?_, (fun _ h => nomatch h), ?_⟩
      · intro p hp
        simp only [List.mem_cons] at hp ⊢
        rcases hp with e | e | e | e | e <;> simp [e]
      · intro p hp
        rcases List.mem_cons.mp hp with e | e
        · rw [e]
          dsimp only
          refine ⟨?_, ?_, ?_⟩ <;> refine neN ?_ <;> omega
        · exact O3.mem p e
      · rw [hlk]
        exact (hys.mono fun p hp => List.mem_cons_of_mem _ hp).append (.cons (List.mem_cons_self ..) .nil)
  · rintro ys n1 hys D h3 tk3 F3 N3 O3
    rw [hvl, List.take_length] at hys
    have hyl : ys.length ≤ sizeLine := by
      have h1 := hys.length
      have h2 : (unkOn us).length ≤ us.length := by unfold unkOn; rw [List.length_map]; exact List.length_filter_le _ _
      rw [sizeLine_eq]
      omega
    k_steps
    rename News g' _ _ _ => N9
    exact hret _ _ _ (sub_end GS (by assumption)) ⟨_, rfl, ys, ⟨_, (N9 _ (.head _)).1⟩, hys.at N9 (fun p hp => by first | ((repeat (first | exact hp | apply List.Mem.tail)); done) | simp [hp])⟩
end Mine
end
section
open PySem PySem.W PySem.Spec PySem.Calls PyProof.Rows
namespace Mine
/-- what a call of the def at f hands back that may change the objects of `led`, and nothing else that stood -/
noncomputable def AsksD (lv : Nat) (w : World) (f : Addr) (args : List Value) (led : List (Addr × Obj)) (s : Shared) (Post : Value → Heap → Prop) : Prop :=
  ∀ (dp un : Nat) (gd : Option (List Code)) (cn : Str) (cs : Scope) (a : Addr) (ccd : Value) (cl : List (Str × Addr)) (outer : List Env) (A₀ : Around) (base h₀ : Heap) (L : Addr) (m : Str → Option Value)
    (mean : ExcName → Option Value) (mg mb : Str → Option Value) (Q E : Value → Shared → Prop),
    Below A₀ base outer h₀ → Fr h₀ L s.heap m → (hd.heap_1 w.params).In h₀ → Top hd.view_1 (looseW hd.view_1 [Str.ofString "CONFED_KINDS"]) mean mg mb h₀ → cs.kind = .function → News h₀ L s.heap led →
    dp + lv < recursionLimit → un + 8 * lv < cLine →
    (∀ r h' tk', GSub s.heap h' (led.map (·.1)) → Post r h' → Q r { s with heap := h', toks := tk' }) →
    wpAny (model PySem.Challenge.rw_sz0110_01.row.prog w) (ktrTop dp un gd cn cs L a ccd cl outer) (call (.ref f) args) Q E s

theorem gsub_end {H g h : Heap} {L : Addr} {m : Str → Option Value} {adr : List Addr} (GS : GSub H g adr) (F : Fr g L h m) : GSub H h adr := fun b o e n => F.keep b o (GS b o e n)
theorem frGSub {g h h' : Heap} {L : Addr} {m : Str → Option Value} {led : List (Addr × Obj)} (F : Fr g L h m) (N : News g L h led) (S : GSub h h' (led.map (·.1))) : Fr g L h' m := by
  refine ⟨F.ns.at' fun o e => S _ _ e fun hm => ?_, fun b o e => S _ _ (F.keep b o e) fun hm => ?_, F.above⟩
  · obtain ⟨p, hp, e⟩ := List.mem_map.mp hm
    exact (N p hp).2.1 e
  · obtain ⟨p, hp, e2⟩ := List.mem_map.mp hm
    have := (N p hp).2.2
    rw [e2, e] at this
    cases this
theorem newsGSub {g h h' : Heap} {L : Addr} {c : List (Addr × Obj)} {adr : List Addr} (N : News g L h c) (S : GSub h h' adr) (hc : ∀ p ∈ c, p.1 ∉ adr) : News g L h' c := fun p hp => ⟨S _ _ (N p hp).1 (hc p hp), (N p hp).2⟩
theorem newsAt {g h h' : Heap} {L : Addr} {c led : List (Addr × Obj)} {d : Addr} {o o' : Obj} (N : News g L h led) (hm : (d, o) ∈ led) (e : h'.get? d = some o') (Nc : News g L h' c) : News g L h' ((d, o') :: c) := by
  intro p hp
  rcases List.mem_cons.mp hp with rfl | hp
  · exact ⟨e, (N _ hm).2⟩
  · exact Nc p hp
theorem useD {lv : Nat} {w : World} {f : Addr} {args : List Value} {led : List (Addr × Obj)} {s : Shared} {Post : Value → Heap → Prop} (C : AsksD lv w f args led s Post)
    {dp un : Nat} {gd : Option (List Code)} {cn : Str} {cs : Scope} {a : Addr} {ccd : Value} {cl : List (Str × Addr)} {outer : List Env} {A₀ : Around} {base h₀ : Heap} {L : Addr} {m : Str → Option Value}
    {mean : ExcName → Option Value} {mg mb : Str → Option Value} {Q E : Value → Shared → Prop}
    (B : Below A₀ base outer h₀) (F : Fr h₀ L s.heap m) (X : (hd.heap_1 w.params).In h₀) (T : Top hd.view_1 (looseW hd.view_1 [Str.ofString "CONFED_KINDS"]) mean mg mb h₀) (hk : cs.kind = .function)
    (hd' : dp + lv < recursionLimit) (hu : un + 8 * lv < cLine) (N : News h₀ L s.heap led)
    (ret : ∀ r h' tk', Fr h₀ L h' m → GSub s.heap h' (led.map (·.1)) → Post r h' → Q r { s with heap := h', toks := tk' }) :
    wpAny (model PySem.Challenge.rw_sz0110_01.row.prog w) (ktrTop dp un gd cn cs L a ccd cl outer) (call (.ref f) args) Q E s :=
  C dp un gd cn cs a ccd cl outer A₀ base h₀ L m mean mg mb Q E B F X T hk N hd' hu fun r h' tk' S P => ret r h' tk' (frGSub F N S) S P
end Mine
end
section
open PySem PySem.W PySem.Spec PySem.Calls PyProof.Rows
set_option pp.deepTerms false
set_option pp.deepTerms.threshold 6
set_option pp.proofs false
namespace Mine
theorem ct_speaker (w : World) (s : Shared) (at' mem : Int) (t1 t2 : Tok) :
    Asks 8 w 156 [.int at' t1, .int mem t2] s (fun r h => ∃ o, r = .ref o ∧ s.heap.get? o = none ∧ OwnAt w h o (100 + at') (65001 + mem) (50 + at') (30 + at')) := by
  w_top off
  unfold Asks
  k_fill
  intro dp un gd cn cs a₀ ccd cl outer A₀ base h₀ L m mean mg mb Q E B F X T hk hdp hun hret
  refine wpAny_call ?_
  refine' code_defG ?k1 ?k2 ?k3 News.nil ?k5 ?kA ?kF ?kK ?k6 ?k7 ?k8 ?k9 ?kB ?_ ?c2 ?c3 ?c4 ?c5
  (case k1 => k_asm); (case k2 => k_asm); (case k3 => k_asm); (case k5 => k_asm); (case kA => exact rfl); (case kF => exact rfl); (case kK => assumption)
  (case k6 => k_is); (case k7 => k_is); (case k8 => ktr_room); (case k9 => exact BindsTo.of_eq rfl); (case c5 => decide); (case kB => exact locs rfl); (case c2 => exact rfl); (case c3 => exact rfl); (case c4 => exact rfl)
  intro g' L' h' FG' F' N' B' X' T' GS
  replace GS := gsub_nil GS
  refine gen_et ?_
  intro Eg tkg
  (try dsimp only); (try k_fold)
  rename Fr g' L' h' _ => F1
  have S3 := sub_end GS F1
  k_steps
  rename Obj.IsDictOf _ _ _ => hd1
  rename News h₀ _ _ _ => N1
  refine hret _ _ _ (sub_end GS (by assumption)) ⟨_, rfl, none_back S3 fresh_size, _, Heap.dictOf_iff.mpr ⟨_, (N1 _ (.head _)).1, hd1⟩, ⟨_, rfl⟩, ⟨_, rfl⟩, ⟨_, rfl⟩, ⟨_, rfl⟩, ⟨_, rfl⟩⟩
end Mine
end
section
open PySem PySem.W PySem.Spec PySem.Calls PyProof.Rows
set_option pp.deepTerms false
set_option pp.deepTerms.threshold 6
set_option pp.proofs false
namespace Mine
/-- the box of draws: a list of ints, and how many have been drawn -/
noncomputable def BoxAt (h : Heap) (S : Addr) (k : Int) (o : Obj) : Prop := ∃ t n ws xs, o = W.listOf #[Value.ref S, Value.int k t] n ∧ h.IsList S ws.toArray ∧ IntsAre ws xs ∧ ws.length ≤ 2 ^ 20
theorem ct_draw (w : World) (s : Shared) (b S : Addr) (o : Obj) (k many : Int) (tm : Tok) (hb : BoxAt s.heap S k o) (hne : S ≠ b) (hk : 0 ≤ k ∧ k < 2 ^ 20) (hm : 0 < many ∧ many < 2 ^ 20) :
    AsksD 8 w 142 [.ref b, .int many tm] [(b, o)] s (fun r h => (∃ n t, r = .int n t ∧ 0 ≤ n ∧ n < many) ∧ ∃ o', h.get? b = some o' ∧ BoxAt h S (k + 1) o') := by
  w_top off
  unfold AsksD
  k_fill
  intro dp un gd cn cs a₀ ccd cl outer A₀ base h₀ L m mean mg mb Q E B F X T hk NL hdp hun hret
  refine wpAny_call ?_
  refine' code_defG ?k1 ?k2 ?k3 NL ?k5 ?kA ?kF ?kK ?k6 ?k7 ?k8 ?k9 ?kB ?_ ?c2 ?c3 ?c4 ?c5
  (case k1 => k_asm); (case k2 => k_asm); (case k3 => k_asm); (case k5 => k_asm); (case kA => exact rfl); (case kF => exact rfl); (case kK => assumption)
  (case k6 => k_is); (case k7 => k_is); (case k8 => ktr_room); (case k9 => exact BindsTo.of_eq rfl); (case c5 => decide); (case kB => exact locs rfl); (case c2 => exact rfl); (case c3 => exact rfl); (case c4 => exact rfl)
  intro g' L' h' FG' F' N' B' X' T' GS
  refine gen_et ?_
  intro Eg tkg
  obtain ⟨t0, n0, ws, xs, rfl, hl0, hi, hwl⟩ := hb
  have hl : g'.IsList S ws.toArray := hl0.at fun o' e => GS _ _ e (by simpa using hne)
  have hxl := hi.length
  (try dsimp only); (try k_fold)
  k_steps
  all_goals rename News h₀ _ _ _ => N1
  all_goals rename Fr g' _ _ _ => F1
  all_goals refine hret _ _ _ (gsub_end GS F1) ⟨⟨_, _, rfl, Int.fmod_nonneg_of_pos _ hm.1, Int.fmod_lt_of_pos _ hm.1⟩, _, (N1 _ (.head _)).1, _, _, ws, xs, rfl, Heap.IsList.at hl fun o e => F1.keep _ o e, hi, hwl⟩
end Mine
end
section
open PySem PySem.W PySem.Spec PySem.Calls PyProof.Rows PyProof.Rows.LCg PySem.SeqAt
namespace Mine
section
variable {prog : Program} {w : World} {A : Around} {E : Value → Shared → Prop} {s : Shared} {l b : Addr} {vs ws : List Value}
theorem ne_nil {Q : Value → Shared → Prop} (hl : Tup s.heap l vs) (hb : Tup s.heap b []) (hu : A.units < cLine) (h : Q (.bool (!decide (vs = []))) s) : wpAny (model prog w) A (compareOp .NotEq (.ref l) (.ref b)) Q E s := by
  refine RcNeAt.tuples (e := fun _ => true) hl.isTup hb.isTup hu (fun j h1 h2 => absurd h2 (by simp)) prog w E Q ?_
  have e : ((List.range (min vs.toArray.size ([] : List Value).toArray.size)).all (fun _ => true) && vs.toArray.size == ([] : List Value).toArray.size) = decide (vs = []) := by
    cases vs <;> simp
  rw [e]
  exact h
theorem eqb_bytes (x : Array UInt8) (t u : Tok) : EqAt A s (.bytes x t) (.bytes x u) true := fun prog w E Q h => by
  unfold eqBool
  refine wpAny_holding ?_
  refine wpAny_ite_split (fun hab => ?_) (fun _ => ?_)
  · exact wpAny_bind (wpAny_rule (wpAny_pure h))
  · exact wpAny_bind (PySem.W.eq_bytes (wpAny_truthy_bool (by simpa using h)))
theorem eqb_tups (hl : Tup s.heap l vs) (hb : Tup s.heap b ws) (hu : A.units < cLine) (hlen : vs.length = ws.length) (he : ∀ j (h1 : j < vs.length) (h2 : j < ws.length), EqAt A.in1 s vs[j] ws[j] true) : EqAt A s (.ref l) (.ref b) true := by
  by_cases e : l = b
  · subst e; exact EqAt.same _
  · refine EqAt.of_refs e ?_
    have := RcAt.tuples (A := A) (s := s) (e := fun _ => true) hl.isTup hb.isTup hu (fun j h1 h2 => by simpa using he j (by simpa using h1) (by simpa using h2))
    have e2 : (List.range ws.length).all (fun _ => true) = true := by simp
    simpa [hlen, e2] using this
theorem eqb_ints {ns : List Int} (hv : IntsAre vs ns) (hw : IntsAre ws ns) : ∀ j (h1 : j < vs.length) (h2 : j < ws.length), EqAt A s vs[j] ws[j] true := by
  induction hv generalizing ws with
  | nil => intro j h1; exact absurd h1 (Nat.not_lt_zero _)
  | cons i t _ ih =>
    cases hw with
    | cons _ u hw' =>
      intro j h1 h2
      cases j with
      | zero => simpa using EqAt.int_int (A := A) (s := s) i t i u
      | succ j => exact ih hw' j (Nat.lt_of_succ_lt_succ h1) (Nat.lt_of_succ_lt_succ h2)
theorem eqb_tupI {ns : List Int} (hl : TupI s.heap l ns) (hb : TupI s.heap b ns) (hu : A.units < cLine) : EqAt A s (.ref l) (.ref b) true := by
  obtain ⟨vs, h1, i1⟩ := hl
  obtain ⟨ws, h2, i2⟩ := hb
  exact eqb_tups h1 h2 hu (i1.length.trans i2.length.symm) (eqb_ints i1 i2)
theorem eqb_seg {v y : Value} {g : Int × List Int} (hv : SegAt s.heap v g) (hy : SegAt s.heap y g) (hu : A.units + 1 < cLine) : EqAt A s v y true := by
  obtain ⟨a, t, p, rfl, h1, i1⟩ := hv
  obtain ⟨c, u, q, rfl, h2, i2⟩ := hy
  refine eqb_tups h1 h2 (by omega) rfl fun j j1 j2 => ?_
  match j, j1 with
  | 0, _ => simpa using EqAt.int_int (A := A.in1) (s := s) g.1 t g.1 u
  | 1, _ => exact eqb_tupI i1 i2 hu
theorem eqb_segs {P : List (Int × List Int)} (hv : SegsAt s.heap vs P) (hw : SegsAt s.heap ws P) (hu : A.units + 1 < cLine) : ∀ j (h1 : j < vs.length) (h2 : j < ws.length), EqAt A s vs[j] ws[j] true := by
  induction hv generalizing ws with
  | nil => intro j h1; exact absurd h1 (Nat.not_lt_zero _)
  | cons a _ ih =>
    cases hw with
    | cons c hw' =>
      intro j h1 h2
      cases j with
      | zero => exact eqb_seg a c hu
      | succ j => exact ih hw' j (Nat.lt_of_succ_lt_succ h1) (Nat.lt_of_succ_lt_succ h2)
theorem eqb_path {P : List (Int × List Int)} (hl : PathAt s.heap l P) (hb : PathAt s.heap b P) (hu : A.units + 2 < cLine) : EqAt A s (.ref l) (.ref b) true := by
  obtain ⟨vs, h1, i1⟩ := hl
  obtain ⟨ws, h2, i2⟩ := hb
  exact eqb_tups h1 h2 (by omega) (i1.length.trans i2.length.symm) (eqb_segs i1 i2 hu)
theorem eqb_trip {v y : Value} {u : Int × Int × Array UInt8} (hv : TripAt s.heap v u) (hy : TripAt s.heap y u) (hu : A.units < cLine) : EqAt A s v y true := by
  obtain ⟨a, t1, t2, t3, rfl, h1⟩ := hv
  obtain ⟨c, u1, u2, u3, rfl, h2⟩ := hy
  refine eqb_tups h1 h2 hu rfl fun j j1 j2 => ?_
  match j, j1 with
  | 0, _ => simpa using EqAt.int_int (A := A.in1) (s := s) u.1 t1 u.1 u1
  | 1, _ => simpa using EqAt.int_int (A := A.in1) (s := s) u.2.1 t2 u.2.1 u2
  | 2, _ => exact eqb_bytes _ _ _
theorem eqb_trips {us : List (Int × Int × Array UInt8)} (hv : TripsAt s.heap vs us) (hw : TripsAt s.heap ws us) (hu : A.units < cLine) : ∀ j (h1 : j < vs.length) (h2 : j < ws.length), EqAt A s vs[j] ws[j] true := by
  induction hv generalizing ws with
  | nil => intro j h1; exact absurd h1 (Nat.not_lt_zero _)
  | cons a _ ih =>
    cases hw with
    | cons c hw' =>
      intro j h1 h2
      cases j with
      | zero => exact eqb_trip a c hu
      | succ j => exact ih hw' j (Nat.lt_of_succ_lt_succ h1) (Nat.lt_of_succ_lt_succ h2)
theorem eqb_unk {us : List (Int × Int × Array UInt8)} (hl : UnkAt s.heap l us) (hb : UnkAt s.heap b us) (hu : A.units + 1 < cLine) : EqAt A s (.ref l) (.ref b) true := by
  obtain ⟨vs, h1, i1⟩ := hl
  obtain ⟨ws, h2, i2⟩ := hb
  exact eqb_tups h1 h2 (by omega) (i1.length.trans i2.length.symm) (eqb_trips i1 i2 hu)
theorem eqb_val {v y : Value} {fv : FV} (hv : ValAt s.heap v fv) (hy : ValAt s.heap y fv) (hu : A.units + 3 < cLine) : EqAt A s v y true := by
  cases fv with
  | int n =>
    obtain ⟨t, rfl⟩ := hv
    obtain ⟨u, rfl⟩ := hy
    simpa using EqAt.int_int (A := A) (s := s) n t n u
  | path P =>
    obtain ⟨p, rfl, h1⟩ := hv
    obtain ⟨q, rfl, h2⟩ := hy
    exact eqb_path h1 h2 (by omega)
  | nums ns =>
    obtain ⟨p, rfl, h1⟩ := hv
    obtain ⟨q, rfl, h2⟩ := hy
    exact eqb_tupI h1 h2 (by omega)
  | unk us =>
    obtain ⟨p, rfl, h1⟩ := hv
    obtain ⟨q, rfl, h2⟩ := hy
    exact eqb_unk h1 h2 (by omega)
theorem att_hits {ka kb : List (Str × Value)} {R : Str → Option FV} (ra : DRel s.heap (valueAt ka) R) (rb : DRel s.heap (valueAt kb) R) (hu : A.units + 3 < cLine) : ∀ l : List (Str × Value), (∀ p ∈ l, valueAt ka p.1 = some p.2) → KeqHits A s kb l true
  | [], _ => .nil
  | (k, v) :: l, h => by
    have hv := h (k, v) (List.mem_cons_self ..)
    have h1 := ra k
    dsimp only at hv
    rw [hv] at h1
    cases e : R k with
    | none => rw [e] at h1; exact h1.elim
    | some fv =>
      rw [e] at h1
      obtain ⟨y, hy, h2⟩ := rb.some e
      exact KeqHits.hit (e := true) (b := true) hy (eqb_val h1 h2 hu) (att_hits ra rb hu l fun p hp => h p (List.mem_cons_of_mem _ hp))
theorem att_len {h : Heap} {ka kb : List (Str × Value)} {R : Str → Option FV} (ra : DRel h (valueAt ka) R) (rb : DRel h (valueAt kb) R) (na : (ka.map (·.1)).Nodup) (nb : (kb.map (·.1)).Nodup) : ka.length = kb.length := by
  have half : ∀ {xs ys : List (Str × Value)}, DRel h (valueAt xs) R → DRel h (valueAt ys) R → ∀ k ∈ xs.map (·.1), k ∈ ys.map (·.1) := by
    intro xs ys rx ry k hk
    have h1 := valueAt_isSome_mem hk
    rw [rx.isSome, ← ry.isSome, PyProof.Rows.valueAt_isSome_eq_any] at h1
    obtain ⟨p, hp, e⟩ := List.any_eq_true.mp h1
    exact List.mem_map.mpr ⟨p, hp, by simpa using e⟩
  have h1 := nodup_le _ _ na (half ra rb)
  have h2 := nodup_le _ _ nb (half rb ra)
  simp only [List.length_map] at h1 h2
  omega
theorem valueAt_of_mem {kvs : List (Str × Value)} (hn : (kvs.map (·.1)).Nodup) {p : Str × Value} (hp : p ∈ kvs) : valueAt kvs p.1 = some p.2 := by
  obtain ⟨i, e⟩ := List.getElem?_of_mem hp
  exact valueAt_of_get hn e
theorem nodup_of {knd : KeyKind prog w Str} {h : Heap} {d : Addr} {kvs : List (Str × Value)} (x : h.DictOf knd d kvs) : (kvs.map (·.1)).Nodup := let ⟨_, _, _, _, _, _, _, _, hn⟩ := x; hn
theorem att_eq {w : World} {x y : Addr} {R : Str → Option FV} {Q : Value → Shared → Prop} (hx : AttAt w s.heap x R) (hy : AttAt w s.heap y R) (hu : A.units + 4 < cLine) (h : Q (.bool true) s) : wpAny (model PR w) A (compareOp .Eq (.ref x) (.ref y)) Q E s := by
  obtain ⟨ka, da, la, ra⟩ := hx
  obtain ⟨kb, db, lb, rb⟩ := hy
  refine keq_eq (knd := PySem.strKind PR w) (r := true) la lb da db (by omega) (fun _ => att_hits ra rb (by show A.units + 1 + 3 < cLine; omega) _ fun p hp => valueAt_of_mem (nodup_of da) hp) ?_
  rw [att_len ra rb (nodup_of da) (nodup_of db)]
  simpa using h
theorem att_ne {w : World} {x y : Addr} {R : Str → Option FV} {Q : Value → Shared → Prop} (hx : AttAt w s.heap x R) (hy : AttAt w s.heap y R) (hu : A.units + 4 < cLine) (h : Q (.bool false) s) : wpAny (model PR w) A (compareOp .NotEq (.ref x) (.ref y)) Q E s := by
  obtain ⟨ka, da, la, ra⟩ := hx
  obtain ⟨kb, db, lb, rb⟩ := hy
  refine keq_ne (knd := PySem.strKind PR w) (r := true) la lb da db (by omega) (fun _ => att_hits ra rb (by show A.units + 1 + 3 < cLine; omega) _ fun p hp => valueAt_of_mem (nodup_of da) hp) ?_
  rw [att_len ra rb (nodup_of da) (nodup_of db)]
  simpa using h
end
end Mine
end
section
open PySem PySem.W PySem.Spec PySem.Calls PyProof.Rows
set_option pp.deepTerms false
set_option pp.deepTerms.threshold 6
set_option pp.proofs false
namespace Mine
local macro_rules | `(tactic| walk_at "subscriptTail") => `(tactic| (k_here; (with_reducible show wpAny _ _ (subscriptTail _ _ (Value.ref _) (Value.str _ _)) _ _ _); (with_unfolding_all refine' bd_item ?d ?l ?_); (case d => first | exact kda_dict (by k_asm) (by k_mem) (by assumption) | exact Heap.DictOf.keep (by assumption) (Fr.keep (by assumption))); (case l => assumption); k_whole))
local macro_rules | `(tactic| walk_at "compareOp NotIn str ref") => `(tactic| (k_here; (with_reducible show wpAny _ _ (compareOp CmpOp.NotIn (Value.str _ _) (Value.ref _)) _ _ _); refine' bd_notin ?d ?lo _ ?hb ?_; (case d => first | exact kda_dict (by k_asm) (by k_mem) (by assumption) | exact Heap.DictOf.keep (by assumption) (Fr.keep (by assumption))); (case lo => assumption); (case hb => assumption); k_whole))
local macro_rules | `(tactic| walk_at "call ref") => `(tactic| (refine Halt.mk ?_))
local macro_rules | `(tactic| walk_at "eval ListComp") => `(tactic| (refine Halt.mk ?_))
local macro_rules | `(tactic| walk_at "call type:dict") => `(tactic| (refine Halt.mk ?_))
local macro_rules | `(tactic| walk_at "setItem ref str") => `(tactic| (refine Halt.mk ?_))
section
open PySem PySem.W PySem.Spec PySem.Calls PyProof.Rows
set_option pp.deepTerms false
set_option pp.deepTerms.threshold 6
set_option pp.proofs false
open PyProof.Rows.LCg

noncomputable def notMarks (k : Str) : Bool := decide (k ≠ Str.ofString "originator" ∧ k ≠ Str.ofString "clusters")
noncomputable def tellMember (R : Str → Option FV) (P : List (Int × List Int)) (mem : Int) : Str → Option FV :=
  let R1 := upd (fun k => if notMarks k then R k else none) (Str.ofString "as_path") (some (.path (putA P mem 3 255)))
  if (R (Str.ofString "local_pref")).isSome then R1 else upd R1 (Str.ofString "local_pref") (some (.int 100))

theorem ct_member (w : World) (s : Shared) (d o : Addr) (R : Str → Option FV) (P : List (Int × List Int)) (id mem clu adr : Int) (hd : AttAt w s.heap d R) (hR : Dom R) (hP : R (Str.ofString "as_path") = some (.path P)) (ho : OwnAt w s.heap o id mem clu adr)
    (hsz : ∀ g ∈ P, g.2.length < 2 ^ 20) (hPl : P.length < 2 ^ 20) :
    Asks 12 w 121 [.ref d, .ref o] s (fun r h => ∃ d', r = .ref d' ∧ s.heap.get? d' = none ∧ AttAt w h d' (tellMember R P mem)) := by
  w_top off
  unfold Asks
  k_fill
  intro dp un gd cn cs a₀ ccd cl outer A₀ base h₀ L m mean mg mb Q E B F X T hk hdp hun hret
  refine wpAny_call ?_
  refine' enterC ?k1 ?k2 ?k3 ?k5 ?kA ?kF ?kK ?k6 ?k7 ?k8 ?k9 ?kB ?kD ?_ ?c2 ?c3 ?c4
  (case k1 => k_asm); (case k2 => k_asm); (case k3 => k_asm); (case k5 => k_asm); (case kA => exact rfl); (case kF => exact rfl); (case kK => assumption)
  (case k6 => k_is); (case k7 => k_is); (case k8 => ktr_room); (case k9 => exact BindsTo.of_eq rfl); (case kB => exact rfl); (case kD => decide +kernel); (case c2 => exact rfl); (case c3 => exact rfl); (case c4 => exact rfl)
  intro g' L' h' tk' cells' GS FG' F' N' Y' B' X' T'
  k_cells Y'
  refine gen_et ?_
  intro Eg tkg
  obtain ⟨kvs, hdd, hlo, hrel⟩ := hd.keeps GS
  obtain ⟨kvo, hdo, ⟨t1, ho1⟩, ⟨t2, ho2⟩, ⟨t3, ho3⟩, ⟨t4, ho4⟩, ⟨t5, ho5⟩⟩ := ho.keeps GS
  obtain ⟨_, hvp, pp, rfl, hpp⟩ := hrel.some hP
  have hnod : (kvs.map (·.1)).Nodup := let ⟨_, _, _, _, _, _, _, _, hn⟩ := hdd; hn
  have hlen := dom_le hrel hR hnod
  (try dsimp only); (try k_fold)
  k_steps
  refine Halt.go ?_
  refine gcompT (by assumption) rfl (by decide) rfl (by decide) ?_
  k_steps
  rename Fr g' _ _ _ => F1
  rename News g' _ _ _ => N1
  rename Obj => oc
  refine dict_src rfl hdd hlo F1 N1 ?_
  intro I ep g9 F2 N2 hLI hI0 hoff hst W hself hio hfp
  refine ⟨I, _, _, kvs.length, _, _, _, [], _, _, fun i ys n' => ∃ tl, n' = (L' + 1, oc) :: tl ∧ PairsN tl ys ((kvs.take i).filter fun kv => notMarks kv.1), rfl, W _, hself, (by rw [sizeLine_eq]; omega), hio, (by simp), (by simp), hfp, asg_name rfl (by decide), hst, F2, N2, hLI, hI0, hoff, (fun _ h => nomatch h), ⟨[], rfl, .nil⟩, ?_, ?_⟩
  · rintro i v ys n1 I oI C oC D m2 h3 tk3 E' hi ⟨k, x, t, hkx, rfl⟩ hm ⟨tl, rfl, hys⟩ hoC F3 N3 O3 hne hkp
    have hval := valueAt_of_get hnod hkx
    k_steps
    · have hkk : notMarks k = false := by
        rename (List.any _ _ = _) => hno
        simp at hno
        unfold notMarks
        rcases hno with e | e <;> simp [← e]
      refine ⟨_, _, (L' + 1, oc) :: tl, rfl, (by assumption), cb_drop (by assumption) ?_, O3, hkp, tl, rfl, ?_⟩
      · intro p hp
        simp only [List.mem_cons] at hp ⊢
        exact .inr hp
      · rw [List.take_add_one, hkx, List.filter_append, Option.toList, List.filter_cons_of_neg (by simp [hkk])]
        simpa using hys
    · have hkk : notMarks k = true := by
        rename (List.any _ _ = _) => hno
        simp at hno
        unfold notMarks
        exact decide_eq_true ⟨fun e => hno.1 e.symm, fun e => hno.2 e.symm⟩
      rename (_ ∧ _ ∧ _ ∧ _ ∧ _ ∧ AllLt _ _) => hlt
      rename_i D2 h2 F2' N2'
      refine ⟨_, _, (L' + 1, oc) :: (D2, tupO [.str k t, x] 0) :: tl, rfl, (by assumption), cb_drop (by assumption) ?_, Off3.of ?_, (fun _ h => nomatch h), _, rfl, ?_⟩
      · intro p hp
        simp only [List.mem_cons] at hp ⊢
        rcases hp with e | e | e | e | e | e <;> simp [e]
      · intro p hp
        simp only [List.mem_cons] at hp
        rcases hp with e | e | e
        · exact O3.mem p (by simp [e])
        · rw [e]
          dsimp only
          refine ⟨?_, ?_, ?_⟩ <;> refine neN ?_ <;> omega
        · exact O3.mem p (by simp [e])
      · rw [List.take_add_one, hkx, List.filter_append, Option.toList, List.filter_cons_of_pos (by exact hkk)]
        exact (hys.mono fun p hp => List.mem_cons_of_mem _ hp).append (.cons (List.mem_cons_self ..) .nil)
  · rintro ys n1 ⟨tl, rfl, hys⟩ D h3 tk3 F3 N3 O3
    rw [List.take_length] at hys
    have S3 := sub_end GS F3
    k_steps
    refine Halt.go ?_
    refine dict_made rfl (by assumption) (by assumption) T'.nolimit (.head _) hys (fun p hp => by first | ((repeat (first | exact hp | apply List.Mem.tail)); done) | simp [hp]) ?_ ?_ ?_
    · exact (List.filter_sublist.map _).nodup hnod
    · exact Nat.le_trans (List.length_filter_le _ _) (by rw [sizeLine_eq]; omega)
    intro dn on h4 tk4 F4 N4 hdn hnm hne S4 hfr
    replace hfr := none_back S3 hfr
    k_steps
    rename News g' _ _ _ => N5
    refine Halt.go ?_
    refine' use (ct_put _ _ _ _ _ _ _ _ _ _ (hpp.keeps (Fr.keep (by assumption))) hsz hPl) [(dn, on), (L' + 1, oc)] ?B ?F ?X ?T ?hk ?d ?u (cb_drop N5 (by intro p hp; simp only [List.mem_cons, List.not_mem_nil, or_false] at hp ⊢; rcases hp with e | e <;> simp [e])) ?_
    (case B => k_asm); (case F => k_asm); (case X => k_asm); (case T => k_asm); (case hk => first | exact rfl | assumption)
    (case d => ktr_room)
    (case u => ktr_units)
    rintro r h9 tk9 tl9 F9 N9 Sn S9 ⟨q, rfl, hq⟩
    k_steps
    replace hq := Seen.path F9 N9 Sn (by
      intro p hp
      simp only [List.mem_cons, List.not_mem_nil, or_false] at hp
      rcases hp with rfl | rfl
      · exact NoTup.ofDict hdn
      · exact NoTup.ofCell (by assumption)) hq
    have hoff9 : ∀ p ∈ (L' + 1, oc) :: tl9, p.1 ≠ dn := by
      intro p hp
      rcases List.mem_cons.mp hp with e | e
      · rw [e]; exact hne _ (by simp)
      · exact Sn.apart p e _ (.head _)
    have hl1 : (kvs.filter fun kv => notMarks kv.1).length ≤ 9 := Nat.le_trans (List.length_filter_le _ _) hlen
    refine Halt.go ?_
    refine dict_set (rest := (L' + 1, oc) :: tl9) (by assumption) N9 (.head _) (fun p hp => List.mem_cons_of_mem _ hp) hoff9 hdn (by rw [sizeLine_eq]; omega) ?_
    intro h10 o10 tk10 F10 N10 hd10
    have hl2 := stored_length_le (kvs.filter fun kv => notMarks kv.1) (Str.ofString "as_path") (Value.ref q)
    have hrel1 : ∀ h, Sub g' h → PathAt h q (putA P mem 3 255) → DRel h (valueAt (stored (kvs.filter fun kv => notMarks kv.1) (Str.ofString "as_path") (.ref q))) (upd (fun k => if notMarks k then R k else none) (Str.ofString "as_path") (some (.path (putA P mem 3 255)))) := by
      intro h S hp
      exact ((hrel.keeps S).filter notMarks).stored (k := Str.ofString "as_path") (v := .ref q) (fv := .path (putA P mem 3 255)) ⟨q, rfl, hp⟩
    have hin : (valueAt (stored (kvs.filter fun kv => notMarks kv.1) (Str.ofString "as_path") (.ref q)) (Str.ofString "local_pref")).isSome = (R (Str.ofString "local_pref")).isSome := by
      rw [(hrel1 h10 F10.keep (hq.here F10 N10 fun p hp => by first | ((repeat (first | exact hp | apply List.Mem.tail)); done) | simp [hp])).isSome]
      rfl
    cases hlp : (R (Str.ofString "local_pref")).isSome with
    | true =>
      rw [hlp] at hin
      k_steps
      refine hret _ _ _ (sub_end GS (by assumption)) ⟨_, rfl, hfr, att_of N10 (.head _) hd10 hnm ?_⟩
      rw [show tellMember R P mem = upd (fun k => if notMarks k then R k else none) (Str.ofString "as_path") (some (.path (putA P mem 3 255))) from if_pos hlp]
      exact hrel1 h10 F10.keep (hq.here F10 N10 fun p hp => by first | ((repeat (first | exact hp | apply List.Mem.tail)); done) | simp [hp])
    | false =>
      rw [hlp] at hin
      k_steps
      refine Halt.go ?_
      refine dict_set (rest := (L' + 1, oc) :: tl9) (by assumption) (by assumption) (.head _) (fun p hp => List.mem_cons_of_mem _ hp) hoff9 hd10 (by rw [sizeLine_eq]; omega) ?_
      intro h11 o11 tk11 F11 N11 hd11
      k_steps
      refine hret _ _ _ (sub_end GS (by assumption)) ⟨_, rfl, hfr, att_of N11 (.head _) hd11 hnm ?_⟩
      rw [show tellMember R P mem = upd (upd (fun k => if notMarks k then R k else none) (Str.ofString "as_path") (some (.path (putA P mem 3 255)))) (Str.ofString "local_pref") (some (.int 100)) from if_neg (by rw [hlp]; decide)]
      exact (hrel1 h11 F11.keep (hq.here F11 N11 fun p hp => by first | ((repeat (first | exact hp | apply List.Mem.tail)); done) | simp [hp])).stored ⟨_, rfl⟩
end
section
open PySem PySem.W PySem.Spec PySem.Calls PyProof.Rows
set_option pp.deepTerms false
set_option pp.deepTerms.threshold 6
set_option pp.proofs false
open PyProof.Rows.LCg
local macro_rules | `(tactic| walk_at "getMethod ref") => `(tactic| (k_here; (with_reducible show wpAny _ _ (getMethod (Value.ref _) _ _) _ _ _); refine' bd_method ?d ?_; (case d => first | exact kda_dict (by k_asm) (by k_mem) (by assumption) | exact Heap.DictOf.keep (by assumption) (Fr.keep (by assumption))); k_whole))
local macro_rules | `(tactic| walk_at "call builtin:dict.get") => `(tactic| (k_here; refine' bd_get2 ?d ?lo _ ?hb ?_; (case d => first | exact kda_dict (by k_asm) (by k_mem) (by assumption) | exact Heap.DictOf.keep (by assumption) (Fr.keep (by assumption))); (case lo => assumption); (case hb => assumption); k_whole))
local macro_rules | `(tactic| walk_at "binaryOp Add") => `(tactic| (refine Halt.mk ?_))
noncomputable def marked (R : Str → Option FV) (cls : List Int) (clu tid : Int) : Str → Option FV :=
  upd (if (R (Str.ofString "originator")).isSome then R else upd R (Str.ofString "originator") (some (.int tid))) (Str.ofString "clusters") (some (.nums (clu :: cls)))

theorem off_dict {prog : Program} {w : World} {g h : Heap} {L dn : Addr} {on : Obj} {led rest : List (Addr × Obj)} {kvs : List (Str × Value)} (N : News g L h led) (hm : (dn, on) ∈ led) (hd : on.IsDictOf (PySem.strKind prog w) kvs) (hr : ∀ p ∈ rest, p ∈ led ∧ ∃ vs n, p.2 = { cls := .type "tuple", data := .seq vs n }) : ∀ p ∈ rest, p.1 ≠ dn := by
  intro p hp e
  obtain ⟨h1, vs, n, h2⟩ := hr p hp
  have e1 := (N p h1).1
  have e2 := (N _ hm).1
  rw [e] at e1
  have e3 := Option.some.inj (e1.symm.trans e2)
  rw [h2] at e3
  exact NoTup.ofDict hd vs.toList n (by simpa using e3.symm)
theorem ct_marks (w : World) (s : Shared) (d o : Addr) (R : Str → Option FV) (cls : Option (List Int)) (tid id mem clu adr : Int) (tt : Tok) (hd : AttAt w s.heap d R) (hR : Dom R) (hcl : R (Str.ofString "clusters") = cls.map .nums) (ho : OwnAt w s.heap o id mem clu adr) (hsz : (cls.getD []).length < 2 ^ 20) :
    Asks 8 w 105 [.ref d, .ref o, .int tid tt] s (fun r h => ∃ d', r = .ref d' ∧ s.heap.get? d' = none ∧ AttAt w h d' (marked R (cls.getD []) clu tid)) := by
  w_top off
  unfold Asks
  k_fill
  intro dp un gd cn cs a₀ ccd cl outer A₀ base h₀ L m mean mg mb Q E B F X T hk hdp hun hret
  refine wpAny_call ?_
  refine' code_defG ?k1 ?k2 ?k3 News.nil ?k5 ?kA ?kF ?kK ?k6 ?k7 ?k8 ?k9 ?kB ?_ ?c2 ?c3 ?c4 ?c5
  (case k1 => k_asm); (case k2 => k_asm); (case k3 => k_asm); (case k5 => k_asm); (case kA => exact rfl); (case kF => exact rfl); (case kK => assumption)
  (case k6 => k_is); (case k7 => k_is); (case k8 => ktr_room); (case k9 => exact BindsTo.of_eq rfl); (case c5 => decide); (case kB => exact locs rfl); (case c2 => exact rfl); (case c3 => exact rfl); (case c4 => exact rfl)
  intro g' L' h' FG' F' N' B' X' T' GS
  replace GS := gsub_nil GS
  refine gen_et ?_
  intro Eg tkg
  obtain ⟨kvs, hdd, hlo, hrel⟩ := hd.keeps GS
  obtain ⟨kvo, hdo, ⟨t1, ho1⟩, ⟨t2, ho2⟩, ⟨t3, ho3⟩, ⟨t4, ho4⟩, ⟨t5, ho5⟩⟩ := ho.keeps GS
  have hnod : (kvs.map (·.1)).Nodup := let ⟨_, _, _, _, _, _, _, _, hn⟩ := hdd; hn
  have hlen := dom_le hrel hR hnod
  (try dsimp only); (try k_fold)
  k_steps
  rename Fr g' _ _ _ => F1
  rename News g' _ _ _ => N1
  have S3 := sub_end GS F1
  refine Halt.go ?_
  refine dict_copy F1 N1 T'.nolimit (hdd.keep (Fr.keep F1)) hlo (by rw [sizeLine_eq]; omega) ?_
  intro dn on h4 tk4 F4 N4 hdn hnm hne S4 hfr
  replace hfr := none_back S3 hfr
  have hin := hrel.isSome (Str.ofString "originator")
  obtain ⟨vc, hvc⟩ : ∃ v, valueAt kvs (Str.ofString "clusters") = v := ⟨_, rfl⟩
  have hqq : ∀ {v : Option Value} {h2 : Heap} {D2 : Addr}, valueAt kvs (Str.ofString "clusters") = v → Sub g' h2 → Tup h2 D2 [] → ∃ q ws, v.getD (.ref D2) = .ref q ∧ Tup h2 q ws ∧ IntsAre ws (cls.getD []) := by
    intro v h2 D2 hv S2 ht2
    cases hcl2 : cls with
    | none =>
      rw [hcl2] at hcl
      rw [hrel.none hcl] at hv
      subst hv
      exact ⟨D2, [], rfl, ht2, .nil⟩
    | some cs2 =>
      rw [hcl2] at hcl
      obtain ⟨_, h1, p2, rfl, ws, h3, h4⟩ := hrel.some hcl
      rw [h1] at hv
      subst hv
      exact ⟨p2, ws, rfl, h3.keeps S2, h4⟩
  cases hlp : (R (Str.ofString "originator")).isSome with
  | true =>
    rw [hlp] at hin
    k_steps
    refine Halt.go ?_
    rename_i F6 N6 l6
    have hq : ∃ q ws, vc.getD _ = .ref q ∧ Tup _ q ws ∧ IntsAre ws (cls.getD []) := hqq hvc F6.keep ⟨_, (N6 _ (.head _)).1⟩
    obtain ⟨q, ws, e5, ht5, hi5⟩ := hq
    rw [e5]
    have hwl := hi5.length
    refine add_tup F6 N6 (.tail _ (.head _)) (by simp) ht5 (by rw [hwl, sizeLine_eq]; simp; omega) ?_
    intro q6 h6 n6 F7 N7
    k_steps
    refine Halt.go ?_
    refine dict_set (rest := [(q6, tupO ([Value.int clu t4] ++ ws) n6)]) F7 N7 (by simp) (by simp) (off_dict N7 (by simp) hdn (by simp)) hdn (by rw [sizeLine_eq]; omega) ?_
    intro h11 o11 tk11 F11 N11 hd11
    k_steps
    refine hret _ _ _ (sub_end GS (by assumption)) ⟨_, rfl, hfr, att_of N11 (.head _) hd11 hnm ?_⟩
    rw [show marked R (cls.getD []) clu tid = upd R (Str.ofString "clusters") (some (.nums (clu :: cls.getD []))) by unfold marked; rw [if_pos hlp]]
    exact (hrel.keeps F11.keep).stored ⟨q6, rfl, _, ⟨_, (N11 _ (.tail _ (.head _))).1⟩, .cons _ _ hi5⟩
  | false =>
    rw [hlp] at hin
    k_steps
    refine Halt.go ?_
    refine dict_set (rest := []) (by assumption) (by assumption) (.head _) (fun p hp => nomatch hp) (fun p hp => nomatch hp) hdn (by rw [sizeLine_eq]; omega) ?_
    intro h5 o5 tk5 F5 N5 hd5
    have hl2 := stored_length_le kvs (Str.ofString "originator") (Value.int tid tt)
    have hvc2 : valueAt (stored kvs (Str.ofString "originator") (Value.int tid tt)) (Str.ofString "clusters") = vc := by
      rw [valueAt_stored, if_neg (by decide)]
      exact hvc
    k_steps
    refine Halt.go ?_
    rename_i F6 N6 l6
    have hq : ∃ q ws, vc.getD _ = .ref q ∧ Tup _ q ws ∧ IntsAre ws (cls.getD []) := hqq hvc F6.keep ⟨_, (N6 _ (.head _)).1⟩
    obtain ⟨q, ws, e5, ht5, hi5⟩ := hq
    rw [e5]
    have hwl := hi5.length
    refine add_tup F6 N6 (.tail _ (.head _)) (by simp) ht5 (by rw [hwl, sizeLine_eq]; simp; omega) ?_
    intro q6 h6 n6 F7 N7
    k_steps
    refine Halt.go ?_
    refine dict_set (rest := [(q6, tupO ([Value.int clu t4] ++ ws) n6)]) F7 N7 (by simp) (by simp) (off_dict N7 (by simp) hd5 (by simp)) hd5 (by rw [sizeLine_eq]; omega) ?_
    intro h11 o11 tk11 F11 N11 hd11
    k_steps
    refine hret _ _ _ (sub_end GS (by assumption)) ⟨_, rfl, hfr, att_of N11 (.head _) hd11 hnm ?_⟩
    rw [show marked R (cls.getD []) clu tid = upd (upd R (Str.ofString "originator") (some (.int tid))) (Str.ofString "clusters") (some (.nums (clu :: cls.getD []))) by unfold marked; rw [if_neg (by rw [hlp]; decide)]]
    exact ((hrel.keeps F11.keep).stored (fv := .int tid) ⟨_, rfl⟩).stored ⟨q6, rfl, _, ⟨_, (N11 _ (.tail _ (.head _))).1⟩, .cons _ _ hi5⟩
end
section
open PySem PySem.W PySem.Spec PySem.Calls PyProof.Rows
set_option pp.deepTerms false
set_option pp.deepTerms.threshold 6
set_option pp.proofs false
open PyProof.Rows.LCg
local macro_rules | `(tactic| walk_at "eval Call") => `(tactic| (with_unfolding_all refine Call_ ?_))
noncomputable def tellInside (R : Str → Option FV) (cls : List Int) (clu tid : Int) (b : Bool) : Str → Option FV :=
  let R1 := if b then marked R cls clu tid else R
  if (R (Str.ofString "local_pref")).isSome then R1 else upd R1 (Str.ofString "local_pref") (some (.int 100))
theorem Dom.upd {R : Str → Option FV} (h : Dom R) {k : Str} (hk : k ∈ attNames) (v : Option FV) : Dom (Mine.upd R k v) := by
  intro k' h'
  have hne : k' ≠ k := fun e => h' (e ▸ hk)
  simp only [Mine.upd, if_neg hne]
  exact h k' h'
theorem Dom.marked {R : Str → Option FV} (h : Dom R) (cls : List Int) (clu tid : Int) : Dom (Mine.marked R cls clu tid) := by
  unfold Mine.marked
  refine Dom.upd ?_ (by decide) _
  split
  · exact h
  · exact h.upd (by decide) _
theorem marked_pref (R : Str → Option FV) (cls : List Int) (clu tid : Int) : Mine.marked R cls clu tid (Str.ofString "local_pref") = R (Str.ofString "local_pref") := by
  unfold Mine.marked
  split
  · rfl
  · rfl

theorem ct_inside (w : World) (s : Shared) (d o : Addr) (teller hearer : Str) (R : Str → Option FV) (cls : Option (List Int)) (tid id mem clu adr : Int) (tt t1 t2 : Tok) (hd : AttAt w s.heap d R) (hR : Dom R) (hcl : R (Str.ofString "clusters") = cls.map .nums) (ho : OwnAt w s.heap o id mem clu adr) (hsz : (cls.getD []).length < 2 ^ 20) :
    Asks 12 w 128 [.ref d, .ref o, .str teller t1, .str hearer t2, .int tid tt] s (fun r h => ∃ d', r = .ref d' ∧ s.heap.get? d' = none ∧ AttAt w h d' (tellInside R (cls.getD []) clu tid (isInside teller && isInside hearer))) := by
  w_top off
  unfold Asks
  k_fill
  intro dp un gd cn cs a₀ ccd cl outer A₀ base h₀ L m mean mg mb Q E B F X T hk hdp hun hret
  refine wpAny_call ?_
  refine' code_defG ?k1 ?k2 ?k3 News.nil ?k5 ?kA ?kF ?kK ?k6 ?k7 ?k8 ?k9 ?kB ?_ ?c2 ?c3 ?c4 ?c5
  (case k1 => k_asm); (case k2 => k_asm); (case k3 => k_asm); (case k5 => k_asm); (case kA => exact rfl); (case kF => exact rfl); (case kK => assumption)
  (case k6 => k_is); (case k7 => k_is); (case k8 => ktr_room); (case k9 => exact BindsTo.of_eq rfl); (case c5 => decide); (case kB => exact locs rfl); (case c2 => exact rfl); (case c3 => exact rfl); (case c4 => exact rfl)
  intro g' L' h' FG' F' N' B' X' T' GS
  replace GS := gsub_nil GS
  refine gen_et ?_
  intro Eg tkg
  have hdg := hd.keeps GS
  have hog := ho.keeps GS
  obtain ⟨kvs, hdd, hlo, hrel⟩ := hd.keeps GS
  have hnod : (kvs.map (·.1)).Nodup := let ⟨_, _, _, _, _, _, _, _, hn⟩ := hdd; hn
  have hlen := dom_le hrel hR hnod
  (try dsimp only); (try k_fold)
  k_steps
  rename Fr g' _ _ _ => F1
  refine Halt.go ?_
  refine' use (ct_refl _ _ _ _ _ _) [] ?B ?F ?X ?T ?hk ?d ?u News.nil ?_
  (case B => k_asm); (case F => k_asm); (case X => k_asm); (case T => k_asm); (case hk => first | exact rfl | assumption)
  (case d => ktr_room)
  (case u => ktr_units)
  rintro r h9 tk9 tl F9 N9 Sn S9 rfl
  k_steps
  · rename_i hb
    refine Halt.go ?_
    refine' use (ct_marks _ _ _ _ _ _ _ _ _ _ _ _ (hdg.keeps (Fr.keep (by assumption))) hR hcl (hog.keeps (Fr.keep (by assumption))) hsz) [] ?B ?F ?X ?T ?hk ?d ?u News.nil ?_
    (case B => k_asm); (case F => k_asm); (case X => k_asm); (case T => k_asm); (case hk => first | exact rfl | assumption)
    (case d => ktr_room)
    (case u => ktr_units)
    rintro r h8 tk8 tl8 F8 N8 Sn8 S8 ⟨d', rfl, hfr, kv', hd', hnm, hrel'⟩
    have hnod' : (kv'.map (·.1)).Nodup := let ⟨_, _, _, _, _, _, _, _, hn⟩ := hd'; hn
    have hlen' := dom_le hrel' (hR.marked _ _ _) hnod'
    obtain ⟨on, hon, hdn⟩ := Heap.dictOf_iff.mp hd'
    have Na := adopt F9 hfr (News.nil (h := h8)) hon
    replace hfr := none_back (sub_end GS F9) hfr
    obtain ⟨tl7, N7, Sn7⟩ := freeze F8 Na
    replace hrel' := Seen.drel F8 N7 Sn7 (by
      intro p hp
      simp only [List.mem_cons, List.not_mem_nil, or_false] at hp
      subst hp
      exact NoTup.ofDict hdn) hrel'
    have hin : (valueAt kv' (Str.ofString "local_pref")).isSome = (R (Str.ofString "local_pref")).isSome := by
      rw [(hrel'.here F8 N7 fun p hp => by first | ((repeat (first | exact hp | apply List.Mem.tail)); done) | simp [hp]).isSome, marked_pref]
    simp only [List.cons_append, List.nil_append] at N7
    clear N8 N9
    cases hlp : (R (Str.ofString "local_pref")).isSome with
    | true =>
      rw [hlp] at hin
      k_steps
      rename News g' _ _ _ => N10
      rename Fr g' _ _ _ => F10
      refine hret _ _ _ (sub_end GS (by assumption)) ⟨_, rfl, hfr, att_of N10 (.head _) hdn hnm ?_⟩
      rw [show tellInside R (cls.getD []) clu tid (isInside teller && isInside hearer) = marked R (cls.getD []) clu tid by unfold tellInside; rw [hb]; exact if_pos hlp]
      exact hrel'.here F10 N10 fun p hp => by first | ((repeat (first | exact hp | apply List.Mem.tail)); done) | simp [hp]
    | false =>
      rw [hlp] at hin
      k_steps
      refine Halt.go ?_
      refine dict_set (rest := tl7) (by assumption) (by assumption) (.head _) (fun p hp => List.mem_cons_of_mem _ hp) (fun p hp => Sn7.apart p hp _ (.head _)) hdn (by rw [sizeLine_eq]; omega) ?_
      intro h11 o11 tk11 F11 N11 hd11
      k_steps
      refine hret _ _ _ (sub_end GS (by assumption)) ⟨_, rfl, hfr, att_of N11 (.head _) hd11 hnm ?_⟩
      rw [show tellInside R (cls.getD []) clu tid (isInside teller && isInside hearer) = upd (marked R (cls.getD []) clu tid) (Str.ofString "local_pref") (some (.int 100)) by unfold tellInside; rw [hb]; exact if_neg (by rw [hlp]; decide)]
      exact (hrel'.here F11 N11 fun p hp => by first | ((repeat (first | exact hp | apply List.Mem.tail)); done) | simp [hp]).stored ⟨_, rfl⟩
  · rename_i hb
    have S3 := sub_end GS F9
    refine Halt.go ?_
    refine dict_copy F9 N9 T'.nolimit (hdd.keep (Fr.keep F9)) hlo (by rw [sizeLine_eq]; omega) ?_
    intro dn on h4 tk4 F4 N4 hdn hnm hne S4 hfr
    replace hfr := none_back S3 hfr
    clear N9
    simp only [List.cons_append, List.nil_append] at N4 hne
    have hin := hrel.isSome (Str.ofString "local_pref")
    cases hlp : (R (Str.ofString "local_pref")).isSome with
    | true =>
      rw [hlp] at hin
      k_steps
      rename News g' _ _ _ => N10
      rename Fr g' _ _ _ => F10
      refine hret _ _ _ (sub_end GS (by assumption)) ⟨_, rfl, hfr, att_of N10 (.head _) hdn hnm ?_⟩
      rw [show tellInside R (cls.getD []) clu tid (isInside teller && isInside hearer) = R by unfold tellInside; rw [hb]; exact if_pos hlp]
      exact hrel.keeps F10.keep
    | false =>
      rw [hlp] at hin
      k_steps
      refine Halt.go ?_
      refine dict_set (rest := tl) (by assumption) (by assumption) (.head _) (fun p hp => List.mem_cons_of_mem _ hp) hne hdn (by rw [sizeLine_eq]; omega) ?_
      intro h11 o11 tk11 F11 N11 hd11
      k_steps
      refine hret _ _ _ (sub_end GS (by assumption)) ⟨_, rfl, hfr, att_of N11 (.head _) hd11 hnm ?_⟩
      rw [show tellInside R (cls.getD []) clu tid (isInside teller && isInside hearer) = upd (R) (Str.ofString "local_pref") (some (.int 100)) by unfold tellInside; rw [hb]; exact if_neg (by rw [hlp]; decide)]
      exact (hrel.keeps F11.keep).stored ⟨_, rfl⟩
end
section
open PySem PySem.W PySem.Spec PySem.Calls PyProof.Rows
set_option pp.deepTerms false
set_option pp.deepTerms.threshold 6
set_option pp.proofs false
open PyProof.Rows.LCg
local macro_rules | `(tactic| walk_at "pad") => `(tactic| skip)
local macro_rules | `(tactic| walk_at "call builtin:dict.pop") => `(tactic| (refine Halt.mk ?_))

noncomputable def notAlone (k : Str) : Bool := decide (k ≠ Str.ofString "local_pref" ∧ k ≠ Str.ofString "originator" ∧ k ≠ Str.ofString "clusters")
noncomputable def tellOutside (R : Str → Option FV) (P : List (Int × List Int)) (adr : Int) : Str → Option FV :=
  upd (upd (upd (fun k => if notAlone k then R k else none) (Str.ofString "med") none) (Str.ofString "as_path") (some (.path (putA (noConf P) 9 2 255)))) (Str.ofString "next_hop") (some (.int adr))

theorem ct_outside (w : World) (s : Shared) (d o : Addr) (R : Str → Option FV) (P : List (Int × List Int)) (id mem clu adr : Int) (hd : AttAt w s.heap d R) (hR : Dom R) (hP : R (Str.ofString "as_path") = some (.path P)) (hM : (R (Str.ofString "med")).isSome = true) (ho : OwnAt w s.heap o id mem clu adr)
    (hsz : ∀ g ∈ P, g.2.length < 2 ^ 20) (hPl : P.length < 2 ^ 20) :
    Asks 16 w 116 [.ref d, .ref o, .bool false] s (fun r h => ∃ d', r = .ref d' ∧ s.heap.get? d' = none ∧ AttAt w h d' (tellOutside R P adr)) := by
  w_top off
  unfold Asks
  k_fill
  intro dp un gd cn cs a₀ ccd cl outer A₀ base h₀ L m mean mg mb Q E B F X T hk hdp hun hret
  refine wpAny_call ?_
  refine' enterC ?k1 ?k2 ?k3 ?k5 ?kA ?kF ?kK ?k6 ?k7 ?k8 ?k9 ?kB ?kD ?_ ?c2 ?c3 ?c4
  (case k1 => k_asm); (case k2 => k_asm); (case k3 => k_asm); (case k5 => k_asm); (case kA => exact rfl); (case kF => exact rfl); (case kK => assumption)
  (case k6 => k_is); (case k7 => k_is); (case k8 => ktr_room); (case k9 => exact BindsTo.of_eq rfl); (case kB => exact rfl); (case kD => decide +kernel); (case c2 => exact rfl); (case c3 => exact rfl); (case c4 => exact rfl)
  intro g' L' h' tk' cells' GS FG' F' N' Y' B' X' T'
  k_cells Y'
  refine gen_et ?_
  intro Eg tkg
  obtain ⟨kvs, hdd, hlo, hrel⟩ := hd.keeps GS
  obtain ⟨kvo, hdo, ⟨t1, ho1⟩, ⟨t2, ho2⟩, ⟨t3, ho3⟩, ⟨t4, ho4⟩, ⟨t5, ho5⟩⟩ := ho.keeps GS
  obtain ⟨_, hvp, pp, rfl, hpp⟩ := hrel.some hP
  obtain ⟨_, hM1⟩ := Option.isSome_iff_exists.mp hM
  obtain ⟨vm, hvm, _⟩ := hrel.some hM1
  have hnod : (kvs.map (·.1)).Nodup := let ⟨_, _, _, _, _, _, _, _, hn⟩ := hdd; hn
  have hlen := dom_le hrel hR hnod
  obtain ⟨tc1, tc2, tc3, hck⟩ := alone_tup X'
  replace hck := hck.isTup
  have hcki : StrsAre [.str (Str.ofString "local_pref") tc1, .str (Str.ofString "originator") tc2, .str (Str.ofString "clusters") tc3] [Str.ofString "local_pref", Str.ofString "originator", Str.ofString "clusters"] := .cons _ _ (.cons _ _ (.cons _ _ .nil))
  (try dsimp only); (try k_fold)
  k_steps
  refine Halt.go ?_
  refine gcompT (by assumption) rfl (by decide) rfl (by decide) ?_
  k_steps
  rename Fr g' _ _ _ => F1
  rename News g' _ _ _ => N1
  rename Obj => oc
  refine dict_src rfl hdd hlo F1 N1 ?_
  intro I ep g9 F2 N2 hLI hI0 hoff hst W hself hio hfp
  refine ⟨I, _, _, kvs.length, _, _, _, [], _, _, fun i ys n' => ∃ tl, n' = (L' + 1, oc) :: tl ∧ PairsN tl ys ((kvs.take i).filter fun kv => notAlone kv.1), rfl, W _, hself, (by rw [sizeLine_eq]; omega), hio, (by simp), (by simp), hfp, asg_name rfl (by decide), hst, F2, N2, hLI, hI0, hoff, (fun _ h => nomatch h), ⟨[], rfl, .nil⟩, ?_, ?_⟩
  · rintro i v ys n1 I oI C oC D m2 h3 tk3 E' hi ⟨k, x, t, hkx, rfl⟩ hm ⟨tl, rfl, hys⟩ hoC F3 N3 O3 hne hkp
    have hval := valueAt_of_get hnod hkx
    k_steps
    · have hkk : notAlone k = false := by
        rename (List.any _ _ = _) => hno
        simp at hno
        unfold notAlone
        rcases hno with e | e | e <;> simp [← e]
      refine ⟨_, _, (L' + 1, oc) :: tl, rfl, (by assumption), (by assumption), O3, hkp, tl, rfl, ?_⟩
      · rw [List.take_add_one, hkx, List.filter_append, Option.toList, List.filter_cons_of_neg (by simp [hkk])]
        simpa using hys
    · have hkk : notAlone k = true := by
        rename (List.any _ _ = _) => hno
        simp at hno
        unfold notAlone
        exact decide_eq_true ⟨fun e => hno.1 e.symm, fun e => hno.2.1 e.symm, fun e => hno.2.2 e.symm⟩
      rename (_ ∧ _ ∧ _ ∧ _ ∧ AllLt _ _) => hlt
      rename_i D2 h2 F2' N2'
      refine ⟨_, _, (L' + 1, oc) :: (D2, tupO [.str k t, x] 0) :: tl, rfl, (by assumption), cb_drop (by assumption) ?_, Off3.of ?_, (fun _ h => nomatch h), _, rfl, ?_⟩
      · intro p hp
        simp only [List.mem_cons] at hp ⊢
        rcases hp with e | e | e | e | e | e <;> simp [e]
      · intro p hp
        simp only [List.mem_cons] at hp
        rcases hp with e | e | e
        · exact O3.mem p (by simp [e])
        · rw [e]
          dsimp only
          refine ⟨?_, ?_, ?_⟩ <;> refine neN ?_ <;> omega
        · exact O3.mem p (by simp [e])
      · rw [List.take_add_one, hkx, List.filter_append, Option.toList, List.filter_cons_of_pos (by exact hkk)]
        exact (hys.mono fun p hp => List.mem_cons_of_mem _ hp).append (.cons (List.mem_cons_self ..) .nil)
  · rintro ys n1 ⟨tl, rfl, hys⟩ D h3 tk3 F3 N3 O3
    rw [List.take_length] at hys
    have S3 := sub_end GS F3
    k_steps
    refine Halt.go ?_
    refine dict_made rfl (by assumption) (by assumption) T'.nolimit (.head _) hys (fun p hp => by first | ((repeat (first | exact hp | apply List.Mem.tail)); done) | simp [hp]) ?_ ?_ ?_
    · exact (List.filter_sublist.map _).nodup hnod
    · exact Nat.le_trans (List.length_filter_le _ _) (by rw [sizeLine_eq]; omega)
    intro dn on h4 tk4 F4 N4 hdn hnm hne S4 hfr
    replace hfr := none_back S3 hfr
    have hl1 : (kvs.filter fun kv => notAlone kv.1).length ≤ 9 := Nat.le_trans (List.length_filter_le _ _) hlen
    k_steps
    refine Halt.go ?_
    rename News g' _ _ _ => N5
    have hvm2 : valueAt (kvs.filter fun kv => notAlone kv.1) (Str.ofString "med") = some vm := by
      rw [valueAt_filter, if_pos (by decide)]
      exact hvm
    refine dict_pop (rest := [(L' + 1, oc)]) (by assumption) (by assumption) (by simp) (by intro p hp; simp only [List.mem_cons, List.not_mem_nil, or_false] at hp; simp [hp]) (by intro p hp; simp only [List.mem_cons, List.not_mem_nil, or_false] at hp; rw [hp]; exact hne _ (by simp)) hdn (by rw [sizeLine_eq]; omega) (.inr ⟨_, rfl⟩) hvm2 ?_
    intro h6 o6 tk6 F6 N6 hd6
    have hl2 : (without (kvs.filter fun kv => notAlone kv.1) (Str.ofString "med")).length ≤ 9 := by
      unfold without
      exact Nat.le_trans (List.length_filter_le _ _) hl1
    clear N5 hdn
    k_steps
    refine Halt.go ?_
    refine' use (ct_noconf _ _ _ _ (hpp.keeps (Fr.keep (by assumption))) hPl) [(dn, o6), (L' + 1, oc)] ?B ?F ?X ?T ?hk ?d ?u N6 ?_
    (case B => k_asm); (case F => k_asm); (case X => k_asm); (case T => k_asm); (case hk => first | exact rfl | assumption)
    (case d => ktr_room)
    (case u => ktr_units)
    rintro r h9 tk9 tl9 F9 N9 Sn S9 ⟨q, rfl, hq⟩
    have hns : ∀ g ∈ noConf P, g.2.length < 2 ^ 20 := fun g hg => hsz g (List.mem_filter.mp hg).1
    have hnl : (noConf P).length < 2 ^ 20 := Nat.lt_of_le_of_lt (List.length_filter_le _ _) hPl
    have hcl6 : ∀ p ∈ [(dn, o6), (L' + 1, oc)], NoTup p.2 := by
      intro p hp
      simp only [List.mem_cons, List.not_mem_nil, or_false] at hp
      rcases hp with rfl | rfl
      · exact NoTup.ofDict hd6
      · exact NoTup.ofCell (by assumption)
    replace hq := Seen.path F9 N9 Sn hcl6 hq
    simp only [List.cons_append, List.nil_append] at N9
    k_steps
    refine Halt.go ?_
    refine' use (ct_pre _ _ _ _ _ _ _ (hq.here (by assumption) N9 fun p hp => by first | ((repeat (first | exact hp | apply List.Mem.tail)); done) | simp [hp]) hns hnl) [(dn, o6), (L' + 1, oc)] ?B ?F ?X ?T ?hk ?d ?u (cb_drop N9 (by intro p hp; simp only [List.mem_cons, List.not_mem_nil, or_false] at hp ⊢; rcases hp with e | e <;> simp [e])) ?_
    (case B => k_asm); (case F => k_asm); (case X => k_asm); (case T => k_asm); (case hk => first | exact rfl | assumption)
    (case d => ktr_room)
    (case u => ktr_units)
    rintro r h7 tk7 tl7 F7 N7 Sn7 S7 ⟨q2, rfl, hq2⟩
    replace hq2 := Seen.path F7 N7 Sn7 hcl6 hq2
    simp only [List.cons_append, List.nil_append] at N7
    clear N9
    have hoff7 : ∀ p ∈ (L' + 1, oc) :: tl7, p.1 ≠ dn := by
      intro p hp
      rcases List.mem_cons.mp hp with e | e
      · rw [e]; exact hne _ (by simp)
      · exact Sn7.apart p e _ (.head _)
    k_steps
    refine Halt.go ?_
    refine dict_set (rest := (L' + 1, oc) :: tl7) (by assumption) N7 (.head _) (fun p hp => List.mem_cons_of_mem _ hp) hoff7 hd6 (by rw [sizeLine_eq]; omega) ?_
    intro h10 o10 tk10 F10 N10 hd10
    have hl3 := stored_length_le (without (kvs.filter fun kv => notAlone kv.1) (Str.ofString "med")) (Str.ofString "as_path") (Value.ref q2)
    k_steps
    refine Halt.go ?_
    refine dict_set (rest := (L' + 1, oc) :: tl7) (by assumption) (by assumption) (.head _) (fun p hp => List.mem_cons_of_mem _ hp) hoff7 hd10 (by rw [sizeLine_eq]; omega) ?_
    intro h11 o11 tk11 F11 N11 hd11
    k_steps
    refine hret _ _ _ (sub_end GS (by assumption)) ⟨_, rfl, hfr, att_of N11 (.head _) hd11 hnm ?_⟩
    exact ((((hrel.keeps F11.keep).filter notAlone).without (Str.ofString "med")).stored (fv := .path (putA (noConf P) 9 2 255)) ⟨q2, rfl, hq2.here F11 N11 fun p hp => by first | ((repeat (first | exact hp | apply List.Mem.tail)); done) | simp [hp]⟩).stored ⟨_, rfl⟩
end
section
open PySem PySem.W PySem.Spec PySem.Calls PyProof.Rows
set_option pp.deepTerms false
set_option pp.deepTerms.threshold 6
set_option pp.proofs false
open PyProof.Rows.LCg
local macro_rules | `(tactic| walk_at "compareOp In str ref") => `(tactic| (k_here; (with_reducible show wpAny _ _ (compareOp CmpOp.In (Value.str _ _) (Value.ref _)) _ _ _); refine' bd_in ?d ?lo _ ?hb ?_; (case d => first | exact kda_dict (by k_asm) (by k_mem) (by assumption) | exact Heap.DictOf.keep (by assumption) (Fr.keep (by assumption))); (case lo => assumption); (case hb => assumption); k_whole))
local macro_rules | `(tactic| walk_at "eval Call") => `(tactic| (with_unfolding_all refine Call_ ?_))
local macro_rules | `(tactic| walk_at "getMethod ref") => `(tactic| (k_here; (with_reducible show wpAny _ _ (getMethod (Value.ref _) _ _) _ _ _); refine' bd_method ?d ?_; (case d => first | exact kda_dict (by k_asm) (by k_mem) (by assumption) | exact Heap.DictOf.keep (by assumption) (Fr.keep (by assumption))); k_whole))
local macro_rules | `(tactic| walk_at "call builtin:dict.get") => `(tactic| (k_here; refine' bd_get2 ?d ?lo _ ?hb ?_; (case d => first | exact kda_dict (by k_asm) (by k_mem) (by assumption) | exact Heap.DictOf.keep (by assumption) (Fr.keep (by assumption))); (case lo => assumption); (case hb => assumption); k_whole))
local macro_rules | `(tactic| walk_at "call builtin:dict.pop") => `(tactic| (refine Halt.mk ?_))
local macro_rules | `(tactic| walk_at "compareOp Eq ref ref") => `(tactic| (refine Halt.mk ?_))
theorem eq_nil {prog : Program} {w : World} {A : Around} {E : Value → Shared → Prop} {s : Shared} {l b : Addr} {vs : List Value} {Q : Value → Shared → Prop} (hl : Tup s.heap l vs) (hb : Tup s.heap b []) (hu : A.units < cLine) (h : Q (.bool (decide (vs = []))) s) : wpAny (model prog w) A (compareOp .Eq (.ref l) (.ref b)) Q E s := by
  refine PySem.SeqAt.eq_tupleAt (e := fun _ => true) hl.isTup hb.isTup hu (fun j h1 h2 => absurd h2 (by simp)) ?_
  have e : ((List.range (min vs.toArray.size ([] : List Value).toArray.size)).all (fun _ => true) && vs.toArray.size == ([] : List Value).toArray.size) = decide (vs = []) := by
    cases vs <;> simp
  rw [e]
  exact h
noncomputable def unkTail (R1 : Str → Option FV) (un : Option (List (Int × Int × Array UInt8))) : Str → Option FV :=
  match un with
  | none => R1
  | some us => if unkOn us = [] then upd R1 (Str.ofString "unknown") none else upd R1 (Str.ofString "unknown") (some (.unk (unkOn us)))
noncomputable def tellAttrs (R : Str → Option FV) (P : List (Int × List Int)) (cls : Option (List Int)) (un : Option (List (Int × Int × Array UInt8))) (mem clu adr tid : Int) (teller hearer : Str) : Str → Option FV :=
  unkTail (if hearer = Str.ofString "ebgp" then tellOutside R P adr else if hearer = Str.ofString "confed" then tellMember R P mem else tellInside R (cls.getD []) clu tid (isInside teller && isInside hearer)) un
noncomputable def isTold (teller hearer : Str) (clu : Int) (comm : Option (List Int)) : Bool := mayPass teller hearer (clu != 0) && mayTold (comm.getD []) hearer

theorem outside_unk (R : Str → Option FV) (P : List (Int × List Int)) (adr : Int) : tellOutside R P adr (Str.ofString "unknown") = R (Str.ofString "unknown") := rfl
theorem member_unk (R : Str → Option FV) (P : List (Int × List Int)) (mem : Int) : tellMember R P mem (Str.ofString "unknown") = R (Str.ofString "unknown") := by
  unfold tellMember
  split <;> rfl
theorem inside_unk (R : Str → Option FV) (cls : List Int) (clu tid : Int) (b : Bool) : tellInside R cls clu tid b (Str.ofString "unknown") = R (Str.ofString "unknown") := by
  unfold tellInside marked
  split <;> cases b <;> simp only [Bool.false_eq_true, if_false, if_true] <;> first | rfl | (split <;> rfl)
theorem Dom.filter {R : Str → Option FV} (h : Dom R) (p : Str → Bool) : Dom fun k => if p k then R k else none := by
  intro k hk
  dsimp only
  rw [h k hk]
  split <;> rfl
theorem dom_outside {R : Str → Option FV} {P : List (Int × List Int)} {adr : Int} (h : Dom R) : Dom (tellOutside R P adr) := (((h.filter notAlone).upd (by decide) _).upd (by decide) _).upd (by decide) _
theorem dom_member {R : Str → Option FV} {P : List (Int × List Int)} {mem : Int} (h : Dom R) : Dom (tellMember R P mem) := by
  unfold tellMember
  dsimp only
  split
  · exact (h.filter notMarks).upd (by decide) _
  · exact ((h.filter notMarks).upd (by decide) _).upd (by decide) _
theorem dom_inside {R : Str → Option FV} {cls : List Int} {clu tid : Int} {b : Bool} (h : Dom R) : Dom (tellInside R cls clu tid b) := by
  unfold tellInside
  have h1 : Dom (if b = true then marked R cls clu tid else R) := by
    split
    · exact h.marked _ _ _
    · exact h
  dsimp only
  split
  · exact h1
  · exact h1.upd (by decide) _
theorem ct_told (w : World) (s : Shared) (d o : Addr) (teller hearer : Str) (R : Str → Option FV) (P : List (Int × List Int)) (cls comm : Option (List Int)) (uk : Option (List (Int × Int × Array UInt8))) (tid id mem clu adr : Int) (tt t1 t2 : Tok) (hd : AttAt w s.heap d R) (hR : Dom R)
    (hP : R (Str.ofString "as_path") = some (.path P)) (hM : (R (Str.ofString "med")).isSome = true) (hcl : R (Str.ofString "clusters") = cls.map .nums) (hcm : R (Str.ofString "communities") = comm.map .nums) (huk : R (Str.ofString "unknown") = uk.map .unk) (ho : OwnAt w s.heap o id mem clu adr)
    (hsz : ∀ g ∈ P, g.2.length < 2 ^ 20) (hPl : P.length < 2 ^ 20) (hcs : (cls.getD []).length < 2 ^ 20) (hus : ∀ us, uk = some us → Flags us ∧ us.length < 2 ^ 20) :
    Asks 20 w 135 [.ref d, .ref o, .str teller t1, .int tid tt, .str hearer t2] s (fun r h => if isTold teller hearer clu comm then ∃ d', r = .ref d' ∧ s.heap.get? d' = none ∧ AttAt w h d' (tellAttrs R P cls uk mem clu adr tid teller hearer) else r = .none) := by
  w_top off
  unfold Asks
  k_fill
  intro dp un gd cn cs a₀ ccd cl outer A₀ base h₀ L m mean mg mb Q E B F X T hk hdp hun hret
  refine wpAny_call ?_
  refine' code_defG ?k1 ?k2 ?k3 News.nil ?k5 ?kA ?kF ?kK ?k6 ?k7 ?k8 ?k9 ?kB ?_ ?c2 ?c3 ?c4 ?c5
  (case k1 => k_asm); (case k2 => k_asm); (case k3 => k_asm); (case k5 => k_asm); (case kA => exact rfl); (case kF => exact rfl); (case kK => assumption)
  (case k6 => k_is); (case k7 => k_is); (case k8 => ktr_room); (case k9 => exact BindsTo.of_eq rfl); (case c5 => decide); (case kB => exact locs rfl); (case c2 => exact rfl); (case c3 => exact rfl); (case c4 => exact rfl)
  intro g' L' h' FG' F' N' B' X' T' GS
  replace GS := gsub_nil GS
  refine gen_et ?_
  intro Eg tkg
  have hdg := hd.keeps GS
  have hog := ho.keeps GS
  obtain ⟨kvs, hdd, hlo, hrel⟩ := hd.keeps GS
  obtain ⟨kvo, hdo, ⟨to1, ho1⟩, ⟨to2, ho2⟩, ⟨to3, ho3⟩, ⟨to4, ho4⟩, ⟨to5, ho5⟩⟩ := ho.keeps GS
  have hnod : (kvs.map (·.1)).Nodup := let ⟨_, _, _, _, _, _, _, _, hn⟩ := hdd; hn
  have hlen := dom_le hrel hR hnod
  obtain ⟨vc, hvc⟩ : ∃ v, valueAt kvs (Str.ofString "communities") = v := ⟨_, rfl⟩
  have hqq : ∀ {v : Option Value} {h2 : Heap} {D2 : Addr}, valueAt kvs (Str.ofString "communities") = v → Sub g' h2 → Tup h2 D2 [] → ∃ q ws, v.getD (.ref D2) = .ref q ∧ Tup h2 q ws ∧ IntsAre ws (comm.getD []) := by
    intro v h2 D2 hv S2 ht2
    cases hcl2 : comm with
    | none =>
      rw [hcl2] at hcm
      rw [hrel.none hcm] at hv
      subst hv
      exact ⟨D2, [], rfl, ht2, .nil⟩
    | some cs2 =>
      rw [hcl2] at hcm
      obtain ⟨_, h1, p2, rfl, ws, h3, h4⟩ := hrel.some hcm
      rw [h1] at hv
      subst hv
      exact ⟨p2, ws, rfl, h3.keeps S2, h4⟩
  (try dsimp only); (try k_fold)
  k_steps
  refine Halt.go ?_
  refine' use (ct_pass _ _ _ _ _ _ _) [] ?B ?F ?X ?T ?hk ?d ?u News.nil ?_
  (case B => k_asm); (case F => k_asm); (case X => k_asm); (case T => k_asm); (case hk => first | exact rfl | assumption)
  (case d => ktr_room)
  (case u => ktr_units)
  rintro r h9 tk9 tl F9 N9 Sn S9 rfl
  k_steps
  · rename_i hpass D2 h2 F2 N2 l2
    obtain ⟨q, ws, e5, ht5, hi5⟩ := hqq hvc F2.keep ⟨_, (N2 _ (.head _)).1⟩
    rw [e5]
    refine Halt.go ?_
    refine' use (ct_may _ _ q _ hearer _ ⟨ws, ht5, hi5⟩) [] ?B ?F ?X ?T ?hk ?d ?u News.nil ?_
    (case B => k_asm); (case F => k_asm); (case X => k_asm); (case T => k_asm); (case hk => first | exact rfl | assumption)
    (case d => ktr_room)
    (case u => ktr_units)
    rintro r h8 tk8 tl8 F8 N8 Sn8 S8 rfl
    clear N2 l2 hi5 ht5 e5
    simp only [List.nil_append] at N8
    k_steps
    · rename_i hmt he
      refine Halt.go ?_
      refine' use (ct_outside _ _ _ _ R P _ _ _ _ (hdg.keeps (Fr.keep (by assumption))) hR hP hM (hog.keeps (Fr.keep (by assumption))) hsz hPl) [] ?B ?F ?X ?T ?hk ?d ?u News.nil ?_
      (case B => k_asm); (case F => k_asm); (case X => k_asm); (case T => k_asm); (case hk => first | exact rfl | assumption)
      (case d => ktr_room)
      (case u => ktr_units)
      rintro r h7 tk7 tl7 F7 N7 Sn7 S7 ⟨d', rfl, hfr, kv', hd', hnm, hrel'⟩
      obtain ⟨un', hunr, hu1⟩ : ∃ un', un' = uk ∧ (tellOutside R P adr) (Str.ofString "unknown") = un'.map .unk := ⟨uk, rfl, huk⟩
      have hR1 : Dom (tellOutside R P adr) := dom_outside hR
      have htold : isTold teller hearer clu comm = true := by unfold isTold; rw [hpass, hmt]; rfl
      have htell : tellAttrs R P cls uk mem clu adr tid teller hearer = unkTail (tellOutside R P adr) un' := by rw [hunr]; unfold tellAttrs; rw [if_pos (eq_of_beq he)]
      rw [← hunr] at hus
      have hnod' : (kv'.map (·.1)).Nodup := let ⟨_, _, _, _, _, _, _, _, hn⟩ := hd'; hn
      have hlen' := dom_le hrel' hR1 hnod'
      obtain ⟨on, hon, hdn⟩ := Heap.dictOf_iff.mp hd'
      have Na := adopt F8 hfr (News.nil (h := h7)) hon
      replace hfr := none_back (sub_end GS F8) hfr
      obtain ⟨tl6, N6, Sn6⟩ := freeze F7 Na
      replace hrel' := Seen.drel F7 N6 Sn6 (by
        intro p hp
        simp only [List.mem_cons, List.not_mem_nil, or_false] at hp
        subst hp
        exact NoTup.ofDict hdn) hrel'
      simp only [List.cons_append, List.nil_append] at N6
      clear N8 N7 Na
      have hin : (valueAt kv' (Str.ofString "unknown")).isSome = un'.isSome := by
        rw [(hrel'.here F7 N6 fun p hp => by first | ((repeat (first | exact hp | apply List.Mem.tail)); done) | simp [hp]).isSome, hu1]
        cases un' <;> rfl
      cases hun' : un' with
      | none =>
        rw [hun'] at hin
        replace hin : (valueAt kv' (Str.ofString "unknown")).isSome = false := hin
        k_steps
        rename News g' _ _ _ => N10
        rename Fr g' _ _ _ => F10
        refine hret _ _ _ (sub_end GS (by assumption)) ?_
        show if isTold teller hearer clu comm then _ else _
        rw [if_pos htold]
        refine ⟨_, rfl, hfr, att_of N10 (.head _) hdn hnm ?_⟩
        rw [htell, hun']
        exact hrel'.here F10 N10 fun p hp => by first | ((repeat (first | exact hp | apply List.Mem.tail)); done) | simp [hp]
      | some us =>
        rw [hun'] at hin hu1
        replace hin : (valueAt kv' (Str.ofString "unknown")).isSome = true := hin
        obtain ⟨v, hv, pu, rfl, hpu0⟩ := (hrel'.here F7 N6 fun p hp => by first | ((repeat (first | exact hp | apply List.Mem.tail)); done) | simp [hp]).some (k := Str.ofString "unknown") (fv := .unk us) hu1
        have hpu : Seen g' tl6 (fun h => UnkAt h pu us) := by
          intro h k z
          obtain ⟨v2, e2, p2, e3, h3⟩ := (hrel' h k z).some (k := Str.ofString "unknown") (fv := .unk us) hu1
          rw [hv] at e2
          cases e2
          cases e3
          exact h3
        obtain ⟨hfl, hul⟩ := hus us hun'
        k_steps
        rename News g' _ _ _ => N10
        rename Fr g' _ _ _ => F10
        refine Halt.go ?_
        refine' use (ct_unk _ _ _ _ (hpu.here F10 N10 fun p hp => by first | ((repeat (first | exact hp | apply List.Mem.tail)); done) | simp [hp]) hfl hul) [(d', on)] ?B ?F ?X ?T ?hk ?d ?u (cb_drop N10 (by intro p hp; simp only [List.mem_cons, List.not_mem_nil, or_false] at hp ⊢; simp [hp])) ?_
        (case B => k_asm); (case F => k_asm); (case X => k_asm); (case T => k_asm); (case hk => first | exact rfl | assumption)
        (case d => ktr_room)
        (case u => ktr_units)
        rintro r h5 tk5 tl5 F5 N5 Sn5 S5 ⟨q2, rfl, hq2⟩
        have hcl5 : ∀ p ∈ [(d', on)], NoTup p.2 := by
          intro p hp
          simp only [List.mem_cons, List.not_mem_nil, or_false] at hp
          subst hp
          exact NoTup.ofDict hdn
        replace hq2 := Seen.unk F5 N5 Sn5 hcl5 hq2
        replace hrel' := Seen.drel F5 N5 Sn5 hcl5 (hrel'.here F5 (newsSub N10 S5) fun p hp => by first | ((repeat (first | exact hp | apply List.Mem.tail)); done) | simp [hp])
        clear N10 hpu hpu0
        simp only [List.cons_append, List.nil_append] at N5
        have hoff5 : ∀ p ∈ tl5, p.1 ≠ d' := fun p hp => Sn5.apart p hp _ (.head _)
        k_steps
        refine Halt.go ?_
        refine dict_set (rest := tl5) (by assumption) N5 (.head _) (fun p hp => List.mem_cons_of_mem _ hp) hoff5 hdn (by rw [sizeLine_eq]; omega) ?_
        intro h4 o4 tk4 F4 N4 hd4
        clear N5
        have hl4 := stored_length_le kv' (Str.ofString "unknown") (Value.ref q2)
        have hv4 : valueAt (stored kv' (Str.ofString "unknown") (Value.ref q2)) (Str.ofString "unknown") = some (.ref q2) := by rw [valueAt_stored, if_pos rfl]
        k_steps
        refine Halt.go ?_
        rename_i D3 h3 F3 N3 l3
        obtain ⟨ws3, ht3, hi3⟩ := hq2.here F3 N3 fun p hp => by first | ((repeat (first | exact hp | apply List.Mem.tail)); done) | simp [hp]
        have hws : decide (ws3 = []) = decide (unkOn us = []) := by
          have := hi3.length
          cases ws3 <;> cases h9 : unkOn us <;> simp_all
        refine eq_nil ht3 ⟨_, (N3 _ (.head _)).1⟩ (by ktr_units) ?_
        rw [hws]
        by_cases he0 : unkOn us = []
        · rw [decide_eq_true he0]
          k_steps
          refine Halt.go ?_
          refine dict_pop (rest := tl5) (by assumption) (by assumption) (by simp) (fun p hp => by first | ((repeat (first | exact hp | apply List.Mem.tail)); done) | simp [hp]) hoff5 hd4 (by rw [sizeLine_eq]; omega) (.inl rfl) hv4 ?_
          intro h2 o2 tk2 F2 N2 hd2
          k_steps
          refine hret _ _ _ (sub_end GS (by assumption)) ?_
          show if isTold teller hearer clu comm then _ else _
          rw [if_pos htold]
          refine ⟨_, rfl, hfr, att_of N2 (.head _) hd2 hnm ?_⟩
          rw [htell, hun']
          unfold unkTail
          dsimp only
          rw [if_pos he0]
          intro k
          have hr := hrel'.here F2 N2 (fun p hp => by first | ((repeat (first | exact hp | apply List.Mem.tail)); done) | simp [hp]) k
          rw [valueAt_without]
          unfold upd
          by_cases ek : k = Str.ofString "unknown"
          · rw [if_pos ek, if_pos ek]; trivial
          · rw [if_neg ek, if_neg ek, valueAt_stored, if_neg ek]; exact hr
        · rw [decide_eq_false he0]
          k_steps
          rename News g' _ _ _ => N2
          rename Fr g' _ _ _ => F2
          refine hret _ _ _ (sub_end GS (by assumption)) ?_
          show if isTold teller hearer clu comm then _ else _
          rw [if_pos htold]
          refine ⟨_, rfl, hfr, att_of N2 (.tail _ (.head _)) hd4 hnm ?_⟩
          rw [htell, hun']
          unfold unkTail
          dsimp only
          rw [if_neg he0]
          exact (hrel'.here F2 N2 fun p hp => by first | ((repeat (first | exact hp | apply List.Mem.tail)); done) | simp [hp]).stored ⟨q2, rfl, hq2.here F2 N2 fun p hp => by first | ((repeat (first | exact hp | apply List.Mem.tail)); done) | simp [hp]⟩
    · rename_i hmt he1 _ he2
      refine Halt.go ?_
      refine' use (ct_member _ _ _ _ R P _ _ _ _ (hdg.keeps (Fr.keep (by assumption))) hR hP (hog.keeps (Fr.keep (by assumption))) hsz hPl) [] ?B ?F ?X ?T ?hk ?d ?u News.nil ?_
      (case B => k_asm); (case F => k_asm); (case X => k_asm); (case T => k_asm); (case hk => first | exact rfl | assumption)
      (case d => ktr_room)
      (case u => ktr_units)
      rintro r h7 tk7 tl7 F7 N7 Sn7 S7 ⟨d', rfl, hfr, kv', hd', hnm, hrel'⟩
      obtain ⟨un', hunr, hu1⟩ : ∃ un', un' = uk ∧ (tellMember R P mem) (Str.ofString "unknown") = un'.map .unk := ⟨uk, rfl, (member_unk R P mem).trans huk⟩
      have hR1 : Dom (tellMember R P mem) := dom_member hR
      have htold : isTold teller hearer clu comm = true := by unfold isTold; rw [hpass, hmt]; rfl
      have htell : tellAttrs R P cls uk mem clu adr tid teller hearer = unkTail (tellMember R P mem) un' := by rw [hunr]; unfold tellAttrs; rw [if_neg (fun e => by rw [e] at he1; simp at he1), if_pos (eq_of_beq he2)]
      rw [← hunr] at hus
      have hnod' : (kv'.map (·.1)).Nodup := let ⟨_, _, _, _, _, _, _, _, hn⟩ := hd'; hn
      have hlen' := dom_le hrel' hR1 hnod'
      obtain ⟨on, hon, hdn⟩ := Heap.dictOf_iff.mp hd'
      have Na := adopt F8 hfr (News.nil (h := h7)) hon
      replace hfr := none_back (sub_end GS F8) hfr
      obtain ⟨tl6, N6, Sn6⟩ := freeze F7 Na
      replace hrel' := Seen.drel F7 N6 Sn6 (by
        intro p hp
        simp only [List.mem_cons, List.not_mem_nil, or_false] at hp
        subst hp
        exact NoTup.ofDict hdn) hrel'
      simp only [List.cons_append, List.nil_append] at N6
      clear N8 N7 Na
      have hin : (valueAt kv' (Str.ofString "unknown")).isSome = un'.isSome := by
        rw [(hrel'.here F7 N6 fun p hp => by first | ((repeat (first | exact hp | apply List.Mem.tail)); done) | simp [hp]).isSome, hu1]
        cases un' <;> rfl
      cases hun' : un' with
      | none =>
        rw [hun'] at hin
        replace hin : (valueAt kv' (Str.ofString "unknown")).isSome = false := hin
        k_steps
        rename News g' _ _ _ => N10
        rename Fr g' _ _ _ => F10
        refine hret _ _ _ (sub_end GS (by assumption)) ?_
        show if isTold teller hearer clu comm then _ else _
        rw [if_pos htold]
        refine ⟨_, rfl, hfr, att_of N10 (.head _) hdn hnm ?_⟩
        rw [htell, hun']
        exact hrel'.here F10 N10 fun p hp => by first | ((repeat (first | exact hp | apply List.Mem.tail)); done) | simp [hp]
      | some us =>
        rw [hun'] at hin hu1
        replace hin : (valueAt kv' (Str.ofString "unknown")).isSome = true := hin
        obtain ⟨v, hv, pu, rfl, hpu0⟩ := (hrel'.here F7 N6 fun p hp => by first | ((repeat (first | exact hp | apply List.Mem.tail)); done) | simp [hp]).some (k := Str.ofString "unknown") (fv := .unk us) hu1
        have hpu : Seen g' tl6 (fun h => UnkAt h pu us) := by
          intro h k z
          obtain ⟨v2, e2, p2, e3, h3⟩ := (hrel' h k z).some (k := Str.ofString "unknown") (fv := .unk us) hu1
          rw [hv] at e2
          cases e2
          cases e3
          exact h3
        obtain ⟨hfl, hul⟩ := hus us hun'
        k_steps
        rename News g' _ _ _ => N10
        rename Fr g' _ _ _ => F10
        refine Halt.go ?_
        refine' use (ct_unk _ _ _ _ (hpu.here F10 N10 fun p hp => by first | ((repeat (first | exact hp | apply List.Mem.tail)); done) | simp [hp]) hfl hul) [(d', on)] ?B ?F ?X ?T ?hk ?d ?u (cb_drop N10 (by intro p hp; simp only [List.mem_cons, List.not_mem_nil, or_false] at hp ⊢; simp [hp])) ?_
        (case B => k_asm); (case F => k_asm); (case X => k_asm); (case T => k_asm); (case hk => first | exact rfl | assumption)
        (case d => ktr_room)
        (case u => ktr_units)
        rintro r h5 tk5 tl5 F5 N5 Sn5 S5 ⟨q2, rfl, hq2⟩
        have hcl5 : ∀ p ∈ [(d', on)], NoTup p.2 := by
          intro p hp
          simp only [List.mem_cons, List.not_mem_nil, or_false] at hp
          subst hp
          exact NoTup.ofDict hdn
        replace hq2 := Seen.unk F5 N5 Sn5 hcl5 hq2
        replace hrel' := Seen.drel F5 N5 Sn5 hcl5 (hrel'.here F5 (newsSub N10 S5) fun p hp => by first | ((repeat (first | exact hp | apply List.Mem.tail)); done) | simp [hp])
        clear N10 hpu hpu0
        simp only [List.cons_append, List.nil_append] at N5
        have hoff5 : ∀ p ∈ tl5, p.1 ≠ d' := fun p hp => Sn5.apart p hp _ (.head _)
        k_steps
        refine Halt.go ?_
        refine dict_set (rest := tl5) (by assumption) N5 (.head _) (fun p hp => List.mem_cons_of_mem _ hp) hoff5 hdn (by rw [sizeLine_eq]; omega) ?_
        intro h4 o4 tk4 F4 N4 hd4
        clear N5
        have hl4 := stored_length_le kv' (Str.ofString "unknown") (Value.ref q2)
        have hv4 : valueAt (stored kv' (Str.ofString "unknown") (Value.ref q2)) (Str.ofString "unknown") = some (.ref q2) := by rw [valueAt_stored, if_pos rfl]
        k_steps
        refine Halt.go ?_
        rename_i D3 h3 F3 N3 l3
        obtain ⟨ws3, ht3, hi3⟩ := hq2.here F3 N3 fun p hp => by first | ((repeat (first | exact hp | apply List.Mem.tail)); done) | simp [hp]
        have hws : decide (ws3 = []) = decide (unkOn us = []) := by
          have := hi3.length
          cases ws3 <;> cases h9 : unkOn us <;> simp_all
        refine eq_nil ht3 ⟨_, (N3 _ (.head _)).1⟩ (by ktr_units) ?_
        rw [hws]
        by_cases he0 : unkOn us = []
        · rw [decide_eq_true he0]
          k_steps
          refine Halt.go ?_
          refine dict_pop (rest := tl5) (by assumption) (by assumption) (by simp) (fun p hp => by first | ((repeat (first | exact hp | apply List.Mem.tail)); done) | simp [hp]) hoff5 hd4 (by rw [sizeLine_eq]; omega) (.inl rfl) hv4 ?_
          intro h2 o2 tk2 F2 N2 hd2
          k_steps
          refine hret _ _ _ (sub_end GS (by assumption)) ?_
          show if isTold teller hearer clu comm then _ else _
          rw [if_pos htold]
          refine ⟨_, rfl, hfr, att_of N2 (.head _) hd2 hnm ?_⟩
          rw [htell, hun']
          unfold unkTail
          dsimp only
          rw [if_pos he0]
          intro k
          have hr := hrel'.here F2 N2 (fun p hp => by first | ((repeat (first | exact hp | apply List.Mem.tail)); done) | simp [hp]) k
          rw [valueAt_without]
          unfold upd
          by_cases ek : k = Str.ofString "unknown"
          · rw [if_pos ek, if_pos ek]; trivial
          · rw [if_neg ek, if_neg ek, valueAt_stored, if_neg ek]; exact hr
        · rw [decide_eq_false he0]
          k_steps
          rename News g' _ _ _ => N2
          rename Fr g' _ _ _ => F2
          refine hret _ _ _ (sub_end GS (by assumption)) ?_
          show if isTold teller hearer clu comm then _ else _
          rw [if_pos htold]
          refine ⟨_, rfl, hfr, att_of N2 (.tail _ (.head _)) hd4 hnm ?_⟩
          rw [htell, hun']
          unfold unkTail
          dsimp only
          rw [if_neg he0]
          exact (hrel'.here F2 N2 fun p hp => by first | ((repeat (first | exact hp | apply List.Mem.tail)); done) | simp [hp]).stored ⟨q2, rfl, hq2.here F2 N2 fun p hp => by first | ((repeat (first | exact hp | apply List.Mem.tail)); done) | simp [hp]⟩
    · rename_i hmt he1 _ he2
      refine Halt.go ?_
      refine' use (ct_inside _ _ _ _ _ _ R cls _ _ _ _ _ _ _ _ (hdg.keeps (Fr.keep (by assumption))) hR hcl (hog.keeps (Fr.keep (by assumption))) hcs) [] ?B ?F ?X ?T ?hk ?d ?u News.nil ?_
      (case B => k_asm); (case F => k_asm); (case X => k_asm); (case T => k_asm); (case hk => first | exact rfl | assumption)
      (case d => ktr_room)
      (case u => ktr_units)
      rintro r h7 tk7 tl7 F7 N7 Sn7 S7 ⟨d', rfl, hfr, kv', hd', hnm, hrel'⟩
      obtain ⟨un', hunr, hu1⟩ : ∃ un', un' = uk ∧ (tellInside R (cls.getD []) clu tid (isInside teller && isInside hearer)) (Str.ofString "unknown") = un'.map .unk := ⟨uk, rfl, (inside_unk R _ _ _ _).trans huk⟩
      have hR1 : Dom (tellInside R (cls.getD []) clu tid (isInside teller && isInside hearer)) := dom_inside hR
      have htold : isTold teller hearer clu comm = true := by unfold isTold; rw [hpass, hmt]; rfl
      have htell : tellAttrs R P cls uk mem clu adr tid teller hearer = unkTail (tellInside R (cls.getD []) clu tid (isInside teller && isInside hearer)) un' := by rw [hunr]; unfold tellAttrs; rw [if_neg (fun e => by rw [e] at he1; simp at he1), if_neg (fun e => by rw [e] at he2; simp at he2)]
      rw [← hunr] at hus
      have hnod' : (kv'.map (·.1)).Nodup := let ⟨_, _, _, _, _, _, _, _, hn⟩ := hd'; hn
      have hlen' := dom_le hrel' hR1 hnod'
      obtain ⟨on, hon, hdn⟩ := Heap.dictOf_iff.mp hd'
      have Na := adopt F8 hfr (News.nil (h := h7)) hon
      replace hfr := none_back (sub_end GS F8) hfr
      obtain ⟨tl6, N6, Sn6⟩ := freeze F7 Na
      replace hrel' := Seen.drel F7 N6 Sn6 (by
        intro p hp
        simp only [List.mem_cons, List.not_mem_nil, or_false] at hp
        subst hp
        exact NoTup.ofDict hdn) hrel'
      simp only [List.cons_append, List.nil_append] at N6
      clear N8 N7 Na
      have hin : (valueAt kv' (Str.ofString "unknown")).isSome = un'.isSome := by
        rw [(hrel'.here F7 N6 fun p hp => by first | ((repeat (first | exact hp | apply List.Mem.tail)); done) | simp [hp]).isSome, hu1]
        cases un' <;> rfl
      cases hun' : un' with
      | none =>
        rw [hun'] at hin
        replace hin : (valueAt kv' (Str.ofString "unknown")).isSome = false := hin
        k_steps
        rename News g' _ _ _ => N10
        rename Fr g' _ _ _ => F10
        refine hret _ _ _ (sub_end GS (by assumption)) ?_
        show if isTold teller hearer clu comm then _ else _
        rw [if_pos htold]
        refine ⟨_, rfl, hfr, att_of N10 (.head _) hdn hnm ?_⟩
        rw [htell, hun']
        exact hrel'.here F10 N10 fun p hp => by first | ((repeat (first | exact hp | apply List.Mem.tail)); done) | simp [hp]
      | some us =>
        rw [hun'] at hin hu1
        replace hin : (valueAt kv' (Str.ofString "unknown")).isSome = true := hin
        obtain ⟨v, hv, pu, rfl, hpu0⟩ := (hrel'.here F7 N6 fun p hp => by first | ((repeat (first | exact hp | apply List.Mem.tail)); done) | simp [hp]).some (k := Str.ofString "unknown") (fv := .unk us) hu1
        have hpu : Seen g' tl6 (fun h => UnkAt h pu us) := by
          intro h k z
          obtain ⟨v2, e2, p2, e3, h3⟩ := (hrel' h k z).some (k := Str.ofString "unknown") (fv := .unk us) hu1
          rw [hv] at e2
          cases e2
          cases e3
          exact h3
        obtain ⟨hfl, hul⟩ := hus us hun'
        k_steps
        rename News g' _ _ _ => N10
        rename Fr g' _ _ _ => F10
        refine Halt.go ?_
        refine' use (ct_unk _ _ _ _ (hpu.here F10 N10 fun p hp => by first | ((repeat (first | exact hp | apply List.Mem.tail)); done) | simp [hp]) hfl hul) [(d', on)] ?B ?F ?X ?T ?hk ?d ?u (cb_drop N10 (by intro p hp; simp only [List.mem_cons, List.not_mem_nil, or_false] at hp ⊢; simp [hp])) ?_
        (case B => k_asm); (case F => k_asm); (case X => k_asm); (case T => k_asm); (case hk => first | exact rfl | assumption)
        (case d => ktr_room)
        (case u => ktr_units)
        rintro r h5 tk5 tl5 F5 N5 Sn5 S5 ⟨q2, rfl, hq2⟩
        have hcl5 : ∀ p ∈ [(d', on)], NoTup p.2 := by
          intro p hp
          simp only [List.mem_cons, List.not_mem_nil, or_false] at hp
          subst hp
          exact NoTup.ofDict hdn
        replace hq2 := Seen.unk F5 N5 Sn5 hcl5 hq2
        replace hrel' := Seen.drel F5 N5 Sn5 hcl5 (hrel'.here F5 (newsSub N10 S5) fun p hp => by first | ((repeat (first | exact hp | apply List.Mem.tail)); done) | simp [hp])
        clear N10 hpu hpu0
        simp only [List.cons_append, List.nil_append] at N5
        have hoff5 : ∀ p ∈ tl5, p.1 ≠ d' := fun p hp => Sn5.apart p hp _ (.head _)
        k_steps
        refine Halt.go ?_
        refine dict_set (rest := tl5) (by assumption) N5 (.head _) (fun p hp => List.mem_cons_of_mem _ hp) hoff5 hdn (by rw [sizeLine_eq]; omega) ?_
        intro h4 o4 tk4 F4 N4 hd4
        clear N5
        have hl4 := stored_length_le kv' (Str.ofString "unknown") (Value.ref q2)
        have hv4 : valueAt (stored kv' (Str.ofString "unknown") (Value.ref q2)) (Str.ofString "unknown") = some (.ref q2) := by rw [valueAt_stored, if_pos rfl]
        k_steps
        refine Halt.go ?_
        rename_i D3 h3 F3 N3 l3
        obtain ⟨ws3, ht3, hi3⟩ := hq2.here F3 N3 fun p hp => by first | ((repeat (first | exact hp | apply List.Mem.tail)); done) | simp [hp]
        have hws : decide (ws3 = []) = decide (unkOn us = []) := by
          have := hi3.length
          cases ws3 <;> cases h9 : unkOn us <;> simp_all
        refine eq_nil ht3 ⟨_, (N3 _ (.head _)).1⟩ (by ktr_units) ?_
        rw [hws]
        by_cases he0 : unkOn us = []
        · rw [decide_eq_true he0]
          k_steps
          refine Halt.go ?_
          refine dict_pop (rest := tl5) (by assumption) (by assumption) (by simp) (fun p hp => by first | ((repeat (first | exact hp | apply List.Mem.tail)); done) | simp [hp]) hoff5 hd4 (by rw [sizeLine_eq]; omega) (.inl rfl) hv4 ?_
          intro h2 o2 tk2 F2 N2 hd2
          k_steps
          refine hret _ _ _ (sub_end GS (by assumption)) ?_
          show if isTold teller hearer clu comm then _ else _
          rw [if_pos htold]
          refine ⟨_, rfl, hfr, att_of N2 (.head _) hd2 hnm ?_⟩
          rw [htell, hun']
          unfold unkTail
          dsimp only
          rw [if_pos he0]
          intro k
          have hr := hrel'.here F2 N2 (fun p hp => by first | ((repeat (first | exact hp | apply List.Mem.tail)); done) | simp [hp]) k
          rw [valueAt_without]
          unfold upd
          by_cases ek : k = Str.ofString "unknown"
          · rw [if_pos ek, if_pos ek]; trivial
          · rw [if_neg ek, if_neg ek, valueAt_stored, if_neg ek]; exact hr
        · rw [decide_eq_false he0]
          k_steps
          rename News g' _ _ _ => N2
          rename Fr g' _ _ _ => F2
          refine hret _ _ _ (sub_end GS (by assumption)) ?_
          show if isTold teller hearer clu comm then _ else _
          rw [if_pos htold]
          refine ⟨_, rfl, hfr, att_of N2 (.tail _ (.head _)) hd4 hnm ?_⟩
          rw [htell, hun']
          unfold unkTail
          dsimp only
          rw [if_neg he0]
          exact (hrel'.here F2 N2 fun p hp => by first | ((repeat (first | exact hp | apply List.Mem.tail)); done) | simp [hp]).stored ⟨q2, rfl, hq2.here F2 N2 fun p hp => by first | ((repeat (first | exact hp | apply List.Mem.tail)); done) | simp [hp]⟩
    · refine hret _ _ _ (sub_end GS F8) ?_
      show if isTold teller hearer clu comm then _ else _
      rw [if_neg]
      unfold isTold
      simp [*]
  · refine hret _ _ _ (sub_end GS F9) ?_
    show if isTold teller hearer clu comm then _ else _
    rw [if_neg]
    unfold isTold
    simp [*]
end
section
open PySem PySem.W PySem.Spec PySem.Calls PyProof.Rows
set_option pp.deepTerms false
set_option pp.deepTerms.threshold 6
set_option pp.proofs false
open PyProof.Rows.LCg
local macro_rules | `(tactic| walk_at "call builtin:dict.pop") => `(tactic| (refine Halt.mk ?_))
local macro_rules | `(tactic| walk_at "compareOp NotEq ref ref") => `(tactic| (refine Halt.mk ?_))
abbrev TupKeep (h h' : Heap) : Prop := ∀ a vs, Tup h a vs → Tup h' a vs
section
variable {h h' : Heap}
theorem TupI.tk {a : Addr} {ns : List Int} (x : TupI h a ns) (k : TupKeep h h') : TupI h' a ns := let ⟨ws, t, i⟩ := x; ⟨ws, k _ _ t, i⟩
theorem SegAt.tk {v : Value} {g : Int × List Int} (x : SegAt h v g) (k : TupKeep h h') : SegAt h' v g := by
  obtain ⟨a, t, b, e, h1, h2⟩ := x
  exact ⟨a, t, b, e, k _ _ h1, h2.tk k⟩
theorem SegsAt.tk {vs : List Value} {gs : List (Int × List Int)} (x : SegsAt h vs gs) (k : TupKeep h h') : SegsAt h' vs gs := by
  induction x with
  | nil => exact .nil
  | cons a _ ih => exact .cons (a.tk k) ih
theorem PathAt.tk {p : Addr} {P : List (Int × List Int)} (x : PathAt h p P) (k : TupKeep h h') : PathAt h' p P := by
  obtain ⟨vs, a, b⟩ := x
  exact ⟨vs, k _ _ a, b.tk k⟩
theorem TripAt.tk {v : Value} {u : Int × Int × Array UInt8} (x : TripAt h v u) (k : TupKeep h h') : TripAt h' v u := by
  obtain ⟨a, t1, t2, t3, e, h1⟩ := x
  exact ⟨a, t1, t2, t3, e, k _ _ h1⟩
theorem TripsAt.tk {vs : List Value} {us : List (Int × Int × Array UInt8)} (x : TripsAt h vs us) (k : TupKeep h h') : TripsAt h' vs us := by
  induction x with
  | nil => exact .nil
  | cons a _ ih => exact .cons (a.tk k) ih
theorem UnkAt.tk {p : Addr} {us : List (Int × Int × Array UInt8)} (x : UnkAt h p us) (k : TupKeep h h') : UnkAt h' p us := by
  obtain ⟨vs, a, b⟩ := x
  exact ⟨vs, k _ _ a, b.tk k⟩
theorem ValAt.tk {v : Value} {fv : FV} (x : ValAt h v fv) (k : TupKeep h h') : ValAt h' v fv := by
  cases fv with
  | int n => exact x
  | path P => obtain ⟨p, e, y⟩ := x; exact ⟨p, e, y.tk k⟩
  | nums ns => obtain ⟨p, e, y⟩ := x; exact ⟨p, e, y.tk k⟩
  | unk us => obtain ⟨p, e, y⟩ := x; exact ⟨p, e, y.tk k⟩
theorem DRel.tk {f : Str → Option Value} {R : Str → Option FV} (x : DRel h f R) (k : TupKeep h h') : DRel h' f R := by
  intro n
  have := x n
  cases e1 : f n <;> cases e2 : R n <;> rw [e1, e2] at this
  · trivial
  · exact this.elim
  · exact this.elim
  · exact ValAt.tk this k
theorem tk_gsub {d : Addr} {o : Obj} (S : GSub h h' [d]) (ho : h.get? d = some o) (n : NoTup o) : TupKeep h h' := by
  rintro a vs ⟨k, e⟩
  refine ⟨k, S _ _ e ?_⟩
  intro hm
  rw [List.mem_singleton] at hm
  subst hm
  rw [ho] at e
  exact n _ _ (Option.some.inj e)
end
noncomputable def knownR (R : Str → Option FV) (uk : Option (List (Int × Int × Array UInt8))) : Str → Option FV := match uk with
  | none => R
  | some us => if unkOn us = [] then upd R (Str.ofString "unknown") none else upd R (Str.ofString "unknown") (some (.unk (unkOn us)))

theorem ct_known (w : World) (s : Shared) (d : Addr) (o : Obj) (kvs : List (Str × Value)) (R : Str → Option FV) (uk : Option (List (Int × Int × Array UInt8))) (hd : o.IsDictOf (PySem.strKind PR w) kvs) (hlo : (d == sysModules) = false) (hr : DRel s.heap (valueAt kvs) R) (hR : Dom R)
    (huk : R (Str.ofString "unknown") = uk.map .unk) (hus : ∀ us, uk = some us → Flags us ∧ us.length < 2 ^ 20) :
    AsksD 8 w 161 [.ref d] [(d, o)] s (fun r h => r = .ref d ∧ ∃ o' kvs', h.get? d = some o' ∧ o'.IsDictOf (PySem.strKind PR w) kvs' ∧ DRel h (valueAt kvs') (knownR R uk)) := by
  w_top off
  unfold AsksD
  k_fill
  intro dp un gd cn cs a₀ ccd cl outer A₀ base h₀ L m mean mg mb Q E B F X T hk NL hdp hun hret
  refine wpAny_call ?_
  refine' code_defG ?k1 ?k2 ?k3 NL ?k5 ?kA ?kF ?kK ?k6 ?k7 ?k8 ?k9 ?kB ?_ ?c2 ?c3 ?c4 ?c5
  (case k1 => k_asm); (case k2 => k_asm); (case k3 => k_asm); (case k5 => k_asm); (case kA => exact rfl); (case kF => exact rfl); (case kK => assumption)
  (case k6 => k_is); (case k7 => k_is); (case k8 => ktr_room); (case k9 => exact BindsTo.of_eq rfl); (case c5 => decide); (case kB => exact locs rfl); (case c2 => exact rfl); (case c3 => exact rfl); (case c4 => exact rfl)
  intro g' L' h' FG' F' N' B' X' T' GS
  refine gen_et ?_
  intro Eg tkg
  have hdd := (NL (d, o) (.head _)).1
  have hnt := NoTup.ofDict hd
  have hrel : DRel g' (valueAt kvs) R := hr.tk (tk_gsub GS hdd hnt)
  have hnod : (kvs.map (·.1)).Nodup := nodup_of (Heap.dictOf_iff.mpr ⟨o, hdd, hd⟩)
  have hlen := dom_le hr hR hnod
  (try dsimp only); (try k_fold)
  k_steps
  refine Halt.go ?_
  refine gcompT (by assumption) rfl (by decide) rfl (by decide) ?_
  k_steps
  rename_i D0 h0 F0 N0 l0
  have hd0 := (N0 (d, o) (by simp)).1
  refine Halt.go ?_
  cases hu : uk with
  | none =>
    have hun : valueAt kvs (Str.ofString "unknown") = none := hr.none (by rw [huk, hu]; rfl)
    have hD : h0.DictOf (PySem.strKind PR w) d kvs := Heap.dictOf_iff.mpr ⟨o, hd0, hd⟩
    refine call_meetsIn PySem.F.slot_dict_pop hD.typeIs PySem.F.entry_dict_pop (PySem.F.args_dict_pop_3 _ _ _) (meets_dict_pop_default (PySem.strKind PR w) d (strKind_is PR w _ _) hlo rfl _) ⟨kvs, hD, hun, ?_⟩
    refine tup_src (keep := [(D0, { cls := .type "tuple", data := .seq #[] })]) (vs := []) rfl (.inr ⟨_, .head _, rfl, _, rfl⟩) F0 N0 (by simp) ?_
    intro I g9 F2 N2 hLI hI0 hoff hst W hfp
    refine ⟨I, _, _, 0, _, _, _, [(D0, { cls := .type "tuple", data := .seq #[] })], _, (fun _ _ _ => True), fun i ys n' => ys = [] ∧ n' = [(D0, { cls := .type "tuple", data := .seq #[] }), (d, o)], rfl, W _, tup_self, (by rw [sizeLine_eq]; omega), tup_io, (by simp), (by simp), hfp, (fun i v s m C Q E hi => absurd hi (Nat.not_lt_zero _)), hst, F2, N2, hLI, hI0, hoff, (by simp), ⟨rfl, rfl⟩, ?_, ?_⟩
    · intro i v ys n1 I oI C oC D m2 h3 tk3 E' hi
      exact absurd hi (Nat.not_lt_zero _)
    · rintro ys n1 ⟨rfl, rfl⟩ D h3 tk3 F3 N3 O3
      k_steps
      refine Halt.go ?_
      rename_i D5 tk5 D4 h4 F4 N4 l4
      refine ne_nil (vs := []) ⟨_, (N4 _ (.tail _ (.head _))).1⟩ ⟨_, (N4 _ (.head _)).1⟩ (by ktr_units) ?_
      rw [show (!decide (([] : List Value) = [])) = false from rfl]
      k_steps
      rename News g' _ _ _ => N9
      refine hret _ _ _ (gsub_end GS (by assumption)) ⟨rfl, o, kvs, (N9 (d, o) (by simp)).1, hd, ?_⟩
      rw [hu, show knownR R none = R from rfl]
      exact hrel.keeps (Fr.keep (by assumption))
  | some us =>
    obtain ⟨hfl, hul⟩ := hus us hu
    obtain ⟨_, hv, pu, rfl, vs, ht, hsg⟩ := hrel.some (k := Str.ofString "unknown") (fv := .unk us) (by rw [huk, hu]; rfl)
    have hvl := hsg.length
    refine dict_pop (rest := [(D0, { cls := .type "tuple", data := .seq #[] })]) F0 N0 (by simp) (by simp) (off_dict N0 (by simp) hd (by intro p hp; rw [List.mem_singleton.mp hp]; exact ⟨by simp, _, _, rfl⟩)) hd (by rw [sizeLine_eq]; omega) (.inr ⟨_, rfl⟩) hv ?_
    intro h1 o1 tk1 F1 N1 hd1
    have hl1 : (without kvs (Str.ofString "unknown")).length ≤ 9 := by
      unfold without
      exact Nat.le_trans (List.length_filter_le _ _) hlen
    have hne1 : D0 ≠ d := off_dict (rest := [(D0, { cls := .type "tuple", data := .seq #[] })]) N0 (by simp) hd (by intro p hp; rw [List.mem_singleton.mp hp]; exact ⟨by simp, _, _, rfl⟩) _ (.head _)
    refine tup_src (keep := []) rfl (.inl ht.isTup) F1 N1 (fun _ h => nomatch h) ?_
    intro I g9 F2 N2 hLI hI0 hoff hst W hfp
    refine ⟨I, _, _, vs.length, _, _, _, [], _, _, fun i ys n' => ∃ tl, n' = (d, o1) :: tl ∧ TripsN tl ys (unkOn (us.take i)) ∧ ∀ p ∈ tl, ∃ vs n, p.2 = { cls := .type "tuple", data := .seq vs n }, rfl, W _, tup_self, (by rw [hvl, sizeLine_eq]; omega), tup_io, (by simp), (by simp), hfp, asg_triple rfl rfl rfl rfl rfl (by decide) (by decide) (by decide) (P3 := fun i a b c => ∃ u t1 t2 t3, us[i]? = some u ∧ a = .int u.1 t1 ∧ b = .int u.2.1 t2 ∧ c = .bytes u.2.2 t3) ?_, hst, F2, N2, hLI, hI0, hoff, (fun _ h => nomatch h), ⟨_, rfl, .nil, fun p hp => by rw [List.mem_singleton.mp hp]; exact ⟨_, _, rfl⟩⟩, ?_, ?_⟩
    · intro i v hv
      obtain ⟨u, hu, a, t1, t2, t3, rfl, h1⟩ := hsg.get hv
      exact ⟨a, _, _, _, rfl, ⟨u, t1, t2, t3, hu, rfl, rfl, rfl⟩, fun h k _ => (h1.keeps k).isTup⟩
    · rintro i v ys n1 I oI C oC D m2 h3 tk3 E' hi hv ⟨_, _, _, ⟨u, t1, t2, t3, hu, rfl, rfl, rfl⟩, hm1, hm2, hm3⟩ ⟨tl, rfl, hys, htl⟩ hoC F3 N3 O3 hne hkp
      obtain ⟨fl, cd, oc⟩ := u
      have hfl := hfl _ (List.mem_of_getElem? hu)
      dsimp only at hfl hm1 hm2 hm3
      have hlk : unkOn (us.take (i + 1)) = unkOn (us.take i) ++ (if fl = 192 ∨ fl = 224 then [(224, cd, oc)] else []) := by
        unfold unkOn
        rw [List.take_add_one, hu]
        by_cases h : fl = 192 ∨ fl = 224
        · simp only [if_pos h, List.filter_append, List.map_append, Option.toList]
          rw [List.filter_cons_of_pos (by simpa using h)]
          simp
        · simp only [if_neg h, List.append_nil, List.filter_append, List.map_append, Option.toList]
          rw [List.filter_cons_of_neg (by simpa using h)]
          simp
      rcases hfl with rfl | rfl | rfl
      · k_steps
        rw [if_neg (by omega), List.append_nil] at hlk
        exact ⟨_, _, _, rfl, (by assumption), (by assumption), O3, (fun _ h => nomatch h), tl, rfl, (by rw [hlk]; exact hys), htl⟩
      · k_steps
        rename_i D2 h2 F2' N2' hlt
        have hN : ∃ tt, News g' L' h2 ((D2, tupO [.int 224 tt, .int cd t2, .bytes oc t3] 0) :: (I, oI) :: (C, oC) :: (D, lst ys) :: (d, o1) :: tl) := ⟨_, N2'⟩
        obtain ⟨tt, N3'⟩ := hN
        clear N2'
        rw [if_pos (by omega)] at hlk
        refine ⟨_, _, (d, o1) :: (D2, tupO [.int 224 tt, .int cd t2, .bytes oc t3] 0) :: tl, rfl, (by assumption), cb_drop (by assumption) ?_, Off3.of ?_, (fun _ h => nomatch h), _, rfl, ?_, ?_⟩
        · intro p hp
          simp only [List.mem_cons] at hp ⊢
          rcases hp with e | e | e | e | e | e <;> simp [e]
        · intro p hp
          simp only [List.mem_cons] at hp
          rcases hp with e | e | e
          · exact O3.mem p (by simp [e])
          · rw [e]
            dsimp only
            refine ⟨?_, ?_, ?_⟩ <;> refine neN ?_ <;> omega
          · exact O3.mem p (by simp [e])
        · rw [hlk]
          exact (hys.mono fun p hp => List.mem_cons_of_mem _ hp).append (.cons (List.mem_cons_self ..) .nil)
        · intro p hp
          rcases List.mem_cons.mp hp with e | e
          · rw [e]; exact ⟨_, _, rfl⟩
          · exact htl p e
      · k_steps
        rename_i D2 h2 F2' N2' hlt
        have hN : ∃ tt, News g' L' h2 ((D2, tupO [.int 224 tt, .int cd t2, .bytes oc t3] 0) :: (I, oI) :: (C, oC) :: (D, lst ys) :: (d, o1) :: tl) := ⟨_, N2'⟩
        obtain ⟨tt, N3'⟩ := hN
        clear N2'
        rw [if_pos (by omega)] at hlk
        refine ⟨_, _, (d, o1) :: (D2, tupO [.int 224 tt, .int cd t2, .bytes oc t3] 0) :: tl, rfl, (by assumption), cb_drop (by assumption) ?_, Off3.of ?_, (fun _ h => nomatch h), _, rfl, ?_, ?_⟩
        · intro p hp
          simp only [List.mem_cons] at hp ⊢
          rcases hp with e | e | e | e | e | e <;> simp [e]
        · intro p hp
          simp only [List.mem_cons] at hp
          rcases hp with e | e | e
          · exact O3.mem p (by simp [e])
          · rw [e]
            dsimp only
            refine ⟨?_, ?_, ?_⟩ <;> refine neN ?_ <;> omega
          · exact O3.mem p (by simp [e])
        · rw [hlk]
          exact (hys.mono fun p hp => List.mem_cons_of_mem _ hp).append (.cons (List.mem_cons_self ..) .nil)
        · intro p hp
          rcases List.mem_cons.mp hp with e | e
          · rw [e]; exact ⟨_, _, rfl⟩
          · exact htl p e
    · rintro ys n1 ⟨tl, rfl, hys, htl⟩ D h3 tk3 F3 N3 O3
      rw [hvl, List.take_length] at hys
      have hyl : ys.length ≤ sizeLine := by
        have h1 := hys.length
        have h2 : (unkOn us).length ≤ us.length := by unfold unkOn; rw [List.length_map]; exact List.length_filter_le _ _
        rw [sizeLine_eq]
        omega
      k_steps
      refine Halt.go ?_
      rename_i D5 _ _ _ D4 h4 F4 N4 l4
      have hoff : ∀ p ∈ (D5, tupO ys 0) :: tl, p.1 ≠ d := off_dict N4 (by simp) hd1 (by
        intro p hp
        rcases List.mem_cons.mp hp with e | e
        · rw [e]; exact ⟨by simp, _, _, rfl⟩
        · exact ⟨by simp [e], htl p e⟩)
      refine ne_nil ⟨_, (N4 _ (.tail _ (.head _))).1⟩ ⟨_, (N4 _ (.head _)).1⟩ (by ktr_units) ?_
      have hws : decide (ys = []) = decide (unkOn us = []) := by
        have := hys.length
        cases ys <;> cases h9 : unkOn us <;> simp_all
      rw [hws]
      by_cases he0 : unkOn us = []
      · rw [decide_eq_true he0]
        k_steps
        rename News g' _ _ _ => N9
        refine hret _ _ _ (gsub_end GS (by assumption)) ⟨rfl, o1, _, (N9 (d, o1) (by simp)).1, hd1, ?_⟩
        rw [hu, show knownR R (some us) = upd R (Str.ofString "unknown") none from if_pos he0]
        exact (hrel.keeps (Fr.keep (by assumption))).without _
      · rw [decide_eq_false he0]
        k_steps
        refine Halt.go ?_
        refine dict_set (rest := (D5, tupO ys 0) :: tl) (by assumption) (by assumption) (by simp) (by intro p hp; rcases List.mem_cons.mp hp with e | e <;> simp [e]) hoff hd1 (by rw [sizeLine_eq]; omega) ?_
        intro h11 o11 tk11 F11 N11 hd11
        k_steps
        rename News g' _ _ _ => N9
        refine hret _ _ _ (gsub_end GS (by assumption)) ⟨rfl, o11, _, (N9 _ (.head _)).1, hd11, ?_⟩
        rw [hu, show knownR R (some us) = upd R (Str.ofString "unknown") (some (.unk (unkOn us))) from if_neg he0]
        intro k
        rw [valueAt_stored]
        unfold upd
        by_cases ek : k = Str.ofString "unknown"
        · rw [if_pos ek, if_pos ek]
          exact ⟨D5, rfl, ys, ⟨_, (N9 _ (.tail _ (.head _))).1⟩, hys.at N9 fun p hp => by first | ((repeat (first | exact hp | apply List.Mem.tail)); done) | simp [hp]⟩
        · rw [if_neg ek, if_neg ek, valueAt_without, if_neg ek]
          exact (hrel.keeps (Fr.keep (by assumption))) k
end
section
local macro_rules | `(tactic| walk_at "subscriptTail") => `(tactic| (k_here; (with_reducible show wpAny _ _ (subscriptTail _ _ (Value.ref _) (Value.int _ _)) _ _ _); (with_unfolding_all refine' item_at ?t ?a ?b ?x ?_); (case t => exact Fr.tup (by assumption) (by assumption)); (case a => decide); (case b => decide); (case x => exact rfl); k_whole))
local macro_rules | `(tactic| walk_at "binaryOp Add ref ref") => `(tactic| (k_here; (with_reducible show wpAny _ _ (binaryOp Operator.Add (Value.ref _) (Value.ref _)) _ _ _); refine' add_tup ?F ?N ?l ?x ?b ?z ?_; (case F => k_asm); (case N => k_asm); (case l => k_mem); (case x => simp); (case b => first | exact Tup.keeps (by assumption) (Fr.keep (by assumption)) | exact ⟨_, News.get (by k_asm) (by k_mem)⟩); (case z => simp only [List.length_cons, List.length_nil, sizeLine_eq] at *; first | omega | (simp; omega)); intro q h1 n1 F1 N1))
local macro_rules | `(tactic| walk_at "subscriptTail Name Slice ref ref") => `(tactic| (k_here; (with_reducible show wpAny _ _ (subscriptTail _ _ (Value.ref _) (Value.ref _)) _ _ _); (with_unfolding_all refine slice_tuple_from (a := 1) (by assumption) (by assumption) (Fr.tup (by assumption) (by assumption)) (by decide) (by simp) ?_ (hsz := by simp only [List.size_toArray, List.length_cons, sizeLine_eq]; omega)); intro h1 F1 N1))
section
open PySem PySem.W PySem.Spec PySem.Calls PyProof.Rows
set_option pp.deepTerms false
set_option pp.deepTerms.threshold 6
set_option pp.proofs false
open PyProof.Rows.LCg
noncomputable def headed (P : List (Int × List Int)) (x k : Int) : List (Int × List Int) := match P with
  | [] => [(k, [x])]
  | g :: R => if g.1 = k then (k, x :: g.2) :: R else (k, [x]) :: g :: R
noncomputable def dueMember (R : Str → Option FV) (P : List (Int × List Int)) (mem : Int) : Str → Option FV :=
  upd (upd (fun k => if notMarks k then R k else none) (Str.ofString "local_pref") (some (.int 100))) (Str.ofString "as_path") (some (.path (headed P mem 3)))
theorem set_path {w : World} {A : Around} {E : Value → Shared → Prop} {s : Shared} {h₀ : Heap} {L d q : Addr} {m : Str → Option Value} {led cc : List (Addr × Obj)} {o : Obj} {kvs : List (Str × Value)} {k : Str} {t : Tok} {P : List (Int × List Int)} {Q : Unit → Shared → Prop} (F : Fr h₀ L s.heap m) (N : News h₀ L s.heap led) (hm : (d, o) ∈ led) (hc : ∀ p ∈ cc, p ∈ led ∧ NoTup p.2 ∧ p.1 ≠ d) (hd : o.IsDictOf (PySem.strKind PR w) kvs) (hz : kvs.length ≤ sizeLine)
    (hp : PathAt s.heap q P)
    (h : ∀ h' o' tk' tl, Fr h₀ L h' m → News h₀ L h' ((d, o') :: (cc ++ tl)) → o'.IsDictOf (PySem.strKind PR w) (stored kvs k (.ref q)) → Seen h₀ tl (fun h => PathAt h q P) → (∀ p ∈ cc ++ tl, p.1 ≠ d) → Q () { s with heap := h', toks := tk' }) :
    wpAny (model PR w) A (setItem (.ref d) (.str k t) (.ref q)) Q E s := by
  have Nc : News h₀ L s.heap ((d, o) :: cc) := cb_drop N (by
    intro p hp
    rcases List.mem_cons.mp hp with e | e
    · rw [e]; exact hm
    · exact (hc p e).1)
  obtain ⟨tl, N', Sn⟩ := freeze F Nc
  have hs := Seen.path F N' Sn (by
    intro p hp
    rcases List.mem_cons.mp hp with e | e
    · rw [e]; exact NoTup.ofDict hd
    · exact (hc p e).2.1) hp
  have hoff : ∀ p ∈ cc ++ tl, p.1 ≠ d := by
    intro p hp
    rcases List.mem_append.mp hp with e | e
    · exact (hc p e).2.2
    · exact Sn.apart p e _ (.head _)
  exact dict_set (rest := cc ++ tl) F N' (by simp) (fun p hp => List.mem_cons_of_mem _ hp) hoff hd hz fun h' o' tk' F' N2 hd' => h h' o' tk' tl F' N2 hd' hs hoff
theorem ct_stepM (w : World) (s : Shared) (d o : Addr) (teller : Str) (R : Str → Option FV) (P : List (Int × List Int)) (uk : Option (List (Int × Int × Array UInt8))) (at' id mem clu adr : Int) (tt t1 t2 : Tok) (hd : AttAt w s.heap d R) (hR : Dom R) (hP : R (Str.ofString "as_path") = some (.path P)) (ho : OwnAt w s.heap o id mem clu adr)
    (huk : R (Str.ofString "unknown") = uk.map .unk) (hus : ∀ us, uk = some us → Flags us ∧ us.length < 2 ^ 20)
    (hsz : ∀ g ∈ P, g.2.length < 2 ^ 20) (hPl : P.length < 2 ^ 20) (hPn : P ≠ []) :
    Asks 12 w 166 [.ref d, .ref o, .str teller t1, .str (Str.ofString "confed") t2, .int at' tt] s (fun r h => ∃ d', r = .ref d' ∧ s.heap.get? d' = none ∧ AttAt w h d' (knownR (dueMember R P mem) uk)) := by
  w_top off
  unfold Asks
  k_fill
  intro dp un gd cn cs a₀ ccd cl outer A₀ base h₀ L m mean mg mb Q E B F X T hk hdp hun hret
  refine wpAny_call ?_
  refine' enterC ?k1 ?k2 ?k3 ?k5 ?kA ?kF ?kK ?k6 ?k7 ?k8 ?k9 ?kB ?kD ?_ ?c2 ?c3 ?c4
  (case k1 => k_asm); (case k2 => k_asm); (case k3 => k_asm); (case k5 => k_asm); (case kA => exact rfl); (case kF => exact rfl); (case kK => assumption)
  (case k6 => k_is); (case k7 => k_is); (case k8 => ktr_room); (case k9 => exact BindsTo.of_eq rfl); (case kB => exact rfl); (case kD => decide +kernel); (case c2 => exact rfl); (case c3 => exact rfl); (case c4 => exact rfl)
  intro g' L' h' tk' cells' GS FG' F' N' Y' B' X' T'
  k_cells Y'
  refine gen_et ?_
  intro Eg tkg
  rename_i oA oB dA dB
  obtain ⟨kvs, hdd, hlo, hrel⟩ := hd.keeps GS
  obtain ⟨kvo, hdo, ⟨t1, ho1⟩, ⟨t2, ho2⟩, ⟨t3, ho3⟩, ⟨t4, ho4⟩, ⟨t5, ho5⟩⟩ := ho.keeps GS
  obtain ⟨_, hvp, pp, rfl, vs, ht, hsg⟩ := hrel.some hP
  have hnod := nodup_of hdd
  have hlen := dom_le hrel hR hnod
  (try dsimp only); (try k_fold)
  k_steps
  refine Halt.go ?_
  refine gcompT (by assumption) rfl (by decide) rfl (by decide) ?_
  k_steps
  rename Fr g' _ _ _ => F1
  rename News g' _ _ _ => N1
  refine dict_src rfl hdd hlo F1 N1 ?_
  intro I ep g9 F2 N2 hLI hI0 hoff hst W hself hio hfp
  refine ⟨I, _, _, kvs.length, _, _, _, [], _, _, fun i ys n' => ∃ tl, n' = (L' + 1 + 1, oA) :: (L' + 1, oB) :: tl ∧ PairsN tl ys ((kvs.take i).filter fun kv => notMarks kv.1), rfl, W _, hself, (by rw [sizeLine_eq]; omega), hio, (by simp), (by simp), hfp, asg_name rfl (by decide), hst, F2, N2, hLI, hI0, hoff, (fun _ h => nomatch h), ⟨[], rfl, .nil⟩, ?_, ?_⟩
  · rintro i v ys n1 I oI C oC D m2 h3 tk3 E' hi ⟨k, x, t, hkx, rfl⟩ hm ⟨tl, rfl, hys⟩ hoC F3 N3 O3 hne hkp
    have hval := valueAt_of_get hnod hkx
    k_steps
    · have hkk : notMarks k = false := by
        rename (List.any _ _ = _) => hno
        simp at hno
        unfold notMarks
        rcases hno with e | e <;> simp [← e]
      refine ⟨_, _, (L' + 1 + 1, oA) :: (L' + 1, oB) :: tl, rfl, (by assumption), cb_drop (by assumption) ?_, O3, hkp, tl, rfl, ?_⟩
      · intro p hp
        simp only [List.mem_cons] at hp ⊢
        exact .inr hp
      · rw [List.take_add_one, hkx, List.filter_append, Option.toList, List.filter_cons_of_neg (by simp [hkk])]
        simpa using hys
    · have hkk : notMarks k = true := by
        rename (List.any _ _ = _) => hno
        simp at hno
        unfold notMarks
        exact decide_eq_true ⟨fun e => hno.1 e.symm, fun e => hno.2 e.symm⟩
      rename (_ ∧ _ ∧ _ ∧ _ ∧ _ ∧ _ ∧ AllLt _ _) => hlt
      rename_i D2 h2 F2' N2'
      refine ⟨_, _, (L' + 1 + 1, oA) :: (L' + 1, oB) :: (D2, tupO [.str k t, x] 0) :: tl, rfl, (by assumption), cb_drop (by assumption) ?_, Off3.of ?_, (fun _ h => nomatch h), _, rfl, ?_⟩
      · intro p hp
        simp only [List.mem_cons] at hp ⊢
        rcases hp with e | e | e | e | e | e | e <;> simp [e]
      · intro p hp
        simp only [List.mem_cons] at hp
        rcases hp with e | e | e | e
        · exact O3.mem p (by simp [e])
        · exact O3.mem p (by simp [e])
        · rw [e]
          dsimp only
          refine ⟨?_, ?_, ?_⟩ <;> refine neN ?_ <;> omega
        · exact O3.mem p (by simp [e])
      · rw [List.take_add_one, hkx, List.filter_append, Option.toList, List.filter_cons_of_pos (by exact hkk)]
        exact (hys.mono fun p hp => List.mem_cons_of_mem _ hp).append (.cons (List.mem_cons_self ..) .nil)
  · rintro ys n1 ⟨tl, rfl, hys⟩ D h3 tk3 F3 N3 O3
    rw [List.take_length] at hys
    have S3 := sub_end GS F3
    k_steps
    refine Halt.go ?_
    refine dict_made rfl (by assumption) (by assumption) T'.nolimit (.head _) hys (fun p hp => by first | ((repeat (first | exact hp | apply List.Mem.tail)); done) | simp [hp]) ?_ ?_ ?_
    · exact (List.filter_sublist.map _).nodup hnod
    · exact Nat.le_trans (List.length_filter_le _ _) (by rw [sizeLine_eq]; omega)
    intro dn on h4 tk4 F4 N4 hdn hnm hne S4 hfr
    replace hfr := none_back S3 hfr
    have hl1 : (kvs.filter fun kv => notMarks kv.1).length ≤ 9 := Nat.le_trans (List.length_filter_le _ _) hlen
    have hoffC : ∀ p ∈ [(L' + 1 + 1, oA), (L' + 1, oB)], p.1 ≠ dn := by
      intro p hp
      simp only [List.mem_cons, List.not_mem_nil, or_false] at hp
      rcases hp with e | e <;> exact hne p (by simp [e])
    k_steps
    refine Halt.go ?_
    rename News g' _ _ _ => N5
    refine dict_set (rest := [(L' + 1 + 1, oA), (L' + 1, oB)]) (by assumption) (by assumption) (.head _) (sub2 (by first | ((repeat (first | exact List.Mem.head _ | apply List.Mem.tail)); done) | simp) (by first | ((repeat (first | exact List.Mem.head _ | apply List.Mem.tail)); done) | simp)) hoffC hdn (by rw [sizeLine_eq]; omega) ?_
    intro h5 o5 tk5 F5 N5' hd5
    clear N5
    have hl2 := stored_length_le (kvs.filter fun kv => notMarks kv.1) (Str.ofString "local_pref") (Value.int 100 203)
    cases hsg with
    | nil => exact absurd rfl hPn
    | @cons v vs g Rr hs hR2 =>
      obtain ⟨k0, ns⟩ := g
      obtain ⟨a, t, b, rfl, hT1, ws, hT2, hI⟩ := hs
      have hwl : ws.length = ns.length := hI.length
      have hsz1 := hsz _ (List.mem_cons_self ..)
      dsimp only at hT1 hI hwl hsz1
      have hT := ht.isTup
      have hTa := hT1.isTup
      have hTb := hT2.isTup
      have hvn2 : vs.length < 2 ^ 20 := by
        have : vs.length = Rr.length := hR2.length
        simp only [List.length_cons] at hPl
        omega
      have hseg : SegsAt g' (Value.ref a :: vs) ((k0, ns) :: Rr) := .cons ⟨a, t, b, rfl, hT1, ws, hT2, hI⟩ hR2
      have hcell : ∀ p ∈ [(L' + 1 + 1, oA), (L' + 1, oB)], NoTup p.2 := by
        intro p hp
        simp only [List.mem_cons, List.not_mem_nil, or_false] at hp
        rcases hp with e | e <;> rw [e]
        · exact NoTup.ofCell dA
        · exact NoTup.ofCell dB
      have hrl : ∀ h q, Sub g' h → PathAt h q (headed ((k0, ns) :: Rr) mem 3) → ∀ u, DRel h (valueAt (stored (stored (kvs.filter fun kv => notMarks kv.1) (Str.ofString "local_pref") (.int 100 u)) (Str.ofString "as_path") (.ref q))) (dueMember R ((k0, ns) :: Rr) mem) := by
        intro h q S hp u
        exact (((hrel.keeps S).filter notMarks).stored (fv := .int 100) ⟨_, rfl⟩).stored (fv := .path (headed ((k0, ns) :: Rr) mem 3)) ⟨q, rfl, hp⟩
      have hdom : Dom (dueMember R ((k0, ns) :: Rr) mem) := ((hR.filter notMarks).upd (by decide) _).upd (by decide) _
      have huk2 : dueMember R ((k0, ns) :: Rr) mem (Str.ofString "unknown") = uk.map .unk := huk
      k_steps
      all_goals refine Halt.go ?_
      all_goals rename Fr g' _ _ _ => F6
      all_goals rename News g' _ _ _ => N6
      · rename (k0 = 3) => hk3
        refine set_path (P := headed ((k0, ns) :: Rr) mem 3) (cc := [(L' + 1 + 1, oA), (L' + 1, oB)]) F6 N6 (by k_mem) ?_ hd5 (Nat.le_trans (stored_length_le ..) (by rw [sizeLine_eq]; omega)) ?_ ?_
        · intro p hp
          refine ⟨?_, hcell p hp, hoffC p hp⟩
          simp only [List.mem_cons, List.not_mem_nil, or_false] at hp
          rcases hp with e | e <;> simp [e]
        · rw [show headed ((k0, ns) :: Rr) mem 3 = (3, mem :: ns) :: Rr from if_pos hk3]
          exact path_cons N6 (by k_mem) (by k_mem) ⟨_, ⟨_, News.get N6 (by k_mem)⟩, .cons _ _ hI⟩ (hR2.keeps F6.keep)
        intro h11 o11 tk11 tl11 F11 N11 hd11 hpth _
        k_steps
        rename News g' _ _ _ => N9
        refine Halt.go ?_
        refine' useD (ct_known w _ dn o11 _ _ uk hd11 hnm (hrl _ _ (Fr.keep F11) (hpth.here F11 N9 fun p hp => by first | ((repeat (first | exact hp | apply List.Mem.tail)); done) | simp [hp]) _) hdom huk2 hus) ?B ?F ?X ?T ?hk ?d ?u (cb_drop N9 (by intro p hp; rw [List.mem_singleton.mp hp]; exact List.mem_cons_self ..)) ?_
        (case B => k_asm); (case F => k_asm); (case X => k_asm); (case T => k_asm); (case hk => first | exact rfl | assumption)
        (case d => ktr_room)
        (case u => ktr_units)
        rintro r h12 tk12 F12 G12 ⟨rfl, o12, kv12, hg12, hd12, hr12⟩
        have N12 : News g' L' h12 [] := News.nil
        k_steps
        exact hret _ _ _ (sub_end GS (by assumption)) ⟨_, rfl, hfr, kv12, Heap.dictOf_iff.mpr ⟨o12, hg12, hd12⟩, hnm, hr12⟩
      · rename (k0 ≠ 3) => hk3
        refine set_path (P := headed ((k0, ns) :: Rr) mem 3) (cc := [(L' + 1 + 1, oA), (L' + 1, oB)]) F6 N6 (by k_mem) ?_ hd5 (Nat.le_trans (stored_length_le ..) (by rw [sizeLine_eq]; omega)) ?_ ?_
        · intro p hp
          refine ⟨?_, hcell p hp, hoffC p hp⟩
          simp only [List.mem_cons, List.not_mem_nil, or_false] at hp
          rcases hp with e | e <;> simp [e]
        · rw [show headed ((k0, ns) :: Rr) mem 3 = (3, [mem]) :: (k0, ns) :: Rr from if_neg hk3]
          exact path_cons N6 (by k_mem) (by k_mem) ⟨_, ⟨_, News.get N6 (by k_mem)⟩, .cons _ _ .nil⟩ (hseg.keeps F6.keep)
        intro h11 o11 tk11 tl11 F11 N11 hd11 hpth _
        k_steps
        rename News g' _ _ _ => N9
        refine Halt.go ?_
        refine' useD (ct_known w _ dn o11 _ _ uk hd11 hnm (hrl _ _ (Fr.keep F11) (hpth.here F11 N9 fun p hp => by first | ((repeat (first | exact hp | apply List.Mem.tail)); done) | simp [hp]) _) hdom huk2 hus) ?B ?F ?X ?T ?hk ?d ?u (cb_drop N9 (by intro p hp; rw [List.mem_singleton.mp hp]; exact List.mem_cons_self ..)) ?_
        (case B => k_asm); (case F => k_asm); (case X => k_asm); (case T => k_asm); (case hk => first | exact rfl | assumption)
        (case d => ktr_room)
        (case u => ktr_units)
        rintro r h12 tk12 F12 G12 ⟨rfl, o12, kv12, hg12, hd12, hr12⟩
        have N12 : News g' L' h12 [] := News.nil
        k_steps
        exact hret _ _ _ (sub_end GS (by assumption)) ⟨_, rfl, hfr, kv12, Heap.dictOf_iff.mpr ⟨o12, hg12, hd12⟩, hnm, hr12⟩
end
section
open PySem PySem.W PySem.Spec PySem.Calls PyProof.Rows
set_option pp.deepTerms false
set_option pp.deepTerms.threshold 6
set_option pp.proofs false
open PyProof.Rows.LCg
local macro_rules | `(tactic| walk_at "getMethod ref") => `(tactic| (k_here; (with_reducible show wpAny _ _ (getMethod (Value.ref _) _ _) _ _ _); refine' bd_method ?d ?_; (case d => first | exact kda_dict (by k_asm) (by k_mem) (by assumption) | exact Heap.DictOf.keep (by assumption) (Fr.keep (by assumption))); k_whole))
local macro_rules | `(tactic| walk_at "call builtin:dict.get") => `(tactic| (k_here; refine' bd_get2 ?d ?lo _ ?hb ?_; (case d => first | exact kda_dict (by k_asm) (by k_mem) (by assumption) | exact Heap.DictOf.keep (by assumption) (Fr.keep (by assumption))); (case lo => assumption); (case hb => assumption); k_whole))
local macro_rules | `(tactic| walk_at "compareOp In int ref") => `(tactic| (refine Halt.mk ?_))
noncomputable def notMed (k : Str) : Bool := decide (k ≠ Str.ofString "med")
noncomputable def dueOutside (R : Str → Option FV) (P : List (Int × List Int)) (adr : Int) : Str → Option FV :=
  upd (upd (fun k => if notMed k then R k else none) (Str.ofString "as_path") (some (.path (headed P 9 2)))) (Str.ofString "next_hop") (some (.int adr))
theorem ct_outdue (w : World) (s : Shared) (d o : Addr) (R : Str → Option FV) (P : List (Int × List Int)) (comm : Option (List Int)) (uk : Option (List (Int × Int × Array UInt8))) (id mem clu adr : Int) (hd : AttAt w s.heap d R) (hR : Dom R) (hP : R (Str.ofString "as_path") = some (.path P)) (ho : OwnAt w s.heap o id mem clu adr)
    (hcm : R (Str.ofString "communities") = comm.map .nums) (huk : R (Str.ofString "unknown") = uk.map .unk) (hus : ∀ us, uk = some us → Flags us ∧ us.length < 2 ^ 20)
    (hsz : ∀ g ∈ P, g.2.length < 2 ^ 20) (hPl : P.length < 2 ^ 20) (hPn : P ≠ []) :
    Asks 12 w 171 [.ref d, .ref o] s (fun r h => if 4294967041 ∈ comm.getD [] then r = .none else ∃ d', r = .ref d' ∧ s.heap.get? d' = none ∧ AttAt w h d' (knownR (dueOutside R P adr) uk)) := by
  w_top off
  unfold Asks
  k_fill
  intro dp un gd cn cs a₀ ccd cl outer A₀ base h₀ L m mean mg mb Q E B F X T hk hdp hun hret
  refine wpAny_call ?_
  refine' enterC ?k1 ?k2 ?k3 ?k5 ?kA ?kF ?kK ?k6 ?k7 ?k8 ?k9 ?kB ?kD ?_ ?c2 ?c3 ?c4
  (case k1 => k_asm); (case k2 => k_asm); (case k3 => k_asm); (case k5 => k_asm); (case kA => exact rfl); (case kF => exact rfl); (case kK => assumption)
  (case k6 => k_is); (case k7 => k_is); (case k8 => ktr_room); (case k9 => exact BindsTo.of_eq rfl); (case kB => exact rfl); (case kD => decide +kernel); (case c2 => exact rfl); (case c3 => exact rfl); (case c4 => exact rfl)
  intro g' L' h' tk' cells' GS FG' F' N' Y' B' X' T'
  k_cells Y'
  refine gen_et ?_
  intro Eg tkg
  rename_i oA dA
  obtain ⟨kvs, hdd, hlo, hrel⟩ := hd.keeps GS
  obtain ⟨kvo, hdo, ⟨t1, ho1⟩, ⟨t2, ho2⟩, ⟨t3, ho3⟩, ⟨t4, ho4⟩, ⟨t5, ho5⟩⟩ := ho.keeps GS
  obtain ⟨_, hvp, pp, rfl, vs, ht, hsg⟩ := hrel.some hP
  have hnod := nodup_of hdd
  have hlen := dom_le hrel hR hnod
  obtain ⟨vc, hvc⟩ : ∃ v, valueAt kvs (Str.ofString "communities") = v := ⟨_, rfl⟩
  have hqq : ∀ {v : Option Value} {h2 : Heap} {D2 : Addr}, valueAt kvs (Str.ofString "communities") = v → Sub g' h2 → Tup h2 D2 [] → ∃ q ws, v.getD (.ref D2) = .ref q ∧ Tup h2 q ws ∧ IntsAre ws (comm.getD []) := by
    intro v h2 D2 hv S2 ht2
    cases hcl2 : comm with
    | none =>
      rw [hcl2] at hcm
      rw [hrel.none hcm] at hv
      subst hv
      exact ⟨D2, [], rfl, ht2, .nil⟩
    | some cs2 =>
      rw [hcl2] at hcm
      obtain ⟨_, h1, p2, rfl, ws, h3, h4⟩ := hrel.some hcm
      rw [h1] at hv
      subst hv
      exact ⟨p2, ws, rfl, h3.keeps S2, h4⟩
  (try dsimp only); (try k_fold)
  k_steps
  refine Halt.go ?_
  rename News g' _ _ _ => N7
  rename Fr g' _ _ _ => F7
  obtain ⟨q, ws, e5, ht5, hi5⟩ := hqq hvc F7.keep ⟨_, (N7 _ (.head _)).1⟩
  rw [e5]
  refine in_tuple_ints ht5.isTup hi5 ?_
  rw [any_mem]
  by_cases hex : 4294967041 ∈ comm.getD []
  · rw [decide_eq_true hex]
    k_steps
    refine hret _ _ _ (sub_end GS (by assumption)) ?_
    show if 4294967041 ∈ comm.getD [] then _ else _
    rw [if_pos hex]
  rw [decide_eq_false hex]
  k_steps
  refine Halt.go ?_
  refine gcompT (by assumption) rfl (by decide) rfl (by decide) ?_
  k_steps
  rename Fr g' _ _ _ => F1
  rename News g' _ _ _ => N1
  replace N1 := cb_drop (news := [(L' + 1, oA)]) N1 (by simp)
  refine dict_src rfl hdd hlo F1 N1 ?_
  intro I ep g9 F2 N2 hLI hI0 hoff hst W hself hio hfp
  clear N1
  refine ⟨I, _, _, kvs.length, _, _, _, [], _, _, fun i ys n' => ∃ tl, n' = (L' + 1, oA) :: tl ∧ PairsN tl ys ((kvs.take i).filter fun kv => notMed kv.1), rfl, W _, hself, (by rw [sizeLine_eq]; omega), hio, (by simp), (by simp), hfp, asg_name rfl (by decide), hst, F2, N2, hLI, hI0, hoff, (fun _ h => nomatch h), ⟨[], rfl, .nil⟩, ?_, ?_⟩
  · rintro i v ys n1 I oI C oC D m2 h3 tk3 E' hi ⟨k, x, t, hkx, rfl⟩ hm ⟨tl, rfl, hys⟩ hoC F3 N3 O3 hne hkp
    have hval := valueAt_of_get hnod hkx
    k_steps
    · have hkk : notMed k = true := by
        rename ((k != _) = true) => hno
        exact decide_eq_true (bne_iff_ne.mp hno)
      rename (_ ∧ _ ∧ _ ∧ _ ∧ AllLt _ _) => hlt
      rename_i D2 h2 F2' N2'
      refine ⟨_, _, (L' + 1, oA) :: (D2, tupO [.str k t, x] 0) :: tl, rfl, (by assumption), cb_drop (by assumption) ?_, Off3.of ?_, (fun _ h => nomatch h), _, rfl, ?_⟩
      · intro p hp
        simp only [List.mem_cons] at hp ⊢
        rcases hp with e | e | e | e | e | e <;> simp [e]
      · intro p hp
        simp only [List.mem_cons] at hp
        rcases hp with e | e | e
        · exact O3.mem p (by simp [e])
        · rw [e]
          dsimp only
          refine ⟨?_, ?_, ?_⟩ <;> refine neN ?_ <;> omega
        · exact O3.mem p (by simp [e])
      · rw [List.take_add_one, hkx, List.filter_append, Option.toList, List.filter_cons_of_pos (by exact hkk)]
        exact (hys.mono fun p hp => List.mem_cons_of_mem _ hp).append (.cons (List.mem_cons_self ..) .nil)
    · have hkk : notMed k = false := by
        rename ((k != _) = false) => hno
        simp only [bne_eq_false_iff_eq] at hno
        unfold notMed
        simp [hno]
      refine ⟨_, _, (L' + 1, oA) :: tl, rfl, (by assumption), (by assumption), O3, hkp, tl, rfl, ?_⟩
      rw [List.take_add_one, hkx, List.filter_append, Option.toList, List.filter_cons_of_neg (by simp [hkk])]
      simpa using hys
  · rintro ys n1 ⟨tl, rfl, hys⟩ D h3 tk3 F3 N3 O3
    rw [List.take_length] at hys
    have S3 := sub_end GS F3
    k_steps
    refine Halt.go ?_
    refine dict_made rfl (by assumption) (by assumption) T'.nolimit (.head _) hys (fun p hp => by first | ((repeat (first | exact hp | apply List.Mem.tail)); done) | simp [hp]) ?_ ?_ ?_
    · exact (List.filter_sublist.map _).nodup hnod
    · exact Nat.le_trans (List.length_filter_le _ _) (by rw [sizeLine_eq]; omega)
    intro dn on h4 tk4 F4 N4 hdn hnm hne S4 hfr
    replace hfr := none_back S3 hfr
    have hl1 : (kvs.filter fun kv => notMed kv.1).length ≤ 9 := Nat.le_trans (List.length_filter_le _ _) hlen
    have hoffC : ∀ p ∈ [(L' + 1, oA)], p.1 ≠ dn := by
      intro p hp
      rw [List.mem_singleton.mp hp]
      exact hne (L' + 1, oA) (by simp)
    have hcell : ∀ p ∈ [(L' + 1, oA)], NoTup p.2 := by
      intro p hp
      rw [List.mem_singleton.mp hp]
      exact NoTup.ofCell dA
    replace N4 := cb_drop (news := [(dn, on), (L' + 1, oA)]) N4 (sub2 (by first | ((repeat (first | exact List.Mem.head _ | apply List.Mem.tail)); done) | simp) (by first | ((repeat (first | exact List.Mem.head _ | apply List.Mem.tail)); done) | simp))
    cases hsg with
    | nil => exact absurd rfl hPn
    | @cons v vs g Rr hs hR2 =>
      obtain ⟨k0, ns⟩ := g
      obtain ⟨a, t, b, rfl, hT1, ws, hT2, hI⟩ := hs
      have hwl : ws.length = ns.length := hI.length
      have hsz1 := hsz _ (List.mem_cons_self ..)
      dsimp only at hT1 hI hwl hsz1
      have hT := ht.isTup
      have hTa := hT1.isTup
      have hTb := hT2.isTup
      have hvn2 : vs.length < 2 ^ 20 := by
        have : vs.length = Rr.length := hR2.length
        simp only [List.length_cons] at hPl
        omega
      have hseg : SegsAt g' (Value.ref a :: vs) ((k0, ns) :: Rr) := .cons ⟨a, t, b, rfl, hT1, ws, hT2, hI⟩ hR2
      have hrl : ∀ h q, Sub g' h → PathAt h q (headed ((k0, ns) :: Rr) 9 2) → DRel h (valueAt (stored (stored (kvs.filter fun kv => notMed kv.1) (Str.ofString "as_path") (.ref q)) (Str.ofString "next_hop") (.int adr t5))) (dueOutside R ((k0, ns) :: Rr) adr) := by
        intro h q S hp
        exact (((hrel.keeps S).filter notMed).stored (fv := .path (headed ((k0, ns) :: Rr) 9 2)) ⟨q, rfl, hp⟩).stored (fv := .int adr) ⟨_, rfl⟩
      have hdom : Dom (dueOutside R ((k0, ns) :: Rr) adr) := ((hR.filter notMed).upd (by decide) _).upd (by decide) _
      have huk2 : dueOutside R ((k0, ns) :: Rr) adr (Str.ofString "unknown") = uk.map .unk := huk
      k_steps
      all_goals refine Halt.go ?_
      all_goals rename Fr g' _ _ _ => F6
      all_goals rename News g' _ _ _ => N6
      · rename (k0 = 2) => hk3
        refine set_path (P := headed ((k0, ns) :: Rr) 9 2) (cc := [(L' + 1, oA)]) F6 N6 (by k_mem) ?_ hdn (by rw [sizeLine_eq]; omega) ?_ ?_
        · intro p hp
          refine ⟨?_, hcell p hp, hoffC p hp⟩
          rw [List.mem_singleton.mp hp]
          simp
        · rw [show headed ((k0, ns) :: Rr) 9 2 = (2, 9 :: ns) :: Rr from if_pos hk3]
          exact path_cons N6 (by k_mem) (by k_mem) ⟨_, ⟨_, News.get N6 (by k_mem)⟩, .cons _ _ hI⟩ (hR2.keeps F6.keep)
        intro h10 o10 tk10 tl10 F10 N10 hd10 hpth hoffT
        k_steps
        refine Halt.go ?_
        refine dict_set (rest := [(L' + 1, oA)] ++ tl10) (by assumption) (by assumption) (.head _) (fun p hp => List.mem_cons_of_mem _ hp) hoffT hd10 (Nat.le_trans (stored_length_le ..) (by rw [sizeLine_eq]; omega)) ?_
        intro h11 o11 tk11 F11 N11 hd11
        k_steps
        rename News g' _ _ _ => N9
        refine Halt.go ?_
        refine' useD (ct_known w _ dn o11 _ _ uk hd11 hnm (hrl _ _ (Fr.keep F11) (hpth.here F11 N9 fun p hp => by first | ((repeat (first | exact hp | apply List.Mem.tail)); done) | simp [hp])) hdom huk2 hus) ?B ?F ?X ?T ?hk ?d ?u (cb_drop N9 (by intro p hp; rw [List.mem_singleton.mp hp]; exact List.mem_cons_self ..)) ?_
        (case B => k_asm); (case F => k_asm); (case X => k_asm); (case T => k_asm); (case hk => first | exact rfl | assumption)
        (case d => ktr_room)
        (case u => ktr_units)
        rintro r h12 tk12 F12 G12 ⟨rfl, o12, kv12, hg12, hd12, hr12⟩
        have N12 : News g' L' h12 [] := News.nil
        k_steps
        refine hret _ _ _ (sub_end GS (by assumption)) ?_
        show if 4294967041 ∈ comm.getD [] then _ else _
        rw [if_neg hex]
        exact ⟨_, rfl, hfr, kv12, Heap.dictOf_iff.mpr ⟨o12, hg12, hd12⟩, hnm, hr12⟩
      · rename (k0 ≠ 2) => hk3
        refine set_path (P := headed ((k0, ns) :: Rr) 9 2) (cc := [(L' + 1, oA)]) F6 N6 (by k_mem) ?_ hdn (by rw [sizeLine_eq]; omega) ?_ ?_
        · intro p hp
          refine ⟨?_, hcell p hp, hoffC p hp⟩
          rw [List.mem_singleton.mp hp]
          simp
        · rw [show headed ((k0, ns) :: Rr) 9 2 = (2, [9]) :: (k0, ns) :: Rr from if_neg hk3]
          exact path_cons N6 (by k_mem) (by k_mem) ⟨_, ⟨_, News.get N6 (by k_mem)⟩, .cons _ _ .nil⟩ (hseg.keeps F6.keep)
        intro h10 o10 tk10 tl10 F10 N10 hd10 hpth hoffT
        k_steps
        refine Halt.go ?_
        refine dict_set (rest := [(L' + 1, oA)] ++ tl10) (by assumption) (by assumption) (.head _) (fun p hp => List.mem_cons_of_mem _ hp) hoffT hd10 (Nat.le_trans (stored_length_le ..) (by rw [sizeLine_eq]; omega)) ?_
        intro h11 o11 tk11 F11 N11 hd11
        k_steps
        rename News g' _ _ _ => N9
        refine Halt.go ?_
        refine' useD (ct_known w _ dn o11 _ _ uk hd11 hnm (hrl _ _ (Fr.keep F11) (hpth.here F11 N9 fun p hp => by first | ((repeat (first | exact hp | apply List.Mem.tail)); done) | simp [hp])) hdom huk2 hus) ?B ?F ?X ?T ?hk ?d ?u (cb_drop N9 (by intro p hp; rw [List.mem_singleton.mp hp]; exact List.mem_cons_self ..)) ?_
        (case B => k_asm); (case F => k_asm); (case X => k_asm); (case T => k_asm); (case hk => first | exact rfl | assumption)
        (case d => ktr_room)
        (case u => ktr_units)
        rintro r h12 tk12 F12 G12 ⟨rfl, o12, kv12, hg12, hd12, hr12⟩
        have N12 : News g' L' h12 [] := News.nil
        k_steps
        refine hret _ _ _ (sub_end GS (by assumption)) ?_
        show if 4294967041 ∈ comm.getD [] then _ else _
        rw [if_neg hex]
        exact ⟨_, rfl, hfr, kv12, Heap.dictOf_iff.mpr ⟨o12, hg12, hd12⟩, hnm, hr12⟩
end
end
section
open PySem PySem.W PySem.Spec PySem.Calls PyProof.Rows
set_option pp.deepTerms false
set_option pp.deepTerms.threshold 6
set_option pp.proofs false
open PyProof.Rows.LCg
local macro_rules | `(tactic| walk_at "getMethod ref") => `(tactic| (k_here; (with_reducible show wpAny _ _ (getMethod (Value.ref _) _ _) _ _ _); refine' bd_method ?d ?_; (case d => first | exact kda_dict (by k_asm) (by k_mem) (by assumption) | exact Heap.DictOf.keep (by assumption) (Fr.keep (by assumption))); k_whole))
local macro_rules | `(tactic| walk_at "call builtin:dict.get") => `(tactic| (k_here; refine' bd_get2 ?d ?lo _ ?hb ?_; (case d => first | exact kda_dict (by k_asm) (by k_mem) (by assumption) | exact Heap.DictOf.keep (by assumption) (Fr.keep (by assumption))); (case lo => assumption); (case hb => assumption); k_whole))
local macro_rules | `(tactic| walk_at "binaryOp Add ref") => `(tactic| (refine Halt.mk ?_))
noncomputable def dueClient (R : Str → Option FV) (og : Option Int) (cls : List Int) (clu at' : Int) (b : Bool) : Str → Option FV :=
  let R1 := upd R (Str.ofString "local_pref") (some (.int 100))
  if b then upd (upd R1 (Str.ofString "originator") (some (.int (og.getD (99 + at'))))) (Str.ofString "clusters") (some (.nums (clu :: cls))) else R1
theorem ct_stepC (w : World) (s : Shared) (d o : Addr) (teller : Str) (R : Str → Option FV) (og : Option Int) (cls : Option (List Int)) (uk : Option (List (Int × Int × Array UInt8))) (at' id mem clu adr : Int) (tt t1 t2 : Tok) (hd : AttAt w s.heap d R) (hR : Dom R) (ho : OwnAt w s.heap o id mem clu adr)
    (hog : R (Str.ofString "originator") = og.map .int) (hcl : R (Str.ofString "clusters") = cls.map .nums) (hcs : (cls.getD []).length < 2 ^ 20)
    (huk : R (Str.ofString "unknown") = uk.map .unk) (hus : ∀ us, uk = some us → Flags us ∧ us.length < 2 ^ 20) :
    Asks 12 w 166 [.ref d, .ref o, .str teller t1, .str (Str.ofString "client") t2, .int at' tt] s (fun r h => ∃ d', r = .ref d' ∧ s.heap.get? d' = none ∧ AttAt w h d' (knownR (dueClient R og (cls.getD []) clu at' (teller == Str.ofString "ibgp")) uk)) := by
  w_top off
  unfold Asks
  k_fill
  intro dp un gd cn cs a₀ ccd cl outer A₀ base h₀ L m mean mg mb Q E B F X T hk hdp hun hret
  refine wpAny_call ?_
  refine' enterC ?k1 ?k2 ?k3 ?k5 ?kA ?kF ?kK ?k6 ?k7 ?k8 ?k9 ?kB ?kD ?_ ?c2 ?c3 ?c4
  (case k1 => k_asm); (case k2 => k_asm); (case k3 => k_asm); (case k5 => k_asm); (case kA => exact rfl); (case kF => exact rfl); (case kK => assumption)
  (case k6 => k_is); (case k7 => k_is); (case k8 => ktr_room); (case k9 => exact BindsTo.of_eq rfl); (case kB => exact rfl); (case kD => decide +kernel); (case c2 => exact rfl); (case c3 => exact rfl); (case c4 => exact rfl)
  intro g' L' h' tk' cells' GS FG' F' N' Y' B' X' T'
  k_cells Y'
  refine gen_et ?_
  intro Eg tkg
  rename_i oA oB dA dB
  obtain ⟨kvs, hdd, hlo, hrel⟩ := hd.keeps GS
  obtain ⟨kvo, hdo, ⟨t1, ho1⟩, ⟨t2, ho2⟩, ⟨t3, ho3⟩, ⟨t4, ho4⟩, ⟨t5, ho5⟩⟩ := ho.keeps GS
  have hnod := nodup_of hdd
  have hlen := dom_le hrel hR hnod
  have hgo : ∃ v, valueAt kvs (Str.ofString "originator") = v ∧ ∀ n t, ∃ t', v.getD (.int n t) = .int (og.getD n) t' := by
    cases og with
    | none => exact ⟨none, hrel.none hog, fun n t => ⟨t, rfl⟩⟩
    | some n =>
      obtain ⟨_, h1, t', rfl⟩ := hrel.some hog
      exact ⟨_, h1, fun _ _ => ⟨t', rfl⟩⟩
  obtain ⟨vo, hvo, hvo2⟩ := hgo
  obtain ⟨vc, hvc⟩ : ∃ v, valueAt kvs (Str.ofString "clusters") = v := ⟨_, rfl⟩
  have hqq : ∀ {v : Option Value} {h2 : Heap} {D2 : Addr}, valueAt kvs (Str.ofString "clusters") = v → Sub g' h2 → Tup h2 D2 [] → ∃ q ws, v.getD (.ref D2) = .ref q ∧ Tup h2 q ws ∧ IntsAre ws (cls.getD []) := by
    intro v h2 D2 hv S2 ht2
    cases hcl2 : cls with
    | none =>
      rw [hcl2] at hcl
      rw [hrel.none hcl] at hv
      subst hv
      exact ⟨D2, [], rfl, ht2, .nil⟩
    | some cs2 =>
      rw [hcl2] at hcl
      obtain ⟨_, h1, p2, rfl, ws, h3, h4⟩ := hrel.some hcl
      rw [h1] at hv
      subst hv
      exact ⟨p2, ws, rfl, h3.keeps S2, h4⟩
  (try dsimp only); (try k_fold)
  k_steps
  refine Halt.go ?_
  refine gcompT (by assumption) rfl (by decide) rfl (by decide) ?_
  k_steps
  rename Fr g' _ _ _ => F1
  rename News g' _ _ _ => N1
  refine dict_src rfl hdd hlo F1 N1 ?_
  intro I ep g9 F2 N2 hLI hI0 hoff hst W hself hio hfp
  refine ⟨I, _, _, kvs.length, _, _, _, [], _, _, fun i ys n' => ∃ tl, n' = (L' + 1 + 1, oA) :: (L' + 1, oB) :: tl ∧ PairsN tl ys (kvs.take i), rfl, W _, hself, (by rw [sizeLine_eq]; omega), hio, (by simp), (by simp), hfp, asg_name rfl (by decide), hst, F2, N2, hLI, hI0, hoff, (fun _ h => nomatch h), ⟨[], rfl, .nil⟩, ?_, ?_⟩
  · rintro i v ys n1 I oI C oC D m2 h3 tk3 E' hi ⟨k, x, t, hkx, rfl⟩ hm ⟨tl, rfl, hys⟩ hoC F3 N3 O3 hne hkp
    have hval := valueAt_of_get hnod hkx
    k_steps
    rename (_ ∧ _ ∧ _ ∧ _ ∧ _ ∧ AllLt _ _) => hlt
    rename_i D2 h2 F2' N2'
    refine ⟨_, _, (L' + 1 + 1, oA) :: (L' + 1, oB) :: (D2, tupO [.str k t, x] 0) :: tl, rfl, (by assumption), cb_drop (by assumption) ?_, Off3.of ?_, (fun _ h => nomatch h), _, rfl, ?_⟩
    · intro p hp
      simp only [List.mem_cons] at hp ⊢
      rcases hp with e | e | e | e | e | e | e <;> simp [e]
    · intro p hp
      simp only [List.mem_cons] at hp
      rcases hp with e | e | e | e
      · exact O3.mem p (by simp [e])
      · exact O3.mem p (by simp [e])
      · rw [e]
        dsimp only
        refine ⟨?_, ?_, ?_⟩ <;> refine neN ?_ <;> omega
      · exact O3.mem p (by simp [e])
    · rw [List.take_add_one, hkx]
      exact (hys.mono fun p hp => List.mem_cons_of_mem _ hp).append (.cons (List.mem_cons_self ..) .nil)
  · rintro ys n1 ⟨tl, rfl, hys⟩ D h3 tk3 F3 N3 O3
    rw [List.take_length] at hys
    have S3 := sub_end GS F3
    k_steps
    refine Halt.go ?_
    refine dict_made rfl (by assumption) (by assumption) T'.nolimit (.head _) hys (fun p hp => by first | ((repeat (first | exact hp | apply List.Mem.tail)); done) | simp [hp]) hnod (by rw [sizeLine_eq]; omega) ?_
    intro dn on h4 tk4 F4 N4 hdn hnm hne S4 hfr
    replace hfr := none_back S3 hfr
    have hoffC : ∀ p ∈ [(L' + 1 + 1, oA), (L' + 1, oB)], p.1 ≠ dn := by
      intro p hp
      simp only [List.mem_cons, List.not_mem_nil, or_false] at hp
      rcases hp with e | e <;> exact hne p (by simp [e])
    k_steps
    refine Halt.go ?_
    rename News g' _ _ _ => N5
    refine dict_set (rest := [(L' + 1 + 1, oA), (L' + 1, oB)]) (by assumption) (by assumption) (.head _) (sub2 (by first | ((repeat (first | exact List.Mem.head _ | apply List.Mem.tail)); done) | simp) (by first | ((repeat (first | exact List.Mem.head _ | apply List.Mem.tail)); done) | simp)) hoffC hdn (by rw [sizeLine_eq]; omega) ?_
    intro h5 o5 tk5 F5 N5' hd5
    clear N5
    have hcell : ∀ p ∈ [(L' + 1 + 1, oA), (L' + 1, oB)], NoTup p.2 := by
      intro p hp
      simp only [List.mem_cons, List.not_mem_nil, or_false] at hp
      rcases hp with e | e <;> rw [e]
      · exact NoTup.ofCell dA
      · exact NoTup.ofCell dB
    have hrl1 : ∀ h, Sub g' h → ∀ u, DRel h (valueAt (stored kvs (Str.ofString "local_pref") (.int 100 u))) (upd R (Str.ofString "local_pref") (some (.int 100))) := fun h S u => (hrel.keeps S).stored (fv := .int 100) ⟨_, rfl⟩
    have hl2 : ∀ u, (stored kvs (Str.ofString "local_pref") (Value.int 100 u)).length ≤ 10 := fun u => Nat.le_trans (stored_length_le ..) (by omega)
    have hcm : ∀ p ∈ [(L' + 1 + 1, oA), (L' + 1, oB)], p = (L' + 1 + 1, oA) ∨ p = (L' + 1, oB) := by simp
    k_steps
    · rename_i hib
      obtain ⟨t9, e9⟩ := hvo2 (99 + at') (tk + 1 + 1)
      rw [e9]
      refine Halt.go ?_
      refine dict_set (rest := [(L' + 1 + 1, oA), (L' + 1, oB)]) (by assumption) N5' (.head _) (fun p hp => List.mem_cons_of_mem _ hp) hoffC hd5 (Nat.le_trans (hl2 _) (by rw [sizeLine_eq]; omega)) ?_
      intro h6 o6 tk6 F6 N6 hd6
      clear N5'
      have hl3 : ∀ u, (stored (stored kvs (Str.ofString "local_pref") (Value.int 100 u)) (Str.ofString "originator") (Value.int (og.getD (99 + at')) t9)).length ≤ 11 := fun u => Nat.le_trans (stored_length_le ..) (Nat.succ_le_succ (hl2 u))
      k_steps
      refine Halt.go ?_
      rename News g' _ _ _ => N7
      rename Fr g' _ _ _ => F7
      obtain ⟨q, ws, e5, ht5, hi5⟩ := hqq hvc F7.keep ⟨_, (N7 _ (.head _)).1⟩
      rw [e5]
      have hwl := hi5.length
      refine add_tup F7 N7 (.tail _ (.head _)) (by simp) ht5 (by rw [hwl, sizeLine_eq]; simp; omega) ?_
      intro q6 h8 n6 F8 N8
      clear N7
      k_steps
      refine Halt.go ?_
      have hoff6 : ∀ p ∈ [(L' + 1 + 1, oA), (L' + 1, oB), (q6, tupO ([Value.int clu t4] ++ ws) n6)], p.1 ≠ dn := by
        intro p hp
        simp only [List.mem_cons, List.not_mem_nil, or_false] at hp
        rcases hp with e | e | e
        · exact hoffC p (by simp [e])
        · exact hoffC p (by simp [e])
        · exact off_dict (rest := [(q6, tupO ([Value.int clu t4] ++ ws) n6)]) N8 (by simp) hd6 (by simp) p (by simp [e])
      refine dict_set (rest := [(L' + 1 + 1, oA), (L' + 1, oB), (q6, tupO ([Value.int clu t4] ++ ws) n6)]) F8 N8 (by simp) (by simp) hoff6 hd6 (Nat.le_trans (hl3 _) (by rw [sizeLine_eq]; omega)) ?_
      intro h11 o11 tk11 F11 N11 hd11
      k_steps
      rename News g' _ _ _ => N9
      rename Fr g' _ _ _ => F9
      have hrl2 : ∀ u, DRel h11 (valueAt (stored (stored (stored kvs (Str.ofString "local_pref") (Value.int 100 u)) (Str.ofString "originator") (Value.int (og.getD (99 + at')) t9)) (Str.ofString "clusters") (Value.ref q6))) (dueClient R og (cls.getD []) clu at' true) := fun u => ((hrl1 h11 F9.keep u).stored (k := Str.ofString "originator") (fv := .int (og.getD (99 + at'))) ⟨t9, rfl⟩).stored (k := Str.ofString "clusters") (fv := .nums (clu :: cls.getD [])) ⟨q6, rfl, _, ⟨_, (N9 (q6, tupO ([Value.int clu t4] ++ ws) n6) (by simp)).1⟩, .cons _ _ hi5⟩
      have hdom : Dom (dueClient R og (cls.getD []) clu at' true) := ((hR.upd (by decide) _).upd (by decide) _).upd (by decide) _
      refine Halt.go ?_
      refine' useD (ct_known w _ dn o11 _ _ uk hd11 hnm (hrl2 _) hdom huk hus) ?B ?F ?X ?T ?hk ?d ?u (cb_drop N9 (by intro p hp; rw [List.mem_singleton.mp hp]; exact List.mem_cons_self ..)) ?_
      (case B => k_asm); (case F => k_asm); (case X => k_asm); (case T => k_asm); (case hk => first | exact rfl | assumption)
      (case d => ktr_room)
      (case u => ktr_units)
      rintro r h12 tk12 F12 G12 ⟨rfl, o12, kv12, hg12, hd12, hr12⟩
      have N12 : News g' L' h12 [] := News.nil
      k_steps
      rw [hib] at hret
      exact hret _ _ _ (sub_end GS (by assumption)) ⟨_, rfl, hfr, kv12, Heap.dictOf_iff.mpr ⟨o12, hg12, hd12⟩, hnm, hr12⟩
    · rename_i hib _
      rename News g' _ _ _ => N9
      have hdom : Dom (dueClient R og (cls.getD []) clu at' false) := hR.upd (by decide) _
      refine Halt.go ?_
      refine' useD (ct_known w _ dn o5 _ (dueClient R og (cls.getD []) clu at' false) uk hd5 hnm (hrl1 _ (Fr.keep F5) _) hdom huk hus) ?B ?F ?X ?T ?hk ?d ?u (cb_drop N9 (by intro p hp; rw [List.mem_singleton.mp hp]; exact List.mem_cons_self ..)) ?_
      (case B => k_asm); (case F => k_asm); (case X => k_asm); (case T => k_asm); (case hk => first | exact rfl | assumption)
      (case d => ktr_room)
      (case u => ktr_units)
      rintro r h12 tk12 F12 G12 ⟨rfl, o12, kv12, hg12, hd12, hr12⟩
      have N12 : News g' L' h12 [] := News.nil
      k_steps
      rw [hib] at hret
      exact hret _ _ _ (sub_end GS (by assumption)) ⟨_, rfl, hfr, kv12, Heap.dictOf_iff.mpr ⟨o12, hg12, hd12⟩, hnm, hr12⟩
end
end Mine
end
section
open PySem PySem.W PySem.Spec PySem.Calls PyProof.Rows
namespace Mine
open PySem Builtin
theorem noFill_tuple_mul : fillsNumberSlot (.type "tuple") "mul" = pure false :=
  PySem.fillsNumberSlot_seq (id := "tuple.__mul__") (r := some (.builtin "tuple.__rmul__")) F.slot_tuple_mul.lookup (by decide +kernel) F.slot_tuple_rmul.lookup (by decide +kernel)
theorem repeat_tuple : seqRepeat? (.type "tuple") = pure (some (.builtin "tuple.__mul__")) := by
  unfold seqRepeat?
  rw [PySem.seqSlot_of (T := "tuple") (name := "__mul__") (id := "tuple.__mul__") F.slot_tuple_mul.lookup (by decide +kernel), PySem.seqSlot_of (T := "tuple") (name := "__rmul__") (id := "tuple.__rmul__") F.slot_tuple_rmul.lookup (by decide +kernel)]
  rfl
theorem int_rmul_tuple (a : Int) (t : Tok) (l : Addr) (items : Array Value) (n : Nat) :
    Meets (Builtin.«int.__rmul__» ⟨[.int a t, .ref l], []⟩) (fun _ R s => s.heap.get? l = some { cls := .type "tuple", data := .seq items n } ∧ R (.ok (.ret Value.notImplemented)) s) :=
  .of_wp fun prog w A R s h => by obtain ⟨hp, g, d, tk, os⟩ := s; obtain ⟨hl, h⟩ := h; wp_walk; exact ⟨_, rfl, h⟩
theorem tuple_mul1 (l : Addr) (items : Array Value) (n : Nat) (u : Tok) :
    Meets (Builtin.«tuple.__mul__» ⟨[.ref l, .int 1 u], []⟩) (fun _ R s => s.heap.get? l = some { cls := .type "tuple", data := .seq items n } ∧ R (.ok (.ret (.ref l))) s) :=
  .of_wp fun prog w A R s h => by
    obtain ⟨hp, g, d, tk, os⟩ := s; obtain ⟨hl, h⟩ := h
    wp_walk
    exact ⟨_, rfl, h⟩
theorem tuple_mul0 (l : Addr) (v : Value) (n : Nat) (u : Tok) :
    Meets (Builtin.«tuple.__mul__» ⟨[.ref l, .int 0 u], []⟩) (fun _ R s => s.heap.get? l = some { cls := .type "tuple", data := .seq #[v] n } ∧ R (.ok (.ret (.ref s.heap.objs.size))) { s with heap := s.heap.push { cls := .type "tuple", data := .seq #[] } }) :=
  .of_wp fun prog w A R s h => by
    obtain ⟨hp, g, d, tk, os⟩ := s; obtain ⟨hl, h⟩ := h
    wp_walk
    exact ⟨_, rfl, h⟩
section
variable {prog : Program} {w : World} {A : Around} {E : Value → Shared → Prop} {s : Shared} {h₀ : Heap} {L T : Addr} {m : Str → Option Value} {led : List (Addr × Obj)} {v : Value} {n : Nat} {u : Tok} {Q : Value → Shared → Prop}
theorem mul_one (N : News h₀ L s.heap led) (hm : (T, { cls := .type "tuple", data := .seq #[v] n }) ∈ led) (h : Q (.ref T) s) : wpAny (model prog w) A (binaryOp .Mult (.ref T) (.int 1 u)) Q E s := by
  have ho := (N _ hm).1
  exact wpAny_binaryOp_repeat_ref (T := "tuple") (U := "int") (by decide) ⟨_, ho, rfl⟩ (fun s' => typeIs_int s' 1 u) noFill_tuple_mul F.fills_int_mul F.slot_int_rmul repeat_tuple F.slot_int_index.lookup
    (call_meets F.slot_int_rmul (typeIs_int s 1 u) F.entry_int_rmul (F.args_int_rmul_2 _ _) (int_rmul_tuple 1 u T #[v] n)
      ⟨ho, rfl, ⟨_, ho, rfl⟩, call_meets F.slot_tuple_mul ⟨_, ho, rfl⟩ F.entry_tuple_mul (F.args_tuple_mul_2 _ _) (tuple_mul1 T #[v] n u) ⟨ho, h⟩⟩)
theorem mul_zero' (F₀ : Fr h₀ L s.heap m) (N : News h₀ L s.heap led) (hm : (T, { cls := .type "tuple", data := .seq #[v] n }) ∈ led)
    (h : ∀ D h', Fr h₀ L h' m → News h₀ L h' ((D, tupO [] 0) :: led) → Q (.ref D) { s with heap := h' }) : wpAny (model prog w) A (binaryOp .Mult (.ref T) (.int 0 u)) Q E s := by
  have ho := (N _ hm).1
  exact wpAny_binaryOp_repeat_ref (T := "tuple") (U := "int") (by decide) ⟨_, ho, rfl⟩ (fun s' => typeIs_int s' 0 u) noFill_tuple_mul F.fills_int_mul F.slot_int_rmul repeat_tuple F.slot_int_index.lookup
    (call_meets F.slot_int_rmul (typeIs_int s 0 u) F.entry_int_rmul (F.args_int_rmul_2 _ _) (int_rmul_tuple 0 u T #[v] n)
      ⟨ho, rfl, ⟨_, ho, rfl⟩, call_meets F.slot_tuple_mul ⟨_, ho, rfl⟩ F.entry_tuple_mul (F.args_tuple_mul_2 _ _) (tuple_mul0 T v n u) ⟨ho, h _ _ (F₀.push _) (News.push F₀ N _)⟩⟩)
end
end Mine
end
section
open PySem PySem.W PySem.Spec PySem.Calls PyProof.Rows
set_option pp.deepTerms false
set_option pp.deepTerms.threshold 6
set_option pp.proofs false
namespace Mine
open PyProof.Rows.LCg
local macro_rules | `(tactic| walk_at "binaryOp Add ref ref") => `(tactic| (k_here; (with_reducible show wpAny _ _ (binaryOp Operator.Add (Value.ref _) (Value.ref _)) _ _ _); refine' add_tup ?F ?N ?l ?x ?b ?z ?_; (case F => k_asm); (case N => k_asm); (case l => k_mem); (case x => simp); (case b => first | exact Tup.keeps (by assumption) (Fr.keep (by assumption)) | exact ⟨_, News.get (by k_asm) (by k_mem)⟩); (case z => simp only [List.length_cons, List.length_nil, sizeLine_eq] at *; first | omega | (simp; omega)); intro q h1 n1 F1 N1))
local macro_rules | `(tactic| walk_at "call ref") => `(tactic| (refine Halt.mk ?_))
local macro_rules | `(tactic| walk_at "eval ListComp") => `(tactic| (refine Halt.mk ?_))
local macro_rules | `(tactic| walk_at "call type:dict") => `(tactic| (refine Halt.mk ?_))
local macro_rules | `(tactic| walk_at "setItem ref str") => `(tactic| (refine Halt.mk ?_))
local macro_rules | `(tactic| walk_at "binaryOp Mult") => `(tactic| (refine Halt.mk ?_))
local macro_rules | `(tactic| walk_at "subscriptTail") => `(tactic| (refine Halt.mk ?_))
local macro_rules | `(tactic| walk_at "compareOp NotEq ref ref") => `(tactic| (refine Halt.mk ?_))
local macro_rules | `(tactic| walk_at "execs cons") => `(tactic| (k_here; (try dsimp only); (with_reducible refine wpAny_execs_cons ?_); (try dsimp only)))
local macro_rules | `(tactic| walk_at "execs nil") => `(tactic| (k_here; (try dsimp only); (with_reducible refine wpAny_execs_nil ?_); (try dsimp only)))
local macro_rules | `(tactic| walk_at "ite") => `(tactic| (k_here; first | with_reducible refine ite_tt ?_ | with_reducible refine ite_ff ?_))
theorem none_backG {h h' : Heap} {d : Addr} {adr : List Addr} (S : GSub h h' adr) (hd : d ∉ adr) (e : h'.get? d = none) : h.get? d = none := by
  cases q : h.get? d with
  | none => rfl
  | some o => rw [S _ _ q hd] at e; cases e
theorem mul_01 {prog : Program} {w : World} {A : Around} {E : Value → Shared → Prop} {s : Shared} {h₀ : Heap} {L T : Addr} {m : Str → Option Value} {led : List (Addr × Obj)} {v : Value} {n : Nat} {k : Int} {u : Tok} {Q : Value → Shared → Prop} (F₀ : Fr h₀ L s.heap m) (N : News h₀ L s.heap led) (hm : (T, { cls := .type "tuple", data := .seq #[v] n }) ∈ led) (hk : 0 ≤ k ∧ k < 2)
    (h : ∀ D h' vs n', Fr h₀ L h' m → News h₀ L h' ((D, tupO vs n') :: led) → (vs = [] ∨ vs = [v]) → Q (.ref D) { s with heap := h' }) : wpAny (model prog w) A (binaryOp .Mult (.ref T) (.int k u)) Q E s := by
  have : k = 0 ∨ k = 1 := by omega
  rcases this with rfl | rfl
  · exact mul_zero' F₀ N hm fun D h' F' N' => h D h' [] 0 F' N' (.inl rfl)
  · refine mul_one N hm (h T s.heap [v] n F₀ ?_ (.inr rfl))
    intro p hp
    rcases List.mem_cons.mp hp with rfl | hp
    · exact N _ hm
    · exact N p hp
theorem box_move {g h h' : Heap} {S : Addr} {k : Int} {o x : Obj} (hb : BoxAt h S k o) (hS : g.get? S = some x) (S1 : Sub g h) (S2 : Sub g h') : BoxAt h' S k o := by
  obtain ⟨t, n, ws, xs, e, hl, hi, hw⟩ := hb
  obtain ⟨y, hy, hc, z⟩ := hl
  have e2 : y = x := Option.some.inj (hy.symm.trans (S1 _ _ hS))
  exact ⟨t, n, ws, xs, e, ⟨y, by rw [e2]; exact S2 _ _ hS, hc, z⟩, hi, hw⟩
noncomputable def CameP (P : List (Int × List Int)) : Prop := ∃ a more, (a = 201 ∨ a = 202 ∨ a = 203) ∧ (more = [] ∨ more = [205]) ∧ (P = [(2, a :: more)] ∨ P = [(2, a :: more), (1, [207, 208])] ∨ P = [(1, [207]), (2, [a])])
theorem BoxAt.noTup {b : Addr} {h : Heap} {S : Addr} {k : Int} {o : Obj} (hb : BoxAt h S k o) : ∀ q ∈ [(b, o)], NoTup q.2 := by
  intro q hq
  rw [List.mem_singleton.mp hq]
  obtain ⟨t, n, ws, xs, e, _⟩ := hb
  exact NoTup.ofCls (by rw [e]; intro e; injection e with e; exact absurd e (by decide))
theorem pick3g {α : Type} {A : α → Addr → Prop} {p0 p1 p2 : Addr} {P0 P1 P2 : α} {n : Int} (h0 : A P0 p0) (h1 : A P1 p1) (h2 : A P2 p2) (hn : 0 ≤ n ∧ n < 3) : ∃ p P, [Value.ref p0, Value.ref p1, Value.ref p2][n.toNat]? = some (.ref p) ∧ A P p ∧ (P = P0 ∨ P = P1 ∨ P = P2) := by
  have : n = 0 ∨ n = 1 ∨ n = 2 := by omega
  rcases this with rfl | rfl | rfl
  · exact ⟨p0, P0, rfl, h0, .inl rfl⟩
  · exact ⟨p1, P1, rfl, h1, .inr (.inl rfl)⟩
  · exact ⟨p2, P2, rfl, h2, .inr (.inr rfl)⟩
noncomputable def CameC (c : Option (List Int)) : Prop := c = none ∨ c = some [655, 4294967041] ∨ c = some [655]
noncomputable def CameU (c : Option (List (Int × Int × Array UInt8))) : Prop := c = none ∨ c = some [(192, 40, #[97])] ∨ c = some [(128, 41, #[98]), (224, 42, #[])]
noncomputable def cameB (o : Int) (P : List (Int × List Int)) : Str → Option FV := fun k =>
  if Str.ofString "origin" = k then some (.int o) else if Str.ofString "as_path" = k then some (.path P) else if Str.ofString "next_hop" = k then some (.int 77) else if Str.ofString "med" = k then some (.int 5) else none
noncomputable def cameR (o : Int) (P : List (Int × List Int)) (cm : Option (List Int)) (uk : Option (List (Int × Int × Array UInt8))) : Str → Option FV := fun k =>
  if k = Str.ofString "unknown" then uk.map .unk else if k = Str.ofString "communities" then cm.map .nums else cameB o P k
theorem came_base {h : Heap} {o : Int} {P : List (Int × List Int)} {p : Addr} {t u v : Tok} (hp : PathAt h p P) : DRel h (valueAt [(Str.ofString "origin", Value.int o t), (Str.ofString "as_path", .ref p), (Str.ofString "next_hop", .int 77 u), (Str.ofString "med", .int 5 v)]) (cameR o P none none) := by
  intro k
  have e : cameR o P none none k = cameB o P k := by
    unfold cameR
    by_cases h1 : k = Str.ofString "unknown"
    · subst h1; rfl
    · by_cases h2 : k = Str.ofString "communities"
      · subst h2; rfl
      · rw [if_neg h1, if_neg h2]
  rw [e, valueAt_cons, valueAt_cons, valueAt_cons, valueAt_cons, valueAt_nil]
  unfold cameB
  dsimp only
  by_cases h1 : Str.ofString "origin" = k
  · rw [if_pos h1, if_pos h1]; exact ⟨_, rfl⟩
  rw [if_neg h1, if_neg h1]
  by_cases h2 : Str.ofString "as_path" = k
  · rw [if_pos h2, if_pos h2]; exact ⟨_, rfl, hp⟩
  rw [if_neg h2, if_neg h2]
  by_cases h3 : Str.ofString "next_hop" = k
  · rw [if_pos h3, if_pos h3]; exact ⟨_, rfl⟩
  rw [if_neg h3, if_neg h3]
  by_cases h4 : Str.ofString "med" = k
  · rw [if_pos h4, if_pos h4]; exact ⟨_, rfl⟩
  rw [if_neg h4, if_neg h4]
  trivial
theorem cameR_comm {o : Int} {P : List (Int × List Int)} {ms : List Int} : upd (cameR o P none none) (Str.ofString "communities") (some (.nums ms)) = cameR o P (some ms) none := by
  funext k
  unfold upd cameR
  by_cases h1 : k = Str.ofString "communities"
  · subst h1; rfl
  · simp [h1]
theorem cameR_unk {o : Int} {P : List (Int × List Int)} {cm : Option (List Int)} {us : List (Int × Int × Array UInt8)} : upd (cameR o P cm none) (Str.ofString "unknown") (some (.unk us)) = cameR o P cm (some us) := by
  funext k
  unfold upd cameR
  by_cases h1 : k = Str.ofString "unknown"
  · subst h1; simp
  · simp [h1]
theorem nil_same {α β : Type} [DecidableEq α] [DecidableEq β] {xs : List α} {ys : List β} (h : xs.length = ys.length) : decide (xs = []) = decide (ys = []) := by
  cases xs <;> cases ys <;> simp_all
theorem ct_came (w : World) (s : Shared) (b S : Addr) (o xS : Obj) (hb : BoxAt s.heap S 0 o) (hne : S ≠ b) (hxS : s.heap.get? S = some xS) :
    AsksD 12 w 149 [.ref b] [(b, o)] s (fun r h => (∃ d n P cm uk, r = .ref d ∧ s.heap.get? d = none ∧ CameP P ∧ CameC cm ∧ CameU uk ∧ AttAt w h d (cameR n P cm uk)) ∧ ∃ o', h.get? b = some o' ∧ BoxAt h S 6 o') := by
  w_top off
  unfold AsksD
  k_fill
  intro dp un gd cn cs a₀ ccd cl outer A₀ base h₀ L m mean mg mb Q E B F X T hk NL hdp hun hret
  refine wpAny_call ?_
  refine' code_defG ?k1 ?k2 ?k3 NL ?k5 ?kA ?kF ?kK ?k6 ?k7 ?k8 ?k9 ?kB ?_ ?c2 ?c3 ?c4 ?c5
  (case k1 => k_asm); (case k2 => k_asm); (case k3 => k_asm); (case k5 => k_asm); (case kA => exact rfl); (case kF => exact rfl); (case kK => assumption)
  (case k6 => k_is); (case k7 => k_is); (case k8 => ktr_room); (case k9 => exact BindsTo.of_eq rfl); (case c5 => decide); (case kB => exact locs rfl); (case c2 => exact rfl); (case c3 => exact rfl); (case c4 => exact rfl)
  intro g' L' h' FG' F' N' B' X' T' GS
  refine gen_et ?_
  intro Eg tkg
  have hS : g'.get? S = some xS := GS _ _ hxS (by simpa using hne)
  have hb0 : ∀ h, Sub g' h → BoxAt h S 0 o := by
    intro h k
    obtain ⟨t, n, ws, xs, e, hl, hi, hw⟩ := hb
    obtain ⟨y, hy, hc, z⟩ := hl
    have e2 : y = xS := Option.some.inj (hy.symm.trans hxS)
    exact ⟨t, n, ws, xs, e, ⟨y, by rw [e2]; exact k _ _ hS, hc, z⟩, hi, hw⟩
  (try dsimp only); (try k_fold)
  k_steps
  rename News g' _ _ _ => N1
  rename Fr g' _ _ _ => F1
  refine Halt.go ?_
  refine' useD (ct_draw w _ b S o 0 3 _ (hb0 _ F1.keep) hne (by decide) (by decide)) ?B ?F ?X ?T ?hk ?d ?u N1 ?_
  (case B => k_asm); (case F => k_asm); (case X => k_asm); (case T => k_asm); (case hk => first | exact rfl | assumption)
  (case d => ktr_room)
  (case u => ktr_units)
  rintro r h2 tk2 F2 G2 ⟨⟨n1, t1, rfl, hn1⟩, o2, hg2, hb2⟩
  have N2 := newsAt (c := []) N1 (.head _) hg2 News.nil
  clear N1
  have K2 : Sub g' h2 := F2.keep
  k_steps
  rename_i DT h3 F3 N3 l3
  refine Halt.go ?_
  refine' useD (ct_draw w _ b S o2 _ 2 _ (box_move hb2 hS K2 F3.keep) hne (by decide) (by decide)) ?B ?F ?X ?T ?hk ?d ?u (cb_drop (news := [(b, o2)]) N3 (by simp)) ?_
  (case B => k_asm); (case F => k_asm); (case X => k_asm); (case T => k_asm); (case hk => first | exact rfl | assumption)
  (case d => ktr_room)
  (case u => ktr_units)
  rintro r h4 tk4 F4 G4 ⟨⟨n2, t2, rfl, hn2⟩, o4, hg4, hb4⟩
  have N4 := newsAt (c := _) N3 (.tail _ (.head _)) hg4 (newsGSub (cb_drop (news := [(DT, _)]) N3 (fun p hp => by rw [List.mem_singleton.mp hp]; exact List.mem_cons_self ..)) G4 (by intro p hp; rw [List.mem_singleton.mp hp]; simpa using Nat.ne_of_gt l3))
  clear N3
  k_steps
  refine Halt.go ?_
  refine mul_01 F4 N4 (.tail _ (.head _)) hn2 ?_
  intro DM h5 vm nm F5 N5 hvm
  have hvl : vm.length ≤ 1 := by rcases hvm with rfl | rfl <;> simp
  obtain ⟨more, hmore, hIm⟩ : ∃ more, (more = [] ∨ more = [205]) ∧ IntsAre vm more := by
    rcases hvm with rfl | rfl
    · exact ⟨[], .inl rfl, .nil⟩
    · exact ⟨[205], .inr rfl, .cons _ _ .nil⟩
  have K4 : Sub g' h4 := F4.keep
  k_steps
  rename_i Dbig h6 F6 N6 l6
  obtain ⟨p0, p1, p2, hbig, hp0, hp1, hp2⟩ : ∃ p0 p1 p2, Tup h6 Dbig [.ref p0, .ref p1, .ref p2] ∧ PathAt h6 p0 [(2, (201 + n1) :: more)] ∧ PathAt h6 p1 [(2, (201 + n1) :: more), (1, [207, 208])] ∧ PathAt h6 p2 [(1, [207]), (2, [201 + n1])] := by
    refine ⟨_, _, _, ⟨_, (N6 _ (.head _)).1⟩, ?_, ?_, ?_⟩
    · exact path_cons N6 (by k_mem) (by k_mem) ⟨_, ⟨_, News.get N6 (by k_mem)⟩, .cons _ _ hIm⟩ .nil
    · exact path_cons N6 (by k_mem) (by k_mem) ⟨_, ⟨_, News.get N6 (by k_mem)⟩, .cons _ _ hIm⟩ (.cons ⟨_, _, _, rfl, ⟨_, News.get N6 (by k_mem)⟩, _, ⟨_, News.get N6 (by k_mem)⟩, .cons _ _ (.cons _ _ .nil)⟩ .nil)
    · exact path_cons N6 (by k_mem) (by k_mem) ⟨_, ⟨_, News.get N6 (by k_mem)⟩, .cons _ _ .nil⟩ (.cons ⟨_, _, _, rfl, ⟨_, News.get N6 (by k_mem)⟩, _, ⟨_, News.get N6 (by k_mem)⟩, .cons _ _ .nil⟩ .nil)
  clear l6
  have hb6 := box_move hb4 hS K4 F6.keep
  have Nb6 := cb_drop (news := [(b, o4)]) N6 (by simp)
  obtain ⟨tl6, N6', Sn6⟩ := freeze F6 Nb6
  replace hbig := Seen.tup F6 N6' Sn6 hb6.noTup hbig
  replace hp0 := Seen.path F6 N6' Sn6 hb6.noTup hp0
  replace hp1 := Seen.path F6 N6' Sn6 hb6.noTup hp1
  replace hp2 := Seen.path F6 N6' Sn6 hb6.noTup hp2
  refine Halt.go ?_
  refine' useD (ct_draw w _ b S o4 _ 3 _ hb6 hne (by decide) (by decide)) ?B ?F ?X ?T ?hk ?d ?u Nb6 ?_
  (case B => k_asm); (case F => k_asm); (case X => k_asm); (case T => k_asm); (case hk => first | exact rfl | assumption)
  (case d => ktr_room)
  (case u => ktr_units)
  rintro r h7 tk7 F7 G7 ⟨⟨n3, t3, rfl, hn3⟩, o7, hg7, hb7⟩
  have N7 : News g' L' h7 ((b, o7) :: tl6) := newsAt Nb6 (.head _) hg7 (newsGSub (fun p hp => N6' p (by first | ((repeat (first | exact hp | apply List.Mem.tail)); done) | simp [hp])) G7 (fun p hp => by simpa using Sn6.apart p hp _ (.head _)))
  have K7 : Sub g' h7 := F7.keep
  clear N6 N6' Nb6
  have hmem7 : ∀ p ∈ tl6, p ∈ (b, o7) :: tl6 := fun p hp => List.mem_cons_of_mem _ hp
  obtain ⟨pp, P, hpx, hpp, hP⟩ := pick3g (A := fun P p => Seen g' tl6 fun h => PathAt h p P) hp0 hp1 hp2 hn3
  have hPC : CameP P := ⟨201 + n1, more, by omega, hmore, hP⟩
  k_steps
  refine Halt.go ?_
  refine kba_turn (value' := PySem.Expr.Name (PySem.Str.ofString "_") ⟨0, 0, 0, 0⟩) (fun _ => rfl) ?_
  with_unfolding_all refine' item_at (hbig.here F7 N7 hmem7).isTup hn3.1 (by omega) hpx ?_
  (try dsimp only)
  k_steps
  rename_i _ dd h8 od F8 N8 lod hod l8
  have Nb8 := cb_drop (news := [(b, o7)]) N8 (by simp)
  have hb8 := box_move hb7 hS K7 F8.keep
  refine Halt.go ?_
  refine' useD (ct_draw w _ b S o7 _ 3 _ hb8 hne (by decide) (by decide)) ?B ?F ?X ?T ?hk ?d ?u Nb8 ?_
  (case B => k_asm); (case F => k_asm); (case X => k_asm); (case T => k_asm); (case hk => first | exact rfl | assumption)
  (case d => ktr_room)
  (case u => ktr_units)
  rintro r h9 tk9 F9 G9 ⟨⟨n4, t4, rfl, hn4⟩, o9, hg9, hb9⟩
  have N9 : News g' L' h9 ((b, o9) :: (dd, od) :: tl6) := newsAt Nb8 (.head _) hg9 (newsGSub (cb_drop (news := (dd, od) :: tl6) N8 (by intro p hp; rcases List.mem_cons.mp hp with e | e <;> simp [e])) G9 (by
    intro p hp
    rcases List.mem_cons.mp hp with e | e
    · rw [e]; simpa using Nat.ne_of_gt l8.1
    · simpa using Sn6.apart p e _ (.head _)))
  have K9 : Sub g' h9 := F9.keep
  clear N8 Nb8
  k_steps
  rename_i od2 hodX _ _ _ _ _ _ _ _ _ _ Dm h10 F10 N10 l10
  obtain ⟨kv0, hod2, hrel0, hl0⟩ : ∃ kv0, od2.IsDictOf (PySem.strKind PR w) kv0 ∧ (∀ h, PathAt h pp P → DRel h (valueAt kv0) (cameR n4 P none none)) ∧ kv0.length ≤ 4 := by
    refine ⟨_, hodX, fun h hp => ?_, ?_⟩
    · simp only [strPairs]
      exact came_base hp
    · simp only [strPairs, List.length_cons, List.length_nil]
      omega
  clear hodX
  obtain ⟨m0, m1, m2, hbigM, hm0, hm1, hm2⟩ : ∃ p0 p1 p2, Tup h10 Dm [.ref p0, .ref p1, .ref p2] ∧ TupI h10 p0 [] ∧ TupI h10 p1 [655, 4294967041] ∧ TupI h10 p2 [655] := by
    refine ⟨_, _, _, ⟨_, (N10 _ (.head _)).1⟩, ?_, ?_, ?_⟩
    · exact ⟨_, ⟨_, News.get N10 (by k_mem)⟩, .nil⟩
    · exact ⟨_, ⟨_, News.get N10 (by k_mem)⟩, .cons _ _ (.cons _ _ .nil)⟩
    · exact ⟨_, ⟨_, News.get N10 (by k_mem)⟩, .cons _ _ .nil⟩
  have hdb : dd ≠ b := Nat.ne_of_gt l8.1
  clear l10
  have hb10 := box_move hb9 hS K9 F10.keep
  have Nb10 := cb_drop (news := [(b, o9), (dd, od2)]) N10 (sub2 (by first | ((repeat (first | exact List.Mem.head _ | apply List.Mem.tail)); done) | simp) (by first | ((repeat (first | exact List.Mem.head _ | apply List.Mem.tail)); done) | simp))
  have hpp10 : PathAt h10 pp P := hpp.here F10 N10 fun p hp => by first | ((repeat (first | exact hp | apply List.Mem.tail)); done) | simp [hp]
  obtain ⟨tl10, N10', Sn10⟩ := freeze F10 Nb10
  have hnt10 : ∀ q ∈ [(b, o9), (dd, od2)], NoTup q.2 := by
    intro q hq
    simp only [List.mem_cons, List.not_mem_nil, or_false] at hq
    rcases hq with e | e
    · exact hb10.noTup (b := b) q (by simp [e])
    · rw [e]; exact NoTup.ofDict hod2
  replace hbigM := Seen.tup F10 N10' Sn10 hnt10 hbigM
  replace hm0 := Seen.tupI F10 N10' Sn10 hnt10 hm0
  replace hm1 := Seen.tupI F10 N10' Sn10 hnt10 hm1
  replace hm2 := Seen.tupI F10 N10' Sn10 hnt10 hm2
  have hppS := Seen.path F10 N10' Sn10 hnt10 hpp10
  have Nd10 := cb_drop (news := [(b, o9)]) N10 (by simp)
  refine Halt.go ?_
  refine' useD (ct_draw w _ b S o9 _ 3 _ hb10 hne (by decide) (by decide)) ?B ?F ?X ?T ?hk ?d ?u Nd10 ?_
  (case B => k_asm); (case F => k_asm); (case X => k_asm); (case T => k_asm); (case hk => first | exact rfl | assumption)
  (case d => ktr_room)
  (case u => ktr_units)
  rintro r h11 tk11 F11 G11 ⟨⟨n5, t5, rfl, hn5⟩, o11, hg11, hb11⟩
  have N11 : News g' L' h11 ((b, o11) :: (dd, od2) :: tl10) := newsAt Nd10 (.head _) hg11 (newsGSub (cb_drop (news := (dd, od2) :: tl10) N10' (by intro p hp; rcases List.mem_cons.mp hp with e | e <;> simp [e])) G11 (by
    intro p hp
    rcases List.mem_cons.mp hp with e | e
    · rw [e]; simpa using hdb
    · simpa using Sn10.apart p e (b, o9) (.head _)))
  have K11 : Sub g' h11 := F11.keep
  clear N10 N10' Nb10 Nd10
  have hmem11 : ∀ p ∈ tl10, p ∈ (b, o11) :: (dd, od2) :: tl10 := fun p hp => by first | ((repeat (first | exact hp | apply List.Mem.tail)); done) | simp [hp]
  obtain ⟨pm, ms, hmx, hpm, hms⟩ := pick3g (A := fun P p => Seen g' tl10 fun h => TupI h p P) hm0 hm1 hm2 hn5
  k_steps
  refine Halt.go ?_
  refine kba_turn (value' := PySem.Expr.Name (PySem.Str.ofString "_") ⟨0, 0, 0, 0⟩) (fun _ => rfl) ?_
  with_unfolding_all refine' item_at (hbigM.here F11 N11 hmem11).isTup hn5.1 (by omega) hmx ?_
  (try dsimp only)
  k_steps
  refine Halt.go ?_
  rename_i D12 h12 F12 N12 l12
  obtain ⟨wm, htm12, him⟩ := hpm.here F12 N12 fun p hp => by first | ((repeat (first | exact hp | apply List.Mem.tail)); done) | simp [hp]
  have hws := nil_same him.length
  clear him
  refine ne_nil htm12 ⟨_, (N12 _ (.head _)).1⟩ (by ktr_units) ?_
  clear htm12
  have hrelB : Seen g' tl10 (fun h => DRel h (valueAt kv0) (cameR n4 P none none)) := hppS.mono hrel0
  rw [hws]
  clear hws hm0 hm1 hm2 hbigM hppS hrel0
  have hcmS : Seen g' tl10 fun h => TupI h pm ms := hpm
  have hCC : ms = [] ∨ CameC (some ms) := by
    rcases hms with e | e | e
    · exact .inl e
    · exact .inr (.inr (.inl (congrArg some e)))
    · exact .inr (.inr (.inr (congrArg some e)))
  clear hpm hms hmx hpx hP hp0 hp1 hp2 hbig
  by_cases hme : ms = []
  · rw [decide_eq_true hme, Bool.not_true]
    obtain ⟨kv1, cm, hod3, hrel1, hl1, hcm⟩ : ∃ kv1 cm, od2.IsDictOf (PySem.strKind PR w) kv1 ∧ (Seen g' tl10 fun h => DRel h (valueAt kv1) (cameR n4 P cm none)) ∧ kv1.length ≤ 5 ∧ CameC cm := ⟨kv0, none, hod2, hrelB, by omega, .inl rfl⟩
    clear hod2 hrelB hl0 hme hCC hcmS
    (try dsimp only)
    k_steps
    rename_i Du h14 F14 N14 l14
    obtain ⟨u0, u1, u2, hbigU, hu0, hu1, hu2⟩ : ∃ p0 p1 p2, Tup h14 Du [.ref p0, .ref p1, .ref p2] ∧ UnkAt h14 p0 [] ∧ UnkAt h14 p1 [(192, 40, #[97])] ∧ UnkAt h14 p2 [(128, 41, #[98]), (224, 42, #[])] := by
      refine ⟨_, _, _, ⟨_, (N14 _ (.head _)).1⟩, ?_, ?_, ?_⟩
      · exact ⟨_, ⟨_, News.get N14 (by k_mem)⟩, .nil⟩
      · exact ⟨_, ⟨_, News.get N14 (by k_mem)⟩, .cons ⟨_, _, _, _, rfl, ⟨_, News.get N14 (by k_mem)⟩⟩ .nil⟩
      · exact ⟨_, ⟨_, News.get N14 (by k_mem)⟩, .cons ⟨_, _, _, _, rfl, ⟨_, News.get N14 (by k_mem)⟩⟩ (.cons ⟨_, _, _, _, rfl, ⟨_, News.get N14 (by k_mem)⟩⟩ .nil)⟩
    clear l14
    have hb14 := box_move hb11 hS K11 F14.keep
    have Nb14 := cb_drop (news := [(b, o11), (dd, od2)]) N14 (sub2 (by first | ((repeat (first | exact List.Mem.head _ | apply List.Mem.tail)); done) | simp) (by first | ((repeat (first | exact List.Mem.head _ | apply List.Mem.tail)); done) | simp))
    obtain ⟨tl14, N14', Sn14⟩ := freeze F14 Nb14
    have hnt14 : ∀ q ∈ [(b, o11), (dd, od2)], NoTup q.2 := by
      intro q hq
      simp only [List.mem_cons, List.not_mem_nil, or_false] at hq
      rcases hq with e | e
      · exact hb14.noTup (b := b) q (by simp [e])
      · rw [e]; exact NoTup.ofDict hod3
    replace hbigU := Seen.tup F14 N14' Sn14 hnt14 hbigU
    replace hu0 := Seen.unk F14 N14' Sn14 hnt14 hu0
    replace hu1 := Seen.unk F14 N14' Sn14 hnt14 hu1
    replace hu2 := Seen.unk F14 N14' Sn14 hnt14 hu2
    replace hrel1 := Seen.drel F14 N14' Sn14 hnt14 (hrel1.here F14 N14 fun p hp => by first | ((repeat (first | exact hp | apply List.Mem.tail)); done) | simp [hp])
    have Nd14 := cb_drop (news := [(b, o11)]) N14 (by simp)
    refine Halt.go ?_
    refine' useD (ct_draw w _ b S o11 _ 3 _ hb14 hne (by decide) (by decide)) ?B ?F ?X ?T ?hk ?d ?u Nd14 ?_
    (case B => k_asm); (case F => k_asm); (case X => k_asm); (case T => k_asm); (case hk => first | exact rfl | assumption)
    (case d => ktr_room)
    (case u => ktr_units)
    rintro r h15 tk15 F15 G15 ⟨⟨n6, t6, rfl, hn6⟩, o15, hg15, hb15⟩
    have N15 : News g' L' h15 ((b, o15) :: (dd, od2) :: tl14) := newsAt Nd14 (.head _) hg15 (newsGSub (cb_drop (news := (dd, od2) :: tl14) N14' (by intro p hp; rcases List.mem_cons.mp hp with e | e <;> simp [e])) G15 (by
      intro p hp
      rcases List.mem_cons.mp hp with e | e
      · rw [e]; simpa using hdb
      · simpa using Sn14.apart p e (b, o11) (.head _)))
    have hoff : ∀ p ∈ (b, o15) :: tl14, p.1 ≠ dd := by
      intro p hp
      rcases List.mem_cons.mp hp with e | e
      · rw [e]; exact hdb.symm
      · exact Sn14.apart p e (dd, od2) (.tail _ (.head _))
    have K15 : Sub g' h15 := F15.keep
    clear N14 N14' Nb14 Nd14 Sn14
    obtain ⟨pu, us, hux, hpu, hus⟩ := pick3g (A := fun P p => Seen g' tl14 fun h => UnkAt h p P) hu0 hu1 hu2 hn6
    k_steps
    refine Halt.go ?_
    refine kba_turn (value' := PySem.Expr.Name (PySem.Str.ofString "_") ⟨0, 0, 0, 0⟩) (fun _ => rfl) ?_
    with_unfolding_all refine' item_at (hbigU.here F15 N15 fun p hp => by first | ((repeat (first | exact hp | apply List.Mem.tail)); done) | simp [hp]).isTup hn6.1 (by omega) hux ?_
    (try dsimp only)
    clear hux hu0 hu1 hu2 hbigU
    k_steps
    refine Halt.go ?_
    rename_i D16 h16 F16 N16 l16
    obtain ⟨wu, htu16, hiu⟩ := hpu.here F16 N16 fun p hp => by first | ((repeat (first | exact hp | apply List.Mem.tail)); done) | simp [hp]
    have hws := nil_same hiu.length
    clear hiu
    refine ne_nil htu16 ⟨_, (N16 _ (.head _)).1⟩ (by ktr_units) ?_
    clear htu16
    rw [hws]
    clear hws
    by_cases hue : us = []
    · rw [decide_eq_true hue, Bool.not_true]
      clear hue hus
      k_steps
      rename News g' _ _ _ => N17
      rename Fr g' _ _ _ => F17
      exact hret _ _ _ (gsub_end GS F17) ⟨⟨dd, n4, P, cm, none, rfl, none_backG GS (by simpa using hdb) (N17 _ (.tail _ (.tail _ (.head _)))).2.2, hPC, hcm, .inl rfl, att_of N17 (.tail _ (.tail _ (.head _))) hod3 lod (hrel1.here F17 N17 fun p hp => by first | ((repeat (first | exact hp | apply List.Mem.tail)); done) | simp [hp])⟩, o15, (N17 _ (.tail _ (.head _))).1, box_move hb15 hS K15 F17.keep⟩
    · rw [decide_eq_false hue, Bool.not_false]
      have hU : CameU (some us) := by
        rcases hus with e | e | e
        · exact absurd e hue
        · exact .inr (.inl (congrArg some e))
        · exact .inr (.inr (congrArg some e))
      clear hue hus
      k_steps
      refine Halt.go ?_
      refine dict_set (rest := (b, o15) :: tl14) (by assumption) (by assumption) (by simp) (by intro p hp; rcases List.mem_cons.mp hp with e | e <;> simp [e]) hoff hod3 (by rw [sizeLine_eq]; omega) ?_
      intro h17 od4 tk17 F17 N17 hod4
      have hrel2 : DRel h17 (valueAt (stored kv1 (Str.ofString "unknown") (.ref pu))) (cameR n4 P cm (some us)) := by
        rw [← cameR_unk]
        exact (hrel1.here F17 N17 fun p hp => by first | ((repeat (first | exact hp | apply List.Mem.tail)); done) | simp [hp]).stored ⟨pu, rfl, hpu.here F17 N17 fun p hp => by first | ((repeat (first | exact hp | apply List.Mem.tail)); done) | simp [hp]⟩
      clear hrel1 hpu
      k_steps
      rename News g' _ _ _ => N18
      rename Fr g' _ _ _ => F18
      exact hret _ _ _ (gsub_end GS F18) ⟨⟨dd, n4, P, cm, some us, rfl, none_backG GS (by simpa using hdb) (N18 _ (.head _)).2.2, hPC, hcm, hU, att_of N18 (.head _) hod4 lod (hrel2.keeps (fun _ _ e => e))⟩, o15, (N18 _ (.tail _ (.head _))).1, box_move hb15 hS K15 F18.keep⟩
  · rw [decide_eq_false hme, Bool.not_false]
    have hcm0 := hCC.resolve_left hme
    clear hme hCC
    (try dsimp only)
    k_steps
    refine Halt.go ?_
    refine dict_set (rest := (b, o11) :: tl10) (by assumption) (by assumption) (by simp) (by intro p hp; rcases List.mem_cons.mp hp with e | e <;> simp [e]) ?_ hod2 (by rw [sizeLine_eq]; omega) ?_
    · intro p hp
      rcases List.mem_cons.mp hp with e | e
      · rw [e]; exact hdb.symm
      · exact Sn10.apart p e (dd, od2) (.tail _ (.head _))
    intro h13 od2 tk13 F13 N13 hod3
    obtain ⟨kv1, cm, hod3, hrel1, hl1, hcm⟩ : ∃ kv1 cm, od2.IsDictOf (PySem.strKind PR w) kv1 ∧ (Seen g' tl10 fun h => DRel h (valueAt kv1) (cameR n4 P cm none)) ∧ kv1.length ≤ 5 ∧ CameC cm := by
      refine ⟨_, some ms, hod3, ?_, Nat.le_trans (stored_length_le ..) (by omega), hcm0⟩
      rw [← cameR_comm]
      exact fun h k z => (hrelB h k z).stored ⟨pm, rfl, hcmS h k z⟩
    clear hrelB hl0 hcm0 hcmS
    (try dsimp only)
    k_steps
    rename_i Du h14 F14 N14 l14
    obtain ⟨u0, u1, u2, hbigU, hu0, hu1, hu2⟩ : ∃ p0 p1 p2, Tup h14 Du [.ref p0, .ref p1, .ref p2] ∧ UnkAt h14 p0 [] ∧ UnkAt h14 p1 [(192, 40, #[97])] ∧ UnkAt h14 p2 [(128, 41, #[98]), (224, 42, #[])] := by
      refine ⟨_, _, _, ⟨_, (N14 _ (.head _)).1⟩, ?_, ?_, ?_⟩
      · exact ⟨_, ⟨_, News.get N14 (by k_mem)⟩, .nil⟩
      · exact ⟨_, ⟨_, News.get N14 (by k_mem)⟩, .cons ⟨_, _, _, _, rfl, ⟨_, News.get N14 (by k_mem)⟩⟩ .nil⟩
      · exact ⟨_, ⟨_, News.get N14 (by k_mem)⟩, .cons ⟨_, _, _, _, rfl, ⟨_, News.get N14 (by k_mem)⟩⟩ (.cons ⟨_, _, _, _, rfl, ⟨_, News.get N14 (by k_mem)⟩⟩ .nil)⟩
    clear l14
    have hb14 := box_move hb11 hS K11 F14.keep
    have Nb14 := cb_drop (news := [(b, o11), (dd, od2)]) N14 (sub2 (by first | ((repeat (first | exact List.Mem.head _ | apply List.Mem.tail)); done) | simp) (by first | ((repeat (first | exact List.Mem.head _ | apply List.Mem.tail)); done) | simp))
    obtain ⟨tl14, N14', Sn14⟩ := freeze F14 Nb14
    have hnt14 : ∀ q ∈ [(b, o11), (dd, od2)], NoTup q.2 := by
      intro q hq
      simp only [List.mem_cons, List.not_mem_nil, or_false] at hq
      rcases hq with e | e
      · exact hb14.noTup (b := b) q (by simp [e])
      · rw [e]; exact NoTup.ofDict hod3
    replace hbigU := Seen.tup F14 N14' Sn14 hnt14 hbigU
    replace hu0 := Seen.unk F14 N14' Sn14 hnt14 hu0
    replace hu1 := Seen.unk F14 N14' Sn14 hnt14 hu1
    replace hu2 := Seen.unk F14 N14' Sn14 hnt14 hu2
    replace hrel1 := Seen.drel F14 N14' Sn14 hnt14 (hrel1.here F14 N14 fun p hp => by first | ((repeat (first | exact hp | apply List.Mem.tail)); done) | simp [hp])
    have Nd14 := cb_drop (news := [(b, o11)]) N14 (by simp)
    refine Halt.go ?_
    refine' useD (ct_draw w _ b S o11 _ 3 _ hb14 hne (by decide) (by decide)) ?B ?F ?X ?T ?hk ?d ?u Nd14 ?_
    (case B => k_asm); (case F => k_asm); (case X => k_asm); (case T => k_asm); (case hk => first | exact rfl | assumption)
    (case d => ktr_room)
    (case u => ktr_units)
    rintro r h15 tk15 F15 G15 ⟨⟨n6, t6, rfl, hn6⟩, o15, hg15, hb15⟩
    have N15 : News g' L' h15 ((b, o15) :: (dd, od2) :: tl14) := newsAt Nd14 (.head _) hg15 (newsGSub (cb_drop (news := (dd, od2) :: tl14) N14' (by intro p hp; rcases List.mem_cons.mp hp with e | e <;> simp [e])) G15 (by
      intro p hp
      rcases List.mem_cons.mp hp with e | e
      · rw [e]; simpa using hdb
      · simpa using Sn14.apart p e (b, o11) (.head _)))
    have hoff : ∀ p ∈ (b, o15) :: tl14, p.1 ≠ dd := by
      intro p hp
      rcases List.mem_cons.mp hp with e | e
      · rw [e]; exact hdb.symm
      · exact Sn14.apart p e (dd, od2) (.tail _ (.head _))
    have K15 : Sub g' h15 := F15.keep
    clear N14 N14' Nb14 Nd14 Sn14
    obtain ⟨pu, us, hux, hpu, hus⟩ := pick3g (A := fun P p => Seen g' tl14 fun h => UnkAt h p P) hu0 hu1 hu2 hn6
    k_steps
    refine Halt.go ?_
    refine kba_turn (value' := PySem.Expr.Name (PySem.Str.ofString "_") ⟨0, 0, 0, 0⟩) (fun _ => rfl) ?_
    with_unfolding_all refine' item_at (hbigU.here F15 N15 fun p hp => by first | ((repeat (first | exact hp | apply List.Mem.tail)); done) | simp [hp]).isTup hn6.1 (by omega) hux ?_
    (try dsimp only)
    clear hux hu0 hu1 hu2 hbigU
    k_steps
    refine Halt.go ?_
    rename_i D16 h16 F16 N16 l16
    obtain ⟨wu, htu16, hiu⟩ := hpu.here F16 N16 fun p hp => by first | ((repeat (first | exact hp | apply List.Mem.tail)); done) | simp [hp]
    have hws := nil_same hiu.length
    clear hiu
    refine ne_nil htu16 ⟨_, (N16 _ (.head _)).1⟩ (by ktr_units) ?_
    clear htu16
    rw [hws]
    clear hws
    by_cases hue : us = []
    · rw [decide_eq_true hue, Bool.not_true]
      clear hue hus
      k_steps
      rename News g' _ _ _ => N17
      rename Fr g' _ _ _ => F17
      exact hret _ _ _ (gsub_end GS F17) ⟨⟨dd, n4, P, cm, none, rfl, none_backG GS (by simpa using hdb) (N17 _ (.tail _ (.tail _ (.head _)))).2.2, hPC, hcm, .inl rfl, att_of N17 (.tail _ (.tail _ (.head _))) hod3 lod (hrel1.here F17 N17 fun p hp => by first | ((repeat (first | exact hp | apply List.Mem.tail)); done) | simp [hp])⟩, o15, (N17 _ (.tail _ (.head _))).1, box_move hb15 hS K15 F17.keep⟩
    · rw [decide_eq_false hue, Bool.not_false]
      have hU : CameU (some us) := by
        rcases hus with e | e | e
        · exact absurd e hue
        · exact .inr (.inl (congrArg some e))
        · exact .inr (.inr (congrArg some e))
      clear hue hus
      k_steps
      refine Halt.go ?_
      refine dict_set (rest := (b, o15) :: tl14) (by assumption) (by assumption) (by simp) (by intro p hp; rcases List.mem_cons.mp hp with e | e <;> simp [e]) hoff hod3 (by rw [sizeLine_eq]; omega) ?_
      intro h17 od4 tk17 F17 N17 hod4
      have hrel2 : DRel h17 (valueAt (stored kv1 (Str.ofString "unknown") (.ref pu))) (cameR n4 P cm (some us)) := by
        rw [← cameR_unk]
        exact (hrel1.here F17 N17 fun p hp => by first | ((repeat (first | exact hp | apply List.Mem.tail)); done) | simp [hp]).stored ⟨pu, rfl, hpu.here F17 N17 fun p hp => by first | ((repeat (first | exact hp | apply List.Mem.tail)); done) | simp [hp]⟩
      clear hrel1 hpu
      k_steps
      rename News g' _ _ _ => N18
      rename Fr g' _ _ _ => F18
      exact hret _ _ _ (gsub_end GS F18) ⟨⟨dd, n4, P, cm, some us, rfl, none_backG GS (by simpa using hdb) (N18 _ (.head _)).2.2, hPC, hcm, hU, att_of N18 (.head _) hod4 lod (hrel2.keeps (fun _ _ e => e))⟩, o15, (N18 _ (.tail _ (.head _))).1, box_move hb15 hS K15 F18.keep⟩
end Mine
end
section
open PySem PySem.W PySem.Spec PySem.Calls PyProof.Rows
namespace Mine
section
variable {prog : Program} {w : World} {A : Around} {E : Value → Shared → Prop} {s : Shared} {h₀ : Heap} {L : Addr} {m : Str → Option Value} {news : List (Addr × Obj)}
theorem part_is {v : Value} {k : Option Int} {Q : Option Int → Shared → Prop} (hv : IsPart v k) (h : Q k s) : wpAny (model prog w) A (Builtin.Slice.slicePartIndex v) Q E s := by
  cases hv with
  | none => exact slicePart_none h
  | int i t => exact slicePart_int h
theorem cut_bounds {sl : Addr} {vl vu : Value} {lo hi : Option Int} {n x y : Int} {Q : Int × Int × Nat → Shared → Prop} (hs : s.heap.IsSliceOf sl vl vu .none) (pl : IsPart vl lo) (pu : IsPart vu hi) (e : Builtin.Slice.sliceAdjust lo hi 1 n = (x, y)) (h : Q (x, 1, Builtin.Slice.slicePlaces x y 1) s) :
    wpAny (model prog w) A (Builtin.Slice.sliceApplied (.ref sl) (pure n)) Q E s := by
  obtain ⟨os, hos, hcs, hds⟩ := id hs
  unfold Builtin.Slice.sliceApplied Builtin.Slice.sliceFields
  refine wpAny_bind (wpAny_bind (wpAny_field hos hds (x := vl) rfl (wpAny_bind (wpAny_field hos hds (x := vu) rfl (wpAny_bind (wpAny_field hos hds (x := .none) rfl (wpAny_pure ?_)))))))
  refine wpAny_bind (slicePart_none ?_)
  show wpAny _ _ (if ((1 : Int) == 0) = true then _ else _) _ _ s
  rw [if_neg (by decide)]
  refine wpAny_bind (part_is pl (wpAny_bind (part_is pu (wpAny_bind (wpAny_pure ?_)))))
  show wpAny _ _ (match Builtin.Slice.sliceAdjust lo hi 1 n with | (lo, hi) => pure (lo, (1 : Int), Builtin.Slice.slicePlaces lo hi 1)) _ _ s
  rw [e]
  exact wpAny_pure h
theorem adj_from {n k : Nat} (hk : k ≤ n) : Builtin.Slice.sliceAdjust (some (k : Int)) none 1 (n : Int) = ((k : Int), (n : Int)) := by
  unfold Builtin.Slice.sliceAdjust
  have h1 : ¬ ((1 : Int) < 0) := by omega
  have h2 : ¬ ((k : Int) < 0) := by omega
  simp only [h1, h2, if_false]
  congr 1
  omega
theorem adj_upto {n k : Nat} (hk : k ≤ n) : Builtin.Slice.sliceAdjust none (some (k : Int)) 1 (n : Int) = (0, (k : Int)) := by
  unfold Builtin.Slice.sliceAdjust
  have h1 : ¬ ((1 : Int) < 0) := by omega
  have h2 : ¬ ((k : Int) < 0) := by omega
  simp only [h1, h2, if_false]
  congr 1
  omega
theorem pl_run {a b : Nat} (h : a ≤ b) : Builtin.Slice.slicePlaces (a : Int) (b : Int) 1 = b - a := by
  unfold Builtin.Slice.slicePlaces
  have h1 : (1 : Int) > 0 := by omega
  simp only [h1, if_true, Int.ediv_one]
  split <;> omega
theorem pick_at (xs : Array Value) (a k : Nat) : ((List.range k).filterMap fun (j : Nat) => xs[((a : Int) + (j : Int) * 1).toNat]?).toArray = ((xs.toList.drop a).take k).toArray := by
  have e : (fun (j : Nat) => xs[((a : Int) + (j : Int) * 1).toNat]?) = (fun x => xs[x]?) ∘ fun j => a + j := by
    funext j
    have : ((a : Int) + (j : Int) * 1).toNat = a + j := by omega
    simp only [this, Function.comp]
  rw [e, ← List.filterMap_map, pick_run xs a k]
/-- a slice of a tuple: itself, or a new one -/
theorem cut_item {t sl : Addr} {items : Array Value} {a k : Nat} {vl vu : Value} {lo hi : Option Int} {Q : Value → Shared → Prop} (ht : IsTup s.heap t items) (hs : s.heap.IsSliceOf sl vl vu .none) (pl : IsPart vl lo) (pu : IsPart vu hi) (e : Builtin.Slice.sliceAdjust lo hi 1 (items.size : Int) = ((a : Int), ((a + k : Nat) : Int)))
    (h0 : a = 0 → k = items.size → Q (.ref t) s)
    (h : Q (.ref s.heap.objs.size) { s with heap := s.heap.push { cls := .type "tuple", data := .seq ((items.toList.drop a).take k).toArray } })
    (hsz : items.size ≤ sizeLine) : wpAny (model prog w) A (getItem (.ref t) (.ref sl)) Q E s := by
  have hdrop : sizeOk (.seq ((items.toList.drop a).take k).toArray) := by
    show ((items.toList.drop a).take k).toArray.size ≤ sizeLine
    rw [List.size_toArray, List.length_take, List.length_drop, Array.length_toList]
    omega
  obtain ⟨os, hos, hcs, hds⟩ := id hs
  have hTs : s.TypeIs (.ref sl) "slice" := ⟨os, hos, hcs⟩
  unfold getItem
  try with_reducible refine wpAny_holding ?_
  first | refine wpAny_bind (wpAny_pure ?_) | skip
  refine wpAny_bind (wpAny_sequenceKey ht.typeIs (by decide) ?_)
  refine wpAny_bind (wpAny_callSpecial?_slot (name := Str.ofString "__getitem__") ht.typeIs slot_tuple_getitem
    (wpAny_call_entry slot_tuple_getitem ht.typeIs entry_tuple_getitem ?_ (args_tuple_getitem _ _)))
  show wpAny _ _ (Builtin.Tuple.tupleItemsOf (.ref t) >>= _) _ _ s
  refine wpAny_bind (tupleItemsOf_ ht ?_)
  refine wpAny_bind (wpAny_typeOf hTs ?_)
  rw [if_pos (by decide)]
  refine wpAny_bind (cut_bounds hs pl pu e ?_)
  rw [pl_run (by omega), Nat.add_sub_cancel_left]
  show wpAny _ _ (if ((a : Int) == 0 && (1 : Int) == 1 && k == items.size) = true then _ else _) _ _ s
  by_cases hw : a = 0 ∧ k = items.size
  · rw [if_pos (by rw [hw.1, hw.2]; simp)]
    refine wpAny_bind (m := Builtin.Tuple.tupleIsExact _) ?_
    unfold Builtin.Tuple.tupleIsExact
    refine wpAny_bind (wpAny_typeOf ht.typeIs (wpAny_pure ?_))
    rw [if_pos (by decide)]
    have fin := h0 hw.1 hw.2
    refine wpAny_bind (wpAny_rule ?_)
    exact wpAny_pure ⟨_, rfl, wpAny_pure fin⟩
  · have hno : ¬ (((a : Int) == 0 && (1 : Int) == 1 && k == items.size) = true) := by
      intro q
      simp at q
      exact hw q
    rw [if_neg hno, pick_at]
    first
      | exact wpAny_bind (m := Builtin.Tuple.tupleExact _) (wpAny_newObj_type (wpAny_pure ⟨_, rfl, wpAny_pure h⟩) hdrop)
      | exact wpAny_bind (m := Builtin.Tuple.tupleExact _) (wpAny_newObj_type (wpAny_bind (wpAny_pure (wpAny_pure ⟨_, rfl, wpAny_pure h⟩))) hdrop)
      | exact wpAny_bind (wpAny_bind (m := Builtin.Tuple.tupleExact _) (wpAny_newObj_type (wpAny_pure (wpAny_pure ⟨_, rfl, wpAny_pure h⟩)) hdrop))
      | exact wpAny_bind (wpAny_bind (m := Builtin.Tuple.tupleExact _) (wpAny_newObj_type (wpAny_pure ⟨_, rfl, wpAny_pure h⟩) hdrop))
theorem cut_tail {value slice : PySem.Expr} {t : Addr} {vs : List Value} {a k : Nat} {vl vu : Value} {lo hi : Option Int} {Q : Value → Shared → Prop} (F : Fr h₀ L s.heap m) (N : News h₀ L s.heap news) (ht : Tup s.heap t vs) (pl : IsPart vl lo) (pu : IsPart vu hi) (e : Builtin.Slice.sliceAdjust lo hi 1 (vs.length : Int) = ((a : Int), ((a + k : Nat) : Int)))
    (hsz : vs.length ≤ sizeLine)
    (h : ∀ q h', Fr h₀ L h' m → News h₀ L h' news → Tup h' q ((vs.drop a).take k) → Q (.ref q) { s with heap := h' })
    (hs : subscripted slice false (.ref t) (.ref s.heap.objs.size) = operate [.ref s.heap.objs.size, .ref t] (getItem (.ref t) (.ref s.heap.objs.size)) := by with_unfolding_all rfl)
    (hg : ∀ r, letTemporaryGo value (.ref t) r = pure () := by intro _; with_unfolding_all rfl) :
    wpAny (model prog w) A (subscriptTail value slice (.ref t) (.ref s.heap.objs.size)) Q E { s with heap := s.heap.push { cls := .type "slice", data := .fields #[vl, vu, .none] } } := by
  have S1 : Sub s.heap (s.heap.push { cls := .type "slice", data := .fields #[vl, vu, .none] }) := fun _ _ e => Heap.get?_push_of_some _ e
  have ht' : Tup (s.heap.push { cls := .type "slice", data := .fields #[vl, vu, .none] }) t vs := ht.keeps S1
  refine subscriptTail_ops (s := { s with heap := s.heap.push { cls := .type "slice", data := .fields #[vl, vu, .none] } }) ht'.isTup.typeIs slot_tuple_getitem.lookup
    (cut_item (a := a) (k := k) ht'.isTup (Heap.IsSliceOf.new ..) pl pu (by rw [List.size_toArray]; exact e) (fun e1 e2 => ?_) ?_ (by rw [List.size_toArray]; exact hsz)) hs hg
  · refine h t _ (F.push _) (N.grown S1) ?_
    rw [List.size_toArray] at e2
    rw [e1, e2, List.drop_zero, List.take_length]
    exact ht'
  · exact h _ _ ((F.push _).push _) ((N.grown S1).grown fun _ _ e => Heap.get?_push_of_some _ e) ⟨_, Heap.get?_push_size _ rfl⟩
theorem cut_from {value slice : PySem.Expr} {t : Addr} {vs : List Value} {a : Nat} {x : Int} {u : Tok} {Q : Value → Shared → Prop} (F : Fr h₀ L s.heap m) (N : News h₀ L s.heap news) (ht : Tup s.heap t vs) (hx : x = (a : Int)) (ha : a ≤ vs.length)
    (hsz : vs.length ≤ sizeLine)
    (h : ∀ q h', Fr h₀ L h' m → News h₀ L h' news → Tup h' q (vs.drop a) → Q (.ref q) { s with heap := h' })
    (hs : subscripted slice false (.ref t) (.ref s.heap.objs.size) = operate [.ref s.heap.objs.size, .ref t] (getItem (.ref t) (.ref s.heap.objs.size)) := by with_unfolding_all rfl)
    (hg : ∀ r, letTemporaryGo value (.ref t) r = pure () := by intro _; with_unfolding_all rfl) :
    wpAny (model prog w) A (subscriptTail value slice (.ref t) (.ref s.heap.objs.size)) Q E { s with heap := s.heap.push { cls := .type "slice", data := .fields #[.int x u, .none, .none] } } := by
  subst hx
  refine cut_tail (a := a) (k := vs.length - a) F N ht (.int _ _) .none ?_ hsz (fun q h' F' N' hq => h q h' F' N' ?_) hs hg
  · rw [show a + (vs.length - a) = vs.length by omega]
    exact adj_from ha
  · rwa [List.take_of_length_le (by simp)] at hq
theorem cut_upto {value slice : PySem.Expr} {t : Addr} {vs : List Value} {b : Nat} {x : Int} {u : Tok} {Q : Value → Shared → Prop} (F : Fr h₀ L s.heap m) (N : News h₀ L s.heap news) (ht : Tup s.heap t vs) (hx : x = (b : Int)) (hb : b ≤ vs.length)
    (hsz : vs.length ≤ sizeLine)
    (h : ∀ q h', Fr h₀ L h' m → News h₀ L h' news → Tup h' q (vs.take b) → Q (.ref q) { s with heap := h' })
    (hs : subscripted slice false (.ref t) (.ref s.heap.objs.size) = operate [.ref s.heap.objs.size, .ref t] (getItem (.ref t) (.ref s.heap.objs.size)) := by with_unfolding_all rfl)
    (hg : ∀ r, letTemporaryGo value (.ref t) r = pure () := by intro _; with_unfolding_all rfl) :
    wpAny (model prog w) A (subscriptTail value slice (.ref t) (.ref s.heap.objs.size)) Q E { s with heap := s.heap.push { cls := .type "slice", data := .fields #[.none, .int x u, .none] } } := by
  subst hx
  refine cut_tail (a := 0) (k := b) F N ht .none (.int _ _) ?_ hsz (fun q h' F' N' hq => h q h' F' N' ?_) hs hg
  · rw [Nat.zero_add]
    exact adj_upto hb
  · rwa [List.drop_zero] at hq
theorem SegsAt.split {h : Heap} {xs ys : List (Int × List Int)} : ∀ {vs : List Value}, SegsAt h vs (xs ++ ys) → SegsAt h (vs.take xs.length) xs ∧ SegsAt h (vs.drop xs.length) ys := by
  induction xs with
  | nil => intro vs x; exact ⟨.nil, x⟩
  | cons g xs ih =>
    intro vs x
    cases x with
    | cons a r => exact ⟨.cons a (ih r).1, (ih r).2⟩
theorem letGo_rng {target : PySem.Expr} {I : Addr} {x left step : Int} {v : Value} {Q' : Unit → Shared → Prop} {s' : Shared} (hit : IsRangeIter s'.heap I x left step) (h : Q' () s') :
    wpAny (model prog w) A (letOwnedTupleGo target (.ref I) v) Q' E s' := by
  unfold letOwnedTupleGo
  cases target <;> first
    | exact wpAny_pure h
    | (cases v <;> first
        | exact wpAny_pure h
        | (refine wpAny_bind (wpAny_load hit ?_)
           exact wpAny_pure h))
theorem rng_src {R : Addr} {a b c : Int} {t u v : Tok} {n : Nat} {keep : List (Addr × Obj)} (hh : A.handled = none) (hr : IsRange s.heap R a b c t u v) (hsm : Builtin.Range.small a b c = true) (hn : Builtin.Range.rangeSize a b c = (n : Int)) (F : Fr h₀ L s.heap m) (N : News h₀ L s.heap news)
    {Q : Value → Shared → Prop}
    (h : ∀ (I : Addr) (g : Heap), Fr h₀ L g m → News h₀ L g news → L ≠ I → h₀.get? I = none → (∀ q ∈ news, q.1 ≠ I) → IsRangeIter g I (a + (0 : Nat) * c) ((n : Int) - (0 : Nat)) c →
      (∀ target : PySem.Expr, KTurns prog w A target I [I] [I] n (fun i v _ => ∃ t, v = .int (a + i * c) t) (fun i v h => (∃ t, v = .int (a + i * c) t) ∧ IsRangeIter h I (a + ((i + 1 : Nat) : Nat) * c) ((n : Int) - ((i + 1 : Nat) : Nat)) c) (fun i h => IsRangeIter h I (a + (i : Nat) * c) ((n : Int) - (i : Nat)) c)) →
      (∀ b ∈ [I], b = I ∨ (∃ o, h₀.get? b = some o) ∨ ∃ o, (b, o) ∈ keep) → Q (.ref I) { s with heap := g }) :
    wpAny (model prog w) A (pyIter (.ref R)) Q E s := by
  refine wpAny_pyIter_range hr hsm ?_
  refine h _ _ (F.push _) (fun q hq => ⟨Heap.get?_push_of_some _ (N q hq).1, (N q hq).2⟩) (Nat.ne_of_lt F.ns.lt) (next_is_new F) (fun q hq => Nat.ne_of_lt (Heap.lt_size (N q hq).1)) ?_ ?_ ?_
  · rw [hn]
    have e1 : a + ((0 : Nat) : Int) * c = a := by simp
    have e2 : (n : Int) - ((0 : Nat) : Int) = n := by simp
    rw [e1, e2]
    exact Heap.get?_push_size _ rfl
  · intro target
    exact KTurns.ofWalks (target := target) (Walks.range (prog := prog) (w := w) hh s.heap.objs.size a c n) (fun i v s Q E st q => letGo_rng st q)
  · intro b hb
    exact .inl (by simpa using hb)
theorem rng_self {I : Addr} {a c : Int} {n : Nat} : ∀ (s : Shared) (Q : Value → Shared → Prop) (E : Value → Shared → Prop), IsRangeIter s.heap I (a + (0 : Nat) * c) ((n : Int) - (0 : Nat)) c → Q (.ref I) s → wpAny (model prog w) A (pyIter (.ref I)) Q E s :=
  fun _ _ _ st hQ => wpAny_pyIter_rangeiter st hQ
theorem rng_io {I : Addr} {a c : Int} {n : Nat} : ∀ (i : Nat) (h : Heap), IsRangeIter h I (a + (i : Nat) * c) ((n : Int) - (i : Nat)) c → ∃ o, h.get? I = some o := fun _ _ st => ⟨_, st⟩
end
end Mine
end
section
open PySem PySem.W PySem.Spec PySem.Calls PyProof.Rows
set_option pp.deepTerms false
set_option pp.deepTerms.threshold 6
set_option pp.proofs false
namespace Mine
open PyProof.Rows.LCg PySem.SeqAt
local macro_rules | `(tactic| walk_at "subscriptTail") => `(tactic| (k_here; (with_reducible show wpAny _ _ (subscriptTail _ _ (Value.ref _) (Value.str _ _)) _ _ _); (with_unfolding_all refine' bd_item ?d ?l ?_); (case d => first | exact kda_dict (by k_asm) (by k_mem) (by assumption) | exact Heap.DictOf.keep (by assumption) (Fr.keep (by assumption))); (case l => assumption); k_whole))
local macro_rules | `(tactic| walk_at "call ref") => `(tactic| (refine Halt.mk ?_))
local macro_rules | `(tactic| walk_at "eval ListComp") => `(tactic| (refine Halt.mk ?_))
local macro_rules | `(tactic| walk_at "call builtin:len") => `(tactic| (k_here; (with_reducible show wpAny _ _ (call (Value.builtin "len") [Value.ref _]) _ _ _); refine' len_at ?t ?k ?z ?_; (case t => exact Fr.tup (by assumption) (by assumption)); (case k => assumption); (case z => omega); intro tlen tklen))
local macro_rules | `(tactic| walk_at "compareOp NotEq ref ref") => `(tactic| (refine Halt.mk ?_))
local macro_rules | `(tactic| walk_at "subscriptTail Name Slice ref ref") => `(tactic| (refine Halt.mk ?_))
local macro_rules | `(tactic| walk_at "compareOp Eq ref ref") => `(tactic| (refine Halt.mk ?_))
local macro_rules | `(tactic| walk_at "eval IfExp") => `(tactic| (refine Halt.mk ?_))
theorem ne_intsL {A : Around} {E : Value → Shared → Prop} {s : Shared} {w : World} {l b : Addr} {xs ys : List Value} {ns : List Int} {Q : Value → Shared → Prop} (hl : s.heap.IsList l xs.toArray) (hb : s.heap.IsList b ys.toArray) (hx : IntsAre xs ns) (hy : IntsAre ys ns) (hu : A.units < cLine) (h : Q (.bool false) s) :
    wpAny (model PR w) A (compareOp .NotEq (.ref l) (.ref b)) Q E s := by
  refine RcNeAt.lists (e := fun _ => true) hl hb (by simp only [List.size_toArray, hx.length, hy.length]) hu (fun j h1 h2 => by simpa using eqb_ints hx hy j (by simpa using h1) (by simpa using h2)) PR w E Q ?_
  have e : (List.range xs.toArray.size).all (fun _ => true) = true := by simp
  have e2 : (List.range xs.length).all (fun _ => true) = true := by simp
  rw [List.size_toArray, e2]
  exact h
theorem ne_empty {A : Around} {E : Value → Shared → Prop} {s : Shared} {w : World} {l b : Addr} {xs : List Value} {Q : Value → Shared → Prop} (hl : s.heap.IsList l xs.toArray) (hb : s.heap.IsList b #[]) (hx : xs ≠ []) (hu : A.units < cLine) (h : Q (.bool true) s) :
    wpAny (model PR w) A (compareOp .NotEq (.ref l) (.ref b)) Q E s :=
  RcNeAt.lists_lengths hl hb (by cases xs with
    | nil => exact absurd rfl hx
    | cons => rfl) hu PR w E Q h
noncomputable def StrEnd (k : Str) (s : Shared) : Value → Shared → Prop := fun v s2 => ∃ t tk', v = .str k t ∧ s2 = { s with toks := tk' }
theorem str_mono {w : World} {A : Around} {x : Sem Value} {Q E : Value → Shared → Prop} {s : Shared} {k : Str}
    (h1 : wpAny (model PR w) A x (StrEnd k s) E s) (h2 : ∀ t tk', Q (.str k t) { s with toks := tk' }) : wpAny (model PR w) A x Q E s :=
  wpAny_mono h1 (fun v s2 ⟨t, tk', e1, e2⟩ => by rw [e1, e2]; exact h2 t tk') fun _ _ e => e
theorem backs_last {T P : List (Int × List Int)} (hout : outerN T = outerN P) {k : Nat} {d : Int} (hk : k < (outerN P).length) : backs T ((outerN P).getD k d) 0 = true := by
  unfold backs
  rw [hout, List.getD_eq_getElem?_getD, List.getElem?_eq_getElem hk, Option.getD_some, decide_eq_true (List.getElem_mem hk)]
  rfl
theorem eq_bools {A : Around} {E : Value → Shared → Prop} {s : Shared} {w : World} {l b : Addr} {n : Nat} {f : Nat → Bool} {Q : Value → Shared → Prop} (hl : s.heap.IsList l ((List.range n).map fun j => Value.bool (f j)).toArray) (hb : s.heap.IsList b ((List.range n).map fun j => Value.bool (f j)).toArray) (hu : A.units < cLine) (h : Q (.bool true) s) :
    wpAny (model PR w) A (compareOp .Eq (.ref l) (.ref b)) Q E s := by
  refine RcAt.lists (e := fun _ => true) hl hb rfl hu (fun j h1 h2 => by simpa using EqAt.bool_bool (f j) (f j)) PR w E Q ?_
  have e2 : (List.range ((List.range n).map fun j => Value.bool (f j)).length).all (fun _ => true) = true := by simp
  rw [List.size_toArray, e2]
  exact h
theorem ne_path {A : Around} {E : Value → Shared → Prop} {s : Shared} {w : World} {l b : Addr} {P : List (Int × List Int)} {Q : Value → Shared → Prop} (hl : PathAt s.heap l P) (hb : PathAt s.heap b P) (hu : A.units + 2 < cLine) (h : Q (.bool false) s) :
    wpAny (model PR w) A (compareOp .NotEq (.ref l) (.ref b)) Q E s := by
  obtain ⟨vs, h1, i1⟩ := hl
  obtain ⟨ws, h2, i2⟩ := hb
  refine RcNeAt.tuples (e := fun _ => true) h1.isTup h2.isTup (by omega) (fun j j1 j2 => by simpa using eqb_segs (A := A.in1) i1 i2 (by show A.units + 1 + 1 < cLine; omega) j (by simpa using j1) (by simpa using j2)) PR w E Q ?_
  have e2 : (List.range (min vs.length ws.length)).all (fun _ => true) = true := by simp
  have e3 : (vs.length == ws.length) = true := by simp [i1.length, i2.length]
  rw [List.size_toArray, List.size_toArray, e2, e3]
  exact h
inductive NumsAt (h : Heap) : List Value → List (List Int) → Prop
  | nil : NumsAt h [] []
  | cons {b : Addr} {ns : List Int} {vs nss} : TupI h b ns → NumsAt h vs nss → NumsAt h (.ref b :: vs) (ns :: nss)
theorem NumsAt.keeps {h h' : Heap} {vs nss} (x : NumsAt h vs nss) (k : Sub h h') : NumsAt h' vs nss := by
  induction x with
  | nil => exact .nil
  | cons a _ ih => exact .cons (a.keeps k) ih
theorem NumsAt.append {h : Heap} {vs ws xs ys} (x : NumsAt h vs xs) (y : NumsAt h ws ys) : NumsAt h (vs ++ ws) (xs ++ ys) := by
  induction x with
  | nil => exact y
  | cons a _ ih => exact .cons a ih
theorem NumsAt.length {h : Heap} {vs xs} (x : NumsAt h vs xs) : vs.length = xs.length := by
  induction x with
  | nil => rfl
  | cons _ _ ih => simp [ih]
theorem eqb_nums {A : Around} {s : Shared} {vs ws : List Value} {nss : List (List Int)} (hv : NumsAt s.heap vs nss) (hw : NumsAt s.heap ws nss) (hu : A.units < cLine) : ∀ j (h1 : j < vs.length) (h2 : j < ws.length), EqAt A s vs[j] ws[j] true := by
  induction hv generalizing ws with
  | nil => intro j h1; exact absurd h1 (Nat.not_lt_zero _)
  | cons a _ ih =>
    cases hw with
    | cons c hw' =>
      intro j h1 h2
      cases j with
      | zero => exact eqb_tupI a c hu
      | succ j => exact ih hw' j (Nat.lt_of_succ_lt_succ h1) (Nat.lt_of_succ_lt_succ h2)
theorem ne_numsL {A : Around} {E : Value → Shared → Prop} {s : Shared} {w : World} {l b : Addr} {xs ys : List Value} {nss : List (List Int)} {Q : Value → Shared → Prop} (hl : s.heap.IsList l xs.toArray) (hb : s.heap.IsList b ys.toArray) (hx : NumsAt s.heap xs nss) (hy : NumsAt s.heap ys nss) (hu : A.units + 1 < cLine) (h : Q (.bool false) s) :
    wpAny (model PR w) A (compareOp .NotEq (.ref l) (.ref b)) Q E s := by
  refine RcNeAt.lists (e := fun _ => true) hl hb (by simp only [List.size_toArray, hx.length, hy.length]) (by omega) (fun j h1 h2 => by simpa using eqb_nums (A := A.in1) hx hy hu j (by simpa using h1) (by simpa using h2)) PR w E Q ?_
  have e2 : (List.range xs.length).all (fun _ => true) = true := by simp
  rw [List.size_toArray, e2]
  exact h
theorem seen_src {g h : Heap} {L : Addr} {m : Str → Option Value} {c tl : List (Addr × Obj)} (F : Fr g L h m) (N : News g L h (c ++ tl)) (Sn : Snap g L c tl h) (hcl : ∀ q ∈ c, NoTup q.2) {a : Addr} {vs : List Value} (ht : Tup h a vs) :
    IsTup g a vs.toArray ∨ ∃ o, (a, o) ∈ tl ∧ o.cls = .type "tuple" ∧ ∃ n, o.data = .seq vs.toArray n := by
  obtain ⟨n, ho⟩ := ht
  rcases Sn.all a _ ho with e | e | e | e
  · exact .inl ⟨_, e, rfl, n, rfl⟩
  · obtain ⟨o, es, ep, h1, h2⟩ := Fr.isDict F
    rw [← e, ho] at h1
    cases h1
    cases h2
  · obtain ⟨q, hq, e⟩ := List.mem_map.mp e
    have h1 := (N q (List.mem_append_left _ hq)).1
    rw [e, ho] at h1
    exact absurd (Option.some.inj h1).symm (hcl q hq _ _)
  · exact .inr ⟨_, e, rfl, n, rfl⟩
noncomputable def ListEnd (g : Heap) (L D : Addr) (m : Str → Option Value) (ys : List Value) (cells : List (Addr × Obj)) (nss : List (List Int)) (s : Shared) : Value → Shared → Prop := fun v s2 =>
  ∃ D2 zs n2 h' tk' n', v = .ref D2 ∧ s2 = { s with heap := h', toks := tk' } ∧ Fr g L h' m ∧ News g L h' ((D2, W.listOf zs.toArray n2) :: (D, lst ys) :: (cells ++ n')) ∧ NumsAt h' zs nss
theorem list_mono {w : World} {A : Around} {x : Sem Value} {Q E : Value → Shared → Prop} {s : Shared} {g : Heap} {L D : Addr} {m : Str → Option Value} {ys : List Value} {cells : List (Addr × Obj)} {nss : List (List Int)} (_ : Fr g L s.heap m)
    (h1 : wpAny (model PR w) A x (ListEnd g L D m ys cells nss s) E s)
    (h2 : ∀ D2 zs n2 h' tk' n', Fr g L h' m → News g L h' ((D2, W.listOf zs.toArray n2) :: (D, lst ys) :: (cells ++ n')) → NumsAt h' zs nss → Q (.ref D2) { s with heap := h', toks := tk' }) : wpAny (model PR w) A x Q E s :=
  wpAny_mono h1 (fun v s2 ⟨D2, zs, n2, h', tk', n', e1, e2, F, N, y⟩ => by rw [e1, e2]; exact h2 D2 zs n2 h' tk' n' F N y) fun _ _ e => e
noncomputable def lead (ls : List Int) : List (Int × List Int) := if ls = [] then [] else [(3, ls.reverse)]
theorem ct_right (w : World) (s : Shared) (dc dt l o : Addr) (step : Str) (t5 : Tok) (Rc Rt : Str → Option FV) (P : List (Int × List Int)) (og : Option Int) (cls : Option (List Int)) (ls : List Int) (ws : List Value) (id mem clu adr : Int) (hc : AttAt w s.heap dc Rc) (hPc : Rc (Str.ofString "as_path") = some (.path P)) (ht : AttAt w s.heap dt Rt) (hPt : Rt (Str.ofString "as_path") = some (.path (lead ls ++ P)))
    (hog : Rt (Str.ofString "originator") = og.map .int) (hcl : Rt (Str.ofString "clusters") = cls.map .nums) (ho : OwnAt w s.heap o id mem clu adr) (hl : s.heap.IsList l ws.toArray) (hi : IntsAre ws ls) (hll : ls.length ≤ 8) (hPl : 1 ≤ P.length ∧ P.length ≤ 8)
    (hsz : sizes (lead ls ++ P) < 2 ^ 20) (hszP : sizes P < 2 ^ 20) (hsT : ∀ g ∈ lead ls ++ P, g.2.length < 2 ^ 20)
    (hlen : pathLen (lead ls ++ P) = pathLen P) (hne : neigh (lead ls ++ P) = neigh P) (hout : outerN (lead ls ++ P) = outerN P) (hon : 1 ≤ (outerN P).length ∧ (outerN P).length < 2 ^ 20)
    (hb9 : ∀ y : Int, 65001 ≤ y → backs (lead ls ++ P) 9 y = decide (y ∈ ls))
    (hround : goesRound (lead ls ++ P) og cls id mem clu (if step = Str.ofString "confed" then Str.ofString "confed" else Str.ofString "ibgp") = false) :
    Asks 20 w 176 [.ref dc, .ref dt, .ref l, .ref o, .str step t5] s (fun r _ => r = .bool true) := by
  w_top off
  unfold Asks
  k_fill
  intro dp un gd cn cs a₀ ccd cl outer A₀ base h₀ L m mean mg mb Q E B F X T hk hdp hun hret
  refine wpAny_call ?_
  refine' enterC ?k1 ?k2 ?k3 ?k5 ?kA ?kF ?kK ?k6 ?k7 ?k8 ?k9 ?kB ?kD ?_ ?c2 ?c3 ?c4
  (case k1 => k_asm); (case k2 => k_asm); (case k3 => k_asm); (case k5 => k_asm); (case kA => exact rfl); (case kF => exact rfl); (case kK => assumption)
  (case k6 => k_is); (case k7 => k_is); (case k8 => ktr_room); (case k9 => exact BindsTo.of_eq rfl); (case kB => exact rfl); (case kD => decide +kernel); (case c2 => exact rfl); (case c3 => exact rfl); (case c4 => exact rfl)
  intro g' L' h' tk' cells' GS FG' F' N' Y' B' X' T'
  k_cells Y'
  refine gen_et ?_
  intro Eg tkg
  rename_i oA oB dA dB
  obtain ⟨kvc, hdc, hloc, hrelc⟩ := hc.keeps GS
  obtain ⟨kvt, hdt, hlot, hrelt⟩ := ht.keeps GS
  obtain ⟨_, hvc, pc, rfl, hpc⟩ := hrelc.some hPc
  obtain ⟨_, hvt, pt, rfl, hpt⟩ := hrelt.some hPt
  replace hl : g'.IsList l ws.toArray := hl.at fun o e => GS _ _ e
  have hsP : ∀ g ∈ P, g.2.length < 2 ^ 20 := fun g hg => hsT g (List.mem_append_right _ hg)
  obtain ⟨vt, htt, hst⟩ := hpt.keeps (fun _ _ e => e)
  obtain ⟨vc, htc, hsc⟩ := hpc.keeps (fun _ _ e => e)
  have hlead : (lead ls).length ≤ 1 := by unfold lead; split <;> simp
  have hvtl : vt.length = (lead ls).length + P.length := by rw [hst.length, List.length_append]
  have hvcl : vc.length = P.length := hsc.length
  have htt' := htt.isTup
  have htc' := htc.isTup
  (try dsimp only); (try k_fold)
  k_steps
  rename_i oP dP h4 F4 N4
  refine Halt.go ?_
  refine' use (ct_len w _ _ _ (hpt.keeps F4.keep) hsT) [(L' + 1 + 1, oP), (L' + 1, oB)] ?B ?F ?X ?T ?hk ?d ?u (cb_drop N4 (sub2 (by first | ((repeat (first | exact List.Mem.head _ | apply List.Mem.tail)); done) | simp) (by first | ((repeat (first | exact List.Mem.head _ | apply List.Mem.tail)); done) | simp))) ?_
  (case B => k_asm); (case F => k_asm); (case X => k_asm); (case T => k_asm); (case hk => first | exact rfl | assumption)
  (case d => ktr_room)
  (case u => ktr_units)
  clear N4
  rintro r h5 tk5 tl5 F5 N5 Sn5 S5 ⟨t1, rfl⟩
  simp only [List.cons_append, List.nil_append] at N5
  rw [hlen]
  k_steps
  refine Halt.go ?_
  refine' use (ct_len w _ _ _ (hpc.keeps F5.keep) hsP) [(L' + 1 + 1, oP), (L' + 1, oB)] ?B ?F ?X ?T ?hk ?d ?u (cb_drop N5 (sub2 (by first | ((repeat (first | exact List.Mem.head _ | apply List.Mem.tail)); done) | simp) (by first | ((repeat (first | exact List.Mem.head _ | apply List.Mem.tail)); done) | simp))) ?_
  (case B => k_asm); (case F => k_asm); (case X => k_asm); (case T => k_asm); (case hk => first | exact rfl | assumption)
  (case d => ktr_room)
  (case u => ktr_units)
  clear N5 Sn5 S5
  rintro r h6 tk6 tl6 F6 N6 Sn6 S6 ⟨t2, rfl⟩
  simp only [List.cons_append, List.nil_append] at N6
  k_steps
  · exact absurd rfl (by assumption)
  · skip
    refine Halt.go ?_
    refine' use (ct_neigh w _ _ _ (hpt.keeps F6.keep) hsT) [(L' + 1 + 1, oP), (L' + 1, oB)] ?B ?F ?X ?T ?hk ?d ?u (cb_drop N6 (sub2 (by first | ((repeat (first | exact List.Mem.head _ | apply List.Mem.tail)); done) | simp) (by first | ((repeat (first | exact List.Mem.head _ | apply List.Mem.tail)); done) | simp))) ?_
    (case B => k_asm); (case F => k_asm); (case X => k_asm); (case T => k_asm); (case hk => first | exact rfl | assumption)
    (case d => ktr_room)
    (case u => ktr_units)
    clear N6 Sn6 S6
    rintro r h7 tk7 tl7 F7 N7 Sn7 S7 ⟨t3, rfl⟩
    simp only [List.cons_append, List.nil_append] at N7
    rw [hne]
    k_steps
    refine Halt.go ?_
    refine' use (ct_neigh w _ _ _ (hpc.keeps F7.keep) hsP) [(L' + 1 + 1, oP), (L' + 1, oB)] ?B ?F ?X ?T ?hk ?d ?u (cb_drop N7 (sub2 (by first | ((repeat (first | exact List.Mem.head _ | apply List.Mem.tail)); done) | simp) (by first | ((repeat (first | exact List.Mem.head _ | apply List.Mem.tail)); done) | simp))) ?_
    (case B => k_asm); (case F => k_asm); (case X => k_asm); (case T => k_asm); (case hk => first | exact rfl | assumption)
    (case d => ktr_room)
    (case u => ktr_units)
    clear N7 Sn7 S7
    rintro r h8 tk8 tl8 F8 N8 Sn8 S8 ⟨t4, rfl⟩
    simp only [List.cons_append, List.nil_append] at N8
    k_steps
    · exact absurd rfl (by assumption)
    · skip
      refine Halt.go ?_
      refine' use (ct_outer w _ _ _ (hpt.keeps F8.keep) hsz) [(L' + 1 + 1, oP), (L' + 1, oB)] ?B ?F ?X ?T ?hk ?d ?u (cb_drop N8 (sub2 (by first | ((repeat (first | exact List.Mem.head _ | apply List.Mem.tail)); done) | simp) (by first | ((repeat (first | exact List.Mem.head _ | apply List.Mem.tail)); done) | simp))) ?_
      (case B => k_asm); (case F => k_asm); (case X => k_asm); (case T => k_asm); (case hk => first | exact rfl | assumption)
      (case d => ktr_room)
      (case u => ktr_units)
      clear N8 Sn8 S8
      rintro r h9 tk9 tl9 F9 N9 Sn9 S9 ⟨l9, zs9, rfl, hl9, hi9⟩
      simp only [List.cons_append, List.nil_append] at N9
      k_steps
      refine Halt.go ?_
      refine' use (ct_outer w _ _ _ (hpc.keeps F9.keep) hszP) [(L' + 1 + 1, oP), (L' + 1, oB)] ?B ?F ?X ?T ?hk ?d ?u (cb_drop N9 (sub2 (by first | ((repeat (first | exact List.Mem.head _ | apply List.Mem.tail)); done) | simp) (by first | ((repeat (first | exact List.Mem.head _ | apply List.Mem.tail)); done) | simp))) ?_
      (case B => k_asm); (case F => k_asm); (case X => k_asm); (case T => k_asm); (case hk => first | exact rfl | assumption)
      (case d => ktr_room)
      (case u => ktr_units)
      clear N9 Sn9
      rintro r h10 tk10 tl10 F10 N10 Sn10 S10 ⟨l10, zs10, rfl, hl10, hi10⟩
      simp only [List.cons_append, List.nil_append] at N10
      replace hl9 := Heap.IsList.at hl9 fun o e => S10 _ _ e
      rw [hout] at hi9
      k_steps
      refine Halt.go ?_
      refine ne_intsL hl9 hl10 hi9 hi10 (by ktr_units) ?_
      clear hl9 hi9 hi10 hl10
      k_steps
      refine Halt.go ?_
      (with_unfolding_all refine cut_from (a := (lead ls).length) (by assumption) (by assumption) (htt.keeps (Fr.keep (by assumption))) ?hx ?ha ?hz ?_)
      case hx => omega
      case ha => omega
      case hz => rw [sizeLine_eq]; omega
      intro q11 h11 F11 N11 hq11
      k_steps
      refine Halt.go ?_
      refine ne_path ⟨_, hq11, (SegsAt.split hst).2.keeps F11.keep⟩ (hpc.keeps F11.keep) (by ktr_units) ?_
      clear hq11
      k_steps
      refine Halt.go ?_
      refine gcompP (by assumption) rfl (by decide) rfl (by decide) ?_
      k_steps
      refine Halt.go ?_
      (with_unfolding_all refine cut_upto (b := (lead ls).length) (by assumption) (by assumption) (htt.keeps (Fr.keep (by assumption))) ?hx ?ha ?hz ?_)
      case hx => omega
      case ha => omega
      case hz => rw [sizeLine_eq]; omega
      intro q12 h12 F12 N12 hq12
      k_steps
      rename Fr g' _ _ _ => F13
      rename News g' _ _ _ => N13
      have Nc := cb_drop (news := [(L' + 1 + 1, oP), (L' + 1, oB)]) N13 (sub2 (by first | ((repeat (first | exact List.Mem.head _ | apply List.Mem.tail)); done) | simp) (by first | ((repeat (first | exact List.Mem.head _ | apply List.Mem.tail)); done) | simp))
      obtain ⟨tl12, N14, Sn14⟩ := freeze F13 Nc
      have hcells : ∀ q ∈ [(L' + 1 + 1, oP), (L' + 1, oB)], NoTup q.2 := by
        intro q hq
        simp only [List.mem_cons, List.not_mem_nil, or_false] at hq
        rcases hq with e | e <;> rw [e]
        · exact NoTup.ofCell dP
        · exact NoTup.ofCell dB
      have hsrc := seen_src F13 N14 Sn14 hcells hq12
      have htk := (SegsAt.split hst).1
      refine tup_src (keep := tl12) rfl hsrc F13 N14 (fun p hp => List.mem_append_right _ hp) ?_
      intro I g9 F2 N2 hLI hI0 hoff hst2 W hfp
      refine ⟨I, _, _, (vt.take (lead ls).length).length, _, _, _, tl12, _, _, fun i ys n' => n' = [(L' + 1 + 1, oP), (L' + 1, oB)] ++ tl12 ∧ NumsAt g' ys (((lead ls).take i).map (·.2)), rfl, W _, tup_self, (by rw [List.length_take, sizeLine_eq]; omega), tup_io, (by simp), (by simp), hfp, asg_pair rfl rfl rfl rfl (by decide) (P2 := fun i a b => ∃ g bb, (lead ls)[i]? = some g ∧ b = .ref bb ∧ TupI g' bb g.2) ?_, hst2, F2, N2, hLI, hI0, hoff, (fun p hp => List.mem_append_right _ hp), ⟨rfl, .nil⟩, ?_, ?_⟩
      · intro i v hv
        obtain ⟨g, hg, a, t, b, rfl, h1, h2⟩ := htk.get hv
        exact ⟨a, _, _, rfl, ⟨g, b, hg, rfl, h2⟩, fun h k _ => (h1.keeps k).isTup⟩
      · rintro i v ys n1 I oI C oC D m2 h3 tk3 E' hi hv ⟨_, _, ⟨g, bb, hg, rfl, hbb⟩, hm1, hm2⟩ ⟨rfl, hys⟩ hoC F3 N3 O3 hne hkp
        k_steps
        refine ⟨_, _, _, rfl, (by assumption), (by assumption), O3, hkp, rfl, ?_⟩
        rw [List.take_add_one, hg, List.map_append]
        exact hys.append (.cons hbb .nil)
      · rintro ys n1 ⟨rfl, hys⟩ D h3 tk3 F3 N3 O3
        have hyl := hys.length
        rw [List.length_take, List.take_of_length_le (by omega)] at hys
        simp only [List.cons_append, List.nil_append] at N3
        k_steps
        refine Halt.go ?_
        rename Fr g' _ _ _ => F15
        rename News g' _ _ _ => N15
        refine list_mono (D := D) (ys := ys) (cells := [(L' + 1 + 1, oP), (L' + 1, oB)]) (nss := (lead ls).map (·.2)) F15 ?_ ?_
        · with_unfolding_all refine IfExp_ ?_
          k_steps
          refine Halt.go ?_
          rename_i D16 h16 F16 N16 l16
          by_cases hle : ls = []
          · refine ne_intsL (xs := ws) (ys := []) (ns := ls) (hl.at fun o e => F16.keep _ o e) ⟨_, (N16 _ (.head _)).1, rfl, _, rfl⟩ hi (hle ▸ .nil) (by ktr_units) ?_
            k_steps
            rename News g' _ _ _ => N17
            refine ⟨_, [], 0, _, _, tl12, rfl, rfl, (by assumption), cb_drop N17 ?_, ?_⟩
            · intro p hp
              simp only [List.mem_cons, List.cons_append, List.nil_append] at hp ⊢
              rcases hp with e | e | e | e | e <;> simp [e]
            · rw [hle]; exact .nil
          · refine ne_empty (xs := ws) (hl.at fun o e => F16.keep _ o e) ⟨_, (N16 _ (.head _)).1, rfl, _, rfl⟩ (fun e => hle (by have := hi.length; rw [e] at this; exact List.length_eq_zero_iff.mp this.symm)) (by ktr_units) ?_
            k_steps
            refine Halt.go ?_
            (with_unfolding_all refine' krv_ints ?F ?N ?l ?k ?i ?_ ?s ?t ?z)
            (case F => k_asm); (case N => k_asm); (case l => exact hl.at fun o e => Fr.keep (by assumption) _ o e); (case k => exact IsPart.int _ _); (case i => exact hi); (case s => with_unfolding_all rfl); (case t => kmk_pure); (case z => rw [List.size_toArray, hi.length, sizeLine_eq]; omega)
            intro D17 ws17 h17 F17 N17 l17 hi17 _
            k_steps
            rename_i D18 h18 l18 D19 h19 F19 N19 l19
            refine ⟨_, [.ref D18], 0, _, _, (D18, tupO ws17 0) :: tl12, rfl, rfl, (by assumption), cb_drop N19 ?_, ?_⟩
            · intro p hp
              simp only [List.mem_cons, List.cons_append, List.nil_append] at hp ⊢
              rcases hp with e | e | e | e | e | e <;> simp [e]
            · unfold lead
              rw [if_neg hle]
              exact .cons ⟨ws17, ⟨_, (N19 _ (.tail _ (.head _))).1⟩, hi17⟩ .nil
        · intro D2 zs n2 h17 tk17 n17 F17 N17 hzs
          simp only [List.cons_append, List.nil_append] at N17
          k_steps
          refine Halt.go ?_
          refine ne_numsL (xs := ys) (ys := zs) ⟨_, (N17 _ (.tail _ (.head _))).1, rfl, _, rfl⟩ ⟨_, (N17 _ (.head _)).1, rfl, _, rfl⟩ (hys.keeps F17.keep) hzs (by ktr_units) ?_
          k_steps
          refine Halt.go ?_
          refine str_mono (k := if step = Str.ofString "confed" then Str.ofString "confed" else Str.ofString "ibgp") ?_ ?_
          · with_unfolding_all refine IfExp_ ?_
            k_steps
            · rw [if_pos (eq_of_beq (by assumption))]
              exact ⟨_, _, rfl, rfl⟩
            · rw [if_neg (ne_of_beq_false (by assumption))]
              exact ⟨_, _, rfl, rfl⟩
          intro tkd tk18
          k_steps
          rename_i h20 F20 N20
          refine Halt.go ?_
          refine' use (ct_round w _ _ _ _ _ _ _ og cls _ _ _ _ (ht.keeps fun b o e => F20.keep b o (GS b o e)) hPt hog hcl (ho.keeps fun b o e => F20.keep b o (GS b o e)) hsz) [(L' + 1 + 1, oP), (L' + 1, oB)] ?B ?F ?X ?T ?hk ?d ?u (cb_drop N20 (sub2 (by first | ((repeat (first | exact List.Mem.head _ | apply List.Mem.tail)); done) | simp) (by first | ((repeat (first | exact List.Mem.head _ | apply List.Mem.tail)); done) | simp))) ?_
          (case B => k_asm); (case F => k_asm); (case X => k_asm); (case T => k_asm); (case hk => first | exact rfl | assumption)
          (case d => ktr_room)
          (case u => ktr_units)
          clear N20
          rintro r h21 tk21 tl21 F21 N21 Sn21 S21 rfl
          simp only [List.cons_append, List.nil_append] at N21
          rw [hround]
          k_steps
          refine Halt.go ?_
          refine' use (ct_outer w _ _ _ (hpc.keeps F21.keep) hszP) [(L' + 1 + 1, oP), (L' + 1, oB)] ?B ?F ?X ?T ?hk ?d ?u (cb_drop N21 (sub2 (by first | ((repeat (first | exact List.Mem.head _ | apply List.Mem.tail)); done) | simp) (by first | ((repeat (first | exact List.Mem.head _ | apply List.Mem.tail)); done) | simp))) ?_
          (case B => k_asm); (case F => k_asm); (case X => k_asm); (case T => k_asm); (case hk => first | exact rfl | assumption)
          (case d => ktr_room)
          (case u => ktr_units)
          clear N21 Sn21
          rintro r h22 tk22 tl22 F22 N22 Sn22 S22 ⟨l22, zs22, rfl, hl22, hi22⟩
          simp only [List.cons_append, List.nil_append] at N22
          k_steps
          refine Halt.go ?_
          refine' use (ct_back w _ _ _ _ _ _ _ (hpt.keeps F22.keep) hsz) [(L' + 1 + 1, oP), (L' + 1, oB)] ?B ?F ?X ?T ?hk ?d ?u (cb_drop N22 (sub2 (by first | ((repeat (first | exact List.Mem.head _ | apply List.Mem.tail)); done) | simp) (by first | ((repeat (first | exact List.Mem.head _ | apply List.Mem.tail)); done) | simp))) ?_
          (case B => k_asm); (case F => k_asm); (case X => k_asm); (case T => k_asm); (case hk => first | exact rfl | assumption)
          (case d => ktr_room)
          (case u => ktr_units)
          clear N22 Sn22
          rintro r h23 tk23 tl23 F23 N23 Sn23 S23 rfl
          simp only [List.cons_append, List.nil_append] at N23
          rw [backs_last hout (by omega)]
          k_steps
          refine Halt.go ?_
          refine gcompP (by assumption) rfl (by decide) rfl (by decide) ?_
          k_steps
          rename IsRange _ _ _ _ _ _ _ _ => R24
          rename Fr g' _ _ _ => F24
          rename News g' _ _ _ => N24
          refine rng_src (n := 5) (keep := []) rfl R24 (by decide) (by decide) F24 N24 ?_
          intro I g9 F2 N2 hLI hI0 hoff hst2 W hfp
          refine ⟨I, _, _, 5, _, _, _, [], _, _, fun i ys n' => (∃ tl, n' = (L' + 1 + 1, oP) :: (L' + 1, oB) :: tl) ∧ ys = (List.range i).map fun (j : Nat) => Value.bool (decide ((65001 + j : Int) ∈ ls)), rfl, W _, rng_self, (by rw [sizeLine_eq]; omega), rng_io, (by simp), (by simp), hfp, asg_name rfl (by decide), hst2, F2, N2, hLI, hI0, hoff, (fun _ h => nomatch h), ⟨⟨_, rfl⟩, rfl⟩, ?_, ?_⟩
          · rintro i v ys n1 I oI C oC D m2 h3 tk3 E' hi ⟨t, rfl⟩ hm ⟨⟨tl, rfl⟩, rfl⟩ hoC F3 N3 O3 hne hkp
            k_steps
            refine Halt.go ?_
            refine' use (ct_back w _ _ _ _ _ _ _ (hpt.keeps F3.keep) hsz) ((I, oI) :: (C, oC) :: (D, lst ((List.range i).map fun (j : Nat) => Value.bool (decide ((65001 + j : Int) ∈ ls)))) :: [(L' + 1 + 1, oP), (L' + 1, oB)]) ?B ?F ?X ?T ?hk ?d ?u (cb_drop N3 (sub5 (by first | ((repeat (first | exact List.Mem.head _ | apply List.Mem.tail)); done) | simp) (by first | ((repeat (first | exact List.Mem.head _ | apply List.Mem.tail)); done) | simp) (by first | ((repeat (first | exact List.Mem.head _ | apply List.Mem.tail)); done) | simp) (by first | ((repeat (first | exact List.Mem.head _ | apply List.Mem.tail)); done) | simp) (by first | ((repeat (first | exact List.Mem.head _ | apply List.Mem.tail)); done) | simp))) ?_
            (case B => k_asm); (case F => k_asm); (case X => k_asm); (case T => k_asm); (case hk => first | exact rfl | assumption)
            (case d => ktr_room)
            (case u => ktr_units)
            rintro r h4 tk4 tl4 F4 N4 Sn4 S4 rfl
            simp only [List.cons_append, List.nil_append] at N4
            rw [hb9 _ (by omega)]
            refine ⟨_, _, (L' + 1 + 1, oP) :: (L' + 1, oB) :: tl4, rfl, F4, N4, Off3.of ?_, (fun _ h => nomatch h), ⟨_, rfl⟩, ?_⟩
            · intro p hp
              simp only [List.mem_cons] at hp
              rcases hp with e | e | e
              · exact O3.mem p (by simp [e])
              · exact O3.mem p (by simp [e])
              · exact ⟨Sn4.apart p e _ (.head _), Sn4.apart p e _ (.tail _ (.head _)), Sn4.apart p e _ (.tail _ (.tail _ (.head _)))⟩
            · rw [List.range_succ, List.map_append]
              simp
          · rintro ys n1 ⟨⟨tl, rfl⟩, rfl⟩ D h3 tk3 F3 N3 O3
            k_steps
            refine Halt.go ?_
            refine gcompP (by assumption) rfl (by decide) rfl (by decide) ?_
            k_steps
            rename IsRange _ _ _ _ _ _ _ _ => R25
            rename Fr g' _ _ _ => F25
            rename News g' _ _ _ => N25
            refine rng_src (n := 5) (keep := []) rfl R25 (by decide) (by decide) F25 N25 ?_
            intro I g10 F6 N6 hLI hI0 hoff hst3 W hfp
            refine ⟨I, _, _, 5, _, _, _, [], _, _, fun i ys n' => n' = _ ∧ ys = (List.range i).map fun (j : Nat) => Value.bool (decide ((65001 + j : Int) ∈ ls)), rfl, W _, rng_self, (by rw [sizeLine_eq]; omega), rng_io, (by simp), (by simp), hfp, asg_name rfl (by decide), hst3, F6, N6, hLI, hI0, hoff, (fun _ h => nomatch h), ⟨rfl, rfl⟩, ?_, ?_⟩
            · rintro i v ys n1 I oI C oC D m2 h3 tk3 E' hi ⟨t, rfl⟩ hm ⟨rfl, rfl⟩ hoC F3 N3 O3 hne hkp
              k_steps
              refine ⟨_, _, _, rfl, (by assumption), (by assumption), O3, hkp, rfl, ?_⟩
              rw [List.range_succ, List.map_append]
              simp [any_mem]
            · rintro ys n1 ⟨rfl, rfl⟩ D2 h7 tk7 F7 N7 O7
              k_steps
              refine Halt.go ?_
              refine eq_bools (n := 5) (f := fun j => decide ((65001 + j : Int) ∈ ls)) ⟨_, (N7 _ (.tail _ (.head _))).1, rfl, _, rfl⟩ ⟨_, (N7 _ (.head _)).1, rfl, _, rfl⟩ (by ktr_units) ?_
              have Nn : News g' L' h7 [] := News.nil
              k_steps
              exact hret _ _ _ (sub_end GS (by assumption)) rfl
end Mine
end
section
open PySem PySem.W PySem.Spec PySem.Calls PyProof.Rows
set_option pp.deepTerms false
set_option pp.deepTerms.threshold 6
set_option pp.proofs false
namespace Mine
/-- the attributes of a route, as the law knows them -/
structure Rec where
  o : Int
  T : List (Int × List Int)
  nh : Int
  med : Option Int
  cm : Option (List Int)
  uk : Option (List (Int × Int × Array UInt8))
  lp : Option Int
  og : Option Int
  cls : Option (List Int)
noncomputable def Rec.at (x : Rec) : Str → Option FV := fun k =>
  if k = Str.ofString "origin" then some (.int x.o) else if k = Str.ofString "as_path" then some (.path x.T) else if k = Str.ofString "next_hop" then some (.int x.nh) else if k = Str.ofString "med" then x.med.map .int
  else if k = Str.ofString "communities" then x.cm.map .nums else if k = Str.ofString "unknown" then x.uk.map .unk else if k = Str.ofString "local_pref" then x.lp.map .int else if k = Str.ofString "originator" then x.og.map .int
  else if k = Str.ofString "clusters" then x.cls.map .nums else none
theorem Rec.dom (x : Rec) : Dom x.at := by
  intro k hk
  unfold Rec.at
  simp only [attNames, List.mem_cons, List.not_mem_nil, or_false, not_or] at hk
  obtain ⟨h1, h2, h3, h4, h5, h6, h7, h8, h9⟩ := hk
  rw [if_neg h1, if_neg h2, if_neg h3, if_neg h4, if_neg h5, if_neg h6, if_neg h7, if_neg h8, if_neg h9]
theorem Rec.path (x : Rec) : x.at (Str.ofString "as_path") = some (.path x.T) := rfl
theorem Rec.atMed (x : Rec) : x.at (Str.ofString "med") = x.med.map .int := rfl
theorem Rec.atCm (x : Rec) : x.at (Str.ofString "communities") = x.cm.map .nums := rfl
theorem Rec.atUk (x : Rec) : x.at (Str.ofString "unknown") = x.uk.map .unk := rfl
theorem Rec.atLp (x : Rec) : x.at (Str.ofString "local_pref") = x.lp.map .int := rfl
theorem Rec.atOg (x : Rec) : x.at (Str.ofString "originator") = x.og.map .int := rfl
theorem Rec.atCls (x : Rec) : x.at (Str.ofString "clusters") = x.cls.map .nums := rfl
/-- two maps of names are alike when they are at the nine names and at all others -/
theorem nine {f g : Str → Option FV} (h : ∀ k ∈ attNames, f k = g k) (hf : Dom f) (hg : Dom g) : f = g := by
  funext k
  by_cases hk : k ∈ attNames
  · exact h k hk
  · rw [hf k hk, hg k hk]
noncomputable def ukOn (uk : Option (List (Int × Int × Array UInt8))) : Option (List (Int × Int × Array UInt8)) := match uk with
  | none => none
  | some us => if unkOn us = [] then none else some (unkOn us)
theorem unkTail_at {R : Str → Option FV} {uk} (h : R (Str.ofString "unknown") = uk.map .unk) : unkTail R uk = upd R (Str.ofString "unknown") ((ukOn uk).map .unk) := by
  cases uk with
  | none =>
    funext k
    unfold unkTail upd ukOn
    by_cases hk : k = Str.ofString "unknown"
    · subst hk; rw [if_pos rfl]; exact h
    · rw [if_neg hk]
  | some us =>
    unfold unkTail ukOn
    dsimp only
    by_cases h1 : unkOn us = []
    · rw [if_pos h1, if_pos h1]; rfl
    · rw [if_neg h1, if_neg h1]; rfl
theorem knownR_at {R : Str → Option FV} {uk} (h : R (Str.ofString "unknown") = uk.map .unk) : knownR R uk = upd R (Str.ofString "unknown") ((ukOn uk).map .unk) := unkTail_at h
noncomputable def Rec.uks (x : Rec) : Rec := { x with uk := ukOn x.uk }
theorem Rec.uks_at (x : Rec) : upd x.at (Str.ofString "unknown") ((ukOn x.uk).map .unk) = x.uks.at := by
  refine nine ?_ (Dom.upd x.dom (by decide) _) x.uks.dom
  intro k hk
  simp only [attNames, List.mem_cons, List.not_mem_nil, or_false] at hk
  rcases hk with rfl | rfl | rfl | rfl | rfl | rfl | rfl | rfl | rfl <;> rfl
theorem tail_rec (x : Rec) : unkTail x.at x.uk = x.uks.at := by rw [unkTail_at rfl, x.uks_at]
theorem known_rec (x : Rec) : knownR x.at x.uk = x.uks.at := by rw [knownR_at rfl, x.uks_at]
/-- what another member is told -/
noncomputable def Rec.member (x : Rec) (T : List (Int × List Int)) : Rec := { x with T := T, lp := some (x.lp.getD 100), og := none, cls := none }
theorem member_rec (x : Rec) (mem : Int) : tellMember x.at x.T mem = (x.member (putA x.T mem 3 255)).at := by
  have hd : Dom (tellMember x.at x.T mem) := dom_member x.dom
  refine nine ?_ hd (Rec.dom _)
  intro k hk
  simp only [attNames, List.mem_cons, List.not_mem_nil, or_false] at hk
  unfold tellMember Rec.member
  cases hl : x.lp with
  | none =>
    have : x.at (Str.ofString "local_pref") = none := by rw [x.atLp, hl]; rfl
    simp only [this, Option.isSome_none]
    rcases hk with rfl | rfl | rfl | rfl | rfl | rfl | rfl | rfl | rfl <;> rfl
  | some v =>
    have : x.at (Str.ofString "local_pref") = some (.int v) := by rw [x.atLp, hl]; rfl
    simp only [this, Option.isSome_some]
    rcases hk with rfl | rfl | rfl | rfl | rfl | rfl | rfl | rfl | rfl <;> first | rfl | exact this
theorem dueMember_rec (x : Rec) (mem : Int) (h : x.lp = none ∨ x.lp = some 100) : dueMember x.at x.T mem = (x.member (headed x.T mem 3)).at := by
  have hd : Dom (dueMember x.at x.T mem) := ((x.dom.filter notMarks).upd (by decide) _).upd (by decide) _
  refine nine ?_ hd (Rec.dom _)
  intro k hk
  have e : x.lp.getD 100 = 100 := by rcases h with h | h <;> rw [h] <;> rfl
  simp only [attNames, List.mem_cons, List.not_mem_nil, or_false] at hk
  unfold dueMember Rec.member
  rw [e]
  rcases hk with rfl | rfl | rfl | rfl | rfl | rfl | rfl | rfl | rfl <;> rfl
/-- what a client, or a speaker within, is told -/
noncomputable def Rec.inside (x : Rec) (clu tid : Int) (b : Bool) : Rec := if b then { x with lp := some (x.lp.getD 100), og := some (x.og.getD tid), cls := some (clu :: x.cls.getD []) } else { x with lp := some (x.lp.getD 100) }
theorem inside_rec (x : Rec) (clu tid : Int) (b : Bool) : tellInside x.at (x.cls.getD []) clu tid b = (x.inside clu tid b).at := by
  have hd : Dom (tellInside x.at (x.cls.getD []) clu tid b) := dom_inside x.dom
  refine nine ?_ hd (Rec.dom _)
  intro k hk
  simp only [attNames, List.mem_cons, List.not_mem_nil, or_false] at hk
  unfold tellInside Rec.inside marked
  cases b
  all_goals cases hl : x.lp <;> cases ho : x.og
  all_goals have e1 := x.atLp
  all_goals have e2 := x.atOg
  all_goals rw [hl] at e1
  all_goals rw [ho] at e2
  all_goals simp only [e1, e2, Option.map_none, Option.map_some, Option.isSome_none, Option.isSome_some, if_true, if_false, Bool.false_eq_true]
  all_goals rcases hk with rfl | rfl | rfl | rfl | rfl | rfl | rfl | rfl | rfl
  all_goals first | rfl | exact e1 | exact e2
theorem dueClient_rec (x : Rec) (clu at' : Int) (b : Bool) (h : x.lp = none ∨ x.lp = some 100) : dueClient x.at x.og (x.cls.getD []) clu at' b = (x.inside clu (99 + at') b).at := by
  have e : x.lp.getD 100 = 100 := by rcases h with h | h <;> rw [h] <;> rfl
  have hd : Dom (dueClient x.at x.og (x.cls.getD []) clu at' b) := by
    unfold dueClient
    cases b
    · exact Dom.upd x.dom (by decide) _
    · exact Dom.upd (Dom.upd (Dom.upd x.dom (by decide) _) (by decide) _) (by decide) _
  refine nine ?_ hd (Rec.dom _)
  intro k hk
  simp only [attNames, List.mem_cons, List.not_mem_nil, or_false] at hk
  unfold dueClient Rec.inside
  cases b
  all_goals simp only [if_true, if_false, Bool.false_eq_true, e]
  all_goals rcases hk with rfl | rfl | rfl | rfl | rfl | rfl | rfl | rfl | rfl <;> rfl
/-- what a system outside is told -/
noncomputable def Rec.outside (x : Rec) (T : List (Int × List Int)) (adr : Int) : Rec := { x with T := T, nh := adr, med := none, lp := none, og := none, cls := none }
theorem outside_rec (x : Rec) (adr : Int) : tellOutside x.at x.T adr = (x.outside (putA (noConf x.T) 9 2 255) adr).at := by
  have hd : Dom (tellOutside x.at x.T adr) := dom_outside x.dom
  refine nine ?_ hd (Rec.dom _)
  intro k hk
  simp only [attNames, List.mem_cons, List.not_mem_nil, or_false] at hk
  unfold tellOutside Rec.outside
  rcases hk with rfl | rfl | rfl | rfl | rfl | rfl | rfl | rfl | rfl <;> rfl
theorem dueOutside_rec (x : Rec) (adr : Int) (h : x.lp = none ∧ x.og = none ∧ x.cls = none) : dueOutside x.at x.T adr = (x.outside (headed x.T 9 2) adr).at := by
  have hd : Dom (dueOutside x.at x.T adr) := ((x.dom.filter notMed).upd (by decide) _).upd (by decide) _
  refine nine ?_ hd (Rec.dom _)
  intro k hk
  simp only [attNames, List.mem_cons, List.not_mem_nil, or_false] at hk
  obtain ⟨h1, h2, h3⟩ := h
  have e1 := x.atLp
  have e2 := x.atOg
  have e3 := x.atCls
  rw [h1] at e1; rw [h2] at e2; rw [h3] at e3
  unfold dueOutside Rec.outside
  rcases hk with rfl | rfl | rfl | rfl | rfl | rfl | rfl | rfl | rfl
  all_goals first | rfl | exact e1 | exact e2 | exact e3
end Mine
end
section
open PySem PySem.W PySem.Spec PySem.Calls PyProof.Rows
set_option pp.deepTerms false
set_option pp.deepTerms.threshold 6
set_option pp.proofs false
namespace Mine
theorem ukOn_idem {uk} (h : CameU uk) : ukOn (ukOn uk) = ukOn uk := by
  rcases h with rfl | rfl | rfl <;> rfl
theorem ukOn_flags {uk} (h : CameU uk) : (∀ us, uk = some us → Flags us ∧ us.length < 2 ^ 20) ∧ (∀ us, ukOn uk = some us → Flags us ∧ us.length < 2 ^ 20) := by
  refine ⟨fun us e => ?_, fun us e => ?_⟩
  · rcases h with rfl | rfl | rfl
    · cases e
    · cases e; exact ⟨by intro u hu; simp at hu; subst hu; exact .inr (.inl rfl), by decide⟩
    · cases e; exact ⟨by intro u hu; simp at hu; rcases hu with rfl | rfl; exact .inl rfl; exact .inr (.inr rfl), by decide⟩
  · rcases h with rfl | rfl | rfl
    · cases e
    · have e2 : ukOn (some [(192, 40, #[97])]) = some [(224, 40, #[97])] := rfl
      rw [e2] at e
      cases e; exact ⟨by intro u hu; simp at hu; subst hu; exact .inr (.inr rfl), by decide⟩
    · have e2 : ukOn (some [(128, 41, #[98]), (224, 42, #[])]) = some [(224, 42, #[])] := rfl
      rw [e2] at e
      cases e; exact ⟨by intro u hu; simp at hu; subst hu; exact .inr (.inr rfl), by decide⟩
/-- what is asked of the path that came -/
structure Path (P : List (Int × List Int)) : Prop where
  kinds : ∀ g ∈ P, g.1 = 1 ∨ g.1 = 2
  ne : P ≠ []
  len : P.length ≤ 2
  seg : ∀ g ∈ P, g.2.length ≤ 2
  siz : sizes P ≤ 4
  out : ∀ n ∈ outerN P, 201 ≤ n ∧ n ≤ 208
  outl : 1 ≤ (outerN P).length ∧ (outerN P).length ≤ 4
theorem CameP.path {P} (h : CameP P) : Path P := by
  obtain ⟨a, more, ha, hm, rfl | rfl | rfl⟩ := h
  · rcases hm with rfl | rfl
    all_goals constructor
    all_goals simp [sizes, outerN]
    all_goals omega
  · rcases hm with rfl | rfl
    all_goals constructor
    all_goals simp [sizes, outerN]
    all_goals omega
  · constructor
    all_goals simp [sizes, outerN]
    all_goals omega
section
variable {P : List (Int × List Int)} (h : Path P)
include h
theorem Path.inner : innerN P = [] := by
  unfold innerN
  refine List.flatMap_eq_nil_iff.mpr fun g hg => if_neg ?_
  have := h.kinds g hg
  omega
theorem Path.noC : noConf P = P := by
  unfold noConf
  refine List.filter_eq_self.mpr fun g hg => ?_
  have := h.kinds g hg
  simp
  omega
end
theorem lead_len (ls : List Int) (P) : pathLen (lead ls ++ P) = pathLen P := by
  unfold lead
  split
  · rfl
  · simp [pathLen, segLen]
theorem lead_neigh (ls : List Int) (P) : neigh (lead ls ++ P) = neigh P := by
  unfold lead
  split
  · rfl
  · simp [neigh]
theorem lead_outer (ls : List Int) (P) : outerN (lead ls ++ P) = outerN P := by
  unfold lead
  split
  · rfl
  · simp [outerN]
theorem lead_inner (ls : List Int) {P} (h : Path P) : innerN (lead ls ++ P) = ls.reverse := by
  have e : innerN (lead ls ++ P) = innerN (lead ls) ++ innerN P := by simp [innerN]
  rw [e, h.inner, List.append_nil]
  unfold lead
  split
  · rename_i e; rw [e]; rfl
  · simp [innerN]
theorem lead_noConf (ls : List Int) {P} (h : Path P) : noConf (lead ls ++ P) = P := by
  have e : noConf (lead ls ++ P) = noConf (lead ls) ++ noConf P := by simp [noConf]
  rw [e, h.noC]
  unfold lead
  split
  · rfl
  · simp [noConf]
theorem lead_sizes (ls : List Int) (P) : sizes (lead ls ++ P) = ls.length + sizes P := by
  unfold lead
  split
  · rename_i e; rw [e]; simp [sizes]
  · simp [sizes]
theorem lead_seg (ls : List Int) {P} (h : Path P) (hl : ls.length ≤ 8) : ∀ g ∈ lead ls ++ P, g.2.length ≤ 8 := by
  intro g hg
  rcases List.mem_append.mp hg with hg | hg
  · unfold lead at hg
    split at hg
    · cases hg
    · rw [List.mem_singleton.mp hg, List.length_reverse]; exact hl
  · have := h.seg g hg
    omega
theorem lead_length (ls : List Int) {P} (h : Path P) : (lead ls ++ P).length ≤ 3 := by
  rw [List.length_append]
  have := h.len
  have : (lead ls).length ≤ 1 := by unfold lead; split <;> simp
  omega
theorem lead_ne (ls : List Int) {P} (h : Path P) : lead ls ++ P ≠ [] := by
  intro e
  exact h.ne (List.append_eq_nil_iff.mp e).2
theorem lead_put (ls : List Int) {P} (h : Path P) (x : Int) (hl : ls.length ≤ 8) : putA (lead ls ++ P) x 3 255 = lead (ls ++ [x]) ++ P := by
  have e2 : lead (ls ++ [x]) = [(3, x :: ls.reverse)] := by simp [lead]
  rw [e2]
  unfold lead
  split
  · rename_i e
    rw [e]
    cases P with
    | nil => exact absurd rfl h.ne
    | cons g R =>
      have := h.kinds g (List.mem_cons_self ..)
      have hn : ¬ (g.1 = 3 ∧ (g.2.length : Int) < 255) := by omega
      simp [putA, hn]
  · have hn : ((ls.reverse.length : Nat) : Int) < 255 := by rw [List.length_reverse]; omega
    simp only [putA, List.cons_append, List.nil_append]
    rw [if_pos ⟨trivial, hn⟩]
theorem lead_headed (ls : List Int) {P} (h : Path P) (x : Int) : headed (lead ls ++ P) x 3 = lead (ls ++ [x]) ++ P := by
  have e2 : lead (ls ++ [x]) = [(3, x :: ls.reverse)] := by simp [lead]
  rw [e2]
  unfold lead
  split
  · rename_i e
    rw [e]
    cases P with
    | nil => exact absurd rfl h.ne
    | cons g R =>
      have := h.kinds g (List.mem_cons_self ..)
      have hn : ¬ g.1 = 3 := by omega
      simp [headed, hn]
  · simp [headed]
theorem put_headed {P} (h : Path P) (x : Int) : putA P x 2 255 = headed P x 2 := by
  cases P with
  | nil => rfl
  | cons g R =>
    have := h.seg g (List.mem_cons_self ..)
    unfold putA headed
    dsimp only
    by_cases e : g.1 = 2
    · rw [if_pos ⟨e, by omega⟩, if_pos e]
    · rw [if_neg (fun q => e q.1), if_neg e]
theorem lead_backs (ls : List Int) {P} (h : Path P) (y : Int) (hy : 65001 ≤ y) : backs (lead ls ++ P) 9 y = decide (y ∈ ls) := by
  unfold backs
  rw [lead_outer, lead_inner ls h]
  have h1 : (9 : Int) ∉ outerN P := fun e => by have := h.out _ e; omega
  have h2 : y ≠ 0 := by omega
  simp [h1, h2]
/-- how far a route has come, after i steps -/
structure Hist (i : Nat) (o : Int) (P : List (Int × List Int)) (cm : Option (List Int)) (uk0 : Option (List (Int × Int × Array UInt8))) (x : Rec) (ls : List Int) (teller : Str) : Prop where
  ho : x.o = o
  hT : x.T = lead ls ++ P
  hnh : x.nh = 77
  hmed : x.med = some 5
  hcm : x.cm = cm
  huk : (i = 0 ∧ x.uk = uk0) ∨ x.uk = ukOn uk0
  hlp : x.lp = none ∨ x.lp = some 100
  hog : ∀ v, x.og = some v → 99 ≤ v ∧ v < 99 + (i : Int)
  hcl : ∀ c ∈ x.cls.getD [], 50 ≤ c ∧ c < 50 + (i : Int)
  hcn : (x.cls.getD []).length ≤ i
  hls : ∀ n ∈ ls, 65001 ≤ n ∧ n < 65001 + (ls.length : Int)
  hln : ls.length ≤ i
  htl : teller = Str.ofString "ebgp" ∨ teller = Str.ofString "confed" ∨ teller = Str.ofString "ibgp"
  hi : i ≤ 4
section
variable {i : Nat} {o : Int} {P : List (Int × List Int)} {cm : Option (List Int)} {uk0 : Option (List (Int × Int × Array UInt8))} {x : Rec} {ls : List Int} {teller : Str}
theorem Hist.uks (h : Hist i o P cm uk0 x ls teller) (hu : CameU uk0) : ukOn x.uk = ukOn uk0 := by
  rcases h.huk with ⟨_, e⟩ | e
  · rw [e]
  · rw [e, ukOn_idem hu]
theorem Hist.flags (h : Hist i o P cm uk0 x ls teller) (hu : CameU uk0) : ∀ us, x.uk = some us → Flags us ∧ us.length < 2 ^ 20 := by
  rcases h.huk with ⟨_, e⟩ | e
  · rw [e]; exact (ukOn_flags hu).1
  · rw [e]; exact (ukOn_flags hu).2
theorem Hist.seg (h : Hist i o P cm uk0 x ls teller) (hp : Path P) : ∀ g ∈ x.T, g.2.length < 2 ^ 20 := by
  intro g hg
  rw [h.hT] at hg
  have h1 := h.hln
  have h2 := h.hi
  have := lead_seg ls hp (by omega) g hg
  omega
theorem Hist.len (h : Hist i o P cm uk0 x ls teller) (hp : Path P) : x.T.length < 2 ^ 20 := by
  rw [h.hT]
  have := lead_length ls hp
  omega
theorem Hist.ne (h : Hist i o P cm uk0 x ls teller) (hp : Path P) : x.T ≠ [] := by
  rw [h.hT]
  exact lead_ne ls hp
theorem Hist.clen (h : Hist i o P cm uk0 x ls teller) : (x.cls.getD []).length < 2 ^ 20 := by
  have h1 := h.hcn
  have h2 := h.hi
  omega
theorem Hist.med (h : Hist i o P cm uk0 x ls teller) : (x.at (Str.ofString "med")).isSome = true := by
  rw [x.atMed, h.hmed]; rfl
theorem told_confed (hc : CameC cm) (b : Int) : isTold teller (Str.ofString "confed") b cm = true := by
  unfold isTold mayPass
  have e : isInside (Str.ofString "confed") = false := by decide
  have e3 : Str.ofString "confed" ≠ Str.ofString "ebgp" := by decide
  rw [e]
  rcases hc with rfl | rfl | rfl <;> simp [mayTold, e3]
theorem told_client (hc : CameC cm) (b : Int) (hb : b ≠ 0) : isTold teller (Str.ofString "client") b cm = true := by
  unfold isTold mayPass
  have e : (b != 0) = true := bne_iff_ne.mpr hb
  have e2 : Str.ofString "client" ≠ Str.ofString "confed" := by decide
  have e3 : Str.ofString "client" ≠ Str.ofString "ebgp" := by decide
  rw [e]
  rcases hc with rfl | rfl | rfl <;> simp [mayTold, e2, e3]
theorem told_ebgp (hc : CameC cm) (b : Int) : isTold teller (Str.ofString "ebgp") b cm = decide (4294967041 ∉ cm.getD []) := by
  unfold isTold mayPass
  have e : isInside (Str.ofString "ebgp") = false := by decide
  rw [e]
  rcases hc with rfl | rfl | rfl <;> simp [mayTold]
theorem tell_confed (tid clu adr mem : Int) : tellAttrs x.at x.T x.cls x.uk mem clu adr tid teller (Str.ofString "confed") = (x.member (putA x.T mem 3 255)).uks.at := by
  unfold tellAttrs
  rw [if_neg (by decide), if_pos rfl, member_rec]
  exact tail_rec (x.member (putA x.T mem 3 255))
theorem inside_uk (clu tid : Int) (b : Bool) : (x.inside clu tid b).uk = x.uk := by cases b <;> rfl
theorem tell_client (tid clu adr mem : Int) : tellAttrs x.at x.T x.cls x.uk mem clu adr tid teller (Str.ofString "client") = (x.inside clu tid (isInside teller)).uks.at := by
  unfold tellAttrs
  have e : isInside (Str.ofString "client") = true := by decide
  rw [if_neg (by decide), if_neg (by decide), inside_rec, e, Bool.and_true]
  have := tail_rec (x.inside clu tid (isInside teller))
  rwa [inside_uk] at this
theorem tell_ebgp (tid clu adr mem : Int) : tellAttrs x.at x.T x.cls x.uk mem clu adr tid teller (Str.ofString "ebgp") = (x.outside (putA (noConf x.T) 9 2 255) adr).uks.at := by
  unfold tellAttrs
  rw [if_pos rfl, outside_rec]
  exact tail_rec (x.outside (putA (noConf x.T) 9 2 255) adr)
theorem due_confed (h : x.lp = none ∨ x.lp = some 100) (mem : Int) : knownR (dueMember x.at x.T mem) x.uk = (x.member (headed x.T mem 3)).uks.at := by
  rw [dueMember_rec x mem h]
  exact known_rec (x.member (headed x.T mem 3))
theorem due_client (h : x.lp = none ∨ x.lp = some 100) (clu at' : Int) (b : Bool) : knownR (dueClient x.at x.og (x.cls.getD []) clu at' b) x.uk = (x.inside clu (99 + at') b).uks.at := by
  rw [dueClient_rec x clu at' b h]
  have := known_rec (x.inside clu (99 + at') b)
  rwa [inside_uk] at this
theorem due_ebgp (h : x.lp = none ∧ x.og = none ∧ x.cls = none) (adr : Int) : knownR (dueOutside x.at x.T adr) x.uk = (x.outside (headed x.T 9 2) adr).uks.at := by
  rw [dueOutside_rec x adr h]
  exact known_rec (x.outside (headed x.T 9 2) adr)
theorem teller_in (h : teller = Str.ofString "ebgp" ∨ teller = Str.ofString "confed" ∨ teller = Str.ofString "ibgp") : isInside teller = (teller == Str.ofString "ibgp") := by
  rcases h with rfl | rfl | rfl <;> decide
/-- a step to another member -/
theorem Hist.confed (h : Hist i o P cm uk0 x ls teller) (hu : CameU uk0) (hi : i + 1 ≤ 4) {mem : Int} (hm : mem = 65001 + (ls.length : Int)) : Hist (i + 1) o P cm uk0 (x.member (lead (ls ++ [mem]) ++ P)).uks (ls ++ [mem]) (Str.ofString "confed") where
  ho := h.ho
  hT := rfl
  hnh := h.hnh
  hmed := h.hmed
  hcm := h.hcm
  huk := .inr (h.uks hu)
  hlp := by
    show some (x.lp.getD 100) = none ∨ some (x.lp.getD 100) = some 100
    rcases h.hlp with e | e <;> rw [e] <;> exact .inr rfl
  hog := by intro v hv; cases hv
  hcl := by intro c hc; cases hc
  hcn := Nat.zero_le _
  hls := by
    intro n hn
    have := h.hls
    simp only [List.mem_append, List.mem_singleton, List.length_append, List.length_singleton] at hn ⊢
    rcases hn with hn | rfl
    · have := this n hn
      omega
    · omega
  hln := by
    have := h.hln
    simp
    omega
  htl := .inr (.inl rfl)
  hi := hi
/-- a step to a client within the member -/
theorem Hist.client (h : Hist i o P cm uk0 x ls teller) (hu : CameU uk0) (hi : i + 1 ≤ 4) {clu tid : Int} (hc : clu = 50 + (i : Int)) (ht : tid = 99 + (i : Int)) (b : Bool) : Hist (i + 1) o P cm uk0 (x.inside clu tid b).uks ls (Str.ofString "ibgp") where
  ho := by cases b <;> exact h.ho
  hT := by cases b <;> exact h.hT
  hnh := by cases b <;> exact h.hnh
  hmed := by cases b <;> exact h.hmed
  hcm := by cases b <;> exact h.hcm
  huk := .inr (by cases b <;> exact h.uks hu)
  hlp := by
    have : (x.inside clu tid b).uks.lp = some (x.lp.getD 100) := by cases b <;> rfl
    rw [this]
    rcases h.hlp with e | e <;> rw [e] <;> exact .inr rfl
  hog := by
    have h1 := h.hog
    intro v hv
    cases b
    · have := h1 v hv
      omega
    · have e : some (x.og.getD tid) = some v := hv
      cases ho : x.og with
      | none => rw [ho] at e; have e := Option.some.inj e; simp at e; omega
      | some u => rw [ho] at e; have e := Option.some.inj e; simp at e; have := h1 u ho; omega
  hcl := by
    have h1 := h.hcl
    intro c hcc
    cases b
    · have := h1 c hcc
      omega
    · have e : c ∈ clu :: x.cls.getD [] := hcc
      rcases List.mem_cons.mp e with rfl | e
      · omega
      · have := h1 c e
        omega
  hcn := by
    have h1 := h.hcn
    cases b
    · exact Nat.le_succ_of_le h1
    · show (clu :: x.cls.getD []).length ≤ i + 1
      simp
      exact h1
  hls := h.hls
  hln := Nat.le_succ_of_le h.hln
  htl := .inr (.inr rfl)
  hi := hi
theorem Hist.round (h : Hist i o P cm uk0 x ls teller) (hp : Path P) {id mem clu : Int} {kind : Str} (h1 : id = 100 + (i : Int)) (h2 : mem = 65001 + (ls.length : Int)) (h3 : clu = 50 + (i : Int)) : goesRound (lead ls ++ P) x.og x.cls id mem clu kind = false := by
  unfold goesRound
  have hm : mem ∉ ls := fun e => by have := h.hls _ e; omega
  rw [lead_backs ls hp mem (by omega), decide_eq_false hm]
  have ho : (x.og.getD 0 == id) = false := by
    rw [beq_eq_false_iff_ne]
    cases e : x.og with
    | none => simp; omega
    | some v => have := h.hog v e; simp; omega
  have hcl : decide (clu ∈ x.cls.getD []) = false := decide_eq_false fun e => by have := h.hcl _ e; omega
  rw [ho, hcl]
  simp
/-- outside: what is told is what the table tells -/
theorem Hist.outside (h : Hist i o P cm uk0 x ls teller) (hp : Path P) (hu : CameU uk0) (adr : Int) : (x.outside (putA (noConf x.T) 9 2 255) adr).uks = ({ o := o, T := headed P 9 2, nh := adr, med := none, cm := cm, uk := ukOn uk0, lp := none, og := none, cls := none } : Rec) := by
  have e1 : putA (noConf x.T) 9 2 255 = headed P 9 2 := by rw [h.hT, lead_noConf ls hp, put_headed hp]
  have e2 := h.uks hu
  unfold Rec.uks Rec.outside
  rw [e1]
  simp only [h.ho, h.hcm, e2]
end
end Mine
end
section
open PySem PySem.W PySem.Spec PySem.Calls PyProof.Rows
set_option pp.deepTerms false
set_option pp.deepTerms.threshold 6
set_option pp.proofs false
namespace Mine
open PyProof.Rows.LCg PySem.SeqAt
theorem fresh_ne {g hpre : Heap} {L d : Addr} {m : Str → Option Value} {c : List (Addr × Obj)} (F : Fr g L hpre m) (N : News g L hpre c) (hfr : hpre.get? d = none) : d ≠ L ∧ ∀ q ∈ c, q.1 ≠ d := by
  refine ⟨fun e => ?_, fun q hq e => ?_⟩
  · obtain ⟨oL, _, _, hL, _⟩ := Fr.isDict F
    rw [← e, hfr] at hL
    cases hL
  · have := (N q hq).1
    rw [e, hfr] at this
    cases this
theorem Seen.att {w : World} {g h : Heap} {L : Addr} {m : Str → Option Value} {c tl : List (Addr × Obj)} (F : Fr g L h m) (N : News g L h (c ++ tl)) (Sn : Snap g L c tl h) (hcl : ∀ q ∈ c, NoTup q.2) {d : Addr} {R : Str → Option FV} (hd : d ≠ L) (hc : ∀ q ∈ c, q.1 ≠ d) (x : AttAt w h d R) :
    Seen g tl fun h' => AttAt w h' d R := by
  obtain ⟨kvs, h1, lo, r⟩ := x
  obtain ⟨o, ho, hD⟩ := Heap.dictOf_iff.mp h1
  have e1 := Seen.obj F N Sn ho hd hc
  have e2 := Seen.drel F N Sn hcl r
  exact fun h' k z => ⟨kvs, Heap.dictOf_iff.mpr ⟨o, e1 h' k z, hD⟩, lo, e2 h' k z⟩
theorem Seen.own {w : World} {g h : Heap} {L : Addr} {m : Str → Option Value} {c tl : List (Addr × Obj)} (F : Fr g L h m) (N : News g L h (c ++ tl)) (Sn : Snap g L c tl h) {d : Addr} {id mem clu adr : Int} (hd : d ≠ L) (hc : ∀ q ∈ c, q.1 ≠ d) (x : OwnAt w h d id mem clu adr) :
    Seen g tl fun h' => OwnAt w h' d id mem clu adr := by
  obtain ⟨kvs, h1, r⟩ := x
  obtain ⟨o, ho, hD⟩ := Heap.dictOf_iff.mp h1
  have e1 := Seen.obj F N Sn ho hd hc
  exact fun h' k z => ⟨kvs, Heap.dictOf_iff.mpr ⟨o, e1 h' k z, hD⟩, r⟩
theorem Seen.lift {g h : Heap} {L : Addr} {c led tl tl' : List (Addr × Obj)} {C : Heap → Prop} (x : Seen g tl C) (N : News g L h led) (hs : ∀ p ∈ tl, p ∈ led) (ap : ∀ p ∈ tl, ∀ q ∈ c, p.1 ≠ q.1) (Sn : Snap g L c tl' h) : Seen g tl' C := by
  intro h' k z
  refine x h' k fun p hp => z p ?_
  obtain ⟨h1, h2, h3⟩ := N p (hs p hp)
  rcases Sn.all p.1 p.2 h1 with e | e | e | e
  · rw [h3] at e; cases e
  · exact absurd e h2
  · obtain ⟨q, hq, e⟩ := List.mem_map.mp e
    exact absurd e.symm (ap p hp q hq)
  · exact e
theorem Seen.and {g : Heap} {tl : List (Addr × Obj)} {C D : Heap → Prop} (x : Seen g tl C) (y : Seen g tl D) : Seen g tl fun h => C h ∧ D h := fun h k z => ⟨x h k z, y h k z⟩
theorem box_to {h h' : Heap} {S : Addr} {k : Int} {o x : Obj} (hb : BoxAt h S k o) (e1 : h.get? S = some x) (e2 : h'.get? S = some x) : BoxAt h' S k o := by
  obtain ⟨t, n, ws, xs, e, hl, hi, hw⟩ := hb
  obtain ⟨y, hy, hc, z⟩ := hl
  have e3 : y = x := Option.some.inj (hy.symm.trans e1)
  exact ⟨t, n, ws, xs, e, ⟨y, by rw [e3]; exact e2, hc, z⟩, hi, hw⟩
theorem cameR_rec {o : Int} {P : List (Int × List Int)} {cm : Option (List Int)} {uk : Option (List (Int × Int × Array UInt8))} : cameR o P cm uk = Rec.at { o := o, T := P, nh := 77, med := some 5, cm := cm, uk := uk, lp := none, og := none, cls := none } := by
  refine nine ?_ ?_ (Rec.dom _)
  · intro k hk
    simp only [attNames, List.mem_cons, List.not_mem_nil, or_false] at hk
    rcases hk with rfl | rfl | rfl | rfl | rfl | rfl | rfl | rfl | rfl <;> rfl
  · intro k hk
    simp only [attNames, List.mem_cons, List.not_mem_nil, or_false, not_or] at hk
    obtain ⟨h1, h2, h3, h4, h5, h6, h7, h8, h9⟩ := hk
    unfold cameR cameB
    rw [if_neg h6, if_neg h5, if_neg (Ne.symm h1), if_neg (Ne.symm h2), if_neg (Ne.symm h3), if_neg (Ne.symm h4)]
/-- where a turn never returns, the way out need not be known -/
theorem gen_tend {α : Type} {M : Model} {A : Around} {t : Sem α} {t2 : Sem Flow} {g : Heap} {L I : Addr} {io : Obj} {J : (Str → Option Value) → List (Addr × Obj) → Prop} {s0 s : Shared} {Q : Flow → Shared → Prop} {E : Value → Shared → Prop}
    (k : ∀ Q' : Flow → Shared → Prop, wpAny M A t (fun _ s₃ => wpAny M A t2 (TEnd g L I io J s0 Q') E s₃) E s) : wpAny M A t (fun _ s₃ => wpAny M A t2 (TEnd g L I io J s0 Q) E s₃) E s := k Q
section
variable {prog : Program} {w : World} {A : Around} {E : Value → Shared → Prop} {s : Shared} {env : Env} {h₀ : Heap} {target : PySem.Expr} {body : List Stmt} {Q : Flow → Shared → Prop} {m : Str → Option Value} {news : List (Addr × Obj)}
theorem iter_rng {R : Addr} {t u v : Tok} {n : Nat} {b : Int} (hb : b = (n : Int)) (hh : A.handled = none) (hr : IsRange s.heap R 0 b 1 t u v) (hsm : Builtin.Range.small 0 b 1 = true) (F : Fr h₀ env.locals s.heap m) (N : News h₀ env.locals s.heap news)
    (J : Nat → (Str → Option Value) → List (Addr × Obj) → Prop) (h0 : J 0 m news)
    (step : ∀ I io i t m₁ news₁ h₁ tk₁, io.cls = .type "range_iterator" → i < n → J i m₁ news₁ → (∀ q ∈ news₁, q.1 ≠ I) → Fr h₀ env.locals h₁ m₁ → News h₀ env.locals h₁ ((I, io) :: news₁) →
      wpAny (model prog w) A (assign target env (.int (i : Int) t)) (fun _ s₃ => wpAny (model prog w) A (execs body env) (TEnd h₀ env.locals I io (J (i + 1)) s Q) E s₃) E { s with heap := h₁, toks := tk₁ })
    (done : ∀ h' tk m' news', Fr h₀ env.locals h' m' → News h₀ env.locals h' news' → J n m' news' → Q .next { s with heap := h', toks := tk }) :
    wpAny (model prog w) A (pyIter (.ref R)) (fun it s₂ => TurnsAt prog w A h₀ env target body Q E it s₂) E s := by
  subst hb
  have hnone : h₀.get? s.heap.objs.size = none := Heap.get?_none_of_le (Nat.le_of_lt (Nat.lt_of_le_of_lt F.above F.ns.lt))
  have hrs : Builtin.Range.rangeSize 0 (n : Int) 1 = (n : Int) := by
    unfold Builtin.Range.rangeSize
    simp
    try omega
  refine wpAny_pyIter_range hr hsm ?_
  refine ⟨s.heap.objs.size, [s.heap.objs.size], [s.heap.objs.size], n, _, _, _, m, news, J, rfl,
    KTurns.ofWalks (Walks.range (prog := prog) (w := w) hh s.heap.objs.size 0 1 n) (fun i v s Q E st q => letGo_rng st q), ?_, ?_, ?_,
    ?_, F.push _, fun q hq => ⟨Heap.get?_push_of_some _ (N q hq).1, (N q hq).2⟩, h0, ?_, ?_⟩
  · intro hm
    exact absurd F.ns.lt ((List.mem_singleton.mp hm) ▸ Nat.lt_irrefl _)
  · intro b hb
    rw [List.mem_singleton.mp hb]
    exact hnone
  · intro q hq hI
    exact absurd (Heap.lt_size (N q hq).1) ((List.mem_singleton.mp hI) ▸ Nat.lt_irrefl _)
  · rw [hrs]
    exact Heap.get?_push_size _ rfl
  · intro i v m₁ news₁ h₁ tk₁ own hi hP hJ hoff hown hget hall hst F₁ N₁
    obtain ⟨t1, rfl⟩ := hP
    obtain ⟨io, hio, hic⟩ : ∃ io, h₁.get? s.heap.objs.size = some io ∧ io.cls = .type "range_iterator" := ⟨_, hst, rfl⟩
    have hnews : ∀ q ∈ news₁, q.1 ≠ s.heap.objs.size := fun q hq e => hoff q hq (by rw [e]; exact List.mem_singleton.mpr rfl)
    have NI : News h₀ env.locals h₁ ((s.heap.objs.size, io) :: news₁) := by
      intro q hq
      rcases List.mem_cons.mp hq with e | hq
      · rw [e]
        exact N₁ _ (List.mem_append_left _ (hall s.heap.objs.size (List.mem_cons_self ..) hnone _ hio))
      · exact N₁ _ (List.mem_append_right _ hq)
    have e1 : (0 : Int) + (i : Int) * 1 = (i : Int) := by omega
    rw [e1]
    refine wpAny_mono (step s.heap.objs.size io i t1 m₁ news₁ h₁ tk₁ hic hi hJ hnews F₁ NI) (fun _ s₂ h₂ => wpAny_mono h₂ (fun f s₃ p' => ?_) fun _ _ e => e) fun _ _ e => e
    have key : (∃ h' tk m' news', s₃ = { s with heap := h', toks := tk } ∧ Fr h₀ env.locals h' m' ∧ News h₀ env.locals h' ((s.heap.objs.size, io) :: news') ∧ (∀ q ∈ news', q.1 ≠ s.heap.objs.size) ∧ J (i + 1) m' news') →
        LoopStepU h₀ env.locals [s.heap.objs.size] own (J (i + 1)) { s with heap := h₁, toks := tk₁ } .next s₃ := by
      rintro ⟨h', tk, m', news', rfl, F', N', hn', hJ'⟩
      refine ⟨rfl, h', tk, m', news', rfl, F', ?_, ?_, hJ'⟩
      · intro q hq
        rcases List.mem_append.mp hq with hq | hq
        · have hf := hown q hq
          have hg := hget q hq
          have e : q.1 = s.heap.objs.size := List.mem_singleton.mp hf
          have : q = (s.heap.objs.size, io) := by
            obtain ⟨qa, qo⟩ := q
            have e' : qa = s.heap.objs.size := e
            subst e'
            have : some qo = some io := hg.symm.trans hio
            cases this
            rfl
          rw [this]
          exact N' _ (List.mem_cons_self ..)
        · exact N' _ (List.mem_cons_of_mem _ hq)
      · intro q hq hI
        exact hn' q hq (List.mem_singleton.mp hI)
    cases f with
    | ret v => exact p'
    | brk => exact p'
    | next => exact key p'
    | cont => exact key p'
  · intro h' tk m' news' F' N' _ hJ
    exact done h' tk m' news' F' N' hJ
end
end Mine
end
section
open PySem PySem.W PySem.Spec PySem.Calls PyProof.Rows
set_option pp.deepTerms false
set_option pp.deepTerms.threshold 6
set_option pp.proofs false
namespace Mine
open PyProof.Rows.LCg PySem.SeqAt
theorem AllLt.mem {d : Addr} : ∀ {l : List (Addr × Obj)}, AllLt d l → ∀ p ∈ l, p.1 ≠ d
  | [], _, _, h => nomatch h
  | q :: r, h, p, hp => by
    rcases List.mem_cons.mp hp with e | hp
    · rw [e]; exact Nat.ne_of_lt h.1
    · exact AllLt.mem h.2 p hp
noncomputable def lawNames : List Str := ["at", "step", "told", "following", "due", "here", "own", "left", "teller", "member", "many", "came", "box", "script"]
theorem ite_law {k x : Str} {v r : Option Value} (hk : k ∉ lawNames) (hx : x ∈ lawNames) (hr : r = none) : (if k = x then v else r) = none := by
  have hn : ¬ k = x := fun e => hk (by rw [e]; exact hx)
  rw [if_neg hn]
  exact hr
theorem chain_eq (names : List Str) {f g : Str → Option Value} (h : ∀ k ∈ names, f k = g k) (hf : ∀ k, k ∉ names → f k = none) (hg : ∀ k, k ∉ names → g k = none) : f = g := by
  funext k
  by_cases hk : k ∈ names
  · exact h k hk
  · rw [hf k hk, hg k hk]
noncomputable def lawM (oat ost otd ofl : Option Value) (due here own left came box script : Addr) (teller : Str) (member many : Int) (tt tm ty : Tok) : Str → Option Value := fun y =>
  if y = Str.ofString "at" then oat else if y = Str.ofString "step" then ost else if y = Str.ofString "told" then otd else if y = Str.ofString "following" then ofl
  else if y = Str.ofString "due" then some (.ref due) else if y = Str.ofString "here" then some (.ref here) else if y = Str.ofString "own" then some (.ref own) else if y = Str.ofString "left" then some (.ref left)
  else if y = Str.ofString "teller" then some (.str teller tt) else if y = Str.ofString "member" then some (.int member tm) else if y = Str.ofString "many" then some (.int many ty) else if y = Str.ofString "came" then some (.ref came)
  else if y = Str.ofString "box" then some (.ref box) else if y = Str.ofString "script" then some (.ref script) else none
theorem lawM_none {oat ost otd ofl due here own left came box script teller member many tt tm ty} : ∀ k, k ∉ lawNames → lawM oat ost otd ofl due here own left came box script teller member many tt tm ty k = none := by
  intro k hk
  simp only [lawNames, List.mem_cons, List.not_mem_nil, or_false, not_or] at hk
  obtain ⟨h1, h2, h3, h4, h5, h6, h7, h8, h9, h10, h11, h12, h13, h14⟩ := hk
  unfold lawM
  rw [if_neg h1, if_neg h2, if_neg h3, if_neg h4, if_neg h5, if_neg h6, if_neg h7, if_neg h8, if_neg h9, if_neg h10, if_neg h11, if_neg h12, if_neg h13, if_neg h14]
theorem lawM_of {m : Str → Option Value} {due here own left came box script : Addr} {teller : Str} {member many : Int} {tt tm ty : Tok} (h1 : m (Str.ofString "due") = some (.ref due)) (h2 : m (Str.ofString "here") = some (.ref here)) (h3 : m (Str.ofString "own") = some (.ref own)) (h4 : m (Str.ofString "left") = some (.ref left))
    (h5 : m (Str.ofString "teller") = some (.str teller tt)) (h6 : m (Str.ofString "member") = some (.int member tm)) (h7 : m (Str.ofString "many") = some (.int many ty)) (h8 : m (Str.ofString "came") = some (.ref came)) (h9 : m (Str.ofString "box") = some (.ref box)) (h10 : m (Str.ofString "script") = some (.ref script))
    (hn : ∀ k, k ∉ lawNames → m k = none) : ∃ oat ost otd ofl, m = lawM oat ost otd ofl due here own left came box script teller member many tt tm ty := by
  refine ⟨m (Str.ofString "at"), m (Str.ofString "step"), m (Str.ofString "told"), m (Str.ofString "following"), chain_eq lawNames ?_ hn lawM_none⟩
  intro k hk
  simp only [lawNames, List.mem_cons, List.not_mem_nil, or_false] at hk
  rcases hk with rfl | rfl | rfl | rfl | rfl | rfl | rfl | rfl | rfl | rfl | rfl | rfl | rfl | rfl
  · rfl
  · rfl
  · rfl
  · rfl
  · exact h1
  · exact h2
  · exact h3
  · exact h4
  · exact h5
  · exact h6
  · exact h7
  · exact h8
  · exact h9
  · exact h10
theorem hist0 {n0 : Int} {P cm uk} : Hist 0 n0 P cm uk { o := n0, T := P, nh := 77, med := some 5, cm := cm, uk := uk, lp := none, og := none, cls := none } [] (Str.ofString "ebgp") where
  ho := rfl
  hT := by simp [lead]
  hnh := rfl
  hmed := rfl
  hcm := rfl
  huk := .inl ⟨rfl, rfl⟩
  hlp := .inl rfl
  hog := by intro v hv; cases hv
  hcl := by intro c hc; cases hc
  hcn := Nat.le_refl _
  hls := by intro n hn; cases hn
  hln := Nat.le_refl _
  htl := .inl rfl
  hi := Nat.zero_le _
/-- what the names mean, between the turns -/
structure Named (m : Str → Option Value) (due here own left came box : Addr) (teller : Str) (member many : Int) : Prop where
  h1 : m (Str.ofString "due") = some (.ref due)
  h2 : m (Str.ofString "here") = some (.ref here)
  h3 : m (Str.ofString "own") = some (.ref own)
  h4 : m (Str.ofString "left") = some (.ref left)
  h5 : ∃ t, m (Str.ofString "teller") = some (.str teller t)
  h6 : ∃ t, m (Str.ofString "member") = some (.int member t)
  h7 : ∃ t, m (Str.ofString "many") = some (.int many t)
  h8 : m (Str.ofString "came") = some (.ref came)
  h9 : m (Str.ofString "box") = some (.ref box)
  h10 : ∃ sc, m (Str.ofString "script") = some (.ref sc)
  hn : ∀ k, k ∉ lawNames → m k = none
theorem Named.is {m : Str → Option Value} {due here own left came box : Addr} {teller : Str} {member many : Int} (h : Named m due here own left came box teller member many) : ∃ oat ost otd ofl script tt tm ty, m = lawM oat ost otd ofl due here own left came box script teller member many tt tm ty := by
  obtain ⟨h1, h2, h3, h4, ⟨t5, h5⟩, ⟨t6, h6⟩, ⟨t7, h7⟩, h8, h9, ⟨sc, h10⟩, hn⟩ := h
  obtain ⟨oat, ost, otd, ofl, e⟩ := lawM_of h1 h2 h3 h4 h5 h6 h7 h8 h9 h10 hn
  exact ⟨oat, ost, otd, ofl, sc, t5, t6, t7, e⟩
/-- what is seen between the turns -/
structure Facts (w : World) (dc dh dd ow S : Addr) (xS : Obj) (x0 x : Rec) (i mem : Int) (h : Heap) : Prop where
  came : AttAt w h dc x0.at
  here : AttAt w h dh x.at
  due : AttAt w h dd x.at
  own : OwnAt w h ow (100 + i) (65001 + mem) (50 + i) (30 + i)
  src : h.get? S = some xS
/-- between the turns of the law's loop -/
noncomputable def LawJ (w : World) (g : Heap) (dc l bx S : Addr) (xS : Obj) (x0 : Rec) (o : Int) (P : List (Int × List Int)) (cm : Option (List Int)) (uk0 : Option (List (Int × Int × Array UInt8))) (many : Int) (i : Nat) (m : Str → Option Value) (news : List (Addr × Obj)) : Prop :=
  ∃ (x : Rec) (ls : List Int) (teller : Str) (dh dd ow : Addr) (ob : Obj) (wl : List Value) (nl : Nat) (tl : List (Addr × Obj)),
    Named m dd dh ow l dc bx teller (ls.length : Int) many ∧ news = (bx, ob) :: (l, W.listOf wl.toArray nl) :: tl ∧ (∀ p ∈ tl, p.1 ≠ bx ∧ p.1 ≠ l) ∧ IntsAre wl ls ∧ Hist i o P cm uk0 x ls teller ∧
      Seen g tl (Facts w dc dh dd ow S xS x0 x i (ls.length : Int)) ∧ Seen g tl fun h => BoxAt h S (7 + i) ob
theorem draw_news {g h h' : Heap} {L bx : Addr} {x y : Addr × Obj} {ob ob' : Obj} {c : List (Addr × Obj)} (N : News g L h (x :: y :: (bx, ob) :: c)) (G : GSub h h' ([(bx, ob)].map (·.1))) (hg : h'.get? bx = some ob') (hx : x.1 ≠ bx) (hy : y.1 ≠ bx) (hc : ∀ p ∈ c, p.1 ≠ bx) : News g L h' (x :: y :: (bx, ob') :: c) := by
  have keep : ∀ p ∈ x :: y :: (bx, ob) :: c, p.1 ≠ bx → h'.get? p.1 = some p.2 ∧ p.1 ≠ L ∧ g.get? p.1 = none := fun p hp hne => ⟨G _ _ (N p hp).1 (by simpa using hne), (N p hp).2⟩
  intro p hp
  simp only [List.mem_cons] at hp
  rcases hp with rfl | rfl | rfl | hp
  · exact keep _ (by simp) hx
  · exact keep _ (by simp) hy
  · exact ⟨hg, (N (bx, ob) (by simp)).2⟩
  · exact keep p (by first | ((repeat (first | exact hp | apply List.Mem.tail)); done) | simp [hp]) (hc p hp)
theorem app_led {prog : Program} {w : World} {A : Around} {E : Value → Shared → Prop} {s : Shared} {g : Heap} {L l : Addr} {m : Str → Option Value} {led rest : List (Addr × Obj)} {its : List Value} {n : Nat} {x : Value} {Q : Value → Shared → Prop} (F : Fr g L s.heap m) (N : News g L s.heap led) (hm : (l, W.listOf its.toArray n) ∈ led) (hr : ∀ p ∈ rest, p ∈ led) (hne : ∀ p ∈ rest, p.1 ≠ l) (hz : its.length ≤ sizeLine)
    (h : ∀ h', Fr g L h' m → News g L h' ((l, W.listOf (its ++ [x]).toArray (n + 1)) :: rest) → Q .none { s with heap := h' }) : wpAny (model prog w) A (call (.builtin "list.append") [.ref l, x]) Q E s := by
  have z := N _ hm
  refine append_at (hsz := by rw [List.size_toArray]; exact hz) z.1 fun h' hs ho' => h h' (F.change hs z.2.1 z.2.2) ?_
  intro p hp
  rcases List.mem_cons.mp hp with rfl | hp
  · refine ⟨?_, z.2⟩
    rw [ho', List.push_toArray]
  · exact ⟨hs.extBut _ _ (hne p hp) (N p (hr p hp)).1, (N p (hr p hp)).2⟩
end Mine
end
section
open PySem PySem.W PySem.Spec PySem.Calls PyProof.Rows
set_option pp.deepTerms false
set_option pp.deepTerms.threshold 6
set_option pp.proofs false
open Mine PyProof.Rows.LCg PySem.SeqAt
local macro_rules | `(tactic| walk_at "call ref") => `(tactic| (refine Halt.mk ?_))
local macro_rules | `(tactic| walk_at "call builtin:len") => `(tactic| (k_here; (with_reducible show wpAny _ _ (call (Value.builtin "len") [Value.ref _]) _ _ _); refine' len_at ?t ?k ?z ?_; (case t => exact Fr.tup (by assumption) (by assumption)); (case k => assumption); (case z => omega); intro tlen tklen))
local macro_rules | `(tactic| walk_at "subscriptTail") => `(tactic| (k_here; (with_reducible show wpAny _ _ (subscriptTail _ _ (Value.ref _) (Value.str _ _)) _ _ _); refine Halt.mk ?_))
local macro_rules | `(tactic| walk_at "compareOp NotEq ref ref") => `(tactic| (refine Halt.mk ?_))
local macro_rules | `(tactic| walk_at "compareOp Eq ref ref") => `(tactic| (refine Halt.mk ?_))
local macro_rules | `(tactic| walk_at "exec For Name Call cons nil") => `(tactic| (refine Halt.mk ?_))
local macro_rules | `(tactic| walk_at "execs cons") => `(tactic| (k_here; (try dsimp only); (with_reducible refine wpAny_execs_cons ?_); (try dsimp only)))
local macro_rules | `(tactic| walk_at "execs nil") => `(tactic| (k_here; (try dsimp only); (with_reducible refine wpAny_execs_nil ?_); (try dsimp only)))
local macro_rules | `(tactic| walk_at "ite") => `(tactic| (k_here; first | with_reducible refine ite_tt ?_ | with_reducible refine ite_ff ?_))
local macro_rules | `(tactic| k_qdec) => `(tactic| decide +kernel)
namespace Mine
noncomputable def hd2 := fun k => holds_law said fun _ => hd k
end Mine
theorem PySem.Challenge.cw_sz0110_01_holds : PySem.Challenge.rw_sz0110_01.Holds := by
  exact hd2 (by
    k_go0
    (try k_fold)
    k_steps
    rename_i D0 wz hz0 hiz hzl hzle _ S nz hz1 hlt1 bx hz2 hlt2 h1 F1 N1
    rename World => w
    rename Shared => s₁
    refine Halt.go ?_
    have hb1 := N1 _ (.head _)
    have hS1 := (N1 _ (.tail _ (.head _))).1
    refine' useD (ct_came w _ bx S _ _ ⟨_, _, wz, _, rfl, ⟨_, hS1, rfl, _, rfl⟩, hiz, ?hwz⟩ ?hSb hS1) ?B ?F ?X ?T ?hk ?d ?u (cb_drop (news := [(bx, _)]) N1 (by intro p hp; rw [List.mem_singleton.mp hp]; exact List.mem_cons_self ..)) ?_
    (case B => k_asm); (case F => k_asm); (case X => k_asm); (case T => k_asm); (case hk => first | exact rfl | assumption)
    (case d => ktr_room)
    (case u => ktr_units)
    (case hwz => rw [hiz.length]; omega)
    (case hSb => exact Nat.ne_of_lt hlt2.1)
    rintro r h2 tk2 F2 G2 ⟨⟨dc, n0, P, cm, uk, rfl, hfr2, hP, hcm, huk, hat2⟩, ob2, hg2, hb2⟩
    have hSb : S ≠ bx := Nat.ne_of_lt hlt2.1
    have hSL := (N1 _ (.tail _ (.head _))).2.1
    have hS2 := G2 S _ hS1 (by simpa using hSb)
    have N2 := newsAt (c := []) N1 (.head _) hg2 News.nil
    have hne2 := fresh_ne F1 N1 hfr2
    obtain ⟨tl2, N2', Sn2⟩ := freeze F2 N2
    have hcame := Seen.att F2 N2' Sn2 (hb2.noTup) hne2.1 (by intro q hq; rw [List.mem_singleton.mp hq]; show bx ≠ dc; exact hne2.2 (bx, _) (.head _)) hat2
    have hSS := Seen.obj F2 N2' Sn2 hS2 hSL (by intro q hq; rw [List.mem_singleton.mp hq]; exact hSb.symm)
    generalize (W.listOf wz.toArray nz) = xS at hS1 hS2 hSS
    have hbS2 := hSS.mono fun h e => box_to hb2 hS2 e
    clear hb2 hat2 hfr2 hne2 hg2 hb1 N1 N2 hS2 hlt2 hiz hzl hzle hlt1 hS1 hz1
    have hap2 : ∀ p ∈ tl2, p.1 ≠ bx := fun p hp => Sn2.apart p hp _ (.head _)
    clear Sn2
    simp only [List.cons_append, List.nil_append] at N2'
    k_steps
    rename Fr _ _ _ _ => F3
    rename News _ _ _ _ => N3
    refine Halt.go ?_
    refine' useD (ct_draw w _ bx S ob2 6 4 _ (hbS2.here F3 N3 fun p hp => by first | ((repeat (first | exact hp | apply List.Mem.tail)); done) | simp [hp]) hSb (by decide) (by decide)) ?B ?F ?X ?T ?hk ?d ?u (cb_drop (news := [(bx, ob2)]) N3 (by intro p hp; rw [List.mem_singleton.mp hp]; simp)) ?_
    (case B => k_asm); (case F => k_asm); (case X => k_asm); (case T => k_asm); (case hk => first | exact rfl | assumption)
    (case d => ktr_room)
    (case u => ktr_units)
    rintro r h4 tk4 F4 G4 ⟨⟨nm, tm, rfl, hnm⟩, ob4, hg4, hb4⟩
    have N4 := newsAt (c := tl2) (o := ob2) N3 (by simp) hg4 (newsGSub (cb_drop (news := tl2) N3 (by intro p hp; simp [hp])) G4 (fun p hp => by simpa using hap2 p hp))
    have hbS4 := hSS.mono fun h e => box_to hb4 (hSS.here F4 N4 fun p hp => by first | ((repeat (first | exact hp | apply List.Mem.tail)); done) | simp [hp]) e
    clear N3 hbS2 hb4 hg4 G4 G2
    (try dsimp only)
    k_steps
    rename_i l hz6 hlt5 D5 hz5 hlt6 _ _ _ _ h5 F5 N5
    have hlx : l ≠ bx := Nat.ne_of_gt hlt5.1
    have hap5 : ∀ p ∈ tl2, ∀ q ∈ [(bx, ob4), (l, W.listOf ([] : List Value).toArray 0)], p.1 ≠ q.1 := by
      intro p hp q hq
      simp only [List.mem_cons, List.not_mem_nil, or_false] at hq
      rcases hq with e | e <;> rw [e]
      · exact hap2 p hp
      · exact AllLt.mem hlt5.2 p hp
    clear hlt6 hz5 hz6
    refine Halt.go ?_
    refine' use (ct_speaker w _ _ _ _ _) [(bx, ob4), (l, W.listOf ([] : List Value).toArray 0)] ?B ?F ?X ?T ?hk ?d ?u (cb_drop N5 (sub2 (by first | ((repeat (first | exact List.Mem.head _ | apply List.Mem.tail)); done) | simp) (by first | ((repeat (first | exact List.Mem.head _ | apply List.Mem.tail)); done) | simp))) ?_
    (case B => k_asm); (case F => k_asm); (case X => k_asm); (case T => k_asm); (case hk => first | exact rfl | assumption)
    (case d => ktr_room)
    (case u => ktr_units)
    rintro r h6 tk6 tl6 F6 N6 Sn6 S6 ⟨ow, rfl, hfr6, how6⟩
    have N56 := newsSub (cb_drop (news := tl2) N5 (by intro p hp; simp [hp])) S6
    have hcame6 := hcame.lift N56 (fun p hp => hp) hap5 Sn6
    have hSS6 := hSS.lift N56 (fun p hp => hp) hap5 Sn6
    have hbS6 := hbS4.lift N56 (fun p hp => hp) hap5 Sn6
    have hnow := fresh_ne F5 N5 hfr6
    have hown6 := Seen.own F6 N6 Sn6 hnow.1 (by intro q hq; simp only [List.mem_cons, List.not_mem_nil, or_false] at hq; rcases hq with e | e <;> rw [e] <;> exact hnow.2 _ (by simp)) how6
    have hap6 : ∀ p ∈ tl6, p.1 ≠ bx ∧ p.1 ≠ l := fun p hp => ⟨Sn6.apart p hp _ (.head _), Sn6.apart p hp _ (.tail _ (.head _))⟩
    clear hcame hSS hbS4 hnow how6 N56 hap5 hap2 Sn6 hlt5 N5 S6 hfr6
    simp only [List.cons_append, List.nil_append] at N6
    rw [cameR_rec] at hcame6
    (try dsimp only)
    k_steps
    rename Fr _ _ _ _ => F7
    rename News _ _ _ _ => N7
    have N8 := cb_drop (news := (bx, ob4) :: (l, W.listOf ([] : List Value).toArray 0) :: tl6) N7 (by intro p hp; simp only [List.mem_cons] at hp; rcases hp with e | e | e <;> simp [e])
    clear N7
    refine Halt.go ?_
    refine For_turns F7 ?_
    k_steps
    rename IsRange _ _ _ _ _ _ _ _ => R8
    rename Fr _ _ _ _ => F8
    rename News _ _ _ _ => N9
    refine' iter_rng (n := (4 - nm).toNat) (by omega) rfl R8 (small_one (by omega) (by omega) (by omega) (by omega)) F8 N9 (LawJ w s₁.heap dc l bx S xS { o := n0, T := P, nh := 77, med := some 5, cm := cm, uk := uk, lp := none, og := none, cls := none } n0 P cm uk (4 - nm)) ?h0 ?step ?done
    case h0 =>
      refine ⟨_, [], Str.ofString "ebgp", dc, dc, ow, ob4, [], 0, tl6, ⟨rfl, rfl, rfl, rfl, ⟨_, rfl⟩, ⟨_, rfl⟩, ⟨_, rfl⟩, rfl, rfl, ⟨_, rfl⟩, ?_⟩, rfl, hap6, .nil, hist0, fun h k z => ⟨hcame6 h k z, hcame6 h k z, hcame6 h k z, by simpa using hown6 h k z, hSS6 h k z⟩, hbS6⟩
      intro k hk
      have h15 : (k == Str.ofString "script") = false := beq_false_of_ne fun e => hk (by rw [e]; decide +kernel)
      repeat (refine ite_law hk (by decide +kernel) ?_)
      simp [List.lookup, h15]
    case step =>
      clear hcame6 hbS6 hown6 hap6
      rintro I io i t m₁ news₁ h₁ tk₁ hio hi ⟨x, ls, teller, dh, dd, ow, ob, wl, nl, tl, hnm', rfl, hap, hwl, hist, FS, BS⟩ hoff F1 N1
      obtain ⟨oat, ost, otd, ofl, sc, tt, tm, ty, rfl⟩ := hnm'.is
      clear hnm'
      unfold lawM at F1
      refine gen_tend ?_
      intro Qg
      k_steps
      rename_i hzA DT hzB F2 N2 hltA
      have hbI : bx ≠ I := hoff _ (.head _)
      have hlI : l ≠ I := hoff _ (.tail _ (.head _))
      have hapI : ∀ p ∈ tl, p.1 ≠ I := fun p hp => hoff p (by first | ((repeat (first | exact hp | apply List.Mem.tail)); done) | simp [hp])
      have hi4 : (i : Int) < 4 := by omega
      refine Halt.go ?_
      refine' useD (ct_draw w _ bx S ob _ 2 _ (BS.here F2 N2 fun p hp => by first | ((repeat (first | exact hp | apply List.Mem.tail)); done) | simp [hp]) hSb ⟨by omega, by omega⟩ (by decide)) ?B ?F ?X ?T ?hk ?d ?u (cb_drop (news := [(bx, ob)]) N2 (by intro p hp; rw [List.mem_singleton.mp hp]; simp)) ?_
      (case B => k_asm); (case F => k_asm); (case X => k_asm); (case T => k_asm); (case hk => first | exact rfl | assumption)
      (case d => ktr_room)
      (case u => ktr_units)
      rintro r h3 tk3 F3 G3 ⟨⟨n2, t2, rfl, hn2⟩, ob2, hg3, hb3⟩
      have N3 := draw_news N2 G3 hg3 (Nat.ne_of_gt hltA.2.1) hbI.symm (by
        intro p hp
        rcases List.mem_cons.mp hp with e | e
        · rw [e]; exact hlx
        · exact (hap p e).1)
      have e3 := (FS.here F3 N3 fun p hp => by first | ((repeat (first | exact hp | apply List.Mem.tail)); done) | simp [hp]).src
      have BS3 : Mine.Seen s₁.heap tl fun h => BoxAt h S (7 + i + 1) ob2 := fun h k z => box_to hb3 e3 (FS h k z).src
      clear BS N2 G3 hg3 hb3 e3 hltA F1 N1
      (try dsimp only)
      have : n2 = 0 ∨ n2 = 1 := by omega
      clear hn2
      rcases this with rfl | rfl
      · k_steps
        rename Fr _ _ _ _ => F4
        rename News _ _ _ _ => N4
        have fa := FS.here F4 N4 fun p hp => by first | ((repeat (first | exact hp | apply List.Mem.tail)); done) | simp [hp]
        have hntb := (BS3.here F4 N4 fun p hp => by first | ((repeat (first | exact hp | apply List.Mem.tail)); done) | simp [hp]).noTup (b := bx)
        refine Halt.go ?_
        refine' use (ct_told w _ dh ow teller (Str.ofString "confed") x.at x.T x.cls x.cm x.uk _ _ _ _ _ _ _ _ fa.here x.dom rfl hist.med rfl rfl rfl fa.own (hist.seg hP.path) (hist.len hP.path) hist.clen (hist.flags huk)) [(I, io), (bx, ob2), (l, W.listOf wl.toArray nl)] ?B ?F ?X ?T ?hk ?d ?u (cb_drop N4 (sub3 (by first | ((repeat (first | exact List.Mem.head _ | apply List.Mem.tail)); done) | simp) (by first | ((repeat (first | exact List.Mem.head _ | apply List.Mem.tail)); done) | simp) (by first | ((repeat (first | exact List.Mem.head _ | apply List.Mem.tail)); done) | simp))) ?_
        (case B => k_asm); (case F => k_asm); (case X => k_asm); (case T => k_asm); (case hk => first | exact rfl | assumption)
        (case d => ktr_room)
        (case u => ktr_units)
        rintro r h5 tk5 tl5 F5 N5 Sn5 S5 post
        have htd : isTold teller (Str.ofString "confed") (50 + (i : Int)) x.cm = true := by rw [hist.hcm]; exact told_confed hcm _
        rw [if_pos htd] at post
        obtain ⟨dt, rfl, hfr5, hat5⟩ := post
        rw [tell_confed, hist.hT, lead_put ls hP.path _ (by have := hist.hln; have := hist.hi; omega)] at hat5
        have hap3 : ∀ p ∈ tl, ∀ q ∈ [(I, io), (bx, ob2), (l, W.listOf wl.toArray nl)], p.1 ≠ q.1 := fun p hp => all3 (hapI p hp) (hap p hp).1 (hap p hp).2
        have N45 := newsSub (cb_drop (news := tl) N4 (by intro p hp; simp [hp])) S5
        have FS5 := FS.lift N45 (fun p hp => hp) hap3 Sn5
        have BS5 := BS3.lift N45 (fun p hp => hp) hap3 Sn5
        have hn5 := fresh_ne F4 N4 hfr5
        have hnt5 : ∀ q ∈ [(I, io), (bx, ob2), (l, W.listOf wl.toArray nl)], NoTup q.2 := all3 (NoTup.ofCls (by rw [hio]; decide)) (hntb _ (.head _)) (NoTup.ofCls (by show Value.type "list" ≠ Value.type "tuple"; decide))
        have hto5 := Seen.att F5 N5 Sn5 hnt5 hn5.1 (fun q hq => hn5.2 q (sub3 (by first | ((repeat (first | exact List.Mem.head _ | apply List.Mem.tail)); done) | simp) (by first | ((repeat (first | exact List.Mem.head _ | apply List.Mem.tail)); done) | simp) (by first | ((repeat (first | exact List.Mem.head _ | apply List.Mem.tail)); done) | simp) q hq)) hat5
        have hap5 : ∀ p ∈ tl5, ∀ q ∈ [(I, io), (bx, ob2), (l, W.listOf wl.toArray nl)], p.1 ≠ q.1 := Sn5.apart
        clear N45 N4 FS BS3 hn5 hat5 hfr5 hap3 Sn5 S5 htd fa hap hapI hntb
        (try dsimp only)
        k_steps
        rename Fr _ _ _ _ => F6
        rename News _ _ _ _ => N6
        have fa := FS5.here F6 N6 fun p hp => by first | ((repeat (first | exact hp | apply List.Mem.tail)); done) | simp [hp]
        refine Halt.go ?_
        refine' use (ct_stepM w _ dd ow teller x.at x.T x.uk _ _ _ _ _ _ _ _ fa.due x.dom rfl fa.own rfl (hist.flags huk) (hist.seg hP.path) (hist.len hP.path) (hist.ne hP.path)) [(I, io), (bx, ob2), (l, W.listOf wl.toArray nl)] ?B ?F ?X ?T ?hk ?d ?u (cb_drop N6 (sub3 (by first | ((repeat (first | exact List.Mem.head _ | apply List.Mem.tail)); done) | simp) (by first | ((repeat (first | exact List.Mem.head _ | apply List.Mem.tail)); done) | simp) (by first | ((repeat (first | exact List.Mem.head _ | apply List.Mem.tail)); done) | simp))) ?_
        (case B => k_asm); (case F => k_asm); (case X => k_asm); (case T => k_asm); (case hk => first | exact rfl | assumption)
        (case d => ktr_room)
        (case u => ktr_units)
        rintro r h7 tk7 tl7 F7 N7 Sn7 S7 ⟨dn, rfl, hfr7, hat7⟩
        rw [due_confed hist.hlp, hist.hT, lead_headed ls hP.path] at hat7
        have N67 := newsSub (cb_drop (news := tl5) N6 (by intro p hp; simp [hp])) S7
        have FS7 := FS5.lift N67 (fun p hp => hp) hap5 Sn7
        have BS7 := BS5.lift N67 (fun p hp => hp) hap5 Sn7
        have hto7 := hto5.lift N67 (fun p hp => hp) hap5 Sn7
        have hn7 := fresh_ne F6 N6 hfr7
        have hdu7 := Seen.att F7 N7 Sn7 hnt5 hn7.1 (fun q hq => hn7.2 q (sub3 (by first | ((repeat (first | exact List.Mem.head _ | apply List.Mem.tail)); done) | simp) (by first | ((repeat (first | exact List.Mem.head _ | apply List.Mem.tail)); done) | simp) (by first | ((repeat (first | exact List.Mem.head _ | apply List.Mem.tail)); done) | simp) q hq)) hat7
        have hap7 : ∀ p ∈ tl7, ∀ q ∈ [(I, io), (bx, ob2), (l, W.listOf wl.toArray nl)], p.1 ≠ q.1 := Sn7.apart
        clear N67 N6 FS5 BS5 hn7 hat7 hfr7 hap5 Sn7 S7 fa hto5 hnt5
        (try dsimp only)
        simp only [List.cons_append, List.nil_append] at N7
        k_steps
        rename Fr _ _ _ _ => F8
        rename News _ _ _ _ => N8
        obtain ⟨kvo, hdo, _, _, ⟨t3, ho3⟩, _⟩ := (FS7.here F8 N8 fun p hp => by first | ((repeat (first | exact hp | apply List.Mem.tail)); done) | simp [hp]).own
        refine Halt.go ?_
        (with_unfolding_all refine' bd_item hdo ho3 ?_)
        clear hdo ho3
        (try dsimp only)
        k_steps
        refine app_led (its := wl) (n := nl) (rest := (I, io) :: (bx, ob2) :: tl7) (by assumption) (by assumption) (by simp) (by intro p hp; simp only [List.mem_cons] at hp; rcases hp with e | e | e <;> simp [e]) (by
          intro p hp
          simp only [List.mem_cons] at hp
          rcases hp with e | e | e
          · rw [e]; exact hlI.symm
          · rw [e]; exact hlx.symm
          · exact hap7 p e (l, W.listOf wl.toArray nl) (by simp)) (by rw [hwl.length, sizeLine_eq]; have := hist.hln; have := hist.hi; omega) ?_
        intro h9 F9 N9
        clear N8 F8
        (try dsimp only)
        k_steps
        rename Fr _ _ _ _ => F10
        rename News _ _ _ _ => N10
        have hist2 := hist.confed huk (by omega : i + 1 ≤ 4) (rfl : (65001 + (ls.length : Int)) = _)
        have e2 : ((ls ++ [65001 + (ls.length : Int)]).length : Int) = (ls.length : Int) + 1 := by simp
        have hwl2 : IntsAre (wl ++ [Value.int (65001 + (ls.length : Int)) t3]) (ls ++ [65001 + (ls.length : Int)]) := hwl.append (.cons _ t3 .nil)
        have hap8 : ∀ p ∈ tl7, ∀ q ∈ [(I, io), (bx, ob2), (l, W.listOf (wl ++ [Value.int (65001 + (ls.length : Int)) t3]).toArray (nl + 1))], p.1 ≠ q.1 := fun p hp => all3 (hap7 p hp (I, io) (.head _)) (hap7 p hp (bx, ob2) (.tail _ (.head _))) (hap7 p hp (l, W.listOf wl.toArray nl) (.tail _ (.tail _ (.head _))))
        refine Halt.go ?_
        refine' use (ct_speaker w _ _ _ _ _) [(I, io), (bx, ob2), (l, W.listOf (wl ++ [Value.int (65001 + (ls.length : Int)) t3]).toArray (nl + 1))] ?B ?F ?X ?T ?hk ?d ?u (cb_drop N10 (sub3 (by first | ((repeat (first | exact List.Mem.head _ | apply List.Mem.tail)); done) | simp) (by first | ((repeat (first | exact List.Mem.head _ | apply List.Mem.tail)); done) | simp) (by first | ((repeat (first | exact List.Mem.head _ | apply List.Mem.tail)); done) | simp))) ?_
        (case B => k_asm); (case F => k_asm); (case X => k_asm); (case T => k_asm); (case hk => first | exact rfl | assumption)
        (case d => ktr_room)
        (case u => ktr_units)
        rintro r h11 tk11 tl11 F11 N11 Sn11 S11 ⟨fo, rfl, hfr11, hfo⟩
        have hfo2 : OwnAt w h11 fo (100 + ((i + 1 : Nat) : Int)) (65001 + ((ls ++ [65001 + (ls.length : Int)]).length : Int)) (50 + ((i + 1 : Nat) : Int)) (30 + ((i + 1 : Nat) : Int)) := by
          have e1 : ((i + 1 : Nat) : Int) = (i : Int) + 1 := by omega
          rw [e1, e2]
          exact hfo
        have N1011 := newsSub (cb_drop (news := tl7) N10 (by intro p hp; simp [hp])) S11
        have FS11 := FS7.lift N1011 (fun p hp => hp) hap8 Sn11
        have BS11 := BS7.lift N1011 (fun p hp => hp) hap8 Sn11
        have hto11 := hto7.lift N1011 (fun p hp => hp) hap8 Sn11
        have hdu11 := hdu7.lift N1011 (fun p hp => hp) hap8 Sn11
        have hn11 := fresh_ne F10 N10 hfr11
        have hfo11 := Seen.own F11 N11 Sn11 hn11.1 (fun q hq => hn11.2 q (sub3 (by first | ((repeat (first | exact List.Mem.head _ | apply List.Mem.tail)); done) | simp) (by first | ((repeat (first | exact List.Mem.head _ | apply List.Mem.tail)); done) | simp) (by first | ((repeat (first | exact List.Mem.head _ | apply List.Mem.tail)); done) | simp) q hq)) hfo2
        have hap11 : ∀ p ∈ tl11, ∀ q ∈ [(I, io), (bx, ob2), (l, W.listOf (wl ++ [Value.int (65001 + (ls.length : Int)) t3]).toArray (nl + 1))], p.1 ≠ q.1 := Sn11.apart
        simp only [List.cons_append, List.nil_append] at N11
        clear N1011 N10 FS7 BS7 hto7 hdu7 hn11 hfo hfo2 hfr11 hap7 hap8 Sn11 S11
        (try dsimp only)
        k_steps
        rename Fr _ _ _ _ => F12
        rename News _ _ _ _ => N12
        refine Halt.go ?_
        refine att_ne (hto11.here F12 N12 fun p hp => by first | ((repeat (first | exact hp | apply List.Mem.tail)); done) | simp [hp]) (hdu11.here F12 N12 fun p hp => by first | ((repeat (first | exact hp | apply List.Mem.tail)); done) | simp [hp]) (by ktr_units) ?_
        (try dsimp only)
        k_steps
        have fa := FS11.here F12 N12 fun p hp => by first | ((repeat (first | exact hp | apply List.Mem.tail)); done) | simp [hp]
        refine Halt.go ?_
        refine' use (ct_right w _ dc dt l fo (Str.ofString "confed") _ _ _ P _ _ (ls ++ [65001 + (ls.length : Int)]) (wl ++ [Value.int (65001 + (ls.length : Int)) t3]) _ _ _ _ fa.came rfl (hto11.here F12 N12 fun p hp => by first | ((repeat (first | exact hp | apply List.Mem.tail)); done) | simp [hp]) (by rw [Rec.path, hist2.hT]) (Rec.atOg _) (Rec.atCls _) (hfo11.here F12 N12 fun p hp => by first | ((repeat (first | exact hp | apply List.Mem.tail)); done) | simp [hp]) ⟨_, (N12 (l, W.listOf (wl ++ [Value.int (65001 + (ls.length : Int)) t3]).toArray (nl + 1)) (by simp)).1, rfl, _, rfl⟩ hwl2 (by have := hist2.hln; have := hist2.hi; omega) (by have := hP.path.len; have := List.length_pos_iff.mpr hP.path.ne; omega) (by rw [lead_sizes]; have := hP.path.siz; have := hist2.hln; have := hist2.hi; omega) (by have := hP.path.siz; omega) (fun g hg => Nat.lt_of_le_of_lt (lead_seg (ls ++ [65001 + (ls.length : Int)]) hP.path (by have := hist2.hln; have := hist2.hi; omega) g hg) (by decide)) (lead_len _ _) (lead_neigh _ _) (lead_outer _ _) (by have := hP.path.outl; omega) (fun y hy => lead_backs _ hP.path y hy) (hist2.round hP.path rfl rfl rfl)) [(I, io), (bx, ob2), (l, W.listOf (wl ++ [Value.int (65001 + (ls.length : Int)) t3]).toArray (nl + 1))] ?B ?F ?X ?T ?hk ?d ?u (cb_drop N12 (sub3 (by first | ((repeat (first | exact List.Mem.head _ | apply List.Mem.tail)); done) | simp) (by first | ((repeat (first | exact List.Mem.head _ | apply List.Mem.tail)); done) | simp) (by first | ((repeat (first | exact List.Mem.head _ | apply List.Mem.tail)); done) | simp))) ?_
        (case B => k_asm); (case F => k_asm); (case X => k_asm); (case T => k_asm); (case hk => first | exact rfl | assumption)
        (case d => ktr_room)
        (case u => ktr_units)
        rintro r h13 tk13 tl13 F13 N13 Sn13 S13 rfl
        have N1213 := newsSub (cb_drop (news := tl11) N12 (by intro p hp; simp [hp])) S13
        have FS13 := FS11.lift N1213 (fun p hp => hp) hap11 Sn13
        have BS13 := BS11.lift N1213 (fun p hp => hp) hap11 Sn13
        have hto13 := hto11.lift N1213 (fun p hp => hp) hap11 Sn13
        have hdu13 := hdu11.lift N1213 (fun p hp => hp) hap11 Sn13
        have hfo13 := hfo11.lift N1213 (fun p hp => hp) hap11 Sn13
        have hap13 : ∀ p ∈ tl13, ∀ q ∈ [(I, io), (bx, ob2), (l, W.listOf (wl ++ [Value.int (65001 + (ls.length : Int)) t3]).toArray (nl + 1))], p.1 ≠ q.1 := Sn13.apart
        simp only [List.cons_append, List.nil_append] at N13
        clear N1213 N12 FS11 BS11 hto11 hdu11 hfo11 hap11 Sn13 S13 fa
        (try dsimp only)
        k_steps
        rename Fr _ _ _ _ => F14
        rename News _ _ _ _ => N14
        refine ⟨_, _, _, (bx, ob2) :: (l, W.listOf (wl ++ [Value.int (65001 + (ls.length : Int)) t3]).toArray (nl + 1)) :: tl13, rfl, F14, cb_drop N14 ?_, ?_, (x.member (lead (ls ++ [65001 + (ls.length : Int)]) ++ P)).uks, ls ++ [65001 + (ls.length : Int)], Str.ofString "confed", dt, dn, fo, ob2, wl ++ [Value.int (65001 + (ls.length : Int)) t3], (nl + 1), tl13, ⟨rfl, rfl, rfl, rfl, ⟨_, rfl⟩, ⟨_, congrArg (fun z => some (Value.int z _)) e2.symm⟩, ⟨_, rfl⟩, rfl, rfl, ⟨_, rfl⟩, ?_⟩, rfl, fun p hp => ⟨hap13 p hp (bx, ob2) (by simp), hap13 p hp (l, W.listOf (wl ++ [Value.int (65001 + (ls.length : Int)) t3]).toArray (nl + 1)) (by simp)⟩, hwl2, hist2, fun h k z => ⟨(FS13 h k z).came, hto13 h k z, hdu13 h k z, hfo13 h k z, (FS13 h k z).src⟩, ?_⟩
        · intro p hp
          simp only [List.mem_cons] at hp
          rcases hp with e | e | e | e <;> simp [e]
        · intro q hq
          simp only [List.mem_cons] at hq
          rcases hq with e | e | e
          · rw [e]; exact hbI
          · rw [e]; exact hlI
          · exact hap13 q e (I, io) (by simp)
        · intro k hk
          repeat (refine ite_law hk (by decide +kernel) ?_)
          rfl
        · intro h k z
          have e5 : 7 + ((i + 1 : Nat) : Int) = 7 + (i : Int) + 1 := by omega
          rw [e5]
          exact BS13 h k z
      · k_steps
        rename Fr _ _ _ _ => F4
        rename News _ _ _ _ => N4
        have fa := FS.here F4 N4 fun p hp => by first | ((repeat (first | exact hp | apply List.Mem.tail)); done) | simp [hp]
        have hntb := (BS3.here F4 N4 fun p hp => by first | ((repeat (first | exact hp | apply List.Mem.tail)); done) | simp [hp]).noTup (b := bx)
        refine Halt.go ?_
        refine' use (ct_told w _ dh ow teller (Str.ofString "client") x.at x.T x.cls x.cm x.uk _ _ _ _ _ _ _ _ fa.here x.dom rfl hist.med rfl rfl rfl fa.own (hist.seg hP.path) (hist.len hP.path) hist.clen (hist.flags huk)) [(I, io), (bx, ob2), (l, W.listOf wl.toArray nl)] ?B ?F ?X ?T ?hk ?d ?u (cb_drop N4 (sub3 (by first | ((repeat (first | exact List.Mem.head _ | apply List.Mem.tail)); done) | simp) (by first | ((repeat (first | exact List.Mem.head _ | apply List.Mem.tail)); done) | simp) (by first | ((repeat (first | exact List.Mem.head _ | apply List.Mem.tail)); done) | simp))) ?_
        (case B => k_asm); (case F => k_asm); (case X => k_asm); (case T => k_asm); (case hk => first | exact rfl | assumption)
        (case d => ktr_room)
        (case u => ktr_units)
        rintro r h5 tk5 tl5 F5 N5 Sn5 S5 post
        have htd : isTold teller (Str.ofString "client") (50 + (i : Int)) x.cm = true := by rw [hist.hcm]; exact told_client hcm _ (by omega)
        rw [if_pos htd] at post
        obtain ⟨dt, rfl, hfr5, hat5⟩ := post
        rw [tell_client, teller_in hist.htl] at hat5
        have hap3 : ∀ p ∈ tl, ∀ q ∈ [(I, io), (bx, ob2), (l, W.listOf wl.toArray nl)], p.1 ≠ q.1 := fun p hp => all3 (hapI p hp) (hap p hp).1 (hap p hp).2
        have N45 := newsSub (cb_drop (news := tl) N4 (by intro p hp; simp [hp])) S5
        have FS5 := FS.lift N45 (fun p hp => hp) hap3 Sn5
        have BS5 := BS3.lift N45 (fun p hp => hp) hap3 Sn5
        have hn5 := fresh_ne F4 N4 hfr5
        have hnt5 : ∀ q ∈ [(I, io), (bx, ob2), (l, W.listOf wl.toArray nl)], NoTup q.2 := all3 (NoTup.ofCls (by rw [hio]; decide)) (hntb _ (.head _)) (NoTup.ofCls (by show Value.type "list" ≠ Value.type "tuple"; decide))
        have hto5 := Seen.att F5 N5 Sn5 hnt5 hn5.1 (fun q hq => hn5.2 q (sub3 (by first | ((repeat (first | exact List.Mem.head _ | apply List.Mem.tail)); done) | simp) (by first | ((repeat (first | exact List.Mem.head _ | apply List.Mem.tail)); done) | simp) (by first | ((repeat (first | exact List.Mem.head _ | apply List.Mem.tail)); done) | simp) q hq)) hat5
        have hap5 : ∀ p ∈ tl5, ∀ q ∈ [(I, io), (bx, ob2), (l, W.listOf wl.toArray nl)], p.1 ≠ q.1 := Sn5.apart
        clear N45 N4 FS BS3 hn5 hat5 hfr5 hap3 Sn5 S5 htd fa hap hapI hntb
        (try dsimp only)
        k_steps
        rename Fr _ _ _ _ => F6
        rename News _ _ _ _ => N6
        have fa := FS5.here F6 N6 fun p hp => by first | ((repeat (first | exact hp | apply List.Mem.tail)); done) | simp [hp]
        refine Halt.go ?_
        refine' use (ct_stepC w _ dd ow teller x.at x.og x.cls x.uk _ _ _ _ _ _ _ _ fa.due x.dom fa.own rfl rfl hist.clen rfl (hist.flags huk)) [(I, io), (bx, ob2), (l, W.listOf wl.toArray nl)] ?B ?F ?X ?T ?hk ?d ?u (cb_drop N6 (sub3 (by first | ((repeat (first | exact List.Mem.head _ | apply List.Mem.tail)); done) | simp) (by first | ((repeat (first | exact List.Mem.head _ | apply List.Mem.tail)); done) | simp) (by first | ((repeat (first | exact List.Mem.head _ | apply List.Mem.tail)); done) | simp))) ?_
        (case B => k_asm); (case F => k_asm); (case X => k_asm); (case T => k_asm); (case hk => first | exact rfl | assumption)
        (case d => ktr_room)
        (case u => ktr_units)
        rintro r h7 tk7 tl7 F7 N7 Sn7 S7 ⟨dn, rfl, hfr7, hat7⟩
        rw [due_client hist.hlp] at hat7
        have N67 := newsSub (cb_drop (news := tl5) N6 (by intro p hp; simp [hp])) S7
        have FS7 := FS5.lift N67 (fun p hp => hp) hap5 Sn7
        have BS7 := BS5.lift N67 (fun p hp => hp) hap5 Sn7
        have hto7 := hto5.lift N67 (fun p hp => hp) hap5 Sn7
        have hn7 := fresh_ne F6 N6 hfr7
        have hdu7 := Seen.att F7 N7 Sn7 hnt5 hn7.1 (fun q hq => hn7.2 q (sub3 (by first | ((repeat (first | exact List.Mem.head _ | apply List.Mem.tail)); done) | simp) (by first | ((repeat (first | exact List.Mem.head _ | apply List.Mem.tail)); done) | simp) (by first | ((repeat (first | exact List.Mem.head _ | apply List.Mem.tail)); done) | simp) q hq)) hat7
        have hap7 : ∀ p ∈ tl7, ∀ q ∈ [(I, io), (bx, ob2), (l, W.listOf wl.toArray nl)], p.1 ≠ q.1 := Sn7.apart
        clear N67 N6 FS5 BS5 hn7 hat7 hfr7 hap5 Sn7 S7 fa hto5 hnt5
        (try dsimp only)
        simp only [List.cons_append, List.nil_append] at N7
        k_steps
        rename Fr _ _ _ _ => F10
        rename News _ _ _ _ => N10
        have hist2 := hist.client huk (by omega : i + 1 ≤ 4) (rfl : (50 + (i : Int)) = _) (rfl : (99 + (i : Int)) = _) (teller == Str.ofString "ibgp")
        have e2 : ((ls).length : Int) = (ls.length : Int) := by simp
        have hwl2 : IntsAre (wl) (ls) := hwl
        have hap8 : ∀ p ∈ tl7, ∀ q ∈ [(I, io), (bx, ob2), (l, W.listOf (wl).toArray nl)], p.1 ≠ q.1 := fun p hp => all3 (hap7 p hp (I, io) (.head _)) (hap7 p hp (bx, ob2) (.tail _ (.head _))) (hap7 p hp (l, W.listOf wl.toArray nl) (.tail _ (.tail _ (.head _))))
        refine Halt.go ?_
        refine' use (ct_speaker w _ _ _ _ _) [(I, io), (bx, ob2), (l, W.listOf (wl).toArray nl)] ?B ?F ?X ?T ?hk ?d ?u (cb_drop N10 (sub3 (by first | ((repeat (first | exact List.Mem.head _ | apply List.Mem.tail)); done) | simp) (by first | ((repeat (first | exact List.Mem.head _ | apply List.Mem.tail)); done) | simp) (by first | ((repeat (first | exact List.Mem.head _ | apply List.Mem.tail)); done) | simp))) ?_
        (case B => k_asm); (case F => k_asm); (case X => k_asm); (case T => k_asm); (case hk => first | exact rfl | assumption)
        (case d => ktr_room)
        (case u => ktr_units)
        rintro r h11 tk11 tl11 F11 N11 Sn11 S11 ⟨fo, rfl, hfr11, hfo⟩
        have hfo2 : OwnAt w h11 fo (100 + ((i + 1 : Nat) : Int)) (65001 + ((ls).length : Int)) (50 + ((i + 1 : Nat) : Int)) (30 + ((i + 1 : Nat) : Int)) := by
          have e1 : ((i + 1 : Nat) : Int) = (i : Int) + 1 := by omega
          rw [e1, e2]
          exact hfo
        have N1011 := newsSub (cb_drop (news := tl7) N10 (by intro p hp; simp [hp])) S11
        have FS11 := FS7.lift N1011 (fun p hp => hp) hap8 Sn11
        have BS11 := BS7.lift N1011 (fun p hp => hp) hap8 Sn11
        have hto11 := hto7.lift N1011 (fun p hp => hp) hap8 Sn11
        have hdu11 := hdu7.lift N1011 (fun p hp => hp) hap8 Sn11
        have hn11 := fresh_ne F10 N10 hfr11
        have hfo11 := Seen.own F11 N11 Sn11 hn11.1 (fun q hq => hn11.2 q (sub3 (by first | ((repeat (first | exact List.Mem.head _ | apply List.Mem.tail)); done) | simp) (by first | ((repeat (first | exact List.Mem.head _ | apply List.Mem.tail)); done) | simp) (by first | ((repeat (first | exact List.Mem.head _ | apply List.Mem.tail)); done) | simp) q hq)) hfo2
        have hap11 : ∀ p ∈ tl11, ∀ q ∈ [(I, io), (bx, ob2), (l, W.listOf (wl).toArray nl)], p.1 ≠ q.1 := Sn11.apart
        simp only [List.cons_append, List.nil_append] at N11
        clear N1011 N10 FS7 BS7 hto7 hdu7 hn11 hfo hfo2 hfr11 hap7 hap8 Sn11 S11
        (try dsimp only)
        k_steps
        rename Fr _ _ _ _ => F12
        rename News _ _ _ _ => N12
        refine Halt.go ?_
        refine att_ne (hto11.here F12 N12 fun p hp => by first | ((repeat (first | exact hp | apply List.Mem.tail)); done) | simp [hp]) (hdu11.here F12 N12 fun p hp => by first | ((repeat (first | exact hp | apply List.Mem.tail)); done) | simp [hp]) (by ktr_units) ?_
        (try dsimp only)
        k_steps
        have fa := FS11.here F12 N12 fun p hp => by first | ((repeat (first | exact hp | apply List.Mem.tail)); done) | simp [hp]
        refine Halt.go ?_
        refine' use (ct_right w _ dc dt l fo (Str.ofString "client") _ _ _ P _ _ (ls) (wl) _ _ _ _ fa.came rfl (hto11.here F12 N12 fun p hp => by first | ((repeat (first | exact hp | apply List.Mem.tail)); done) | simp [hp]) (by rw [Rec.path, hist2.hT]) (Rec.atOg _) (Rec.atCls _) (hfo11.here F12 N12 fun p hp => by first | ((repeat (first | exact hp | apply List.Mem.tail)); done) | simp [hp]) ⟨_, (N12 (l, W.listOf (wl).toArray nl) (by simp)).1, rfl, _, rfl⟩ hwl2 (by have := hist2.hln; have := hist2.hi; omega) (by have := hP.path.len; have := List.length_pos_iff.mpr hP.path.ne; omega) (by rw [lead_sizes]; have := hP.path.siz; have := hist2.hln; have := hist2.hi; omega) (by have := hP.path.siz; omega) (fun g hg => Nat.lt_of_le_of_lt (lead_seg (ls) hP.path (by have := hist2.hln; have := hist2.hi; omega) g hg) (by decide)) (lead_len _ _) (lead_neigh _ _) (lead_outer _ _) (by have := hP.path.outl; omega) (fun y hy => lead_backs _ hP.path y hy) (hist2.round hP.path rfl rfl rfl)) [(I, io), (bx, ob2), (l, W.listOf (wl).toArray nl)] ?B ?F ?X ?T ?hk ?d ?u (cb_drop N12 (sub3 (by first | ((repeat (first | exact List.Mem.head _ | apply List.Mem.tail)); done) | simp) (by first | ((repeat (first | exact List.Mem.head _ | apply List.Mem.tail)); done) | simp) (by first | ((repeat (first | exact List.Mem.head _ | apply List.Mem.tail)); done) | simp))) ?_
        (case B => k_asm); (case F => k_asm); (case X => k_asm); (case T => k_asm); (case hk => first | exact rfl | assumption)
        (case d => ktr_room)
        (case u => ktr_units)
        rintro r h13 tk13 tl13 F13 N13 Sn13 S13 rfl
        have N1213 := newsSub (cb_drop (news := tl11) N12 (by intro p hp; simp [hp])) S13
        have FS13 := FS11.lift N1213 (fun p hp => hp) hap11 Sn13
        have BS13 := BS11.lift N1213 (fun p hp => hp) hap11 Sn13
        have hto13 := hto11.lift N1213 (fun p hp => hp) hap11 Sn13
        have hdu13 := hdu11.lift N1213 (fun p hp => hp) hap11 Sn13
        have hfo13 := hfo11.lift N1213 (fun p hp => hp) hap11 Sn13
        have hap13 : ∀ p ∈ tl13, ∀ q ∈ [(I, io), (bx, ob2), (l, W.listOf (wl).toArray nl)], p.1 ≠ q.1 := Sn13.apart
        simp only [List.cons_append, List.nil_append] at N13
        clear N1213 N12 FS11 BS11 hto11 hdu11 hfo11 hap11 Sn13 S13 fa
        (try dsimp only)
        k_steps
        rename Fr _ _ _ _ => F14
        rename News _ _ _ _ => N14
        refine ⟨_, _, _, (bx, ob2) :: (l, W.listOf (wl).toArray nl) :: tl13, rfl, F14, cb_drop N14 ?_, ?_, (x.inside (50 + (i : Int)) (99 + (i : Int)) (teller == Str.ofString "ibgp")).uks, ls, Str.ofString "ibgp", dt, dn, fo, ob2, wl, nl, tl13, ⟨rfl, rfl, rfl, rfl, ⟨_, rfl⟩, ⟨_, rfl⟩, ⟨_, rfl⟩, rfl, rfl, ⟨_, rfl⟩, ?_⟩, rfl, fun p hp => ⟨hap13 p hp (bx, ob2) (by simp), hap13 p hp (l, W.listOf (wl).toArray nl) (by simp)⟩, hwl2, hist2, fun h k z => ⟨(FS13 h k z).came, hto13 h k z, hdu13 h k z, hfo13 h k z, (FS13 h k z).src⟩, ?_⟩
        · intro p hp
          simp only [List.mem_cons] at hp
          rcases hp with e | e | e | e <;> simp [e]
        · intro q hq
          simp only [List.mem_cons] at hq
          rcases hq with e | e | e
          · rw [e]; exact hbI
          · rw [e]; exact hlI
          · exact hap13 q e (I, io) (by simp)
        · intro k hk
          repeat (refine ite_law hk (by decide +kernel) ?_)
          rfl
        · intro h k z
          have e5 : 7 + ((i + 1 : Nat) : Int) = 7 + (i : Int) + 1 := by omega
          rw [e5]
          exact BS13 h k z
    case done =>
      clear hcame6 hbS6 hown6 hap6
      rintro h' tk' m' news' F1 N1 ⟨x, ls, teller, dh, dd, ow, ob, wl, nl, tl, hnm', rfl, hap, hwl, hist, FS, BS⟩
      obtain ⟨oat, ost, otd, ofl, sc, tt, tm, ty, rfl⟩ := hnm'.is
      clear hnm' BS hap hwl
      unfold lawM at F1
      k_steps
      rename Fr _ _ _ _ => F4
      rename News _ _ _ _ => N4
      have fa := FS.here F4 N4 fun p hp => by first | ((repeat (first | exact hp | apply List.Mem.tail)); done) | simp [hp]
      refine Halt.go ?_
      refine' use (ct_told w _ dh ow teller (Str.ofString "ebgp") x.at x.T x.cls x.cm x.uk _ _ _ _ _ _ _ _ fa.here x.dom rfl hist.med rfl rfl rfl fa.own (hist.seg hP.path) (hist.len hP.path) hist.clen (hist.flags huk)) [] ?B ?F ?X ?T ?hk ?d ?u News.nil ?_
      (case B => k_asm); (case F => k_asm); (case X => k_asm); (case T => k_asm); (case hk => first | exact rfl | assumption)
      (case d => ktr_room)
      (case u => ktr_units)
      rintro r h5 tk5 tl5 F5 N5 Sn5 S5 post
      rw [hist.hcm, told_ebgp hcm, tell_ebgp, hist.outside hP.path huk] at post
      have N45 := newsSub (cb_drop (news := tl) N4 (by intro p hp; simp [hp])) S5
      have FS5 := FS.lift (c := []) N45 (fun p hp => hp) (fun _ _ _ h => nomatch h) Sn5
      by_cases hno : 4294967041 ∈ cm.getD []
      · rw [if_neg (by simpa using hno)] at post
        subst post
        clear N45 N4 FS fa Sn5 S5
        simp only [List.nil_append] at N5
        (try dsimp only)
        k_steps
        rename Fr _ _ _ _ => F6
        rename News _ _ _ _ => N6
        have fa := FS5.here F6 N6 fun p hp => by first | ((repeat (first | exact hp | apply List.Mem.tail)); done) | simp [hp]
        refine Halt.go ?_
        refine' use (ct_outdue w _ dc ow _ P cm uk _ _ _ _ fa.came (Rec.dom _) rfl fa.own rfl rfl (ukOn_flags huk).1 (fun g hg => Nat.lt_of_le_of_lt (hP.path.seg g hg) (by decide)) (Nat.lt_of_le_of_lt hP.path.len (by decide)) hP.path.ne) [] ?B ?F ?X ?T ?hk ?d ?u News.nil ?_
        (case B => k_asm); (case F => k_asm); (case X => k_asm); (case T => k_asm); (case hk => first | exact rfl | assumption)
        (case d => ktr_room)
        (case u => ktr_units)
        rintro r h7 tk7 tl7 F7 N7 Sn7 S7 post
        rw [if_pos hno] at post
        subst post
        have N67 := newsSub (cb_drop (news := tl5) N6 (by intro p hp; simp [hp])) S7
        have FS7 := FS5.lift (c := []) N67 (fun p hp => hp) (fun _ _ _ h => nomatch h) Sn7
        clear N67 N6 FS5 fa Sn7 S7
        simp only [List.nil_append] at N7
        (try dsimp only)
        k_steps
        rename Fr _ _ _ _ => F8
        rename News _ _ _ _ => N8
        have fa := FS7.here F8 N8 fun p hp => by first | ((repeat (first | exact hp | apply List.Mem.tail)); done) | simp [hp]
        refine Halt.go ?_
        refine' use (ct_told w _ dc ow (Str.ofString "ebgp") (Str.ofString "ebgp") _ P none cm uk _ _ _ _ _ _ _ _ fa.came (Rec.dom _) rfl rfl rfl rfl rfl fa.own (fun g hg => Nat.lt_of_le_of_lt (hP.path.seg g hg) (by decide)) (Nat.lt_of_le_of_lt hP.path.len (by decide)) (by decide) (ukOn_flags huk).1) [] ?B ?F ?X ?T ?hk ?d ?u News.nil ?_
        (case B => k_asm); (case F => k_asm); (case X => k_asm); (case T => k_asm); (case hk => first | exact rfl | assumption)
        (case d => ktr_room)
        (case u => ktr_units)
        rintro r h9 tk9 tl9 F9 N9 Sn9 S9 post
        rw [told_ebgp hcm] at post
        rw [if_neg (by simpa using hno)] at post
        subst post
        clear N8 FS7 fa Sn9 S9
        simp only [List.nil_append] at N9
        (try dsimp only)
        k_steps
      · rw [if_pos (by simpa using hno)] at post
        obtain ⟨dt, rfl, hfr5, hat5⟩ := post
        have hn5 := fresh_ne F4 N4 hfr5
        have hto5 := Seen.att (c := []) F5 N5 Sn5 (fun _ h => nomatch h) hn5.1 (fun _ h => nomatch h) hat5
        clear N45 N4 FS fa Sn5 S5 hn5 hat5 hfr5
        simp only [List.nil_append] at N5
        (try dsimp only)
        k_steps
        rename Fr _ _ _ _ => F6
        rename News _ _ _ _ => N6
        have fa := FS5.here F6 N6 fun p hp => by first | ((repeat (first | exact hp | apply List.Mem.tail)); done) | simp [hp]
        refine Halt.go ?_
        refine' use (ct_outdue w _ dc ow _ P cm uk _ _ _ _ fa.came (Rec.dom _) rfl fa.own rfl rfl (ukOn_flags huk).1 (fun g hg => Nat.lt_of_le_of_lt (hP.path.seg g hg) (by decide)) (Nat.lt_of_le_of_lt hP.path.len (by decide)) hP.path.ne) [] ?B ?F ?X ?T ?hk ?d ?u News.nil ?_
        (case B => k_asm); (case F => k_asm); (case X => k_asm); (case T => k_asm); (case hk => first | exact rfl | assumption)
        (case d => ktr_room)
        (case u => ktr_units)
        rintro r h7 tk7 tl7 F7 N7 Sn7 S7 post
        rw [if_neg hno] at post
        obtain ⟨dn, rfl, hfr7, hat7⟩ := post
        have hn7 := fresh_ne F6 N6 hfr7
        have hdu7 := Seen.att (c := []) F7 N7 Sn7 (fun _ h => nomatch h) hn7.1 (fun _ h => nomatch h) hat7
        have N67 := newsSub (cb_drop (news := tl5) N6 (by intro p hp; simp [hp])) S7
        have FS7 := FS5.lift (c := []) N67 (fun p hp => hp) (fun _ _ _ h => nomatch h) Sn7
        have hto7 := hto5.lift (c := []) N67 (fun p hp => hp) (fun _ _ _ h => nomatch h) Sn7
        clear N67 N6 FS5 fa Sn7 S7 hn7 hat7 hfr7 hto5
        have e7 := due_ebgp (x := { o := n0, T := P, nh := 77, med := some 5, cm := cm, uk := uk, lp := none, og := none, cls := none }) ⟨rfl, rfl, rfl⟩ (30 + ((4 - nm).toNat : Int))
        replace hdu7 : Mine.Seen s₁.heap tl7 fun h => AttAt w h dn (Rec.at { o := n0, T := headed P 9 2, nh := 30 + ((4 - nm).toNat : Int), med := none, cm := cm, uk := ukOn uk, lp := none, og := none, cls := none }) := hdu7.mono fun h y => e7 ▸ y
        clear e7
        simp only [List.nil_append] at N7
        (try dsimp only)
        k_steps
        rename Fr _ _ _ _ => F8
        rename News _ _ _ _ => N8
        refine Halt.go ?_
        refine att_eq (hto7.here F8 N8 fun p hp => by first | ((repeat (first | exact hp | apply List.Mem.tail)); done) | simp [hp]) (hdu7.here F8 N8 fun p hp => by first | ((repeat (first | exact hp | apply List.Mem.tail)); done) | simp [hp]) (by ktr_units) ?_
        (try dsimp only)
        k_steps
        rename Fr _ _ _ _ => F8
        rename News _ _ _ _ => N8
        have fa := FS7.here F8 N8 fun p hp => by first | ((repeat (first | exact hp | apply List.Mem.tail)); done) | simp [hp]
        refine Halt.go ?_
        refine' use (ct_told w _ dc ow (Str.ofString "ebgp") (Str.ofString "ebgp") _ P none cm uk _ _ _ _ _ _ _ _ fa.came (Rec.dom _) rfl rfl rfl rfl rfl fa.own (fun g hg => Nat.lt_of_le_of_lt (hP.path.seg g hg) (by decide)) (Nat.lt_of_le_of_lt hP.path.len (by decide)) (by decide) (ukOn_flags huk).1) [] ?B ?F ?X ?T ?hk ?d ?u News.nil ?_
        (case B => k_asm); (case F => k_asm); (case X => k_asm); (case T => k_asm); (case hk => first | exact rfl | assumption)
        (case d => ktr_room)
        (case u => ktr_units)
        rintro r h9 tk9 tl9 F9 N9 Sn9 S9 post
        rw [told_ebgp hcm] at post
        rw [if_pos (by simpa using hno)] at post
        obtain ⟨du, rfl, hfr9, hat9⟩ := post
        have e9 := (tell_ebgp (x := { o := n0, T := P, nh := 77, med := some 5, cm := cm, uk := uk, lp := none, og := none, cls := none }) (teller := Str.ofString "ebgp") 99 (50 + ((4 - nm).toNat : Int)) (30 + ((4 - nm).toNat : Int)) (65001 + (ls.length : Int))).trans (congrArg Rec.at (hist0.outside hP.path huk (30 + ((4 - nm).toNat : Int))))
        replace hat9 := Eq.mp (congrArg (AttAt w h9 du) e9) hat9
        have N89 := newsSub (cb_drop (news := tl7) N8 (by intro p hp; simp [hp])) S9
        have hdu9 := hdu7.lift (c := []) N89 (fun p hp => hp) (fun _ _ _ h => nomatch h) Sn9
        have hn9 := fresh_ne F8 N8 hfr9
        have hto9 := Seen.att (c := []) F9 N9 Sn9 (fun _ h => nomatch h) hn9.1 (fun _ h => nomatch h) hat9
        clear e9 N89 N8 FS7 fa Sn9 S9 hat9 hfr9 hn9 hdu7 hto7
        simp only [List.nil_append] at N9
        (try dsimp only)
        k_steps
        rename Fr _ _ _ _ => F10
        rename News _ _ _ _ => N10
        refine Halt.go ?_
        refine att_eq (hto9.here F10 N10 fun p hp => by first | ((repeat (first | exact hp | apply List.Mem.tail)); done) | simp [hp]) (hdu9.here F10 N10 fun p hp => by first | ((repeat (first | exact hp | apply List.Mem.tail)); done) | simp [hp]) (by ktr_units) ?_
        (try dsimp only)
        k_steps)
end
