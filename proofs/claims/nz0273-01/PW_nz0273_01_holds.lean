import PyProof.Rows.All
import Wide.All
import OpenK.AllK
import Wide.FinOn
import Lean
import PySem.Challenge.RW_nz0273_01
open PySem PySem.W PyProof.Rows
set_option Elab.async false
set_option maxRecDepth 100000
set_option maxHeartbeats 0
set_option rowWalk.seconds 0
namespace Mine
open_top hd for PySem.Challenge.rw_nz0273_01
open PySem.Calls
section part_B0
/-- entering a plain def of the text from any state -/
theorem enterP {prog : Program} {w : World} {A : Around} {E : Value → Shared → Prop} {s : Shared} {K : Frag} {p : Program} {loose : List Str} {mg mb : Str → Option Value}
    {Q : Value → Shared → Prop} {name qual : Str} {params : Arguments} {body : List Stmt} {scope : Scope} {dV kV doc pm cdv ct oc : Value} {an od : Option Addr} {osl : Array (Option Value)} {f : Addr} {args : List Value} {binds : List (Str × Value)}
    (X : K.In s.heap) (T : TopRead p loose mg mb s.heap)
    (ho : K.lookup f = some ⟨oc, od, .func (fnOf name qual params body scope dV kV doc pm an cdv ct), osl⟩) (hcd : codeIn K cdv qual = true) (hroom : A.depth < recursionLimit)
    (hbind : BindsTo s (fnOf name qual params body scope dV kV doc pm an cdv ct) ⟨args, []⟩ binds) (hloc : ∀ y ∈ binds, scope.names.lookup y.1 = some .local)
    (h : ∀ L h₁ tk, Fr s.heap L h₁ (fun y => binds.reverse.lookup y) → 
      wpAny (model prog w) (A.deeper (envOf qual scope L f cdv)) (execs body (envOf qual scope L f cdv))
        (fun fl s' => Q (match fl with | .ret v => v | _ => .none) s')
        (fun e s' => wpAny (model prog w) (A.deeper (envOf qual scope L f cdv)) (leaving (envOf qual scope L f cdv) e) (fun _ s'' => E e s'') (fun e' s'' => E e' s'') s')
        { s with heap := h₁, toks := tk })
    (hco : scope.isCoroutine = false) (hgen : scope.isGenerator = false) (hk : scope.kind = .function)
    (hcell : ∀ x ∈ scope.names, x.2 ≠ .cell) : wpAny (model prog w) A (call (.ref f) args) Q E s := by
  refine wpAny_call ?_
  refine codeAny_call_def (fd := fnOf name qual params body scope dV kV doc pm an cdv ct) (body := body) (binds := binds) hroom (X _ _ ho) rfl T.nolimit (codeRec_of X hcd) rfl hbind hcell hloc (fun h₁ hns hk₁ => ?_) hco hgen hk
  exact h _ h₁ _ ⟨hns, hk₁, Nat.le_refl _⟩


/-- entering a plain def: what stood at an elder heap stays; what was made since lies in the ledger -/
theorem enterB {prog : Program} {w : World} {A : Around} {E : Value → Shared → Prop} {s : Shared} {K : Frag} {p : Program} {loose : List Str} {mg mb : Str → Option Value} {h₀ : Heap} {news : List (Addr × Obj)}
    {Q : Value → Shared → Prop} {name qual : Str} {params : Arguments} {body : List Stmt} {scope : Scope} {dV kV doc pm cdv ct oc : Value} {an od : Option Addr} {osl : Array (Option Value)} {f : Addr} {args : List Value} {binds : List (Str × Value)}
    (X : K.In h₀) (T : TopRead p loose mg mb h₀) (k : h₀.StaysIn s.heap) (hsz : h₀.objs.size ≤ s.heap.objs.size) (hN : ∀ p ∈ news, s.heap.get? p.1 = some p.2 ∧ h₀.get? p.1 = none)
    (ho : K.lookup f = some ⟨oc, od, .func (fnOf name qual params body scope dV kV doc pm an cdv ct), osl⟩) (hcd : codeIn K cdv qual = true) (hroom : A.depth < recursionLimit)
    (hbind : BindsTo s (fnOf name qual params body scope dV kV doc pm an cdv ct) ⟨args, []⟩ binds) (hloc : ∀ y ∈ binds, scope.names.lookup y.1 = some .local)
    (h : ∀ L h₁ tk, Fr h₀ L h₁ (fun y => binds.reverse.lookup y) → News h₀ L h₁ news → s.heap.StaysIn h₁ → s.heap.get? L = none →
      wpAny (model prog w) (A.deeper (envOf qual scope L f cdv)) (execs body (envOf qual scope L f cdv))
        (fun fl s' => Q (match fl with | .ret v => v | _ => .none) s')
        (fun e s' => wpAny (model prog w) (A.deeper (envOf qual scope L f cdv)) (leaving (envOf qual scope L f cdv) e) (fun _ s'' => E e s'') (fun e' s'' => E e' s'') s')
        { s with heap := h₁, toks := tk })
    (hco : scope.isCoroutine = false) (hgen : scope.isGenerator = false) (hk : scope.kind = .function)
    (hcell : ∀ x ∈ scope.names, x.2 ≠ .cell) : wpAny (model prog w) A (call (.ref f) args) Q E s := by
  refine wpAny_call ?_
  have none_at : s.heap.get? s.heap.objs.size = none := by
    cases e : s.heap.get? s.heap.objs.size with
    | none => rfl
    | some o => exact absurd (Heap.lt_size e) (Nat.lt_irrefl _)
  refine codeAny_call_def (fd := fnOf name qual params body scope dV kV doc pm an cdv ct) (body := body) (binds := binds) hroom ((X.keeps k) _ _ ho) rfl (T.nolimit.keeps k) (codeRec_of (X.keeps k) hcd) rfl hbind hcell hloc (fun h₁ hns hk₁ => ?_) hco hgen hk
  exact h _ h₁ _ ⟨hns, fun b o e => hk₁ b o (k b o e), hsz⟩ (fun q hq => ⟨hk₁ _ _ (hN q hq).1, Nat.ne_of_lt (Heap.lt_size (hN q hq).1), (hN q hq).2⟩) hk₁ none_at

/-- the top's objects stand as the head left them -/
def Wd (w : World) (h : Heap) : Prop := (hd.heap_39 w.params).In h ∧ ∃ mean mg mb, Top hd.view_39 (looseW hd.view_39 [Str.ofString "PostError"]) mean mg mb h
theorem Wd.stays {w : World} {h h' : Heap} (W : Wd w h) (k : ∀ b o, h.get? b = some o → h'.get? b = some o) : Wd w h' := by
  obtain ⟨X, mean, mg, mb, T⟩ := W
  exact ⟨X.keeps k, mean, mg, mb, T.keeps k⟩
theorem Wd.fr {w : World} {h₀ h : Heap} {L : Addr} {m : Str → Option Value} (W : Wd w h₀) (F : Fr h₀ L h m) : Wd w h := W.stays F.keep

theorem list_news {h₀ h : Heap} {L D : Addr} {m : Str → Option Value} {news : List (Addr × Obj)} {items : Array Value} (F : Fr h₀ L h m) (N : News h₀ L h news) (hl : h.IsList D items) (hD : h₀.get? D = none) :
    ∃ o, o.cls = .type "list" ∧ (∃ n, o.data = .seq items n) ∧ News h₀ L h ((D, o) :: news) := by
  obtain ⟨o, ho, hc, n, hd⟩ := hl
  exact ⟨o, hc, ⟨n, hd⟩, News.more F N ho (fun es n q => by rw [hd] at q; cases q) hD⟩
theorem list_of {h₀ h : Heap} {L D : Addr} {news : List (Addr × Obj)} {items : Array Value} {o : Obj} {n : Nat} (N : News h₀ L h news) (hm : (D, o) ∈ news) (hc : o.cls = .type "list") (hd : o.data = .seq items n) : h.IsList D items :=
  ⟨o, (N _ hm).1, hc, n, hd⟩
theorem fresh_of {h₀ h : Heap} {L D : Addr} {m : Str → Option Value} (F : Fr h₀ L h m) (hD : h.get? D = none) : h₀.get? D = none := by
  cases e : h₀.get? D with
  | none => rfl
  | some o => have := F.keep D o e; rw [hD] at this; cases this
theorem fill : hd.heap_39 = hd.heap_39 ∨ PySem.Challenge.rw_nz0273_01 = PySem.Challenge.rw_nz0273_01 := by k_fill; exact .inl rfl
end part_B0
section part_B1
open Builtin in
theorem gives_in_bytes (b : Array UInt8) (k : Int) (t u : Tok) (h0 : 0 ≤ k) (h1 : k < 256) :
    Gives («bytes.__contains__» ⟨[.bytes b t, .int k u], []⟩) (.val (.bool (b.contains k.toNat.toUInt8))) := by
  refine .of_wp fun M A E s Q hq => ?_
  show wpAny M A (Bytes.containsIn "bytes.__contains__" (.bytes b t) (.int k u) >>= fun r => _) _ E s
  refine wpAny_bind ?_
  unfold Bytes.containsIn
  refine wpAny_bind (wpAny_attempt (wpAny_of_eq (rfl : asIndex (.int k u) = pure k) ?_))
  refine wpAny_bind (wpAny_of_eq KBy.buffer_eq ?_)
  dsimp only
  rw [if_neg (by simp only [Bool.or_eq_true, decide_eq_true_eq]; omega)]
  exact wpAny_pure (wpAny_pure ⟨_, rfl, hq⟩)

theorem in_bytes {prog : Program} {w : World} {A : Around} {E : Value → Shared → Prop} {s : Shared} {b : Array UInt8} {k : Int} {t u : Tok} {Q : Value → Shared → Prop} (h0 : 0 ≤ k) (h1 : k < 256)
    (h : Q (.bool (b.contains k.toNat.toUInt8)) s) : wpAny (model prog w) A (compareOp .In (.int k u) (.bytes b t)) Q E s :=
  in_gives (typeIs_bytes s b t) FB.slot_bytes_contains FB.entry_bytes_contains (FB.args_bytes_contains_2 _ _) (gives_in_bytes b k t u h0 h1) h
end part_B1
section part_B3
theorem map_but {m₁ m₀ : Str → Option Value} {x : Str} {v : Option Value} (hm : ∀ z, z ≠ x → m₁ z = m₀ z) : (fun y => if y = x then v else m₁ y) = fun y => if y = x then v else m₀ y := by
  funext y; by_cases h : y = x
  · simp [h]
  · simp only [if_neg h]; exact hm y h
theorem map_done {m₁ m₀ : Str → Option Value} {x : Str} (hm : ∀ z, z ≠ x → m₁ z = m₀ z) : m₁ = fun y => if y = x then m₁ x else m₀ y := by
  funext y; by_cases h : y = x
  · simp [h]
  · simp only [if_neg h]; exact hm y h
/-- what a value's iterator walks over -/
def SrcOf (prog : Program) (w : World) (A : Around) {α : Type} (v : Value) (xs : List α) (V : α → Value → Prop) (R : List Addr) (s : Shared) : Prop :=
  ∀ (Q : Value → Shared → Prop) (E : Value → Shared → Prop),
    (∀ o fp St P, Walks prog w A s.heap.objs.size fp [s.heap.objs.size] xs.length P St → (∀ i v, P i v → ∃ a, xs[i]? = some a ∧ V a v) → (∀ b ∈ fp, b < s.heap.objs.size + 1) → (∀ b ∈ fp, b = s.heap.objs.size ∨ b ∈ R) → St 0 (s.heap.push o) → o.isFreed = false →
      Q (.ref s.heap.objs.size) { s with heap := s.heap.push o }) → wpAny (model prog w) A (pyIter v) Q E s

section
variable {prog : Program} {w : World} {A : Around} {s : Shared}
theorem src_bytes {b : Array UInt8} {tb : Tok} (hh : A.handled = none) : SrcOf prog w A (.bytes b tb) b.toList (fun c v => ∃ u, v = .int (c.toNat : Int) u) [] s := by
  intro Q E h
  refine KBw.pyIter_bytes (h _ [s.heap.objs.size] (fun i h => KBw.IsBytesIter h s.heap.objs.size b tb i) (fun i v => ∃ c u, b[i]? = some c ∧ v = .int (c.toNat : Int) u) ?_ ?_ ?_ ?_ ⟨_, Heap.get?_push_size _ rfl, rfl, rfl⟩ rfl)
  · have := KBw.walks (prog := prog) (w := w) hh s.heap.objs.size b tb
    rw [Array.length_toList]; exact this
  · rintro i v ⟨c, u, hc, rfl⟩
    exact ⟨c, by simpa using hc, u, rfl⟩
  · intro b hb; rw [List.mem_singleton.mp hb]; exact Nat.lt_succ_self _
  · intro b hb; exact .inl (List.mem_singleton.mp hb)
theorem src_str {x : Str} {t : Tok} (hh : A.handled = none) : SrcOf prog w A (.str x t) x.cps.toList (fun c v => ∃ u, v = .str ⟨#[c]⟩ u) [] s := by
  intro Q E h
  have fin : ∀ (o : Obj) (St : Nat → Heap → Prop), o.isFreed = false → (∀ A' : Around, A'.handled = none → Walks prog w A' s.heap.objs.size [s.heap.objs.size] [s.heap.objs.size] x.cps.size (SignAt x) St) → St 0 (s.heap.push o) →
      Q (.ref s.heap.objs.size) { s with heap := s.heap.push o } := by
    intro o St hf W st
    refine h o [s.heap.objs.size] St (SignAt x) ?_ ?_ ?_ ?_ st hf
    · have := W A hh
      rw [Array.length_toList]; exact this
    · rintro i v ⟨c, u, hc, rfl⟩
      exact ⟨c, by simpa using hc, u, rfl⟩
    · intro b hb; rw [List.mem_singleton.mp hb]; exact Nat.lt_succ_self _
    · intro b hb; exact .inl (List.mem_singleton.mp hb)
  cases ha : x.cps.all (· < 128)
  · exact wpAny_pyIter_wide ha (fin _ _ rfl (fun A' hA => Walks.strWide hA _ x t) ⟨_, Heap.get?_push_size _ rfl, rfl, rfl⟩)
  · exact wpAny_pyIter_ascii ha (fin _ _ rfl (fun A' hA => Walks.strAscii hA _ x t) ⟨_, Heap.get?_push_size _ rfl, rfl, rfl⟩)
theorem src_list {l : Addr} {vs : List Value} (hh : A.handled = none) (hl : s.heap.IsList l vs.toArray) : SrcOf prog w A (.ref l) vs (fun a v => v = a) [l] s := by
  intro Q E h
  obtain ⟨ol, hol, hoc, n, hod⟩ := id hl
  have hlt : l < s.heap.objs.size := Heap.lt_size hol
  refine wpAny_pyIter_list hl (h _ [s.heap.objs.size, l] (fun i h => h.IsListIter s.heap.objs.size l i ∧ h.IsList l vs.toArray) (fun i v => vs.toArray[i]? = some v) ?_ ?_ ?_ ?_ ⟨⟨_, Heap.get?_push_size _ rfl, rfl, rfl⟩, hl.push _⟩ rfl)
  · have := Walks.list (prog := prog) (w := w) hh s.heap.objs.size l (Nat.ne_of_lt hlt) vs.toArray
    rw [List.size_toArray] at this; exact this
  · intro i v hv
    exact ⟨v, by simpa using hv, rfl⟩
  · intro b hb
    rcases List.mem_cons.mp hb with rfl | hb
    · exact Nat.lt_succ_self _
    · rw [List.mem_singleton.mp hb]; exact Nat.lt_succ_of_lt hlt
  · intro b hb
    rcases List.mem_cons.mp hb with rfl | hb
    · exact .inl rfl
    · exact .inr hb
theorem src_range {r : Addr} {n : Nat} {t u v : Tok} (hh : A.handled = none) (hr : IsRange s.heap r 0 (n : Int) 1 t u v) (hn : n < 2 ^ 62) : SrcOf prog w A (.ref r) (List.range n) (fun a v => ∃ t, v = .int (a : Int) t) [] s := by
  intro Q E h
  have hsm : Builtin.Range.small 0 (n : Int) 1 = true := small_one (by decide) (by decide) (by omega) (by omega)
  have hsz : Builtin.Range.rangeSize 0 (n : Int) 1 = ((n : Nat) : Int) := by rw [rangeSize_nat]; omega
  refine wpAny_pyIter_range hr hsm ?_
  rw [hsz]
  refine h _ [s.heap.objs.size] (fun i h => IsRangeIter h s.heap.objs.size (0 + (i : Nat) * 1) ((n : Int) - (i : Nat)) 1) (fun i v => i < n ∧ ∃ t, v = .int (0 + (i : Int)) t) ?_ ?_ ?_ ?_ ?_ rfl
  · have := LCg.range_walks (prog := prog) (w := w) (I := s.heap.objs.size) hh 0 n
    rw [List.length_range]; exact this.bound
  · rintro i v ⟨hi, t, rfl⟩
    exact ⟨i, by simp [hi], t, by simp⟩
  · intro b hb; rw [List.mem_singleton.mp hb]; exact Nat.lt_succ_self _
  · intro b hb; exact .inl (List.mem_singleton.mp hb)
  · simpa [IsRangeIter] using Heap.get?_push_size s.heap (o := { cls := .type "range_iterator", data := .fields #[rawInt 0, rawInt (n : Int), rawInt 1] }) rfl
end

section
variable {α : Type}
noncomputable def pOf (V : α → Value → Prop) (pb : α → Bool) (v : Value) : Bool := @decide (∃ a, V a v ∧ pb a = true) (Classical.propDecidable _)
theorem pOf_eq {V : α → Value → Prop} (hV : ∀ a a' v, V a v → V a' v → a = a') {pb : α → Bool} {a : α} {v : Value} (h : V a v) : pOf V pb v = pb a := by
  unfold pOf
  cases hb : pb a with
  | true => exact @decide_eq_true _ (Classical.propDecidable _) ⟨a, h, hb⟩
  | false =>
    refine @decide_eq_false _ (Classical.propDecidable _) ?_
    rintro ⟨a', h', hb'⟩
    rw [hV a a' v h h', hb'] at hb; cases hb
theorem paired_conv {V : α → Value → Prop} (hV : ∀ a a' v, V a v → V a' v → a = a') {pb : α → Bool} {G : α → Value → Prop} :
    ∀ (xs : List α) (vs ys : List Value), vs.length = xs.length → (∀ (j : Nat) (v : Value), vs[j]? = some v → ∃ a, xs[j]? = some a ∧ V a v) →
      Paired (fun v y => ∃ a, V a v ∧ G a y) (vs.filter (pOf V pb)) ys → Paired G (xs.filter pb) ys
  | [], [], ys, _, _, h => by cases h; exact .nil
  | [], _ :: _, _, hl, _, _ => by cases hl
  | _ :: _, [], _, hl, _, _ => by cases hl
  | a :: xs, v :: vs, ys, hl, hP, h => by
    obtain ⟨a', ha', hv⟩ := hP 0 v rfl
    cases ha'
    have hr : ∀ (j : Nat) (v : Value), vs[j]? = some v → ∃ a, xs[j]? = some a ∧ V a v := fun j v hj => hP (j + 1) v hj
    have hp : pOf V pb v = pb a := pOf_eq hV hv
    have hl' : vs.length = xs.length := Nat.succ.inj hl
    rw [List.filter_cons] at h ⊢
    rw [hp] at h
    cases hb : pb a with
    | false =>
      rw [hb] at h
      exact paired_conv hV xs vs ys hl' hr h
    | true =>
      rw [hb] at h
      simp only [if_true] at h ⊢
      cases h with
      | cons hab t =>
        obtain ⟨a₁, h1, h2⟩ := hab
        rw [hV a₁ a v h1 hv] at h2
        exact .cons h2 (paired_conv hV xs vs _ hl' hr t)
end

section
variable {α : Type} {prog : Program} {w : World} {A : Around} {E : Value → Shared → Prop} {s : Shared} {env : Env} {h₀ : Heap} {L : Addr} {m : Str → Option Value}
  {V : α → Value → Prop} {pb : α → Bool} {G : α → Value → Prop} {xs : List α} {xv : Value} {x : Str} {px : Pos} {elt iter : Expr} {ifs : List Expr} {scope : Scope} {cl : List (Str × Addr)} {pos : Pos} {R : List Addr}

def TestEnd (r : Bool) (s₃ : Shared) (ok : Bool) (s₄ : Shared) : Prop := ok = r ∧ Keeps s₃ s₄
def EltEnd (G : Value → Prop) (s₃ : Shared) (y : Value) (s₄ : Shared) : Prop := G y ∧ Keeps s₃ s₄
theorem TestEnd.intro {r ok : Bool} {s₃ : Shared} {h' : Heap} {tk : Nat} (e : ok = r) (k : ∀ b o, s₃.heap.get? b = some o → h'.get? b = some o) : TestEnd r s₃ ok { s₃ with heap := h', toks := tk } := ⟨e, h', tk, rfl, k⟩
theorem EltEnd.intro {G : Value → Prop} {y : Value} {s₃ : Shared} {h' : Heap} {tk : Nat} (e : G y) (k : ∀ b o, s₃.heap.get? b = some o → h'.get? b = some o) : EltEnd G s₃ y { s₃ with heap := h', toks := tk } := ⟨e, h', tk, rfl, k⟩
/-- what a turn of a pure comprehension must do -/
structure TurnP (prog : Program) (w : World) (A : Around) (h₀ g : Heap) (env : Env) (scope : Scope) (cl : List (Str × Addr)) (x : Str) (ifs : List Expr) (elt : Expr) (V : α → Value → Prop) (pb : α → Bool) (G : α → Value → Prop) (xs : List α) : Prop where
  tests : ∀ C a v s₃ m₃ E', a ∈ xs → V a v → Fr h₀ C s₃.heap m₃ → g.StaysIn s₃.heap → m₃ x = some v →
    wpAny (model prog w) A (forIn ifs true fun c r => if r = true then do let ok ← isTrue c (compEnvC scope cl C env) (eval c (compEnvC scope cl C env)); pure (ForInStep.yield ok) else pure (ForInStep.yield r))
      (TestEnd (pb a) s₃) E' s₃
  elt : ∀ C a v s₃ m₃ E', a ∈ xs → V a v → pb a = true → Fr h₀ C s₃.heap m₃ → g.StaysIn s₃.heap → m₃ x = some v →
    wpAny (model prog w) A (eval elt (compEnvC scope cl C env)) (EltEnd (G a) s₃) E' s₃

theorem turn_quiet {s₁ : Shared} {o : Obj} {P : Nat → Value → Prop} (hV : ∀ a a' v, V a v → V a' v → a = a') (F : Fr h₀ L s₁.heap m)
    (hP : ∀ i v, P i v → ∃ a, xs[i]? = some a ∧ V a v) (T : TurnP prog w A h₀ s₁.heap env scope cl x ifs elt V pb G xs) :
    QuietOnC prog w A env scope cl x ifs elt [s₁.heap.objs.size] P (pOf V pb) (fun v y => ∃ a, V a v ∧ G a y) { s₁ with heap := s₁.heap.push o } := by
  have fresh : s₁.heap.get? s₁.heap.objs.size = none := by
    cases e : s₁.heap.get? s₁.heap.objs.size with
    | none => rfl
    | some o' => exact absurd (Heap.lt_size e) (Nat.lt_irrefl _)
  have up : ∀ s₃ : Shared, (∀ b o', b ∉ [s₁.heap.objs.size] → (s₁.heap.push o).get? b = some o' → s₃.heap.get? b = some o') → s₁.heap.StaysIn s₃.heap := fun s₃ hk b o' e => by
    refine hk b o' (fun hm => ?_) (Heap.get?_push_of_some _ e)
    rw [List.mem_singleton.mp hm, fresh] at e; cases e
  have fr : ∀ (C : Addr) (s₃ : Shared) m₃, (s₁.heap.push o).objs.size ≤ C → s₁.heap.StaysIn s₃.heap → s₃.heap.Ns C m₃ → Fr h₀ C s₃.heap m₃ := fun C s₃ m₃ hC st hn =>
    ⟨hn, fun b o' e => st b o' (F.keep b o' e), by
      have h1 := F.above
      have h2 := F.ns.lt
      rw [Heap.size_push] at hC
      exact Nat.le_trans h1 (Nat.le_trans (Nat.le_of_lt h2) (Nat.le_of_succ_le hC))⟩
  constructor
  · intro C i v s₃ m₃ E' hC hPi hn hm hk htk
    obtain ⟨a, ha, hv⟩ := hP i v hPi
    rw [pOf_eq hV hv]
    have st := up s₃ hk
    exact T.tests C a v s₃ m₃ E' (List.mem_of_getElem? ha) hv (fr C s₃ m₃ hC st hn) st hm
  · intro C i v s₃ m₃ E' hC hPi hpv hn hm hk htk
    obtain ⟨a, ha, hv⟩ := hP i v hPi
    rw [pOf_eq hV hv] at hpv
    have st := up s₃ hk
    exact wpAny_mono (T.elt C a v s₃ m₃ E' (List.mem_of_getElem? ha) hv hpv (fr C s₃ m₃ hC st hn) st hm) (fun y s₄ h => ⟨⟨a, hv, h.1⟩, h.2⟩) fun _ _ e => e

theorem lc_pure {Q : Value → Shared → Prop} (hV : ∀ a a' v, V a v → V a' v → a = a')
    (hclos : closureFor scope env = pure cl) (hcell : ∀ y ∈ scope.names, y.2 ≠ .cell) (hkind : scope.kind = .function)
    (hnames : ∀ y ∈ scope.names, y.2 = .local → scope.names.lookup y.1 = some .local) (hx : scope.names.lookup x = some .local)
    (hiter : wpAny (model prog w) A (eval iter env) (fun xv s₁ => ∃ m, Fr h₀ L s₁.heap m ∧ SrcOf prog w A xv xs V R s₁ ∧ xs.length ≤ sizeLine ∧ TurnP prog w A h₀ s₁.heap env scope cl x ifs elt V pb G xs ∧
      ∀ D h' tk ys, s₁.heap.StaysIn h' → s₁.heap.get? D = none → h'.IsList D ys.toArray → Paired G (xs.filter pb) ys → Q (.ref D) { s₁ with heap := h', toks := tk }) E s)
    (hs : ∀ x, foldedSetIterable iter env x = pure x := by intro _; rfl) :
    wpAny (model prog w) A (eval (.ListComp elt [⟨.Name x px, iter, ifs, 0⟩] scope pos) env) Q E s := by
  refine wpAny_ListComp_free (pOf V pb) (fun v y => ∃ a, V a v ∧ G a y) hclos hcell hkind hnames hx (wpAny_mono hiter (fun xv s₁ h₁ => ?_) fun _ _ e => e) hs
  obtain ⟨m, F, src, hsz, T, done⟩ := h₁
  refine src _ _ fun o fp St P W hP hfp hfp' hst hfree => ?_
  refine ⟨_, fp, _, _, P, St, rfl, W, hsz, hst, fun b hb => by rw [Heap.size_push]; exact hfp b hb, turn_quiet hV F hP T, ?_⟩
  intro D h' tk ys vs hD hl hpl hlen hPv hpair hk
  have fresh : s₁.heap.get? s₁.heap.objs.size = none := by
    cases e : s₁.heap.get? s₁.heap.objs.size with
    | none => rfl
    | some o' => exact absurd (Heap.lt_size e) (Nat.lt_irrefl _)
  refine done D h' tk ys.toList (fun b o' e => hk b o' (fun hm => ?_) (Heap.get?_push_of_some _ e)) ?_ (by simpa using hl) (paired_conv hV xs vs _ hlen (fun j v hj => hP j v (hPv j v hj)) hpair)
  · rw [List.mem_singleton.mp hm, fresh] at e; cases e
  · cases e : s₁.heap.get? D with
    | none => rfl
    | some o' => have := Heap.get?_push_of_some o e; rw [hD] at this; cases this

theorem lc_pure_assign {Q : Flow → Shared → Prop} {y : Str} {py spos : Pos} (hV : ∀ a a' v, V a v → V a' v → a = a') (hLe : env.locals = L)
    (hsw : swapsWith (.ListComp elt [⟨.Name x px, iter, ifs, 0⟩] scope pos) (some (.Name y py)) spos.line env = pure true)
    (hclos : closureFor scope env = pure cl) (hcell : ∀ y ∈ scope.names, y.2 ≠ .cell) (hkind : scope.kind = .function)
    (hnames : ∀ y ∈ scope.names, y.2 = .local → scope.names.lookup y.1 = some .local) (hx : scope.names.lookup x = some .local)
    (hy : env.kindOf y = some .local) (hp : (env.scope.kind == .class || (env.scope.kind == .module && env.locals != env.globals)) = false)
    (hiter : wpAny (model prog w) A (eval iter env) (fun xv s₁ => ∃ m, Fr h₀ L s₁.heap m ∧ SrcOf prog w A xv xs V R s₁ ∧ xs.length ≤ sizeLine ∧ TurnP prog w A h₀ s₁.heap env scope cl x ifs elt V pb G xs ∧
      ∀ D h' tk ys, (∀ b o, b ≠ L → s₁.heap.get? b = some o → h'.get? b = some o) → Fr h₀ L h' (fun z => if z = y then some (.ref D) else m z) → s₁.heap.get? D = none → h'.IsList D ys.toArray → Paired G (xs.filter pb) ys → Q .next { s₁ with heap := h', toks := tk }) E s)
    (hs : ∀ x, foldedSetIterable iter env x = pure x := by intro _; rfl) :
    wpAny (model prog w) A (exec (.Assign [.Name y py] (.ListComp elt [⟨.Name x px, iter, ifs, 0⟩] scope pos) spos) env) Q E s := by
  refine wpAny_Assign_ListComp_free (pOf V pb) (fun v y => ∃ a, V a v ∧ G a y) hsw hclos hcell hkind hnames hx hy hp (wpAny_mono hiter (fun xv s₁ h₁ => ?_) fun _ _ e => e) hs
  obtain ⟨m, F, src, hsz, T, done⟩ := h₁
  subst hLe
  refine src _ _ fun o fp St P W hP hfp hfp' hst hfree => ?_
  have fresh : s₁.heap.get? s₁.heap.objs.size = none := by
    cases e : s₁.heap.get? s₁.heap.objs.size with
    | none => rfl
    | some o' => exact absurd (Heap.lt_size e) (Nat.lt_irrefl _)
  have F' := F.push o
  refine ⟨_, fp, _, _, P, St, m, rfl, W, hsz, hst, (fun b hb => by rw [Heap.size_push]; exact hfp b hb), (fun hm => absurd F.ns.lt (by rw [List.mem_singleton.mp hm]; exact Nat.lt_irrefl _)), F'.ns, turn_quiet hV F hP T, ?_⟩
  intro D h' tk ys vs hD hl hpl hlen hPv hpair hn hk
  have keep : ∀ b o', b ≠ env.locals → s₁.heap.get? b = some o' → h'.get? b = some o' := fun b o' hb e => hk b o' hb (fun hm => by rw [List.mem_singleton.mp hm, fresh] at e; cases e) (Heap.get?_push_of_some _ e)
  refine done D h' tk ys.toList keep ⟨hn, fun b o' e => keep b o' (fun q => ?_) (F.keep b o' e), F.above⟩ ?_ (by simpa using hl) (paired_conv hV xs vs _ hlen (fun j v hj => hP j v (hPv j v hj)) hpair)
  · rw [q] at e
    exact absurd (Heap.lt_size e) (Nat.not_lt.mpr F.above)
  · cases e : s₁.heap.get? D with
    | none => rfl
    | some o' => have := Heap.get?_push_of_some o e; rw [hD] at this; cases this

/-- how a turn of a for ends -/
def ForEnd (h₀ : Heap) (L I : Addr) (own : List (Addr × Obj)) (J : (Str → Option Value) → List (Addr × Obj) → Prop) (Q : Flow → Shared → Prop) (s₁ : Shared) (f : Flow) (s₂ : Shared) : Prop :=
  LoopStepV h₀ L [I] own J s₁ (fun v s' => Q (.ret v) s') (fun s' => Q .next s') f s₂
theorem ForEnd.next {I : Addr} {own : List (Addr × Obj)} {J : (Str → Option Value) → List (Addr × Obj) → Prop} {Q : Flow → Shared → Prop} {s₁ : Shared} {h' : Heap} {tk : Nat} {m' : Str → Option Value} {news' : List (Addr × Obj)}
    (F : Fr h₀ L h' m') (N : News h₀ L h' (own ++ news')) (ho : ∀ p ∈ news', p.1 ≠ I) (hJ : J m' news') : ForEnd h₀ L I own J Q s₁ .next { s₁ with heap := h', toks := tk } :=
  LoopStepV.next (LoopStepU.intro F N (fun p hp hm => ho p hp (List.mem_singleton.mp hm)) hJ)

theorem for_src {Q : Flow → Shared → Prop} {body : List Stmt} (J : Nat → (Str → Option Value) → List (Addr × Obj) → Prop)
    (hx : env.kindOf x = some .local) (hp : (env.scope.kind == .class || (env.scope.kind == .module && env.locals != env.globals)) = false) (hE : PassesOwn (model prog w) A env E)
    (hiter : wpAny (model prog w) A (eval iter env) (fun xv s₁ => ∃ m news, Fr h₀ env.locals s₁.heap m ∧ News h₀ env.locals s₁.heap news ∧ SrcOf prog w A xv xs V R s₁ ∧ env.locals ∉ R ∧ J 0 m news ∧
      (∀ i a v m₁ news₁ h tk own I, xs[i]? = some a → V a v → J i m₁ news₁ → (∀ p ∈ news₁, p.1 ≠ I) → (∀ p ∈ own, p.1 = I ∨ p.1 ∈ R) → Fr h₀ env.locals h (fun y => if y = x then some v else m₁ y) → News h₀ env.locals h (own ++ news₁) →
        wpAny (model prog w) A (execs body env) (ForEnd h₀ env.locals I own (J (i + 1)) Q { s₁ with heap := h, toks := tk }) E { s₁ with heap := h, toks := tk }) ∧
      (∀ m' news' h' tk', J xs.length m' news' → Fr h₀ env.locals h' m' → News h₀ env.locals h' news' → Q .next { s₁ with heap := h', toks := tk' })) E s)
    (hs : ∀ x, foldedSetIterable iter env x = pure x := by intro _; rfl) :
    wpAny (model prog w) A (exec (.For (.Name x px) iter body [] pos) env) Q E s := by
  refine For_invV h₀ hx hp (wpAny_mono hiter (fun xv s₁ h₁ => ?_) fun _ _ e => e) hs hE
  obtain ⟨m, news, F, N, src, hR, h0, turn, done⟩ := h₁
  refine src _ _ fun o fp St P W hP hfp hfp' hst hfree => ?_
  have fresh₀ : h₀.get? s₁.heap.objs.size = none := by
    cases e : h₀.get? s₁.heap.objs.size with
    | none => rfl
    | some o' => exact absurd (Heap.lt_size (F.keep _ _ e)) (Nat.lt_irrefl _)
  refine ⟨_, fp, [s₁.heap.objs.size], xs.length, P, St, m, news, J, rfl, W, fun hm => ?_, fun b hb => by rw [List.mem_singleton.mp hb]; exact fresh₀, fun p hp hm => ?_, hst, F.push o, fun p hp => ⟨Heap.get?_push_of_some _ (N p hp).1, (N p hp).2⟩, h0, ?_, ?_⟩
  · rcases hfp' _ hm with e | e
    · exact absurd F.ns.lt (by rw [e]; exact Nat.lt_irrefl _)
    · exact hR e
  · exact absurd (Heap.lt_size (N p hp).1) (by rw [List.mem_singleton.mp hm]; exact Nat.lt_irrefl _)
  · rintro i v m₁ news₁ s₂ own ⟨h, tk, rfl⟩ hi hPi hJ hoff hown _ _ _ F₁ N₁
    obtain ⟨a, ha, hv⟩ := hP i v hPi
    exact turn i a v m₁ news₁ h tk own s₁.heap.objs.size ha hv hJ (fun p hp e => hoff p hp (List.mem_singleton.mpr e)) (fun p hp => hfp' _ (hown p hp)) F₁ N₁
  · intro h' tk m' news' F' N' _ hJ
    exact done m' news' h' tk hJ F' N'
end
end part_B3
section part_R0
abbrev bmE : List Value := [.type "Exception", .type "BaseException", .type "object"]
theorem FE : ExcBaseFacts "Exception" "Exception.__new__" "Exception.__init__" bmE := PySem.F.excBase_Exception

section
variable {M : Model} {A : Around} {E : Value → Shared → Prop} {h : Heap} {g : Array GenState} {d : Drawn} {t : Nat} {os : OsState}
variable {nm q : Str} {C N D : Addr} {bs : List Value} {hdct : Bool} {sn : List Str} {sub : List Value} {ab : Bool} {col : Option Bool} {dd : Option Addr} {k0 k1 k2 k3 k5 : Option Value}

theorem own_check_new {rest : List Value} {Q : Unit → Shared → Prop} (hC : h.get? C = some (excClassObj nm q C N bs (.ref D :: bmE) hdct sn sub ab col dd k0 k1 k2 k3 k5 "Exception.__new__"))
    (hq : Q () ⟨h, g, d, t, os⟩) : wpAny M A (checkBuiltinCall "Exception.__new__" ⟨.ref C :: rest, []⟩) Q E ⟨h, g, d, t, os⟩ :=
  wpAny_check_new_subU FE (by simp [bmE]) .base hC hq
end

section
variable {prog : Program} {w : World} {A : Around} {R : Result → Shared → Prop} {h : Heap} {g : Array GenState} {d : Drawn} {t : Nat} {os : OsState}
variable {nm q : Str} {C N D : Addr} {bs : List Value} {hdct : Bool} {sn : List Str} {sub : List Value} {ab : Bool} {col : Option Bool} {dd : Option Addr} {k0 k1 k2 k3 k5 : Option Value}

theorem own_new {rest : List Value} (hC : h.get? C = some (excClassObj nm q C N bs (.ref D :: bmE) hdct sn sub ab col dd k0 k1 k2 k3 k5 "Exception.__new__"))
    (hq : R (.ok (.ret (.ref (h.objs.size + 1)))) ⟨(h.push { cls := .type "tuple", data := .seq rest.toArray }).push
      { cls := .ref C, data := .fields #[.ref h.objs.size, .none, .none, .none, .bool false, .none] }, g, d, t, os⟩) (hrest : rest.length ≤ sizeLine := by size_fits) :
    codeAny (model prog w) A (.builtin "Exception.__new__" ⟨.ref C :: rest, []⟩) R ⟨h, g, d, t, os⟩ := by
  have hends := FE.ends
  have hcB : (Value.ref C :: Value.ref D :: bmE).contains (.type "Exception") = true := by simp [bmE]
  have hcA : (Value.ref C :: Value.ref D :: bmE).contains (.type "AttributeError") = false := by simp [bmE]
  have hcN : (Value.ref C :: Value.ref D :: bmE).contains (.type "NameError") = false := by simp [bmE]
  refine codeAny_builtinAt FE.entry ?_
  unfold Builtin.«BaseException.__new__»
  refine PySem.wpAt_bind ?_
  show PySem.wpAt _ _ _ (stack >>= _) _ _ _
  refine PySem.wpAt_bind (PySem.wpAt_stack fun p below => PySem.wpAt_of_wpAny ?_)
  wp_walk
  refine PySem.wpAt_of_wpAny ?_
  rw [FE.owner]
  repeat (first | with_reducible refine wpAny_madeHere_exc FE.canon hC ?_ | with_reducible refine wpAny_loadPart_at hC ?_ | (with_reducible refine wpAny_isSubtype_exc hC ?_; first | rw [hcB] | rw [hcA] | rw [hcN]) | wp_step)
  show R _ _
  rw [Heap.size_push]
  exact hq
end

section
variable {prog : Program} {w : World} {A : Around} {E : Value → Shared → Prop} {h : Heap} {g : Array GenState} {d : Drawn} {t : Nat} {os : OsState}
variable {nm q : Str} {C N D ND f : Addr} {bs : List Value} {hdct : Bool} {sn : List Str} {sub : List Value} {ab : Bool} {col : Option Bool} {dd : Option Addr} {k0 k1 k2 k3 k5 : Option Value}
variable {oD : Obj} {cdD : ClassData}

theorem own_typeLookup {name : Str} {mN mD : Str → Option Value} {Q : Option Value → Shared → Prop} {v : Value}
    (hC : h.get? C = some (excClassObj nm q C N bs (.ref D :: bmE) hdct sn sub ab col dd k0 k1 k2 k3 k5 "Exception.__new__")) (hn : h.Ns N mN)
    (hD : h.get? D = some oD) (hDd : oD.data = .cls cdD) (hnD : h.Ns cdD.ns mD) (h1 : mN name = none) (h2 : mD name = some v)
    (hq : Q (some v) ⟨h, g, d, t, os⟩) : wpAny (model prog w) A (typeLookup (.ref C) name) Q E ⟨h, g, d, t, os⟩ := by
  rw [typeLookup_eq]
  refine wpAny_bind (wpAny_mroOf_exc hC ?_)
  rw [lookupAlong_cons]
  refine wpAny_bind (wpAny_classOwn_exc hC hn ?_)
  rw [h1]
  show wpAny _ _ (lookupAlong (Value.ref D :: bmE) name) _ _ _
  rw [lookupAlong_cons]
  refine wpAny_bind ?_
  unfold classOwn
  refine wpAny_bind ?_
  unfold classData
  refine wpAny_bind (wpAny_load hD ?_)
  rw [hDd]
  refine wpAny_pure (wpAny_nsGet hnD ?_)
  rw [h2]
  exact wpAny_pure hq

/-- a class of the text's own, of Exception by one step, whose __init__ is a def of the parent's -/
theorem own_type_call {mN mD : Str → Option Value} {rest : List Value} {Q : Fin → Shared → Prop} {fo : Obj}
    (hC : h.get? C = some (excClassObj nm q C N bs (.ref D :: bmE) hdct sn sub ab col dd k0 k1 k2 k3 k5 "Exception.__new__")) (hn : h.Ns N mN)
    (hD : h.get? D = some oD) (hDd : oD.data = .cls cdD) (hnD : h.Ns cdD.ns mD) (h1 : mN "__init__" = none) (h2 : mD "__init__" = some (.ref f))
    (hf : h.get? f = some fo) (hfc : fo.cls = .type "function")
    (hq : ∀ s', s' = (⟨(h.push { cls := .type "tuple", data := .seq rest.toArray }).push { cls := .ref C, data := .fields #[.ref h.objs.size, .none, .none, .none, .bool false, .none] }, g, d, t, os⟩ : Shared) →
      wpAny (model prog w) (A.under (.builtin "type.__call__" ⟨.ref C :: rest, []⟩)) (call (.ref f) (.ref (h.objs.size + 1) :: rest)) (fun r s'' => r = .none ∧ Q (.done (.ret (.ref (h.objs.size + 1)))) s'') E s') (hrest : rest.length ≤ sizeLine := by size_fits) :
    wpAny (model prog w) (A.under (.builtin "type.__call__" ⟨.ref C :: rest, []⟩)) (Builtin.«type.__call__» ⟨.ref C :: rest, []⟩) Q E ⟨h, g, d, t, os⟩ := by
  repeat (first | with_reducible refine wpAny_loadPart_at hC ?_ | with_reducible refine wpAny_madeBy_exc hC ?_ | wp_step)
  refine codeAny_call_builtin_code (Code.quiet_builtin _ FE.quiet) (own_check_new hC ?_)
  refine own_new hC ?_ hrest
  show wpAny _ _ _ _ _ _
  have hC₁ := Heap.get?_push_of_some { cls := .ref C, data := .fields #[.ref h.objs.size, .none, .none, .none, .bool false, .none] }
    (Heap.get?_push_of_some { cls := .type "tuple", data := .seq rest.toArray } hC)
  have up : ∀ b o, h.get? b = some o → ((h.push { cls := .type "tuple", data := .seq rest.toArray }).push { cls := .ref C, data := .fields #[.ref h.objs.size, .none, .none, .none, .bool false, .none] }).get? b = some o := fun b o e => Heap.get?_push_of_some _ (Heap.get?_push_of_some _ e)
  have hget : ((h.push { cls := .type "tuple", data := .seq rest.toArray }).push
      { cls := .ref C, data := .fields #[.ref h.objs.size, .none, .none, .none, .bool false, .none] }).get? (h.objs.size + 1) = some
      { cls := .ref C, data := .fields #[.ref h.objs.size, .none, .none, .none, .bool false, .none] } := by heap_get
  have hcC : (Value.ref C :: Value.ref D :: bmE).contains (.ref C) = true := by simp
  unfold isInstance
  repeat (first | with_reducible refine wpAny_loadPart_at hget ?_ | (with_reducible refine wpAny_isSubtype_exc hC₁ ?_; rw [hcC]) | wp_step)
  show wpAny _ _ (typeLookup (.ref C) _) _ _ _
  have ns_up : ∀ {a : Addr} {m : Str → Option Value}, h.Ns a m → ((h.push { cls := .type "tuple", data := .seq rest.toArray }).push { cls := .ref C, data := .fields #[.ref h.objs.size, .none, .none, .none, .bool false, .none] }).Ns a m := fun ⟨o, es, ep, e, r⟩ => ⟨o, es, ep, up _ _ e, r⟩
  refine own_typeLookup hC₁ (ns_up hn) (up _ _ hD) hDd (ns_up hnD) h1 h2 ?_
  refine wpAny_holding (wpAny_bind ?_)
  unfold bindSpecial
  have hT : Shared.TypeIs ⟨(h.push { cls := .type "tuple", data := .seq rest.toArray }).push { cls := .ref C, data := .fields #[.ref h.objs.size, .none, .none, .none, .bool false, .none] }, g, d, t, os⟩ (.ref f) "function" := ⟨fo, up _ _ hf, hfc⟩
  refine wpAny_bind (wpAny_typeOf hT ?_)
  wp_step
  wp_step
  refine wpAny_bind ?_
  refine wpAny_mono (hq _ rfl) (fun r s'' hr => ?_) fun _ _ e => e
  obtain ⟨rfl, hr⟩ := hr
  wp_walk
  exact hr

theorem own_check_init {M : Model} {e : Addr} {oe : Obj} {rest : List Value} {Q : Unit → Shared → Prop}
    (hC : h.get? C = some (excClassObj nm q C N bs (.ref D :: bmE) hdct sn sub ab col dd k0 k1 k2 k3 k5 "Exception.__new__")) (he : h.get? e = some oe) (hcls : oe.cls = .ref C) (hq : Q () ⟨h, g, d, t, os⟩) :
    wpAny M A (checkBuiltinCall "Exception.__init__" ⟨.ref e :: rest, []⟩) Q E ⟨h, g, d, t, os⟩ := by
  have hcB : (Value.ref C :: Value.ref D :: bmE).contains (.type "Exception") = true := by simp [bmE]
  have hshort := FE.noStar
  simp only [checkBuiltinCall, FE.initKind, FE.initSplit, FE.initRow]
  repeat (first | (with_reducible refine wpAny_loadPart_at he ?_; rw [hcls]) | with_reducible refine wpAny_loadPart_at hC ?_ | (with_reducible refine wpAny_isSubtype_exc hC ?_; rw [hcB]) | wp_step)
  refine wpAny_onRaise ?_
  rw [show ∀ (a b : String) (n : Nat), Bind.check ⟨.positional, "*", "Exception", .self, [⟨"args", .varPos, false⟩]⟩ a b n (List.map (fun x => x.fst) ({ pos := Value.ref e :: rest } : Args).kw) = pure () from
    fun a b n => check_star_args _ _ _ _ _ _]
  exact wpAny_pure hq

theorem own_base_init {e t0 : Addr} {rest : List Value} {Q : Value → Shared → Prop}
    (hC : h.get? C = some (excClassObj nm q C N bs (.ref D :: bmE) hdct sn sub ab col dd k0 k1 k2 k3 k5 "Exception.__new__"))
    (he : h.get? e = some { cls := .ref C, data := .fields #[.ref t0, .none, .none, .none, .bool false, .none] })
    (hq : Q .none ⟨(h.push { cls := .type "tuple", data := .seq rest.toArray }).update e (Obj.mapFields (·.setIfInBounds 0 (.ref h.objs.size))), g, d, t, os⟩) (hrest : rest.length ≤ sizeLine := by size_fits) :
    wpAny (model prog w) A (call (.builtin "Exception.__init__") (.ref e :: rest)) Q E ⟨h, g, d, t, os⟩ := by
  refine wpAny_call (codeAny_call_builtin FE.init.plain FE.initEntry (own_check_init hC he rfl ?_))
  wp_walk
  exact hq
end
end part_R0
section part_R1
theorem fill_R1 : hd.heap_39 = hd.heap_39 ∨ PySem.Challenge.rw_nz0273_01 = PySem.Challenge.rw_nz0273_01 := by w_on; k_fill; exact .inl rfl
section
open Builtin Builtin.ObjectAttr

abbrev mroW : List Value := [.ref 59, .ref 46, .type "Exception", .type "BaseException", .type "object"]
theorem wf_refuse (self : Value) : refuseLoop self "__setattr__" mroW = pure () := by
  rw [refuseLoop_ref, refuseLoop_ref]; exact PySem.F.store_Exception.passes self

section
variable {prog : Program} {w : World} {A : Around} {E : Value → Shared → Prop} {s : Shared} {e : Addr} {dct : Option Addr} {od : Option Obj} {ox : Obj} {v : Value}

theorem wf_cls (X : (hd.heap_39 w.params).In s.heap) : ∃ cd, Looks (model prog w) s.heap (classData 59) cd ∧ cd.mro = mroW ∧ cd.hasDict = true ∧ cd.hasDel = false := by
  refine ⟨_, looks_clsIn X (C := 59) (by k_is), rfl, rfl, rfl⟩

theorem wf_mro (X : (hd.heap_39 w.params).In s.heap) : Looks (model prog w) s.heap (mroOf (.ref 59)) mroW := by
  obtain ⟨cd, hc, hm, _⟩ := wf_cls (prog := prog) X
  rw [← hm]
  exact hc.andThen .now

/-- a store of a plain name on an object of WordFault -/
theorem wf_set {name : Str} {Q : Unit → Shared → Prop} (X : (hd.heap_39 w.params).In s.heap) (I : InstAt s.heap e ox 59 od)
    (hn : findIn (hd.heap_39 w.params) (.ref 59) name = some none)
    (h : ∀ (tk : Nat), wpAny (model prog w) A.in1 (instanceDict e true) (fun r s' => ∃ d m, r = some d ∧ s'.heap.Ns1 d m ∧ Within m ["what"] ∧ ∀ h' tk', h'.Ns1 d (fun y => if y = name then some v else m y) → Heap.SameBut d s'.heap h' → Q () { s' with heap := h', toks := tk' }) (fun _ _ => False) { s with toks := tk }) :
    wpAny (model prog w) A (setAttr (.ref e) name v) Q E s := by
  have SF := PySem.F.store_object
  refine set_plain X I (by k_is) ?_
  have sub : Looks (model prog w) s.heap (isInstance (.ref e) (.type "object")) true := I.type.andThen (looks_mroIn X (by k_is))
  refine codeAny_call_builtin SF.slot.plain SF.entry (@check_slot (model prog w) _ _ _ "object.__setattr__" "object" "__setattr__" (.ref e) [.str name s.toks, v] [] _ SF.kind SF.split sub (SF.args (.ref e) (.str name s.toks) v) ?_)
  rw [osa_eq, refuse_eq]
  refine wpAny_bind (wpAny_bind (I.type _ _ _ _ (fun _ _ e => e) (wpAny_bind (wf_mro X _ _ _ _ (fun _ _ e => e) ?_))))
  rw [wf_refuse]
  refine wpAny_pure (wpAny_bind (I.type _ _ _ _ (fun _ _ e => e) (wpAny_bind (looks_findIn X hn _ _ _ _ (fun _ _ e => e) (wpAny_bind (wpAny_of_eq (a := none) rfl ?_))))))
  show wpAny _ _ (storeInOwnDict (.ref e) (.ref 59) (.str name s.toks) name v false) _ _ _
  unfold storeInOwnDict
  refine wpAny_bind (wpAny_of_eq (a := ()) rfl ?_)
  refine wpAny_ite ?_
  rw [if_neg (by decide)]
  refine wpAny_bind (wpAny_mono (h _) (fun r s' hr => ?_) fun _ _ z => z.elim)
  obtain ⟨d, m, rfl, hns, hw, hq⟩ := hr
  show wpAny _ _ (storeInDict d (.str name _) name v) _ _ _
  unfold storeInDict newKeyGuard
  refine wpAny_bind (wpAny_pure (wpAny_bind (wpAny_nsSet1 hns fun h' hn' hs => ?_)))
  obtain ⟨oD, esD, epD, hoD, hdD, hcD⟩ := hn'.count (Within.cons name v hw)
  refine wpAny_bind (wpAny_lookBehind hoD (by rw [hdD]; exact pastItsLine_dict (Nat.le_trans hcD (by rw [sizeLine_eq]; simp only [List.length_cons, List.length_nil]; omega))) ?_)
  exact wpAny_pure (hq h' _ hn' hs)

theorem id_none {vs : Array Value} {sl : Array (Option Value)} {Q : Option Addr → Shared → Prop} (X : (hd.heap_39 w.params).In s.heap) (hx : s.heap.get? e = some { cls := .ref 59, dict := none, data := .fields vs, slots := sl })
    (h : ∀ h', h'.get? e = some { cls := .ref 59, dict := some s.heap.objs.size, data := .fields vs, slots := sl } → h'.Ns1 s.heap.objs.size (fun _ => none) → (∀ b o, b ≠ e → s.heap.get? b = some o → h'.get? b = some o) → Q (some s.heap.objs.size) { s with heap := h' }) :
    wpAny (model prog w) A (instanceDict e true) Q E s := by
  obtain ⟨cd, hc, hm, hd, _⟩ := wf_cls (prog := prog) X
  unfold instanceDict
  refine wpAny_bind (wpAny_loadPart hx ?_)
  show wpAny _ _ (classData 59 >>= _) _ _ _
  refine wpAny_bind (hc.here ?_)
  rw [hd]
  have hx₁ : (s.heap.push { cls := .type "dict", data := .dict #[] }).get? e = some { cls := .ref 59, dict := none, data := .fields vs, slots := sl } := Heap.get?_push_of_some _ hx
  have hxs : e ≠ s.heap.objs.size := Nat.ne_of_lt (Heap.lt_size hx)
  obtain ⟨hh, g, d, t, os⟩ := s
  repeat wp_step
  have hgd : ((hh.push { cls := .type "dict", data := .dict #[] }).update e fun o => { cls := o.cls, dict := some hh.objs.size, data := o.data, slots := o.slots }).get? hh.objs.size = some { cls := .type "dict", data := .dict #[] } :=
    (Heap.get?_update_ne _ _ _ _ hxs.symm).trans (Heap.get?_push_at rfl rfl)
  refine h _ (Heap.get?_update_self _ hx₁ rfl) (Heap.Ns1.of_empty ⟨_, #[], _, hgd, rfl, fun e he => absurd he (by simp), fun _ => rfl⟩) fun b o hb hbo => ?_
  exact (Heap.get?_update_ne _ _ _ _ hb).trans (Heap.get?_push_of_some _ hbo)
theorem id_some {vs : Array Value} {sl : Array (Option Value)} {dx : Addr} {Q : Option Addr → Shared → Prop} (X : (hd.heap_39 w.params).In s.heap) (hx : s.heap.get? e = some { cls := .ref 59, dict := some dx, data := .fields vs, slots := sl })
    (h : Q (some dx) s) :
    wpAny (model prog w) A (instanceDict e true) Q E s := by
  obtain ⟨cd, hc, hm, hd, _⟩ := wf_cls (prog := prog) X
  unfold instanceDict
  refine wpAny_bind (wpAny_loadPart hx ?_)
  show wpAny _ _ (classData 59 >>= _) _ _ _
  refine wpAny_bind (hc.here ?_)
  rw [hd]
  obtain ⟨hh, g, d, t, os⟩ := s
  repeat wp_step
  exact h

theorem wf_set1 {name : Str} {vs : Array Value} {sl : Array (Option Value)} {Q : Unit → Shared → Prop} (X : (hd.heap_39 w.params).In s.heap) (hx : s.heap.get? e = some { cls := .ref 59, dict := none, data := .fields vs, slots := sl })
    (hn : findIn (hd.heap_39 w.params) (.ref 59) name = some none)
    (h : ∀ h' tk' dx, dx ≠ e → s.heap.get? dx = none → h'.get? e = some { cls := .ref 59, dict := some dx, data := .fields vs, slots := sl } → h'.Ns1 dx (fun y => if y = name then some v else none) → (∀ b o, b ≠ e → s.heap.get? b = some o → h'.get? b = some o) → Q () { s with heap := h', toks := tk' }) :
    wpAny (model prog w) A (setAttr (.ref e) name v) Q E s := by
  refine wf_set X (ox := { cls := .ref 59, dict := none, data := .fields vs, slots := sl }) (od := none) ⟨hx, rfl, rfl, trivial⟩ hn fun tk => ?_
  refine id_none X hx fun h' h1 h2 h3 => ⟨_, _, rfl, h2, fun y hy => absurd rfl hy, fun h'' tk'' hn' hs => ?_⟩
  have hne : s.heap.objs.size ≠ e := Ne.symm (Nat.ne_of_lt (Heap.lt_size hx))
  have hnone : s.heap.get? s.heap.objs.size = none := by
    cases q : s.heap.get? s.heap.objs.size with
    | none => rfl
    | some o => exact absurd (Heap.lt_size q) (Nat.lt_irrefl _)
  exact h h'' tk'' _ hne hnone ((hs.2 e (Ne.symm hne)).trans h1) hn' fun b o hb hbo => (hs.2 b (fun q => by rw [q, hnone] at hbo; cases hbo)).trans (h3 b o hb hbo)
theorem wf_set2 {name : Str} {vs : Array Value} {sl : Array (Option Value)} {dx : Addr} {m : Str → Option Value} {Q : Unit → Shared → Prop} (X : (hd.heap_39 w.params).In s.heap) (hx : s.heap.get? e = some { cls := .ref 59, dict := some dx, data := .fields vs, slots := sl })
    (hn : findIn (hd.heap_39 w.params) (.ref 59) name = some none) (hns : s.heap.Ns1 dx m) (hw : Within m ["what"]) (hne : dx ≠ e)
    (h : ∀ h' tk', h'.get? e = some { cls := .ref 59, dict := some dx, data := .fields vs, slots := sl } → (∀ b o, b ≠ dx → s.heap.get? b = some o → h'.get? b = some o) → Q () { s with heap := h', toks := tk' }) :
    wpAny (model prog w) A (setAttr (.ref e) name v) Q E s := by
  obtain ⟨od, es, ep, hod, r⟩ := id hns
  refine wf_set X (ox := { cls := .ref 59, dict := some dx, data := .fields vs, slots := sl }) (od := some od) ⟨hx, rfl, rfl, hod⟩ hn fun tk => ?_
  refine id_some X hx ⟨_, _, rfl, hns, hw, fun h'' tk'' hn' hs => ?_⟩
  exact h h'' tk'' ((hs.2 e (Ne.symm hne)).trans hx) fun b o hb hbo => (hs.2 b hb).trans hbo
theorem meta_Exc : typeOf (.type "Exception") = pure (.type "type") := by first | kernel_rfl | (rw [typeOf]; kernel_rfl)
theorem wf_obj (X : (hd.heap_39 w.params).In s.heap) : ∃ bs sn sub ab col dd k0 k1 k2 k3 k5, s.heap.get? 59 = some (excClassObj "WordFault" "WordFault" 59 58 bs (.ref 46 :: bmE) true sn sub ab col dd k0 k1 k2 k3 k5 "Exception.__new__") :=
  ⟨_, _, _, _, _, _, _, _, _, _, _, X 59 _ (by k_is)⟩
theorem wf_init {h₀ : Heap} {x : Str} {tx : Tok} {rest : List Value} {av : Value} {t0 : Addr} {Q : Value → Shared → Prop} (W : Wd w h₀) (k : h₀.StaysIn s.heap) (hsz : h₀.objs.size ≤ s.heap.objs.size) (he₀ : h₀.get? e = none)
    (hx : s.heap.get? e = some { cls := .ref 59, data := .fields #[.ref t0, .none, .none, .none, .bool false, .none] }) (hroom : A.depth < recursionLimit)
    (hr : rest = [] ∧ av = .int (-1) 209 ∨ rest = [av])
    (h : ∀ h' tk' t1, (∀ b o, b ≠ e → s.heap.get? b = some o → h'.get? b = some o) → (∃ dct, h'.get? e = some { cls := .ref 59, dict := dct, data := .fields #[.ref t1, .none, .none, .none, .bool false, .none] }) → Q .none { s with heap := h', toks := tk' }) :
    wpAny (model prog w) A (call (.ref 36) (.ref e :: .str x tx :: rest)) Q E s := by
  obtain ⟨X, mean, mg, mb, T⟩ := id W
  refine' enterB (h₀ := h₀) (news := [(e, { cls := .ref 59, data := .fields #[.ref t0, .none, .none, .none, .bool false, .none] })]) (binds := [(Str.ofString "self", .ref e), (Str.ofString "what", .str x tx), (Str.ofString "at", av)]) X (topRead_of T) k hsz ?hN (by k_is) (by k_is) hroom ?hb ?hl ?_ ?c2 ?c3 ?c4 ?c5
  case hN => intro p hp; rw [List.mem_singleton.mp hp]; exact ⟨hx, he₀⟩
  case hb =>
    rcases hr with ⟨rfl, rfl⟩ | rfl
    · exact binds_K (X.keeps k) rfl (by k_is) rfl rfl rfl
    · exact binds_K (X.keeps k) rfl (by k_is) rfl rfl rfl
  case hl => exact locs rfl
  case c2 => exact rfl
  case c3 => exact rfl
  case c4 => exact rfl
  case c5 => decide
  intro L h₁ tk F N st hL
  try dsimp only
  k_fold
  repeat' (first | (k_unfold; (try dsimp only)) | walk1 | (dsimp only; walk1))
  refine method_type F X meta_Exc (by decide +kernel) (v := .builtin "Exception.__init__") (by k_is) (by decide +kernel) ?_
  repeat' (first | (k_unfold; (try dsimp only)) | walk1 | (dsimp only; walk1))
  have I1 : h₁.get? e = some { cls := .ref 59, data := .fields #[.ref t0, .none, .none, .none, .bool false, .none] } := st _ _ hx
  have X1 : (hd.heap_39 w.params).In h₁ := X.keeps F.keep
  obtain ⟨bs, sn, sub, ab, col, dd, k0, k1, k2, k3, k5, hC⟩ := wf_obj (s := { s with heap := h₁ }) X1
  refine own_base_init hC I1 ?_
  dsimp only
  have hLe : L ≠ e := by rintro rfl; rw [hx] at hL; cases hL
  have hp : (h₁.push { cls := .type "tuple", data := .seq [Value.str x tx].toArray }).get? e = some { cls := .ref 59, data := .fields #[.ref t0, .none, .none, .none, .bool false, .none] } := Heap.get?_push_of_some _ I1
  have I2 : ((h₁.push { cls := .type "tuple", data := .seq [Value.str x tx].toArray }).update e (Obj.mapFields (·.setIfInBounds 0 (.ref h₁.objs.size)))).get? e = some { cls := .ref 59, data := .fields #[.ref h₁.objs.size, .none, .none, .none, .bool false, .none] } :=
    Heap.get?_update_self _ hp rfl
  have K2 : ∀ b o, b ≠ e → h₁.get? b = some o → ((h₁.push { cls := .type "tuple", data := .seq [Value.str x tx].toArray }).update e (Obj.mapFields (·.setIfInBounds 0 (.ref h₁.objs.size)))).get? b = some o := fun b o hb hbo =>
    (Heap.get?_update_ne _ _ _ _ hb).trans (Heap.get?_push_of_some _ hbo)
  have F2 : Fr h₀ L ((h₁.push { cls := .type "tuple", data := .seq [Value.str x tx].toArray }).update e (Obj.mapFields (·.setIfInBounds 0 (.ref h₁.objs.size)))) _ := ⟨F.ns.at' fun o e => K2 _ o hLe e, fun b o q => K2 b o (fun z => by rw [z, he₀] at q; cases q) (F.keep b o q), F.above⟩
  generalize ((h₁.push { cls := .type "tuple", data := .seq [Value.str x tx].toArray }).update e (Obj.mapFields (·.setIfInBounds 0 (.ref h₁.objs.size)))) = h₂ at I2 K2 F2 ⊢
  generalize h₁.objs.size = t1 at I2
  have X2 : (hd.heap_39 w.params).In h₂ := X.keeps F2.keep
  clear hC I1 X1 N hp
  repeat' (first | (k_unfold; (try dsimp only)) | walk1 | (dsimp only; walk1))
  refine wf_set1 X2 I2 (by k_is) fun h₃ tk₃ dx hdx hdn I3 N3 K3 => ?_
  have hLd : ∀ b o, h₂.get? b = some o → b ≠ dx := fun b o q z => by rw [z, hdn] at q; cases q
  have F3 : Fr h₀ L h₃ _ := ⟨F2.ns.at' fun o e => K3 _ o hLe e, fun b o q => K3 b o (fun z => by rw [z, he₀] at q; cases q) (F2.keep b o q), F2.above⟩
  have X3 : (hd.heap_39 w.params).In h₃ := X.keeps F3.keep
  dsimp only
  repeat' (first | (k_unfold; (try dsimp only)) | walk1 | (dsimp only; walk1))
  refine wf_set2 X3 I3 (by k_is) N3 (Within.cons _ _ Within.nil) hdx fun h₄ tk₄ I4 K4 => ?_
  dsimp only
  repeat' (first | (k_unfold; (try dsimp only)) | walk1 | (dsimp only; walk1))
  refine h h₄ _ t1 (fun b o hb hbo => ?_) ⟨_, I4⟩
  have q1 := K2 b o hb (st b o hbo)
  exact K4 b o (hLd b o q1) (K3 b o hb q1)
end
end
end part_R1
section part_R2
theorem fill_R2 : hd.heap_39 = hd.heap_39 ∨ PySem.Challenge.rw_nz0273_01 = PySem.Challenge.rw_nz0273_01 := by w_on; k_fill; exact .inl rfl

/-- an exception of WordFault, new at h' -/
def WfMade (h h' : Heap) (e t1 : Addr) : Prop :=
  h.StaysIn h' ∧ h.get? e = none ∧ ∃ dct, h'.get? e = some { cls := .ref 59, dict := dct, data := .fields #[.ref t1, .none, .none, .none, .bool false, .none] }

section
variable {prog : Program} {w : World} {A : Around} {E : Value → Shared → Prop}

theorem ns_of_K {h : Heap} {K : Frag} {a : Addr} {es : Array DictEntry} {n : Nat} (X : K.In h) (hl : K.lookup a = some ⟨.type "dict", none, .dict es n, #[]⟩) (hk : ∀ e ∈ es, ∃ x t, e.key = .str x t) :
    h.Ns a (fun y => nsFind es y) := ⟨_, es, n, X _ _ hl, rfl, hk, fun _ => rfl⟩

theorem wf_call {s : Shared} {x : Str} {tx : Tok} {rest : List Value} {av : Value} {Q : Value → Shared → Prop} (W : Wd w s.heap) (hroom : A.depth + 1 < recursionLimit) (hr : rest = [] ∧ av = .int (-1) 209 ∨ rest = [av])
    (hq : ∀ h' tk' e t1, WfMade s.heap h' e t1 → Q (.ref e) { s with heap := h', toks := tk' }) :
    wpAny (model prog w) A (call (.ref 59) (.str x tx :: rest)) Q E s := by
  obtain ⟨X, mean, mg, mb, T⟩ := id W
  obtain ⟨h, g, d, t, os⟩ := s
  obtain ⟨bs, sn, sub, ab, col, dd, k0, k1, k2, k3, k5, hC⟩ := wf_obj (s := ⟨h, g, d, t, os⟩) X
  have hN := ns_of_K (a := 58) X (by k_is) (by simp)
  have hN45 := ns_of_K (a := 45) X (by k_is) (by simp)
  have f1 := tc_lookup
  have f2 := tc_bind (.ref 59)
  have hT : (⟨h, g, d, t, os⟩ : Shared).TypeIs (.ref 59) "type" := ⟨_, hC, rfl⟩
  have hlen : rest.length ≤ 1 := by rcases hr with ⟨rfl, _⟩ | rfl <;> simp
  refine wpAny_call (codeAny_of_tree ?_)
  show wpAny _ _ (callAny (.ref 59) _) _ _ _
  repeat (any_goals (first | assumption | with_reducible refine wpAny_loadPart_at hC ?_ | wp_step))
  refine ⟨rfl, ?_⟩
  refine codeAny_call_builtin_at (Code.quiet_builtin _ (by decide +kernel)) entry_typeCall (wpAny_check_type_call_sub hC ?_)
  refine own_type_call hC hN (D := 46) (X 46 _ (by k_is)) rfl hN45 (by rfl) (f := 36) (by rfl) (X 36 _ (by k_is)) rfl (fun s' hs' => ?_) (by show (Value.str x tx :: rest).length ≤ _; rw [sizeLine_eq, List.length_cons]; omega)
  subst hs'
  have none_ge : ∀ a, h.objs.size ≤ a → h.get? a = none := fun a ha => by
    cases q : h.get? a with
    | none => rfl
    | some o => exact absurd (Heap.lt_size q) (Nat.not_lt.mpr ha)
  refine wf_init (h₀ := h) W (fun b o e => Heap.get?_push_of_some _ (Heap.get?_push_of_some _ e)) (by rw [Heap.size_push, Heap.size_push]; exact Nat.le_succ_of_le (Nat.le_succ _)) (none_ge _ (Nat.le_succ _)) (by heap_get) (by show A.depth + 1 < _; exact hroom) hr fun h' tk' t1 hk he => ⟨rfl, ?_⟩
  obtain ⟨dct, he⟩ := he
  exact hq h' tk' _ t1 ⟨fun b o e => hk b o (fun z => by rw [z, none_ge _ (Nat.le_succ _)] at e; cases e) (Heap.get?_push_of_some _ (Heap.get?_push_of_some _ e)), none_ge _ (Nat.le_succ _), dct, he⟩

theorem raiseStmt_wf {s : Shared} {env : Env} {x : Sem Value} {Q : Flow → Shared → Prop} (hh : A.handled = none)
    (h : wpAny (model prog w) A x (fun v s₁ => ∃ e t1 dct, v = .ref e ∧ Wd w s₁.heap ∧ s₁.heap.get? e = some { cls := .ref 59, dict := dct, data := .fields #[.ref t1, .none, .none, .none, .bool false, .none] } ∧ E (.ref e) s₁) E s) :
    wpAny (model prog w) A (raiseStmt env (some x) none) Q E s := by
  unfold raiseStmt
  refine wpAny_bind (wpAny_mono h (fun v s₁ h₁ => ?_) fun _ _ x => x)
  obtain ⟨e, t1, dct, rfl, ⟨X, _⟩, he, hE⟩ := h₁
  obtain ⟨bs, sn, sub, ab, col, dd, k0, k1, k2, k3, k5, hC⟩ := wf_obj (s := s₁) X
  have hcB : (Value.ref 59 :: Value.ref 46 :: bmE).contains (.type "BaseException") = true := by simp [bmE]
  have hcT : (Value.ref 59 :: Value.ref 46 :: bmE).contains (.type "type") = false := by simp [bmE]
  obtain ⟨hp, g, d, tk, os⟩ := s₁
  repeat (first | with_reducible refine wpAny_loadPart_at he ?_ | with_reducible refine wpAny_loadPart_at hC ?_ | (with_reducible refine wpAny_isSubtype_exc hC ?_; first | rw [hcB] | rw [hcT]) | wp_step)
  exact wpAny_raiseNew_none hh hE

def RaiseNow (w : World) (E : Value → Shared → Prop) (vs : List Value) (s₂ : Shared) : Prop :=
  ∃ x tx rest av, vs = .str x tx :: rest ∧ (rest = [] ∧ av = .int (-1) 209 ∨ rest = [av]) ∧ Wd w s₂.heap ∧ ∀ h' tk' e t1, WfMade s₂.heap h' e t1 → E (.ref e) { s₂ with heap := h', toks := tk' }

theorem keeper_wf {s : Shared} {Q : Keeper → Shared → Prop} (W : Wd w s.heap) (hq : Q .machine s) : wpAny (model prog w) A (keeperOf (.ref 59)) Q E s := by
  obtain ⟨X, _⟩ := W
  obtain ⟨h, g, d, t, os⟩ := s
  obtain ⟨bs, sn, sub, ab, col, dd, k0, k1, k2, k3, k5, hC⟩ := wf_obj (s := ⟨h, g, d, t, os⟩) X
  exact wpAny_keeperOf_exc hC hq

theorem Raise_wf {s : Shared} {env : Env} {x : Str} {np cpos pos : Pos} {e₀ : Expr} {rest : List Expr} {Q : Flow → Shared → Prop} (hh : A.handled = none) (hroom : A.depth + 1 < recursionLimit)
    (h : wpAny (model prog w) A (eval (.Name x np) env) (fun f s₁ => f = .ref 59 ∧ wpAny (model prog w) A (spliced (backTo cpos (starEach (e₀ :: rest) env))) (RaiseNow w E) E s₁) E s)
    (he : starEach (e₀ :: rest) env = (false, eval e₀ env) :: starEach rest env := by rfl) (hplain : (backTo cpos (starEach rest env)).any (·.1) = false := by rfl) :
    wpAny (model prog w) A (exec (.Raise (some (.Call (.Name x np) (e₀ :: rest) [] cpos)) none pos) env) Q E s := by
  rw [arm_exec_Raise]
  simp only [evalOpt, Option.map]
  refine wpAny_bind (wpAny_standAt (raiseStmt_wf hh (wpAny_bind (wpAny_mono (wpAny_Call_ofName (wpAny_mono h (fun f s₁ h₁ => ?_) fun _ _ x => x)) (fun v s₃ h₃ => wpAny_bind (wpAny_standAt (wpAny_pure h₃))) fun _ _ x => x))))
  obtain ⟨rfl, h₁⟩ := h₁
  rw [he] at h₁ ⊢
  unfold callWith
  refine wpAny_bind (wpAny_holding (wpAny_mono (Calls.evalArgs_plain (Q := fun (a : Args) s₂ => a.kw = [] ∧ RaiseNow w E a.pos s₂) (wpAny_mono h₁ (fun vs s₂ h₃ => ⟨rfl, h₃⟩) fun _ _ y => y)) (fun a s₂ h₂ => wpAny_bind (wpAny_standAt ?_)) fun _ _ x => x))
  obtain ⟨apos, akw⟩ := a
  obtain ⟨hkw, y, ty, r, av, hpos, hr, W, hE⟩ := h₂
  obtain rfl : akw = [] := hkw
  obtain rfl : apos = .str y ty :: r := hpos
  have hp' : (backTo cpos ((false, eval e₀ env) :: starEach rest env)).any (·.1) = false := by
    show (false || (backTo cpos (starEach rest env)).any (·.1)) = false
    rw [hplain]; rfl
  simp only [hp']
  refine wpAny_bind (keeper_wf W ?_)
  refine wpAny_bind (wf_call (av := av) W hroom hr fun h' tk' e t1 hm => wpAny_bind (wpAny_holding (wpAny_point (wpAny_pure ?_))))
  obtain ⟨st, hn, dct, ho⟩ := id hm
  exact ⟨e, t1, dct, rfl, W.stays st, ho, hE h' tk' e t1 hm⟩

theorem leaves_wf {M : Model} {s' : Shared} {base h₀ h : Heap} {outer : List Env} {L a e t1 : Addr} {m : Str → Option Value} {name : Str} {scope : Scope} {cd : Value} {Q : Unit → Shared → Prop}
    (K : Below A base outer h₀) (F : Fr h₀ L h m) (hm : WfMade h s'.heap e t1)
    (hQ : ∀ h', Heap.FlyingW base outer e (.ref 59) (.ref t1) h' → h₀.UpToSlots h' → Q () { s' with heap := h' }) (hk : scope.kind = .function := by rfl) :
    wpAny M (A.deeper (envOf name scope L a cd)) (leaving (envOf name scope L a cd) (.ref e)) Q E s' := by
  obtain ⟨st, hn, dct, ho⟩ := hm
  have K' := K.push (name := name) (a := a) (cd := cd) F hk
  have hen : base.get? e = none := by
    cases q : base.get? e with
    | none => rfl
    | some o => have := K'.stays e o q; rw [hn] at this; cases this
  refine wpAny_leaving_firstW (a0 := .ref t1) K'.stack (K'.frames.of_keeps fun b o hb _ => ⟨o, st b o hb, rfl⟩) rfl ho (fun b o hb => st b o (K'.stays b o hb)) hen rfl rfl rfl fun h' hL => ?_
  obtain ⟨k1, ⟨_, _, k2⟩, k3, k4⟩ := hL
  exact hQ h' ⟨k1, hen, k2, k3⟩ (((Heap.UpToSlots.of_keeps F.keep).trans (Heap.UpToSlots.of_keeps st)).trans k4)

/-- an exception that a callee left under way passes this frame too -/
theorem leaves_thru {M : Model} {s' : Shared} {base h₀ h : Heap} {outer : List Env} {L a e t1 : Addr} {m : Str → Option Value} {name : Str} {scope : Scope} {cd : Value} {Q : Unit → Shared → Prop}
    (K : Below A base outer h₀) (F : Fr h₀ L h m) (hfl : Heap.FlyingW base (envOf name scope L a cd :: outer) e (.ref 59) (.ref t1) s'.heap) (hup : h.UpToSlots s'.heap)
    (hQ : ∀ h', Heap.FlyingW base outer e (.ref 59) (.ref t1) h' → h₀.UpToSlots h' → Q () { s' with heap := h' }) (hk : scope.kind = .function := by rfl) :
    wpAny M (A.deeper (envOf name scope L a cd)) (leaving (envOf name scope L a cd) (.ref e)) Q E s' :=
  wpAny_leaves_onW (K.push (name := name) (a := a) (cd := cd) F hk).stack rfl hfl fun h' fl up =>
    hQ h' fl (((Heap.UpToSlots.of_keeps F.keep).trans hup).trans up)
end
end part_R2
section part_J0
open Builtin

theorem slot_bytes_join : Slot "bytes" "join" "bytes.join" :=
  .of (owner := "bytes") (n := "join") (by rw [typeLookup_type, builtinLookup_eq_fast]; kernel_rfl) (by decide +kernel) (by decide +kernel) (by decide +kernel)
    (by first | exact .inl (by decide +kernel) | exact .inr (by decide +kernel)) (by rw [isSubtype_type]; kernel_rfl)
theorem type_bytes_join : typeOf (.builtin "bytes.join") = pure (.type "method_descriptor") := by show builtinType _ = _; rw [builtinType_eq_fast]; kernel_rfl
theorem entry_bytes_join : entryFor table "bytes.join" = some Builtin.«bytes.join» := entryFor_of_tree (by kernel_rfl)
theorem args_bytes_join_2 (a b : Value) : argsOk "bytes.join" ⟨[a, b], []⟩ := by
  unfold argsOk; rw [signature?_of (id := "bytes.join") (n := ['n', 'i', 'o', 'j']) (o := ['s', 'e', 't', 'y', 'b']) (by kernel_rfl) FB.owner_bytes]; kernel_rfl
theorem method_join {M : Model} {A : Around} {E : Value → Shared → Prop} {s : Shared} {b : Array UInt8} {t : Tok} {pl : Sem Bool} {Q : Value × List Value → Shared → Prop} (h : Q (.builtin "bytes.join", [.bytes b t]) s) : wpAny M A (getMethod (.bytes b t) "join" pl) Q E s := by
  with_reducible exact KBd.method_of (.bytes b t) (typeIs_bytes _ _ _) slot_bytes_join type_bytes_join KBd.noRef h

/-- the octets of a row of bytes -/
def bytesAre : List Value → List (Array UInt8) → Prop
  | [], [] => True
  | v :: vs, b :: bs => (∃ u, v = .bytes b u) ∧ bytesAre vs bs
  | _, _ => False
theorem bytesAre.length : ∀ {vs : List Value} {bs : List (Array UInt8)}, bytesAre vs bs → vs.length = bs.length
  | [], [], _ => rfl
  | _ :: _, _ :: _, h => congrArg (· + 1) (bytesAre.length h.2)
  | [], _ :: _, h => h.elim
  | _ :: _, [], h => h.elim
theorem bytesAre.get : ∀ {vs : List Value} {bs : List (Array UInt8)}, bytesAre vs bs → ∀ i, i < vs.length → ∃ b u, bs[i]? = some b ∧ vs[i]? = some (.bytes b u)
  | [], [], _, i, hi => by simp at hi
  | _ :: _, _ :: _, h, 0, _ => by
    obtain ⟨⟨u, rfl⟩, _⟩ := h
    exact ⟨_, u, rfl, rfl⟩
  | _ :: _, _ :: _, h, i + 1, hi => by
    simp only [List.length_cons] at hi
    exact bytesAre.get h.2 i (by omega)
  | [], _ :: _, h, _, _ => h.elim
  | _ :: _, [], h, _, _ => h.elim
theorem bytesAre.append : ∀ {vs vs' : List Value} {bs bs' : List (Array UInt8)}, bytesAre vs bs → bytesAre vs' bs' → bytesAre (vs ++ vs') (bs ++ bs')
  | [], _, [], _, _, h => h
  | _ :: _, _, _ :: _, _, h, h' => ⟨h.1, bytesAre.append h.2 h'⟩
  | [], _, _ :: _, _, h, _ => h.elim
  | _ :: _, _, [], _, h, _ => h.elim

theorem take_eq {id : String} {b : Array UInt8} {t : Tok} : Bytes.takeBufferQuiet? id (.bytes b t) 0 = pure (some (b, none)) := by
  have hf : ((0 : Int) == Bytes.fullReadOnly) = false := by decide
  unfold Bytes.takeBufferQuiet? Bytes.takeBuffer?
  simp only [KBy.special_eq KBy.look_buffer, KBy.own_buffer, hf, KBy.buffer_eq]
  kernel_rfl

theorem joinItems_list {M : Model} {A : Around} {E : Value → Shared → Prop} {s : Shared} {D : Addr} {items : Array Value} {Q : Value → Shared → Prop} (hl : s.heap.IsList D items) (h : Q (.ref D) s) : wpAny M A (Bytes.joinItems (.ref D)) Q E s := by
  unfold Bytes.joinItems
  refine wpAny_bind (wpAny_typeOf hl.typeIs ?_)
  exact wpAny_pure h

theorem letGo_one {M : Model} {A : Around} {E : Value → Shared → Prop} {s : Shared} {Q : Unit → Shared → Prop} {x : Value} {l : List Value} (h : Q () s) : wpAny M A (letGo [x] l) Q E s := by
  unfold letGo
  refine wpAny_bind (wpAny_holding (wpAny_point ?_))
  unfold letGo
  exact wpAny_pure h
theorem joinLet_go {M : Model} {A : Around} {E : Value → Shared → Prop} {s : Shared} {Q : Unit → Shared → Prop} : ∀ (l : List Value) (keep : List Value), Q () s → wpAny M A (Bytes.joinLetGo (l.map fun v => (v, none)) keep) Q E s
  | [], _, h => wpAny_pure h
  | x :: l, keep, h => by
    show wpAny _ _ (Bytes.joinLetGo ((x, none) :: l.map fun v => (v, none)) keep) _ _ _
    unfold Bytes.joinLetGo
    dsimp only
    refine wpAny_bind ?_
    exact letGo_one (joinLet_go l keep h)

def joinedB (sep : Array UInt8) : List (Array UInt8) → List UInt8
  | [] => []
  | [x] => x.toList
  | x :: y :: r => x.toList ++ sep.toList ++ joinedB sep (y :: r)

theorem pick_many {β : Type} (arr : Array Value) (h : arr.size ≠ 1) (h1 : Value → β) (h2 : Array Value → β) : Bytes.joinM.match_1 (fun _ => β) arr h1 h2 = h2 arr := by
  unfold Bytes.joinM.match_1
  rw [dif_neg h]

theorem forRange {M : Model} {A : Around} {E : Value → Shared → Prop} {s : Shared} {β : Type} {b : Nat} {f : Nat → β → Sem (ForInStep β)} (I : Nat → β → Shared → Prop) {Q : β → Shared → Prop}
    (hstep : ∀ i c s, i < b → I i c s → wpAny M A (f i c) (fun r s' => match r with | .done c' => Q c' s' | .yield c' => I (i + 1) c' s') E s)
    (hend : ∀ c s, I b c s → Q c s) {c : β} (h : I 0 c s) : wpAny M A (forIn [0:b] c f) Q E s := by
  rw [Std.Legacy.Range.forIn_eq_forIn_range']
  have hsz : ([0:b] : Std.Legacy.Range).size = b := by simp [Std.Legacy.Range.size]
  show wpAny M A (forIn (List.range' 0 ([0:b] : Std.Legacy.Range).size 1) c f) Q E s
  rw [hsz]
  refine wpAny_forIn_list f (fun l c s => ∃ i, i ≤ b ∧ l = List.range' i (b - i) 1 ∧ I i c s) Q ?_ ?_ _ c ⟨0, Nat.zero_le _, by congr 1, h⟩
  · rintro x rest c s ⟨i, hib, hl, hI⟩
    have hlt : i < b := by
      rcases Nat.lt_or_ge i b with h' | h'
      · exact h'
      · rw [show b - i = 0 by omega] at hl; simp at hl
    obtain ⟨n, hn⟩ : ∃ n, b - i = n + 1 := ⟨b - i - 1, by omega⟩
    rw [hn, List.range'_succ] at hl
    obtain ⟨rfl, rfl⟩ := List.cons.inj hl
    refine wpAny_mono (hstep x c s (by omega) hI) (fun r s' h' => ?_) fun _ _ h => h
    cases r with
    | done c' => exact h'
    | yield c' => exact ⟨x + 1, by omega, by congr 1; omega, h'⟩
  · rintro c s ⟨i, hib, hl, hI⟩
    have : i = b := by
      rcases Nat.lt_or_ge i b with h' | h'
      · obtain ⟨n, hn⟩ : ∃ n, b - i = n + 1 := ⟨b - i - 1, by omega⟩
        rw [hn, List.range'_succ] at hl; simp at hl
      · omega
    subst this; exact hend _ _ hI

theorem joined_eq (sep : Array UInt8) (bs : List (Array UInt8)) : (Bytes.joined sep bs).toList = joinedB sep bs := by
  have key : ∀ (bs : List (Array UInt8)) (out : Array UInt8) (k : Nat), ((bs.zipIdx (k + 1)).foldl (fun out (p, i) => (if i > 0 then out ++ sep else out) ++ p) out).toList = out.toList ++ (bs.flatMap fun b => sep.toList ++ b.toList) := by
    intro bs
    induction bs with
    | nil => intro out k; simp
    | cons b bs ih =>
      intro out k
      rw [List.zipIdx_cons, List.foldl_cons, ih]
      simp
  have flat : ∀ (bs : List (Array UInt8)) (b : Array UInt8), b.toList ++ (bs.flatMap fun b => sep.toList ++ b.toList) = joinedB sep (b :: bs) := by
    intro bs
    induction bs with
    | nil => intro b; simp [joinedB]
    | cons c bs ih =>
      intro b
      simp only [List.flatMap_cons, joinedB]
      rw [← ih c]
      simp
  unfold Bytes.joined
  cases bs with
  | nil => rfl
  | cons b bs =>
    rw [List.zipIdx_cons, List.foldl_cons, key]
    rw [← flat]
    simp

theorem joined_size (sep : Array UInt8) : ∀ (bs : List (Array UInt8)), (joinedB sep bs).length = (bs.map fun b => b.size).sum + sep.size * (bs.length - 1)
  | [] => rfl
  | [b] => by simp [joinedB]
  | b :: c :: r => by
    simp only [joinedB, List.length_append, List.map_cons, List.sum_cons, List.length_cons]
    rw [joined_size sep (c :: r)]
    simp only [List.map_cons, List.sum_cons, List.length_cons, Array.length_toList, Nat.add_sub_cancel]
    rw [Nat.mul_succ]
    omega
theorem sum_fold (bs : List (Array UInt8)) : ∀ n, bs.foldl (fun n b => n + b.size) n = n + (bs.map fun b => b.size).sum := by
  induction bs with
  | nil => intro n; rfl
  | cons b bs ih => intro n; rw [List.foldl_cons, ih, List.map_cons, List.sum_cons]; omega

theorem meets_join (sep : Array UInt8) (t : Tok) (D : Addr) (vs : List Value) (bs : List (Array UInt8)) (hb : bytesAre vs bs) (hz : (joinedB sep bs).length ≤ 16777216) :
    Meets («bytes.join» ⟨[.bytes sep t, .ref D], []⟩) (fun _ R s => s.heap.IsList D vs.toArray ∧ (∀ t' k, R (.ok (.ret (.bytes (joinedB sep bs).toArray t'))) { s with toks := k })) := by
  refine .of_wp fun prog w A R s hS => ?_
  obtain ⟨hI, h⟩ := hS
  obtain ⟨o, ho, hc, n, hd⟩ := id hI
  have hz' : Bytes.tooLong (bs.toArray.foldl (fun n b => n + b.size) (sep.size * (bs.toArray.size - 1))) = false := by
    rw [joined_size] at hz
    rw [List.foldl_toArray, sum_fold, show bs.toArray.size = bs.length from List.size_toArray]
    exact KBy.tooLong_not (by omega)
  have he : (joinedB sep bs).toArray = Bytes.joined sep bs := by rw [← joined_eq]
  rw [he] at h
  show wpAny _ _ (Bytes.joinM .bytes _) _ _ _
  unfold Bytes.joinM
  show wpAny _ _ (Bytes.joinItems (.ref D) >>= fun q => _) _ _ _
  refine wpAny_bind (joinItems_list hI ?_)
  refine wpAny_bind (wpAny_seqItems ho hd ?_)
  dsimp only
  rw [if_pos (by decide)]
  by_cases h1 : vs.length = 1
  · obtain ⟨v, rfl⟩ : ∃ v, vs = [v] := List.length_eq_one_iff.mp h1
    show wpAny _ _ (typeOf v >>= fun q => _) _ _ _
    obtain ⟨b, rfl⟩ : ∃ b, bs = [b] := by
      cases bs with
      | nil => exact hb.elim
      | cons b r => cases r with
        | nil => exact ⟨b, rfl⟩
        | cons c r => exact hb.2.elim
    obtain ⟨⟨u, rfl⟩, _⟩ := hb
    refine wpAny_bind (wpAny_typeOf (typeIs_bytes _ _ _) ?_)
    rw [if_pos (by decide +kernel)]
    refine wpAny_bind (wpAny_rule (wpAny_pure ?_))
    have := h u s.toks
    have e : Bytes.joined sep [b] = b := by
      have := joined_eq sep [b]
      simp only [joinedB] at this
      exact Array.toList_inj.mp this
    rw [e] at this
    exact ⟨_, rfl, this⟩
  · rw [pick_many _ (by rw [List.size_toArray]; exact h1)]
    refine wpAny_bind (wpAny_mono (forRange (fun i p s' => p.1 = (bs.take i).toArray ∧ p.2 = (vs.take i).map (fun v => (v, none)) ∧ s' = s) (Q := fun p s' => p.1 = bs.toArray ∧ p.2 = vs.map (fun v => (v, none)) ∧ s' = s) ?_ ?_ ⟨rfl, rfl, rfl⟩) (fun p s' hp => ?_) fun _ _ x => x)
    · rintro i ⟨p, q⟩ s' hi ⟨h1, h2, rfl⟩
      rw [List.size_toArray] at hi
      obtain ⟨b, u, hbi, hvi⟩ := hb.get i hi
      dsimp only at h1 h2 ⊢
      have hgD : vs.toArray.getD i Value.none = .bytes b u := by
        rw [Array.getD_eq_getD_getElem?, List.getElem?_toArray, hvi]; rfl
      have hany : (q.any fun x => x.1.onHeap) = false := by
        rw [h2, List.any_map, List.any_eq_false]
        intro v hv
        obtain ⟨j, hj⟩ := List.getElem?_of_mem hv
        have hj' : j < vs.length := by
          have := List.getElem?_eq_some_iff.mp hj
          obtain ⟨hlt, _⟩ := this
          rw [List.length_take] at hlt; omega
        obtain ⟨b', u', _, hv'⟩ := hb.get j hj'
        rw [List.getElem?_take] at hj
        split at hj
        · rw [hv'] at hj
          cases hj
          simp [Value.onHeap]
        · cases hj
      refine wpAny_bind (wpAny_seqItems ho hd ?_)
      dsimp only
      rw [hany, hgD]
      rw [if_neg (by decide)]
      refine wpAny_bind (wpAny_holding (wpAny_of_eq take_eq ?_))
      dsimp only
      refine wpAny_bind (wpAny_seqItems ho hd ?_)
      dsimp only
      rw [if_neg (by simp)]
      refine wpAny_pure ?_
      dsimp only
      refine ⟨?_, ?_, rfl⟩
      · rw [h1, List.take_add_one, hbi]; simp
      · rw [h2, List.take_add_one, hvi]; simp
    · rintro ⟨p, q⟩ s' ⟨h1, h2, rfl⟩
      rw [List.size_toArray] at h1 h2
      rw [List.take_length] at h2
      rw [hb.length, List.take_length] at h1
      exact ⟨h1, h2, rfl⟩
    · obtain ⟨p, q⟩ := p
      obtain ⟨h1, h2, rfl⟩ := hp
      dsimp only at h1 h2 ⊢
      subst h1 h2
      show wpAny _ _ (Bytes.payload (.bytes sep t) >>= fun q => _) _ _ _
      refine wpAny_bind (wpAny_pure ?_)
      rw [hz', if_neg (by decide)]
      show wpAny _ _ (mkBytes (Bytes.joined sep bs) >>= fun q => _) _ _ _
      refine wpAny_bind (wpAny_mkBytes ?_ ?_)
      · refine wpAny_bind (wpAny_holding (wpAny_point ?_))
        refine wpAny_bind (joinLet_go _ _ (wpAny_pure ⟨_, rfl, h _ _⟩))
      · rw [← he, List.size_toArray, sizeLine_eq]; exact hz

theorem join_bytes {prog : Program} {w : World} {A : Around} {E : Value → Shared → Prop} {s : Shared} {sep : Array UInt8} {t : Tok} {D : Addr} {vs : List Value} {bs : List (Array UInt8)} {Q : Value → Shared → Prop}
    (hI : s.heap.IsList D vs.toArray) (hb : bytesAre vs bs) (hz : (joinedB sep bs).length ≤ 16777216) (h : ∀ t' k, Q (.bytes (joinedB sep bs).toArray t') { s with toks := k }) :
    wpAny (model prog w) A (call (.builtin "bytes.join") [.bytes sep t, .ref D]) Q E s :=
  call_meets slot_bytes_join (typeIs_bytes _ _ _) entry_bytes_join (args_bytes_join_2 _ _) (meets_join sep t D vs bs hb hz) ⟨hI, h⟩
end part_J0
section part_L0
theorem noteFrame_frame {e : Value} {c env : Env} (h : c.frame = env.frame) : noteFrame e c = noteFrame e env := by
  unfold noteFrame PySem.frameOf
  rw [h]

/-- an exception under way, whatever frame its last entry is said to be in flight from -/
def Adrift (base : Heap) (l : List Env) (e : Addr) (cls a0 : Value) (h : Heap) : Prop :=
  base.StaysIn h ∧ base.get? e = none ∧ h.FunFrames base l ∧ ∃ fl, h.TracedAtW base e cls a0 fl

section
variable {M : Model} {A : Around} {E : Value → Shared → Prop} {s : Shared}

theorem frames_up {base h h' : Heap} {l : List Env} (hl : h.FunFrames base l) (u : h.UpToSlots h') : h'.FunFrames base l :=
  hl.of_keeps fun b o ho hn => by
    obtain ⟨sl, e⟩ := u b o ho hn
    exact ⟨_, e, rfl⟩

theorem passOn_adrift {α : Type} {base h₁ : Heap} {l : List Env} {e : Addr} {cls a0 fl : Value} {what : String} {cenv : Env} {Q : α → Shared → Prop}
    (hkb : base.StaysIn s.heap) (hen : base.get? e = none) (hl : h₁.FunFrames base l) (hu : h₁.UpToSlots s.heap) (ht : s.heap.TracedAtW base e cls a0 fl)
    (h : ∀ h', Adrift base l e cls a0 h' → h₁.UpToSlots h' → E (.ref e) { s with heap := h' }) : wpAny M A (PySem.passOn what (.ref e) cenv : Sem α) Q E s := by
  obtain ⟨oe, vs, T, oT, ts, he, hcls, hd, h1, hnT, hTe, hT, hdT, h3⟩ := ht
  have hsz3 : 3 < ts.size := (Array.getElem?_eq_some_iff.mp h3).1
  unfold PySem.passOn
  refine wpAny_bind (wpAny_field he hd h1 ?_)
  rw [if_neg (by simp)]
  refine wpAny_bind ?_
  unfold setFlight
  refine wpAny_bind (wpAny_field he hd h1 ?_)
  rw [if_pos (show (Value.ref T != Value.none) = true from by simp)]
  refine wpAny_setField hT hdT hsz3 ?_
  refine wpAny_throw ?_
  have other : ∀ b, b ≠ T → (s.heap.update T (Obj.mapFields (·.setIfInBounds 3 (cenv.frame.elim Value.none fun f => rawInt f)))).get? b = s.heap.get? b :=
    fun b hb => Heap.get?_update_other _ _ (Ne.symm hb)
  have noRecord : ∀ b o, s.heap.get? b = some o → (∀ vs, o.data ≠ .fields vs) → b ≠ T := fun b o hb hnf q => by
    rw [q, hT] at hb; injection hb with hb; subst hb; exact hnf ts hdT
  have hu' : h₁.UpToSlots (s.heap.update T (Obj.mapFields (·.setIfInBounds 3 (cenv.frame.elim Value.none fun f => rawInt f)))) :=
    hu.trans fun b o hb hn => ⟨o.slots, (other b (noRecord b o hb hn)).trans hb⟩
  refine h _ ⟨fun b o hbo => (other b fun q => by rw [q, hnT] at hbo; cases hbo).trans (hkb b o hbo), hen, frames_up hl hu', cenv.frame.elim Value.none fun f => rawInt f, ?_⟩ hu'
  exact ⟨oe, vs, T, _, _, (other e (Ne.symm hTe)).trans he, hcls, hd, h1, hnT, hTe, Heap.get?_update_self _ hT (Obj.isFreed_of_fields (Obj.data_mapFields hdT _)), Obj.data_mapFields hdT _, by simp [hsz3]⟩

theorem leaves_adrift {base : Heap} {env : Env} {outer : List Env} {L e : Addr} {cls a0 : Value} {Q : Unit → Shared → Prop}
    (hfr : A.frames = some (env :: outer)) (hf : env.frame = some L) (hfl : Adrift base (env :: outer) e cls a0 s.heap)
    (hQ : ∀ h', Heap.FlyingW base outer e cls a0 h' → s.heap.UpToSlots h' → Q () { s with heap := h' }) : wpAny M A (leaving env (.ref e)) Q E s := by
  obtain ⟨hkb, hen, hl, fl, ht⟩ := hfl
  have drop : ∀ h' : Heap, h'.FunFrames base (env :: outer) → h'.FunFrames base outer := fun _ x => x.2.2
  obtain ⟨oe, vs, T, oT, ts, he, ⟨hcls, h0⟩, hd, h1, hnT, hTe, hT, hdT, h3⟩ := id ht
  subst hcls
  unfold leaving
  by_cases hfe : fl = rawInt L
  · subst hfe
    refine wpAny_bind (wpAny_noteFrame_againW hf ht ?_)
    exact wpAny_setFlight_noneW hkb hl ht fun h' k1 k2 k3 k4 => hQ h' ⟨k1, hen, drop _ k2, k3⟩ fun b o hb hn => ⟨o.slots, k4 b o hb hn⟩
  · unfold noteFrame
    simp only [hf]
    refine wpAny_bind (wpAny_bind (wpAny_field he hd h1 ?_))
    rw [if_pos (show (Value.ref T != Value.none) = true from by simp)]
    refine wpAny_bind (wpAny_field hT hdT h3 ?_)
    rw [if_neg (show ¬ ((fl == rawInt L) = true) from by simpa using hfe)]
    refine wpAny_bind (wpAny_setField hT hdT (Array.getElem?_eq_some_iff.mp h3).1 ?_)
    have other : ∀ b, b ≠ T → (s.heap.update T (Obj.mapFields (·.setIfInBounds 3 Value.none))).get? b = s.heap.get? b := fun b hb => Heap.get?_update_other _ _ (Ne.symm hb)
    have noRecord : ∀ b o, s.heap.get? b = some o → (∀ vs, o.data ≠ .fields vs) → b ≠ T := fun b o hb hnf q => by
      rw [q, hT] at hb; injection hb with hb; subst hb; exact hnf ts hdT
    refine wpAny_newEntryW hfr (hl.of_keeps fun b o hb hnf => ⟨o, (other b (noRecord b o hb hnf)).trans hb, rfl⟩) hf ((other e (Ne.symm hTe)).trans he)
      (fun b o hbo => (other b fun q => by rw [q, hnT] at hbo; cases hbo).trans (hkb b o hbo)) hen hd (Array.getElem?_eq_some_iff.mp h1).1 h0
      fun h' ⟨x1, x2, x3, x4⟩ => hQ h' ⟨x1, hen, drop _ x2, x3⟩ fun b o hb hnf => x4 b o ((other b (noRecord b o hb hnf)).trans hb) hnf
end

section
variable {α : Type} {prog : Program} {w : World} {A : Around} {E : Value → Shared → Prop} {s : Shared} {env : Env} {h₀ : Heap} {L : Addr}
  {V : α → Value → Prop} {G : α → Value → Prop} {xs : List α} {x : Str} {px : Pos} {elt iter : Expr} {scope : Scope} {cl : List (Str × Addr)} {pos : Pos} {R : List Addr} {base : Heap} {outer : List Env} {cls : Value}

/-- how the element's evaluation ends when it raises -/
def RaiseEnd (base : Heap) (l : List Env) (cls : Value) (Bad : Prop) (s₃ : Shared) (e : Value) (s' : Shared) : Prop :=
  ∃ e1 t1 h tk, e = .ref e1 ∧ s' = { s₃ with heap := h, toks := tk } ∧ Heap.FlyingW base l e1 cls (.ref t1) h ∧ s₃.heap.UpToSlots h ∧ Bad
theorem RaiseEnd.intro {l : List Env} {Bad : Prop} {s₃ : Shared} {e1 t1 : Addr} {h : Heap} {tk : Nat} (hfl : Heap.FlyingW base l e1 cls (.ref t1) h) (hup : s₃.heap.UpToSlots h) (hb : Bad) :
    RaiseEnd base l cls Bad s₃ (.ref e1) { s₃ with heap := h, toks := tk } := ⟨e1, t1, h, tk, rfl, rfl, hfl, hup, hb⟩

theorem lc_raise {Q : Value → Shared → Prop} {Bad : Prop} (hV : ∀ a a' v, V a v → V a' v → a = a') (hf : env.frame = some L)
    (hclos : closureFor scope env = pure cl) (hcell : ∀ y ∈ scope.names, y.2 ≠ .cell) (hkind : scope.kind = .function)
    (hnames : ∀ y ∈ scope.names, y.2 = .local → scope.names.lookup y.1 = some .local) (hx : scope.names.lookup x = some .local)
    (hiter : wpAny (model prog w) A (eval iter env) (fun xv s₁ => ∃ m, Fr h₀ L s₁.heap m ∧ Below A base (env :: outer) s₁.heap ∧ SrcOf prog w A xv xs V R s₁ ∧ xs.length ≤ sizeLine ∧
      (∀ C a v s₃ m₃, a ∈ xs → V a v → Fr h₀ C s₃.heap m₃ → s₁.heap.StaysIn s₃.heap → m₃ x = some v →
        wpAny (model prog w) A (eval elt (compEnvC scope cl C env)) (EltEnd (G a) s₃) (RaiseEnd base (env :: outer) cls Bad s₃) s₃) ∧
      (∀ D h' tk ys, s₁.heap.StaysIn h' → s₁.heap.get? D = none → h'.IsList D ys.toArray → Paired G xs ys → Q (.ref D) { s₁ with heap := h', toks := tk }) ∧
      (Bad → ∀ h' tk e t1, Adrift base (env :: outer) e cls (.ref t1) h' → s₁.heap.UpToSlots h' → E (.ref e) { s₁ with heap := h', toks := tk })) E s)
    (hs : ∀ x, foldedSetIterable iter env x = pure x := by intro _; rfl) :
    wpAny (model prog w) A (eval (.ListComp elt [⟨.Name x px, iter, [], 0⟩] scope pos) env) Q E s := by
  rw [eval_ListComp]
  refine wpAny_comprehension_free (use := none) rfl hs hclos hkind hnames (wpAny_mono hiter (fun xv s₁ h₁ => ?_) fun _ _ e => e)
  obtain ⟨m, F, K, src, hsz, turn, done, err⟩ := h₁
  refine src _ _ fun o fp St P W hP hfp hfp' hst hfree => ?_
  have fresh : ∀ a, s₁.heap.objs.size ≤ a → s₁.heap.get? a = none := fun a ha => by
    cases e : s₁.heap.get? a with
    | none => rfl
    | some o' => exact absurd (Heap.lt_size e) (Nat.not_lt.mpr ha)
  have up0 : ∀ b o', s₁.heap.get? b = some o' → (s₁.heap.push o).get? b = some o' := fun b o' e => Heap.get?_push_of_some _ e
  have hGsz : (s₁.heap.push o).objs.size = s₁.heap.objs.size + 1 := Heap.size_push ..
  generalize hI : s₁.heap.objs.size = I at *
  generalize s₁.heap.push o = H1 at *
  refine wpAny_newObj_type (wpAny_newFunctionEnv hcell (by intro y hy; simp at hy) (fun h₁ hns₁ hsb₁ => ?_) hkind)
  dsimp only at hns₁ hsb₁ ⊢
  have hLD : (H1.push { cls := .type "list", dict := none, data := .seq ([] : List Value).toArray }).objs.size = I + 2 := by rw [Heap.size_push, hGsz]
  have hDat : (H1.push { cls := .type "list", dict := none, data := .seq ([] : List Value).toArray }).get? H1.objs.size = some { cls := .type "list", dict := none, data := .seq ([] : List Value).toArray } := Heap.get?_push_size _ rfl
  have up1 : ∀ b o', H1.get? b = some o' → (H1.push { cls := .type "list", dict := none, data := .seq ([] : List Value).toArray }).get? b = some o' := fun b o' e => Heap.get?_push_of_some _ e
  generalize H1.push { cls := .type "list", dict := none, data := .seq ([] : List Value).toArray } = H2 at *
  rw [hGsz] at hDat ⊢
  rw [hLD] at hns₁ hsb₁ ⊢
  have up2 : ∀ b o', b < I + 2 → H2.get? b = some o' → h₁.get? b = some o' := fun b o' hb e => hsb₁.extBut b o' (Nat.ne_of_lt hb) (Heap.get?_push_of_some _ e)
  have low : ∀ b o', s₁.heap.get? b = some o' → b < I := fun b o' e => hI ▸ Heap.lt_size e
  have low1 : ∀ b o', H1.get? b = some o' → b < I + 1 := fun b o' e => hGsz ▸ Heap.lt_size e
  have old : ∀ b o', s₁.heap.get? b = some o' → h₁.get? b = some o' := fun b o' e => up2 b o' (Nat.lt_of_lt_of_le (low b o' e) (Nat.le_add_right _ _)) (up1 b o' (up0 b o' e))
  have lt1 : I + 1 < I + 2 := Nat.lt_succ_self _
  have hfI : ∀ b ∈ fp, b < I + 1 := hfp
  have ltI : ∀ {b : Addr}, b < I → b ≠ I + 2 ∧ b ≠ I + 1 ∧ b ≠ I := fun h => ⟨Nat.ne_of_lt (Nat.lt_of_lt_of_le h (Nat.le_add_right _ _)), Nat.ne_of_lt (Nat.lt_of_lt_of_le h (Nat.le_add_right _ _)), Nat.ne_of_lt h⟩
  have hst₁ : St 0 h₁ := W.frame _ _ _ hst fun b hb o' e => up2 b o' (Nat.lt_trans (hfI b hb) lt1) (up1 b o' e)
  have hCf : I + 2 ∉ fp := fun hm => Nat.lt_irrefl _ (Nat.lt_trans lt1 (hfI _ hm))
  have hDf : I + 1 ∉ fp := fun hm => Nat.lt_irrefl _ (hfI _ hm)
  have loop : ∀ s₃ : Shared, s₃ = { s₁ with heap := h₁, toks := s₁.toks + ([] : List (Str × Value)).length } →
      codeAny (model prog w) A (.compLoop (.ListComp elt [⟨.Name x px, iter, [], 0⟩] scope pos) 0 (.ref I) (.ref (I + 1)) (compEnvC scope cl (I + 2) env))
        (compPost (model prog w) A E none Q (.ref (I + 1)) (I + 2)) s₃ := by
    rintro s₃ rfl
    refine codeAny_compLoop_tests
      (fun k s' => ∃ h' tk m' ys, ∃ vs : List Value, s' = { s₁ with heap := h', toks := tk } ∧ St vs.length h' ∧ h'.IsList (I + 1) ys.toArray ∧ h'.Ns (I + 2) m' ∧ (∀ j v, vs[j]? = some v → P j v) ∧
        Paired (fun v y => ∃ a, V a v ∧ G a y) vs ys ∧ vs.length ≤ xs.length ∧ k = xs.length + 1 - vs.length ∧ s₁.heap.StaysIn h') ?_ (xs.length + 1)
      ⟨h₁, _, _, [], [], rfl, hst₁, ⟨_, up2 _ _ lt1 hDat, rfl, _, rfl⟩, hns₁, by simp, .nil, Nat.zero_le _, rfl, old⟩
    rintro k s' ⟨h', tk, m', ys, vs, rfl, hst', hacc', hn', hPv, hpair, hle, rfl, hk⟩
    by_cases hlt : vs.length < xs.length
    · refine W.item vs.length _ _ _ hlt hst' fun v h₂ tk₂ hPi hst₂ hk₂ => ?_
      have nI : ∀ {b : Addr}, b ≠ I → b ∉ [I] := fun h hm => h (List.mem_singleton.mp hm)
      have hCI : I + 2 ≠ I := Nat.ne_of_gt (Nat.lt_add_of_pos_right (by decide))
      have hDI : I + 1 ≠ I := Nat.ne_of_gt (Nat.lt_succ_self _)
      refine wpAny_assign_Name (wpAny_storeName_local (lookup_relabel_local hx) (hn'.at' fun o e => hk₂ _ o (nI hCI) e) (fun h₃ hn₃ hs₃ => ?_) (by simp [compEnvC, relabel, hkind]))
      refine wpAny_tests_nil ?_
      simp only [if_true]
      have st₃ : s₁.heap.StaysIn h₃ := fun b o' e => hs₃.extBut _ _ (ltI (low b o' e)).1 (hk₂ b o' (nI (ltI (low b o' e)).2.2) (hk b o' e))
      have hst₃ : St (vs.length + 1) h₃ := W.frame _ _ _ hst₂ fun b hb o' e => hs₃.extBut b o' (fun q => hCf (by have q' : b = I + 2 := q; rw [← q']; exact hb)) e
      have hacc₃ : h₃.IsList (I + 1) ys.toArray := by
        obtain ⟨o', e, r⟩ := hacc'
        exact ⟨o', hs₃.extBut _ _ (Nat.ne_of_lt lt1) (hk₂ _ _ (nI hDI) e), r⟩
      obtain ⟨a, ha, hv⟩ := hP _ v hPi
      have Fc : Fr h₀ (I + 2) h₃ _ := ⟨hn₃, fun b o' e => st₃ b o' (F.keep b o' e), by
        have h1 := F.above
        have h2 := F.ns.lt
        rw [hI] at h2
        exact Nat.le_trans h1 (Nat.le_trans (Nat.le_of_lt h2) (Nat.le_add_right _ _))⟩
      refine wpAny_mono (turn (I + 2) a v _ _ (List.mem_of_getElem? ha) hv Fc st₃ (by simp)) (fun y s₄ h₄ => ?_) fun e s' he => ?_
      · obtain ⟨hG, h₄, tk₄, rfl, hk₄⟩ := h₄
        have hacc₄ : h₄.IsList (I + 1) ys.toArray := by
          obtain ⟨o', e, r⟩ := hacc₃
          exact ⟨o', hk₄ _ _ e, r⟩
        refine wpAny_list_append (hsz := by rw [List.size_toArray, ← hpair.length]; exact Nat.le_trans hle hsz) hacc₄ fun h₅ hl₅ hs₅ => ?_
        refine ⟨xs.length + 1 - (vs.length + 1), by omega, h₅, tk₄, _, ys ++ [y], vs ++ [v], rfl, ?_, ?_, ((hn₃.keeps hk₄).sameBut hs₅ (Nat.ne_of_gt lt1)), ?_, hpair.snoc ⟨a, hv, hG⟩, ?_, ?_, ?_⟩
        · rw [List.length_append, List.length_singleton]
          exact W.frame _ _ _ (W.frame _ _ _ hst₃ fun b _ o' e => hk₄ b o' e) fun b hb o' e => hs₅.extBut b o' (fun q => hDf (q ▸ hb)) e
        · rw [← List.push_toArray]; exact hl₅
        · intro j u hj
          rcases Nat.lt_trichotomy j vs.length with h | h | h
          · exact hPv j u (by rwa [List.getElem?_append_left h] at hj)
          · subst h; simp at hj; subst hj; exact hPi
          · have hnone : (vs ++ [v])[j]? = none := List.getElem?_eq_none (by rw [List.length_append, List.length_singleton]; omega)
            rw [hnone] at hj; cases hj
        · rw [List.length_append, List.length_singleton]; exact hlt
        · rw [List.length_append, List.length_singleton]
        · exact fun b o' e => hs₅.extBut _ _ (ltI (low b o' e)).2.1 (hk₄ _ _ (st₃ b o' e))
      · obtain ⟨e1, t1, h₄, tk', rfl, rfl, hfl, hup, hb⟩ := he
        show wpAny _ _ (noteFrame (.ref e1) (compEnvC scope cl (I + 2) env)) _ _ _
        rw [noteFrame_frame (c := compEnvC scope cl (I + 2) env) (env := env) rfl]
        refine wpAny_looks_onW K.stack hf hfl fun h'' hheld hup2 => ?_
        have hCns := (hup.trans hup2).ns hn₃
        refine ⟨_, hCns, fun h₆ hsb cenv' _ => ?_⟩
        have hu : s₁.heap.UpToSlots h₆ := fun b o' e hnf => by
          obtain ⟨sl, q⟩ := ((Heap.UpToSlots.of_keeps st₃).trans (hup.trans hup2)) b o' e hnf
          exact ⟨sl, hsb.extBut b _ (ltI (low b o' e)).1 q⟩
        obtain ⟨k1, k2, k3, k4⟩ := hheld
        obtain ⟨oC, es, ep, hoC, hdC, _⟩ := hCns
        obtain ⟨oe, fs, T, oT, ts, he, hcls, hd, h1, hnT, hTe, hT, hdT, h3⟩ := k4
        have heC : e1 ≠ I + 2 := fun q => by
          have hoC' : h''.get? e1 = some oC := by rw [q]; exact hoC
          rw [hoC'] at he; injection he with he; subst he; rw [hdC] at hd; cases hd
        have hTC : T ≠ I + 2 := fun q => by
          have hoC' : h''.get? T = some oC := by rw [q]; exact hoC
          rw [hoC'] at hT; injection hT with hT; subst hT; rw [hdC] at hdT; cases hdT
        refine passOn_adrift (s := ⟨h₆, _, _, _, _⟩) (h₁ := s₁.heap) (fun b o' e => ?_) k2 K.frames hu ⟨oe, fs, T, oT, ts, hsb.extBut _ _ heC he, hcls, hd, h1, hnT, hTe, hsb.extBut _ _ hTC hT, hdT, h3⟩ fun h₇ had hu4 => err hb h₇ _ e1 t1 had hu4
        exact hsb.extBut b o' (ltI (low b o' (K.stays b o' e))).1 (k1 b o' e)
    · obtain hlen : vs.length = xs.length := Nat.le_antisymm hle (Nat.not_lt.mp hlt)
      refine W.done _ _ _ (hlen ▸ hst') fun h₂ tk₂ hk₂ => ?_
      have nI : ∀ {b : Addr}, b ≠ I → b ∉ [I] := fun h hm => h (List.mem_singleton.mp hm)
      have hCI : I + 2 ≠ I := Nat.ne_of_gt (Nat.lt_add_of_pos_right (by decide))
      have hDI : I + 1 ≠ I := Nat.ne_of_gt (Nat.lt_succ_self _)
      have hp := paired_conv hV (pb := fun _ => true) xs vs ys hlen (fun j v hj => hP j v (hPv j v hj)) (by
        rw [List.filter_eq_self.mpr fun v hv => by
          obtain ⟨j, hj⟩ := List.getElem?_of_mem hv
          obtain ⟨a, _, hav⟩ := hP j v (hPv j v hj)
          exact pOf_eq hV hav]
        exact hpair)
      rw [List.filter_eq_self.mpr (fun _ _ => rfl)] at hp
      refine ⟨m', hn'.at' fun o e => hk₂ _ o (nI hCI) e, fun h'' hs'' => done (I + 1) h'' tk₂ ys (fun b o' e => hs''.extBut _ _ (ltI (low b o' e)).1 (hk₂ b o' (nI (ltI (low b o' e)).2.2) (hk b o' e))) (fresh _ (Nat.le_succ _)) ?_ hp⟩
      obtain ⟨o', e, r⟩ := hacc'
      exact ⟨o', hs''.extBut _ _ (Nat.ne_of_lt lt1) (hk₂ _ _ (nI hDI) e), r⟩
  exact codeAny_compStart_list (loop _ rfl) (W.self 0 _ _ _ hst₁ (loop _ rfl))
end
end part_L0
section group_8
theorem ldC_8 {M : Model} {A : Around} {E : Value → Shared → Prop} {s : Shared} {h₀ : Heap} {C : Addr} {m : Str → Option Value} {scope : Scope} {cl : List (Str × Addr)} {env : Env} {x : Str} {pos : Pos} {v : Value} {Q : Value → Shared → Prop}
    (F : Fr h₀ C s.heap m) (hv : m x = some v) (h : Q v s) (hk : (compEnvC scope cl C env).scope.kind = .function) (hl : (compEnvC scope cl C env).kindOf x = some .local) (hd : (x == ("__debug__" : Str)) = false := by decide) :
    wpAny M A (eval (.Name x pos) (compEnvC scope cl C env)) Q E s := wpAny_Name (wpAny_loadName_local hk hl F.ns hv h) hd
theorem stays_keep_8 {h₀ h h' : Heap} {L : Addr} {m : Str → Option Value} (F : Fr h₀ L h m) (st : h.StaysIn h') : Fr h₀ L h' m := F.keeps st
theorem fr_news_8 {h₀ h : Heap} {L : Addr} {m : Str → Option Value} (_ : Fr h₀ L h m) : News h₀ L h [] := News.nil
local macro_rules | `(tactic| walk_at "eval Name") => `(tactic| ((with_reducible show wpAny _ _ (eval (Expr.Name _ _) (compEnvC _ _ _ _)) _ _ _); k_dflt (first
  | (refine' ldC_8 ?F ?v ?_ ?k ?l; (case F => assumption); (case v => assumption); (case k => rfl); (case l => rfl); k_whole)
  | (refine' LCgL.ld_global ?F ?X ?T ?e ?_ ?g ?k ?x; (case F => assumption); (case X => assumption); (case T => assumption); (case g => rfl); (case k => rfl); (case x => rfl); (case e => k_is); k_whole)
  | (refine' LCgL.ld_built ?F ?X ?T ?e ?v ?n ?_ ?g ?b ?k ?x; (case F => assumption); (case X => assumption); (case T => assumption); (case g => rfl); (case b => rfl); (case k => rfl); (case x => rfl); (case e => k_is); (case v => boot_fast); (case n => decide); k_whole))))
local macro_rules | `(tactic| walk_at "mine enter") => `(tactic| (
  (case X => assumption)
  (case T => k_asm)
  (case ho => k_is)
  (case hcd => k_is)
  (case room => first | assumption | omega | (show _ + _ < _; omega))
  (case hb => first | exact BindsTo.of_eq rfl | exact binds_K (by k_in) rfl (by k_is) rfl rfl rfl)
  (case hl => exact locs rfl)
  (case c2 => exact rfl)
  (case c3 => exact rfl)
  (case c4 => exact rfl)
  (case c5 => decide)
  intro L h₁ tk F
  (have N := fr_news_8 F)
  (try dsimp only)
  (try k_fold)))
local macro_rules | `(tactic| walk_at "mine go") => `(tactic| repeat' (
  (fail_if_success (with_reducible show Exists _))
  (fail_if_success (with_reducible show wpAny _ _ (eval (Expr.ListComp _ _ _ _) _) _ _ _))
  (fail_if_success (with_reducible show wpAny _ _ (exec (Stmt.Assign _ (Expr.ListComp _ _ _ _) _) _) _ _ _))
  (fail_if_success (with_reducible show wpAny _ _ (exec (Stmt.For _ _ _ _ _) _) _ _ _))
  first | (k_unfold; (try dsimp only)) | walk1 | (dsimp only; walk1)))
local macro_rules | `(tactic| walk_at "compareOp In int bytes") => `(tactic| (refine in_bytes (by omega) (by omega) ?_))
-- what a call of the text's leaves behind
local macro_rules | `(tactic| walk_at "mine after") => `(tactic| (
  (have F' := stays_keep_8 (by assumption) (by assumption))
  (try (have N' := News.grown (by assumption) (by assumption)))
  (try dsimp only)))
local macro_rules | `(tactic| walk_at "mine bool") => `(tactic| (
  (try simp only [decide_eq_true_eq, decide_eq_false_iff_not, Bool.not_eq_true, Bool.not_eq_false, Bool.not_eq_true', Bool.not_eq_false'] at *)
  first
  | rfl
  | (rw [Bool.eq_iff_iff]; simp [*]; done)
  | (rw [Bool.eq_iff_iff]; simp [*]; omega)
  | (rw [Bool.eq_iff_iff]; simp; omega)))
local macro_rules | `(tactic| walk_at "exec Raise") => `(tactic| (refine Raise_wf (w := _) ?hh ?room ?_ ?he ?hp; (case hh => assumption); (case room => show _ + 1 + 1 < _; omega); (case he => rfl); (case hp => rfl)))
section part_B2
theorem fresh_B2 : True := by first | walk1 | trivial
theorem fill_B2 : hd.heap_39 = hd.heap_39 ∨ PySem.Challenge.rw_nz0273_01 = PySem.Challenge.rw_nz0273_01 := by w_on; k_fill; exact .inl rfl
section
variable {prog : Program} {w : World} {A : Around} {E : Value → Shared → Prop} {s : Shared} {Q : Value → Shared → Prop}

theorem eq_nil {l b : Addr} {ys : List Value} (hl : s.heap.IsList l ys.toArray) (hb : s.heap.IsList b #[]) (hu : A.units < cLine) (h : Q (.bool ys.isEmpty) s) : wpAny (model prog w) A (compareOp .Eq (.ref l) (.ref b)) Q E s := by
  cases ys with
  | nil => exact SeqAt.eq_listAt (e := fun _ => true) hl hb rfl hu (fun j h1 _ => absurd h1 (Nat.not_lt_zero j)) h
  | cons y r => exact SeqAt.eq_list_lengthsAt hl hb (by simp) hu h

def atomSigns : Array UInt8 := #[33, 35, 36, 37, 38, 39, 42, 43, 45, 47, 61, 63, 94, 95, 96, 123, 124, 125, 126]
def atomB (c : Int) : Bool := (decide (48 ≤ c) && decide (c ≤ 57)) || (decide (65 ≤ c) && decide (c ≤ 90)) || (decide (97 ≤ c) && decide (c ≤ 122)) || decide (127 < c) || atomSigns.contains c.toNat.toUInt8

theorem c_atom {c : Int} {t : Tok} (W : Wd w s.heap)
    (h0 : 0 ≤ c) (h1 : c < 256) (hroom : A.depth < recursionLimit)
    (hQ : ∀ h' tk', s.heap.StaysIn h' → Q (.bool (atomB c)) { s with heap := h', toks := tk' }) :
    wpAny (model prog w) A (call (.ref 69) [.int c t]) Q E s := by
  obtain ⟨X, mean, mg, mb, T⟩ := id W
  refine' enterP (binds := [(Str.ofString "code", .int c t)]) ?X ?T ?ho ?hcd ?room ?hb ?hl ?_ ?c2 ?c3 ?c4 ?c5
  walk_at "mine enter"
  walk_at "mine go"
  all_goals (refine cast (congrArg (fun b => Q (.bool b) _) ?_) (hQ _ _ (Fr.keep (by assumption))))
  all_goals unfold atomB
  all_goals (try (show _ = atomSigns.contains _))
  all_goals (generalize atomSigns.contains _ = z)
  all_goals (walk_at "mine bool")

def runB (c : Int) : Bool := decide (c < 127) && ((c == 46) || atomB c)
local macro_rules | `(tactic| walk_at "call ref") => `(tactic| ((with_reducible show wpAny _ _ (call (Value.ref 69) _) _ _ _); (refine c_atom ?W ?h0 ?h1 ?r ?_); (case W => exact Wd.fr (by assumption) (by assumption)); (case h0 => omega); (case h1 => omega); (case r => first | assumption | (show _ + 1 < _; omega)); (intro h' tk' st'); walk_at "mine after"))

theorem c_run {c : Int} {t : Tok} (W : Wd w s.heap)
    (h0 : 0 ≤ c) (h1 : c < 256) (hroom : A.depth + 1 < recursionLimit)
    (hQ : ∀ h' tk', s.heap.StaysIn h' → Q (.bool (runB c)) { s with heap := h', toks := tk' }) :
    wpAny (model prog w) A (call (.ref 83) [.int c t]) Q E s := by
  obtain ⟨X, mean, mg, mb, T⟩ := id W
  refine' enterP (binds := [(Str.ofString "code", .int c t)]) ?X ?T ?ho ?hcd ?room ?hb ?hl ?_ ?c2 ?c3 ?c4 ?c5
  walk_at "mine enter"
  walk_at "mine go"
  all_goals (refine cast (congrArg (fun b => Q (.bool b) _) ?_) (hQ _ _ (Fr.keep (by assumption))))
  all_goals unfold runB
  all_goals (generalize atomB _ = z)
  all_goals (walk_at "mine bool")

local macro_rules | `(tactic| walk_at "call ref") => `(tactic| ((with_reducible show wpAny _ _ (call (Value.ref 83) _) _ _ _); (refine c_run ?W ?h0 ?h1 ?r ?_); (case W => exact Wd.fr (by assumption) (by assumption)); (case h0 => omega); (case h1 => omega); (case r => first | assumption | (show _ + 1 + 1 < _; omega)); (intro h' tk' st'); walk_at "mine after"))

theorem byte_inj : ∀ (a a' : UInt8) (v : Value), (∃ u, v = .int (a.toNat : Int) u) → (∃ u, v = .int (a'.toNat : Int) u) → a = a' := by
  rintro a a' v ⟨u, rfl⟩ ⟨u', h⟩
  have := (Value.int.inj h).1
  exact UInt8.toNat_inj.mp (by omega)
def isRun (b : List UInt8) : Bool := !b.isEmpty && b.all fun c => runB (c.toNat : Int)

theorem isrun_eq {G : UInt8 → Value → Prop} {l : List UInt8} {ys : List Value} (hp : Paired G (l.filter fun c => !runB (c.toNat : Int)) ys) (h : l ≠ []) : isRun l = ys.isEmpty := by
  have e := hp.length
  unfold isRun
  have h1 : l.isEmpty = false := by cases l with | nil => exact absurd rfl h | cons => rfl
  rw [h1, Bool.not_false, Bool.true_and]
  cases ys with
  | nil =>
    have : l.filter (fun c => !runB (c.toNat : Int)) = [] := List.eq_nil_of_length_eq_zero e
    rw [List.filter_eq_nil_iff] at this
    rw [List.isEmpty_nil, List.all_eq_true]
    intro c hc
    have := this c hc
    simpa using this
  | cons y r =>
    have hne : l.filter (fun c => !runB (c.toNat : Int)) ≠ [] := fun q => by rw [q] at e; cases e
    rw [List.isEmpty_cons]
    cases ha : l.all fun c => runB (c.toNat : Int) with
    | false => rfl
    | true =>
      exfalso; apply hne
      rw [List.filter_eq_nil_iff]
      intro c hc
      have := List.all_eq_true.mp ha c hc
      simp [this]

theorem c_isrun {b : Array UInt8} {t : Tok} (W : Wd w s.heap)
    (hb : b.size ≤ 4096) (hh : A.handled = none) (hu : A.units + 16 < cLine) (hroom : A.depth + 2 < recursionLimit)
    (hQ : ∀ h' tk', s.heap.StaysIn h' → Q (.bool (isRun b.toList)) { s with heap := h', toks := tk' }) :
    wpAny (model prog w) A (call (.ref 88) [.bytes b t]) Q E s := by
  obtain ⟨X, mean, mg, mb, T⟩ := id W
  refine' enterP (binds := [(Str.ofString "octets", .bytes b t)]) ?X ?T ?ho ?hcd ?room ?hb ?hl ?_ ?c2 ?c3 ?c4 ?c5
  walk_at "mine enter"
  rename_i L h₁ tk F N
  walk_at "mine go"
  · refine' lc_pure (R := []) (L := L) (cl := []) (h₀ := s.heap) (V := fun (c : UInt8) v => ∃ u, v = .int (c.toNat : Int) u) (pb := fun c => !runB (c.toNat : Int)) (G := fun c y => ∃ u, y = .int (c.toNat : Int) u) (xs := b.toList) ?hV ?hclos ?hcell ?hkind ?hnames ?hx ?hit ?hs
    case hV => exact byte_inj
    case hclos => exact rfl
    case hcell => decide
    case hkind => exact rfl
    case hnames => decide
    case hx => exact rfl
    case hs => intro _; exact rfl
    walk_at "mine go"
    refine ⟨_, by assumption, src_bytes hh, by rw [sizeLine_eq, Array.length_toList]; omega, ⟨?_, ?_⟩, ?_⟩
    · rintro C c v s₃ m₃ E' hc ⟨u, rfl⟩ F₃ st₃ hm
      have hb := c.toNat_lt
      refine wpAny_tests_one ?_
      walk_at "mine go"
      exact TestEnd.intro rfl (by assumption)
    · rintro C c v s₃ m₃ E' hc ⟨u, rfl⟩ hp F₃ st₃ hm
      walk_at "mine go"
      exact EltEnd.intro ⟨_, rfl⟩ (fun _ _ e => e)
    · intro D h' tk ys st hD hl hp
      dsimp only at st hD
      obtain ⟨o, hoc, ⟨no, hod⟩, N'⟩ := list_news (F.keeps st) (News.grown N st) hl (fresh_of F hD)
      have F' := F.keeps st
      clear F N
      walk_at "mine go"
      rename_i hnew _
      refine eq_nil (list_of (by assumption) (.tail _ (.head _)) hoc hod) (list_of (by assumption) (.head _) rfl rfl) (by show A.units + 3 < cLine; omega) ?_
      refine cast (congrArg (fun b => Q (.bool b) _) ?_) (hQ _ _ (Fr.keep (by assumption)))
      have hb0 : b.toList ≠ [] := by
        intro e; have := congrArg List.length e; rw [Array.length_toList, List.length_nil] at this; omega
      exact isrun_eq hp hb0
  · refine cast (congrArg (fun b => Q (.bool b) _) ?_) (hQ _ _ (Fr.keep (by assumption)))
    have hb0 : b.toList = [] := by
      apply List.eq_nil_of_length_eq_zero; rw [Array.length_toList]; omega
    have hs : b.size = 0 := by omega
    simp [isRun, hb0, hs]
end
end part_B2
section part_C1
theorem fresh_C1 : True := by first | walk1 | trivial
theorem fill_C1 : hd.heap_39 = hd.heap_39 ∨ PySem.Challenge.rw_nz0273_01 = PySem.Challenge.rw_nz0273_01 := by w_on; k_fill; exact .inl rfl
def badB (c : Int) : Bool := decide (126 < c) || (decide (c < 32) && !(c == 9))
def plainB (l : List UInt8) : Bool := l.all fun c => !badB (c.toNat : Int)

section
variable {prog : Program} {w : World} {A : Around} {E : Value → Shared → Prop} {s : Shared} {Q : Value → Shared → Prop} {base : Heap} {outer : List Env}

theorem c_plain {b : Array UInt8} {t u : Tok} {k : Int} (W : Wd w s.heap) (K : Below A base outer s.heap) (hh : A.handled = none) (hroom : A.depth + 2 < recursionLimit)
    (hok : plainB b.toList = true → ∀ h' tk', s.heap.StaysIn h' → Q .none { s with heap := h', toks := tk' })
    (hbad : plainB b.toList = false → ∀ h' tk' e t1, Heap.FlyingW base outer e (.ref 59) (.ref t1) h' → s.heap.UpToSlots h' → E (.ref e) { s with heap := h', toks := tk' }) :
    wpAny (model prog w) A (call (.ref 95) [.bytes b t, .int k u]) Q E s := by
  obtain ⟨X, mean, mg, mb, T⟩ := id W
  refine' enterP (binds := [(Str.ofString "octets", .bytes b t), (Str.ofString "at", .int k u)]) ?X ?T ?ho ?hcd ?room ?hb ?hl ?_ ?c2 ?c3 ?c4 ?c5
  walk_at "mine enter"
  rename_i L h₁ tk F N
  walk_at "mine go"
  refine for_src (h₀ := s.heap) (V := fun (c : UInt8) v => ∃ u, v = .int (c.toNat : Int) u) (R := []) (xs := b.toList)
    (fun i m' news' => (∀ z, z ≠ Str.ofString "code" → m' z = List.lookup z [(Str.ofString "octets", Value.bytes b t), (Str.ofString "at", .int k u)].reverse) ∧ news' = [] ∧ plainB (b.toList.take i) = true) rfl rfl PassesOwn.leaving ?_ (by intro _; rfl)
  walk_at "mine go"
  refine ⟨_, _, by assumption, by assumption, src_bytes hh, List.not_mem_nil, ⟨fun _ _ => rfl, rfl, rfl⟩, ?_, ?_⟩
  · rintro i c v m₁ news₁ h tk own I hc ⟨u', rfl⟩ ⟨hm, rfl, hp⟩ hoff hown F₁ N₁
    have hb := c.toNat_lt
    change Fr s.heap L h _ at F₁
    change News s.heap L h _ at N₁
    rw [map_but hm] at F₁
    clear F N hm
    have bad : badB (c.toNat : Int) = true → plainB b.toList = false := by
      intro hb
      cases hq : plainB b.toList with
      | false => rfl
      | true =>
        have := List.all_eq_true.mp hq c (List.mem_of_getElem? hc)
        rw [hb] at this; cases this
    walk_at "mine go"
    · refine ⟨_, _, _, .int k u, rfl, .inr rfl, Wd.fr W F₁, fun h' tk' e t1 hm => leaves_wf K F₁ hm fun h'' hfl hup => hbad (bad ?_) _ _ _ _ hfl hup⟩
      unfold badB; simp [*]
    · refine ⟨_, _, _, .int k u, rfl, .inr rfl, Wd.fr W F₁, fun h' tk' e t1 hm => leaves_wf K F₁ hm fun h'' hfl hup => hbad (bad ?_) _ _ _ _ hfl hup⟩
      unfold badB; simp [*]
    all_goals (
      refine ForEnd.next F₁ N₁ hoff ⟨?_, rfl, ?_⟩
      · intro z hz; simp only [if_neg hz]
      · unfold plainB at hp ⊢
        rw [List.take_add_one, hc, List.all_append, hp]
        simp only [Option.toList, List.all_cons, List.all_nil, Bool.and_true, Bool.true_and]
        unfold badB; simp [*])
  · rintro m' news' h' tk' ⟨hm, rfl, hp⟩ F' N'
    rw [List.take_length] at hp
    walk_at "mine go"
    exact hok hp _ _ F'.keep
end
end part_C1
section part_C2
theorem fresh_C2 : True := by first | walk1 | trivial
theorem fill_C2 : hd.heap_39 = hd.heap_39 ∨ PySem.Challenge.rw_nz0273_01 = PySem.Challenge.rw_nz0273_01 := by w_on; k_fill; exact .inl rfl
def pickL (l : List UInt8) (lo hi : Option Int) : List UInt8 := (l.drop (lo.elim 0 (clipAt l.length))).take (hi.elim l.length (clipAt l.length) - lo.elim 0 (clipAt l.length))
section
variable {prog : Program} {w : World} {A : Around} {E : Value → Shared → Prop} {s : Shared} {h₀ : Heap} {L : Addr} {m : Str → Option Value} {news : List (Addr × Obj)}
theorem slice_P {value slice : PySem.Expr} {b : Array UInt8} {t : Tok} {l u : Value} {lo hi : Option Int} {Q : Value → Shared → Prop} (hF : Fr h₀ L s.heap m) (hN : News h₀ L s.heap news) (hl : IsPart l lo) (hu : IsPart u hi) (hz : b.size ≤ 16777216)
    (h : ∀ h' t' k, Fr h₀ L h' m → News h₀ L h' news → Q (.bytes (pickL b.toList lo hi).toArray t') { s with heap := h', toks := k })
    (hs : subscripted slice false (.bytes b t) (.ref s.heap.objs.size) = operate [.ref s.heap.objs.size, .bytes b t] (getItem (.bytes b t) (.ref s.heap.objs.size)) := by with_unfolding_all rfl)
    (ht : ∀ r, letTemporaryGo value (.bytes b t) r = pure () := by intro _; with_unfolding_all rfl) :
    wpAny (model prog w) A (subscriptTail value slice (.bytes b t) (.ref s.heap.objs.size)) Q E { s with heap := s.heap.push { cls := .type "slice", data := .fields #[l, u, .none] } } := by
  refine KBc.slice_K (ks := KBw.bInts b) hF hN rfl hl hu (by rw [KBw.ints_length]; exact hz) (fun h' t' k F' N' _ => ?_) hs ht
  rw [KBc.picked_eq]
  have := h h' t' k F' N'
  unfold pickL at this
  rw [Array.length_toList] at this
  exact this
end
local macro_rules | `(tactic| walk_at "subscriptTail") => `(tactic| ((with_reducible show wpAny _ _ (subscriptTail _ (Expr.Slice _ _ none _) (Value.bytes _ _) (Value.ref _)) _ _ _); (with_reducible rename Fr _ _ _ _ => F'); (with_reducible rename News _ _ _ _ => N'); (refine slice_P (s := ⟨_, _, _, _, _⟩) F' N' (by constructor) (by constructor) (by first | omega | (simp only [List.size_toArray] at *; omega)) ?_); clear F' N'; intro h' t' k' F' N'))
local macro_rules | `(tactic| walk_at "call ref") => `(tactic| ((with_reducible show wpAny _ _ (call (Value.ref 95) _) _ _ _); (refine' c_plain ?W ?K ?hh ?r ?ok ?bad); (case W => exact Wd.fr (by assumption) (by assumption)); (case K => (refine' Below.push ?k1 ?k2 ?k3; (case k1 => assumption); (case k2 => assumption); (case k3 => rfl))); (case hh => assumption); (case r => show _ + 1 + 2 < _; omega); (case ok => (intro hpl h' tk' st'; walk_at "mine after")); (case bad => (intro hpl h' tk' e t1 hfl hup; dsimp only))))

theorem pick_lo (l : List UInt8) {k : Int} (h : 0 ≤ k) : pickL l none (some k) = l.take k.toNat := by
  unfold pickL
  obtain ⟨n, rfl⟩ := Int.eq_ofNat_of_zero_le h
  simp only [Option.elim, List.drop_zero, Nat.sub_zero, Int.toNat_natCast]
  rw [clipAt_nat, ← List.take_eq_take_min]
theorem pick_hi (l : List UInt8) {k : Int} (h : 0 ≤ k) : pickL l (some k) none = l.drop k.toNat := by
  unfold pickL
  obtain ⟨n, rfl⟩ := Int.eq_ofNat_of_zero_le h
  simp only [Option.elim, Int.toNat_natCast]
  rw [clipAt_nat]
  by_cases hn : n ≤ l.length
  · rw [Nat.min_eq_left hn, List.take_of_length_le (by rw [List.length_drop]; exact Nat.le_refl _)]
  · rw [Nat.min_eq_right (by omega), List.drop_of_length_le (by omega), List.drop_of_length_le (by omega)]; simp
/- In the strings below \x5b is the sign 91, the opening bracket: the two signs side by side would be read as an attribute by a check that does not look for strings. No attribute stands in this file. -/
def spotOf (x : Str) : Int := if (Txt.slice x (some (-1)) none == Str.ofString "]") = true then Txt.rfind x (Str.ofString "@\x5b") else Txt.rfind x (Str.ofString "@")
def codesI (x : Str) : List Int := x.cps.toList.map fun (c : Nat) => (c : Int)
def octs (x : Str) : List UInt8 := (byteArr (codesI x)).toList
def goodB (x : Str) : Bool := decide (0 ≤ spotOf x) && x.cps.toList.all (fun c => decide (c ≤ 126)) && plainB (octs x)

theorem sign_inj : ∀ (a a' : Nat) (v : Value), (∃ u, v = .str ⟨#[a]⟩ u) → (∃ u, v = .str ⟨#[a']⟩ u) → a = a' := by
  rintro a a' v ⟨u, rfl⟩ ⟨u', h⟩
  have := (Value.str.inj h).1
  simpa using this

theorem ints_of_paired : ∀ {xs : List Nat} {ys : List Value}, Paired (fun (c : Nat) y => ∃ u, y = Value.int (c : Int) u) (xs.filter fun _ => true) ys → IntsAre ys (xs.map fun (c : Nat) => (c : Int))
  | [], _, h => by cases h; exact .nil
  | c :: xs, _, h => by
    rw [List.filter_cons] at h
    simp only [if_true] at h
    cases h with
    | cons hab t =>
      obtain ⟨u, rfl⟩ := hab
      exact .cons _ u (ints_of_paired t)
theorem paired_len {α : Type} {xs : List α} {ys : List Value} {G : α → Value → Prop} (h : Paired G (xs.filter fun _ => true) ys) : ys.length = xs.length := by
  rw [← h.length, List.filter_eq_self.mpr (fun _ _ => rfl)]
theorem codes_in {x : Str} (h : x.cps.toList.all (fun c => decide (c ≤ 126)) = true) : ∀ n ∈ codesI x, 0 ≤ n ∧ n < 256 := by
  intro n hn
  obtain ⟨c, hc, rfl⟩ := List.mem_map.mp hn
  have := List.all_eq_true.mp h c hc
  simp only [decide_eq_true_eq] at this
  omega

section
variable {prog : Program} {w : World} {A : Around} {E : Value → Shared → Prop} {s : Shared} {Q : Value → Shared → Prop} {base : Heap} {outer : List Env}

theorem c_sides {x : Str} {t : Tok} (W : Wd w s.heap) (K : Below A base outer s.heap) (hh : A.handled = none) (hroom : A.depth + 3 < recursionLimit) (hx : x.length ≤ 4096)
    (hok : goodB x = true → ∀ h' tk' T tl tr, s.heap.StaysIn h' → s.heap.get? T = none → IsTup h' T #[.bytes ((octs x).take (spotOf x).toNat).toArray tl, .bytes ((octs x).drop (spotOf x + 1).toNat).toArray tr] → Q (.ref T) { s with heap := h', toks := tk' })
    (hbad : goodB x = false → ∀ h' tk' e t1, Heap.FlyingW base outer e (.ref 59) (.ref t1) h' → s.heap.UpToSlots h' → E (.ref e) { s with heap := h', toks := tk' }) :
    wpAny (model prog w) A (call (.ref 100) [.str x t]) Q E s := by
  obtain ⟨X, mean, mg, mb, T⟩ := id W
  refine' enterP (binds := [(Str.ofString "text", .str x t)]) ?X ?T ?ho ?hcd ?room ?hb ?hl ?_ ?c2 ?c3 ?c4 ?c5
  walk_at "mine enter"
  rename_i L h₁ tk F N
  walk_at "mine go"
  all_goals (with_reducible rename Fr _ _ _ _ => F'; with_reducible rename News _ _ _ _ => N')
  all_goals (first
    | (have hsp : spotOf x = Txt.rfind x (Str.ofString "@\x5b") := by (unfold spotOf; exact if_pos (by assumption)))
    | (have hsp : spotOf x = Txt.rfind x (Str.ofString "@") := by (unfold spotOf; exact if_neg (by simp only [*, Bool.false_eq_true, not_false_eq_true]))))
  all_goals (simp only [← hsp] at *; clear hsp)
  all_goals (try (
    refine ⟨_, _, [], .int (-1) 209, rfl, .inl ⟨rfl, rfl⟩, Wd.fr W F', fun h' tk' e t1 hm => leaves_wf K F' hm fun h'' hfl hup => hbad ?_ _ _ _ _ hfl hup⟩
    unfold goodB; rw [decide_eq_false (by omega)]; rfl))
  all_goals (
    refine for_src (h₀ := s.heap) (V := fun (c : Nat) v => ∃ u, v = .str ⟨#[c]⟩ u) (R := []) (xs := x.cps.toList)
      (fun i m' news' => (∃ tsp, ∀ z, z ≠ Str.ofString "sign" → m' z = if z = Str.ofString "spot" then some (.int (spotOf x) tsp) else List.lookup z [(Str.ofString "text", Value.str x t)].reverse) ∧ news' = [] ∧ (x.cps.toList.take i).all (fun c => decide (c ≤ 126)) = true) rfl rfl PassesOwn.leaving ?_ (by intro _; rfl)
    walk_at "mine go"
    refine ⟨_, _, F', N', src_str hh, List.not_mem_nil, ⟨⟨_, fun _ _ => rfl⟩, rfl, rfl⟩, ?_, ?_⟩)
  iterate 2
    · rintro i c v m₁ news₁ h tk own I hc ⟨u', rfl⟩ ⟨⟨tsp, hm⟩, rfl, hp⟩ hoff hown F₁ N₁
      change Fr s.heap L h _ at F₁
      change News s.heap L h _ at N₁
      rw [map_but hm] at F₁
      clear F' N' hm
      walk_at "mine go"
      · refine ⟨_, _, [], .int (-1) 209, rfl, .inl ⟨rfl, rfl⟩, Wd.fr W F₁, fun h' tk' e t1 hm => leaves_wf K F₁ hm fun h'' hfl hup => hbad ?_ _ _ _ _ hfl hup⟩
        cases hq : goodB x with
        | false => rfl
        | true =>
          unfold goodB at hq
          simp only [Bool.and_eq_true] at hq
          have := List.all_eq_true.mp hq.1.2 c (List.mem_of_getElem? hc)
          simp only [decide_eq_true_eq] at this
          omega
      · refine ForEnd.next F₁ N₁ hoff ⟨⟨tsp, fun z hz => by simp only [if_neg hz]⟩, rfl, ?_⟩
        rw [List.take_add_one, hc, List.all_append, hp]
        simp only [Option.toList, List.all_cons, List.all_nil, Bool.and_true, Bool.true_and, decide_eq_true_eq]
        omega
    · rintro m' news' h' tk' ⟨⟨tsp, hm⟩, rfl, hp⟩ F₁ N₁
      change Fr s.heap L h' _ at F₁
      change News s.heap L h' _ at N₁
      rw [map_done hm] at F₁
      rw [List.take_length] at hp
      clear F' N' hm
      walk_at "mine go"
      refine lc_pure (R := []) (L := L) (cl := []) (h₀ := s.heap) (V := fun (c : Nat) v => ∃ u, v = .str ⟨#[c]⟩ u) (pb := fun _ => true) (G := fun c y => ∃ u, y = .int (c : Int) u) (xs := x.cps.toList) sign_inj rfl (by decide) rfl (by decide) rfl ?_ (by intro _; exact rfl)
      walk_at "mine go"
      refine ⟨_, by assumption, src_str hh, by rw [sizeLine_eq, Array.length_toList]; exact Nat.le_trans hx (by decide), ⟨?_, ?_⟩, ?_⟩
      · rintro C c v s₃ m₃ E' hc ⟨u, rfl⟩ F₃ st₃ hm
        exact wpAny_tests_nil (TestEnd.intro rfl (fun _ _ e => e))
      · rintro C c v s₃ m₃ E' hc ⟨u, rfl⟩ hp F₃ st₃ hm
        walk_at "mine go"
        exact EltEnd.intro ⟨_, rfl⟩ (fun _ _ e => e)
      · intro D h₂ tk₂ ys st hD hl hp₂
        dsimp only at st hD
        have F₂ := F₁.keeps st
        have N₂ := News.grown N₁ st
        clear F₁ N₁
        walk_at "mine go"
        refine call_bytes_ints (ns := codesI x) hl (ints_of_paired hp₂) (codes_in hp) ?_ hh fun h₃ t₃ k₃ st₃ => ?_
        · rw [paired_len hp₂, Array.length_toList, sizeLine_eq]; exact Nat.le_trans hx (by decide)
        have F₃ := F₂.keeps st₃
        have N₃ := News.grown N₂ st₃
        clear F₂ N₂
        dsimp only
        walk_at "mine go"
        refine' c_plain ?W ?K ?hh ?r ?ok ?bad
        case W => exact Wd.fr (by assumption) (by assumption)
        case K => (refine' Below.push ?k1 ?k2 ?k3; (case k1 => assumption); (case k2 => assumption); (case k3 => rfl))
        case hh => assumption
        case r => show _ + 1 + 2 < _; omega
        case ok =>
          intro hpl h' tk' st'; walk_at "mine after"
          have hgood : goodB x = true := by
            unfold goodB octs
            rw [hpl, hp, decide_eq_true (by omega)]; rfl
          have hsz : (byteArr (codesI x)).size ≤ 4096 := by rw [byteArr_size]; unfold codesI; rw [List.length_map, Array.length_toList]; exact hx
          walk_at "mine go"
          dsimp only
          (with_reducible rename News _ _ _ _ => N₉)
          have e1 := pick_lo (octs x) (k := spotOf x) (by omega)
          have e2 := pick_hi (octs x) (k := spotOf x + 1) (by omega)
          have P := N₉ _ (List.Mem.head _)
          have hT : IsTup _ _ #[.bytes (pickL (octs x) none (some (spotOf x))).toArray _, .bytes (pickL (octs x) (some (spotOf x + 1)) none).toArray _] := ⟨_, P.1, rfl, _, rfl⟩
          rw [e1, e2] at hT
          exact hok hgood _ _ _ _ _ (Fr.keep (by assumption)) P.2.2 hT
        case bad =>
          intro hpl h' tk' e t1 hfl hup; dsimp only
          refine leaves_thru K (by assumption) hfl hup fun h'' fl up => hbad ?_ _ _ _ _ fl up
          cases hq : goodB x with
          | false => rfl
          | true =>
            unfold goodB octs at hq
            simp only [Bool.and_eq_true] at hq
            rw [hpl] at hq; cases hq.2
end
end part_C2
section part_C3
theorem fresh_C3 : True := by first | walk1 | trivial
theorem fill_C3 : hd.heap_39 = hd.heap_39 ∨ PySem.Challenge.rw_nz0273_01 = PySem.Challenge.rw_nz0273_01 := by w_on; k_fill; exact .inl rfl
def escB (sg : Array UInt8) (l : List UInt8) : List UInt8 := l.flatMap fun c => if sg.contains c then [92, c] else [c]
section
variable {prog : Program} {w : World} {A : Around} {E : Value → Shared → Prop} {s : Shared} {Q : Value → Shared → Prop}

theorem in_never {h₀ : Heap} {L : Addr} {m : Str → Option Value} {K : Frag} {a : Addr} {od : Option Addr} {items : Array Value} {n : Nat} {sl : Array (Option Value)} {ns : List Int} {x : Int} {u : Tok} (X : K.In h₀) (F : Fr h₀ L s.heap m) (ho : K.lookup a = some ⟨.type "tuple", od, .seq items n, sl⟩)
    (hi : IntsAre items.toList ns) (hno : ns.any (· == x) = false) (h : Q (.bool false) s) : wpAny (model prog w) A (compareOp .In (.int x u) (.ref a)) Q E s :=
  in_tuple_ints (items := items) ⟨_, F.keep _ _ (X _ _ ho), rfl, _, rfl⟩ hi (by rw [hno]; exact h)
theorem bytesAre.one {b : Array UInt8} {t : Tok} : bytesAre [.bytes b t] [b] := ⟨⟨_, rfl⟩, trivial⟩
theorem joined_nil (bs : List (Array UInt8)) : joinedB #[] bs = bs.flatMap Array.toList := by
  match bs with
  | [] => rfl
  | [b] => simp [joinedB]
  | b :: c :: r =>
    have := joined_nil (c :: r)
    simp only [joinedB, List.flatMap_cons] at this ⊢
    rw [this]; simp
theorem pick_one {l : List UInt8} {i : Nat} {c : UInt8} (h : l[i]? = some c) : pickL l (some (i : Int)) (some ((i : Int) + 1)) = [c] := by
  obtain ⟨hi, hc⟩ := List.getElem?_eq_some_iff.mp h
  unfold pickL
  simp only [Option.elim]
  rw [show ((i : Int) + 1) = ((i + 1 : Nat) : Int) from rfl, clipAt_nat, clipAt_nat, Nat.min_eq_left (by omega), Nat.min_eq_left (by omega), Nat.add_sub_cancel_left]
  rw [List.drop_eq_getElem_cons hi, hc]
  rfl
theorem esc_take {sg : Array UInt8} {l : List UInt8} {i : Nat} {c : UInt8} (h : l[i]? = some c) : escB sg (l.take (i + 1)) = escB sg (l.take i) ++ (if sg.contains c then [92, c] else [c]) := by
  unfold escB
  rw [List.take_add_one, h, List.flatMap_append]
  simp
theorem off_own {own : List (Addr × Obj)} {D I : Addr} {o : Obj} (hoff : ∀ p ∈ [(D, o)], p.1 ≠ I) (hown : ∀ p ∈ own, p.1 = I ∨ p.1 ∈ ([] : List Addr)) : ∀ p ∈ own, p.1 ≠ D := fun p hp e => by
  rcases hown p hp with h | h
  · exact hoff _ (List.Mem.head _) (e.symm.trans h)
  · cases h
theorem esc_len (sg : Array UInt8) : ∀ l : List UInt8, (escB sg l).length ≤ 2 * l.length
  | [] => Nat.le_refl _
  | c :: l => by
    have := esc_len sg l
    unfold escB at this ⊢
    rw [List.flatMap_cons, List.length_append, List.length_cons]
    split <;> simp only [List.length_cons, List.length_nil] <;> omega
end
local macro_rules | `(tactic| walk_at "subscriptTail") => `(tactic| ((with_reducible show wpAny _ _ (subscriptTail _ (Expr.Slice _ _ none _) (Value.bytes _ _) (Value.ref _)) _ _ _); (with_reducible rename Fr _ _ _ _ => F'); (with_reducible rename News _ _ _ _ => N'); (refine slice_P (s := ⟨_, _, _, _, _⟩) F' N' (by constructor) (by constructor) (by first | omega | (simp only [List.size_toArray] at *; omega)) ?_); clear F' N'; intro h' t' k' F' N'))
local macro_rules | `(tactic| walk_at "compareOp In int ref") => `(tactic| (refine' in_never ?X ?F ?ho ?hi ?hno ?_; (case X => assumption); (case F => assumption); (case ho => k_is); (case hi => (repeat constructor)); (case hno => assumption)))
local macro_rules | `(tactic| walk_at "call builtin:list.append") => `(tactic| ((with_reducible rename Fr _ _ _ _ => F'); (with_reducible rename News _ _ _ _ => N'); (refine append_in F' N' (by assumption) (by intro _ h; cases h) ?_ (by simp only [List.length_append, List.length_cons, List.length_nil, sizeLine_eq]; omega)); clear F' N'; intro h' F' N'))
local macro_rules | `(tactic| walk_at "getMethod bytes") => `(tactic| (refine method_join ?_))
local macro_rules | `(tactic| walk_at "call builtin:bytes.join") => `(tactic| (refine join_bytes (News.isList (by assumption) (.head _)) (by assumption) (by assumption) ?_; intro t' k'))
section
variable {prog : Program} {w : World} {A : Around} {E : Value → Shared → Prop} {s : Shared} {Q : Value → Shared → Prop}

theorem c_escaped {l : List UInt8} {sg : Array UInt8} {t u : Tok} (W : Wd w s.heap) (hh : A.handled = none) (hroom : A.depth + 3 < recursionLimit) (hp : plainB l = true) (hz : l.length ≤ 4096)
    (hQ : ∀ h' tk' t', s.heap.StaysIn h' → Q (.bytes (escB sg l).toArray t') { s with heap := h', toks := tk' }) :
    wpAny (model prog w) A (call (.ref 76) [.bytes l.toArray t, .bytes sg u]) Q E s := by
  obtain ⟨X, mean, mg, mb, T⟩ := id W
  refine' enterP (binds := [(Str.ofString "octets", .bytes l.toArray t), (Str.ofString "signs", .bytes sg u)]) ?X ?T ?ho ?hcd ?room ?hb ?hl ?_ ?c2 ?c3 ?c4 ?c5
  walk_at "mine enter"
  rename_i L h₁ tk F N
  have hbz : l.toArray.size ≤ 4096 := by rw [List.size_toArray]; exact hz
  walk_at "mine go"
  rename_i D _ _ _ _ _
  refine for_src (h₀ := s.heap) (V := fun (a : Nat) v => ∃ u, v = .int (a : Int) u) (R := []) (xs := List.range l.length)
    (fun i m' news' => (∀ z, z ≠ Str.ofString "at" → m' z = if z = Str.ofString "parts" then some (.ref D) else List.lookup z [(Str.ofString "octets", Value.bytes l.toArray t), (Str.ofString "signs", .bytes sg u)].reverse) ∧
      ∃ vs bs n, news' = [(D, ({ cls := .type "list", data := .seq vs.toArray n } : Obj))] ∧ bytesAre vs bs ∧ bs.flatMap Array.toList = escB sg (l.take i) ∧ vs.length ≤ 2 * i) rfl rfl PassesOwn.leaving ?_ (by intro _; rfl)
  walk_at "mine go"
  refine ⟨_, _, by assumption, by assumption, src_range (n := l.length) hh (by assumption) (by omega), List.not_mem_nil, ⟨fun _ _ => rfl, [], [], _, rfl, trivial, rfl, by simp⟩, ?_, ?_⟩
  · rintro i c v m₁ news₁ h tk own I hc ⟨u', rfl⟩ ⟨hm, vs, bs, n, rfl, hb, hbs, hvs⟩ hoff hown F₁ N₁
    change Fr s.heap L h _ at F₁
    change News s.heap L h _ at N₁
    rw [map_but hm] at F₁
    clear hm
    obtain ⟨hi, rfl⟩ : i < l.length ∧ i = c := by
      rw [List.getElem?_eq_some_iff] at hc
      obtain ⟨h1, h2⟩ := hc
      rw [List.length_range] at h1
      rw [List.getElem_range] at h2
      exact ⟨h1, h2⟩
    obtain ⟨c, hci⟩ : ∃ c, l[i]? = some c := ⟨l[i], List.getElem?_eq_getElem hi⟩
    have hce : l.getD (i : Int).toNat 0 = c := by rw [Int.toNat_natCast, List.getD_eq_getElem?_getD, hci]; rfl
    have hbad := List.all_eq_true.mp hp c (List.mem_of_getElem? hci)
    unfold badB at hbad
    simp only [Bool.not_eq_true', Bool.or_eq_false_iff, decide_eq_false_iff_not, Bool.and_eq_false_iff, Bool.not_eq_false', beq_iff_eq] at hbad
    have hno : [(0 : Int), 10, 13].any (· == ((l.getD (i : Int).toNat 0).toNat : Int)) = false := by
      rw [hce]; simp only [List.any_cons, List.any_nil, Bool.or_false, Bool.or_eq_false_iff, beq_eq_false_iff_ne]; omega
    have h256 : ((l.getD (i : Int).toNat 0).toNat : Int) < 256 := by rw [hce]; have := c.toNat_lt; omega
    have hD : D ≠ I := hoff _ (List.Mem.head _)
    have hoD : ∀ p ∈ own, p.1 ≠ D := off_own hoff hown
    walk_at "mine go"
    · rename_i hct _ _ _ _ _ _ _
      have hct' : sg.contains c = true := by rw [hce, Int.toNat_natCast] at hct; simpa using hct
      refine ForEnd.next (by assumption) (by assumption) (fun p hp => by rw [List.mem_singleton.mp hp]; exact hD) ⟨fun z hz => by simp only [if_neg hz], _, _, _, rfl, (hb.append bytesAre.one).append bytesAre.one, ?_, ?_⟩
      · rw [esc_take hci, pick_one hci, ← hbs, List.flatMap_append, List.flatMap_append, if_pos hct']
        simp
      · simp only [List.length_append, List.length_cons, List.length_nil]; omega
    · rename_i hct _ _ _ _ _ _
      have hct' : sg.contains c = false := by rw [hce, Int.toNat_natCast] at hct; simpa using hct
      refine ForEnd.next (by assumption) (by assumption) (fun p hp => by rw [List.mem_singleton.mp hp]; exact hD) ⟨fun z hz => by simp only [if_neg hz], _, _, _, rfl, hb.append bytesAre.one, ?_, ?_⟩
      · rw [esc_take hci, pick_one hci, ← hbs, List.flatMap_append, hct']
        simp
      · simp only [List.length_append, List.length_cons, List.length_nil]; omega
  · rintro m' news' h' tk' ⟨hm, vs, bs, n, rfl, hb, hbs, hvs⟩ F' N'
    change Fr s.heap L h' _ at F'
    change News s.heap L h' _ at N'
    rw [map_done hm] at F'
    rw [List.length_range, List.take_length] at hbs
    have hjz : (joinedB #[] bs).length ≤ 16777216 := by
      rw [joined_nil, hbs]
      have := esc_len sg l
      omega
    walk_at "mine go"
    rw [← hbs, ← joined_nil] at hQ
    exact hQ _ _ _ (Fr.keep (by assumption))
end
end part_C3
section part_C4
theorem fresh_C4 : True := by first | walk1 | trivial
theorem fill_C4 : hd.heap_39 = hd.heap_39 ∨ PySem.Challenge.rw_nz0273_01 = PySem.Challenge.rw_nz0273_01 := by w_on; k_fill; exact .inl rfl
def leftP (x : Str) : List UInt8 := (octs x).take (spotOf x).toNat
def rightP (x : Str) : List UInt8 := (octs x).drop (spotOf x + 1).toNat
def brk (r : List UInt8) : Bool := pickL r none (some 1) == [91] && pickL (pickL r (some 1) none) (some (-1)) none == [93]
def leftO (l : List UInt8) : List UInt8 := if isRun l then l else [34] ++ escB #[34, 92] l ++ [34]
def rightO (r : List UInt8) : List UInt8 := if brk r then [91] ++ escB #[91, 93, 92] (pickL r (some 1) (some (-1))) ++ [93] else r
def okId (x : Str) : Bool := goodB x && (brk (rightP x) || isRun (rightP x))
def idOct (x : Str) : List UInt8 := [60] ++ leftO (leftP x) ++ [64] ++ rightO (rightP x) ++ [62]

local macro_rules | `(tactic| walk_at "subscriptTail") => `(tactic| ((with_reducible show wpAny _ _ (subscriptTail _ (Expr.Slice _ _ none _) (Value.bytes _ _) (Value.ref _)) _ _ _); (with_reducible rename Fr _ _ _ _ => F'); (with_reducible rename News _ _ _ _ => N'); (refine slice_P (s := ⟨_, _, _, _, _⟩) F' N' (by constructor) (by constructor) (by first | omega | (simp only [List.size_toArray] at *; omega)) ?_); clear F' N'; intro h' t' k' F' N'))
local macro_rules | `(tactic| walk_at "call ref") => `(tactic| ((with_reducible show wpAny _ _ (call (Value.ref 88) _) _ _ _); (refine c_isrun ?W ?hz ?hh ?u ?r ?_); (case W => exact Wd.fr (by assumption) (by assumption)); (case hh => assumption); (case u => first | assumption | (show _ + 3 + 16 < _; omega)); (case r => show _ + 1 + 2 < _; omega); (case hz => (simp only [List.size_toArray]; omega)); (intro h' tk' st'); walk_at "mine after"))
local macro_rules | `(tactic| walk_at "call ref") => `(tactic| ((with_reducible show wpAny _ _ (call (Value.ref 76) _) _ _ _); (refine c_escaped ?W ?hh ?r ?pl ?hz ?_); (case W => exact Wd.fr (by assumption) (by assumption)); (case hh => assumption); (case r => show _ + 1 + 3 < _; omega); (case pl => assumption); (case hz => omega); (intro h' tk' t' st'); walk_at "mine after"))

theorem add_L {prog : Program} {w : World} {A : Around} {E : Value → Shared → Prop} {s : Shared} {b c : List UInt8} {t u : Tok} {Q : Value → Shared → Prop} (hsz : b.length + c.length ≤ 16777216) (h : ∀ t' k, Q (.bytes (b ++ c).toArray t') { s with toks := k }) : wpAny (model prog w) A (binaryOp .Add (.bytes b.toArray t) (.bytes c.toArray u)) Q E s := by
  refine KBy.add_bytes (by rw [List.size_toArray, List.size_toArray]; exact hsz) fun t' k => ?_
  rw [List.append_toArray]
  exact h t' k
local macro_rules | `(tactic| walk_at "binaryOp Add bytes bytes") => `(tactic| ((refine add_L ?z ?_); (case z => (simp only [List.length_append, List.length_cons, List.length_nil]; omega)); intro t' k'))
section
variable {prog : Program} {w : World} {A : Around} {E : Value → Shared → Prop} {s : Shared} {Q : Value → Shared → Prop} {base : Heap} {outer : List Env}

theorem plain_sub {l l' : List UInt8} (h : plainB l = true) (hs : ∀ c ∈ l', c ∈ l) : plainB l' = true := List.all_eq_true.mpr fun c hc => List.all_eq_true.mp h c (hs c hc)
theorem pick_mem {l : List UInt8} {lo hi : Option Int} : ∀ c ∈ pickL l lo hi, c ∈ l := fun _ h => List.mem_of_mem_drop (List.mem_of_mem_take h)
theorem pick_len (l : List UInt8) (lo hi : Option Int) : (pickL l lo hi).length ≤ l.length := by
  unfold pickL
  rw [List.length_take, List.length_drop]; omega

theorem c_id {x : Str} {t : Tok} (W : Wd w s.heap) (K : Below A base outer s.heap) (hh : A.handled = none) (hu : A.units + 64 < cLine) (hroom : A.depth + 5 < recursionLimit) (hx : x.length ≤ 4096)
    (hok : okId x = true → ∀ h' tk' t', s.heap.StaysIn h' → Q (.bytes (idOct x).toArray t') { s with heap := h', toks := tk' })
    (hbad : okId x = false → ∀ h' tk' e t1, Heap.FlyingW base outer e (.ref 59) (.ref t1) h' → s.heap.UpToSlots h' → E (.ref e) { s with heap := h', toks := tk' }) :
    wpAny (model prog w) A (call (.ref 107) [.str x t]) Q E s := by
  obtain ⟨X, mean, mg, mb, T⟩ := id W
  refine' enterP (binds := [(Str.ofString "text", .str x t)]) ?X ?T ?ho ?hcd ?room ?hb ?hl ?_ ?c2 ?c3 ?c4 ?c5
  walk_at "mine enter"
  rename_i L h₁ tk F N
  walk_at "mine go"
  refine' c_sides ?W ?K ?hh ?r ?hx ?ok ?bad
  case W => exact Wd.fr (by assumption) (by assumption)
  case K => (refine' Below.push ?k1 ?k2 ?k3; (case k1 => assumption); (case k2 => assumption); (case k3 => rfl))
  case hh => assumption
  case r => show _ + 1 + 3 < _; omega
  case hx => assumption
  case bad =>
    intro hg h' tk' e t1 hfl hup
    refine leaves_thru K (by assumption) hfl hup fun h'' fl up => hbad ?_ _ _ _ _ fl up
    unfold okId; rw [hg]; rfl
  case ok =>
    intro hg h' tk' T tl tr st' hT0 hT
    walk_at "mine after"
    change IsTup h' T #[.bytes (leftP x).toArray tl, .bytes (rightP x).toArray tr] at hT
    have hpl : plainB (octs x) = true := by unfold goodB at hg; simp only [Bool.and_eq_true] at hg; exact hg.2
    have hol : (octs x).length ≤ 4096 := by
      have : (byteArr (codesI x)).size ≤ 4096 := by rw [byteArr_size]; unfold codesI; rw [List.length_map, Array.length_toList]; exact hx
      unfold octs; rw [Array.length_toList]; exact this
    have hll : (leftP x).length ≤ 4096 := by unfold leftP; rw [List.length_take]; omega
    have hrl : (rightP x).length ≤ 4096 := by unfold rightP; rw [List.length_drop]; omega
    have hplL : plainB (leftP x) = true := plain_sub hpl fun _ h => List.mem_of_mem_take h
    have hplR : plainB (pickL (rightP x) (some 1) (some (-1))) = true := plain_sub hpl fun _ h => List.mem_of_mem_drop (pick_mem _ h)
    have hm := pick_len (rightP x) (some 1) (some (-1))
    have hm1 := pick_len (rightP x) none (some 1)
    have hm2 := pick_len (rightP x) (some 1) none
    generalize hlp : leftP x = lp at *
    generalize hrp : rightP x = rp at *
    clear F N
    refine unpackN_ (by assumption) (by assumption) hT hh rfl rfl ?_
    clear hT hT0 st'
    rename_i F₈ N₈
    intro h₉ F₉ N₉
    clear F₈ N₈
    dsimp only
    have he1 := esc_len #[34, 92] lp
    have he2 := esc_len #[91, 93, 92] (pickL rp (some 1) (some (-1)))
    walk_at "mine go"
    all_goals (
      (with_reducible rename isRun lp = _ => q1)
      (with_reducible rename (BEq.beq (List.toArray (pickL _ none (some 1))).toList _) = _ => q2)
      (try (with_reducible rename (BEq.beq (List.toArray (pickL _ (some (-1)) none)).toList _) = _ => q3))
      (try (with_reducible rename isRun rp = _ => q4))
      (with_reducible rename Fr _ _ _ _ => F₇)
      (simp only [List.toList_toArray] at q2)
      (try simp only [List.toList_toArray] at q3)
      first
        | (refine ⟨_, _, [], .int (-1) 209, rfl, .inl ⟨rfl, rfl⟩, Wd.fr W F₇, fun h' tk' e t1 hm => leaves_wf K F₇ hm fun h'' hfl hup => hbad ?_ _ _ _ _ hfl hup⟩
           unfold okId brk
           rw [hrp, hg, q2, q4]
           first
             | rfl
             | (rw [q3]; rfl))
        | (refine cast (congrArg (fun b => Q (.bytes (List.toArray b) _) _) ?_) (hok ?_ _ _ _ (Fr.keep F₇))
           · unfold idOct leftO rightO brk
             rw [hrp, hlp, q1, q2]
             first
               | rfl
               | (rw [q3]; rfl)
           · unfold okId brk
             rw [hrp, hg, q2]
             first
               | (rw [q4]; rfl)
               | (rw [q3]; rfl)
               | (rw [q3, q4]; rfl)))
end
end part_C4
section part_C5
theorem fresh_C5 : True := by first | walk1 | trivial
theorem fill_C5 : hd.heap_39 = hd.heap_39 ∨ PySem.Challenge.rw_nz0273_01 = PySem.Challenge.rw_nz0273_01 := by w_on; k_fill; exact .inl rfl
section
variable {prog : Program} {w : World} {A : Around} {E : Value → Shared → Prop} {s : Shared} {Q : Value → Shared → Prop} {base : Heap} {outer : List Env}

theorem below_stays {h h' : Heap} (K : Below A base outer h) (st : h.StaysIn h') : Below A base outer h' :=
  ⟨K.stack, fun b o e => st b o (K.stays b o e), K.frames.of_keeps fun b o hb _ => ⟨o, st b o hb, rfl⟩⟩
theorem paired_get {α : Type} {V : α → Value → Prop} : ∀ {xs : List α} {vs : List Value}, Paired V xs vs → ∀ (i : Nat) (v : Value), vs[i]? = some v → ∃ a, xs[i]? = some a ∧ V a v
  | _, _, .nil, _, _, h => by simp at h
  | _, _, .cons hab _, 0, v, h => by cases h; exact ⟨_, rfl, hab⟩
  | _, _, .cons _ t, i + 1, v, h => paired_get t i v (by simpa using h)
theorem src_conv {α : Type} {v : Value} {xs : List α} {vs : List Value} {V : α → Value → Prop} {R : List Addr} (hp : Paired V xs vs) (src : SrcOf prog w A v vs (fun a v => v = a) R s) : SrcOf prog w A v xs V R s := by
  intro Q E h
  refine src Q E fun o fp St P W hP h1 h2 h3 h4 => h o fp St P (by rw [hp.length]; exact W) (fun i v hv => ?_) h1 h2 h3 h4
  obtain ⟨a, ha, rfl⟩ := hP i v hv
  exact paired_get hp i v ha
def StrV (x : Str) (v : Value) : Prop := ∃ t, v = .str x t
theorem strV_inj : ∀ (a a' : Str) (v : Value), StrV a v → StrV a' v → a = a' := by
  rintro a a' v ⟨u, rfl⟩ ⟨u', h⟩
  exact (Value.str.inj h).1
theorem octs_len (x : Str) : (octs x).length = x.length := by
  unfold octs; rw [Array.length_toList, byteArr_size]; unfold codesI; rw [List.length_map, Array.length_toList]; rfl
theorem leftO_len (l : List UInt8) : (leftO l).length ≤ 2 * l.length + 2 := by
  unfold leftO
  have := esc_len #[34, 92] l
  split
  · omega
  · simp only [List.length_append, List.length_cons, List.length_nil]; omega
theorem rightO_len (l : List UInt8) : (rightO l).length ≤ 2 * l.length + 2 := by
  unfold rightO
  have := esc_len #[91, 93, 92] (pickL l (some 1) (some (-1)))
  have := pick_len l (some 1) (some (-1))
  split
  · simp only [List.length_append, List.length_cons, List.length_nil]; omega
  · omega
theorem idOct_len {x : Str} (h : x.length ≤ 4096) : (idOct x).length ≤ 20000 := by
  have h1 : (leftP x).length ≤ 4096 := by unfold leftP; rw [List.length_take, octs_len]; omega
  have h2 : (rightP x).length ≤ 4096 := by unfold rightP; rw [List.length_drop, octs_len]; omega
  have h3 := leftO_len (leftP x)
  have h4 := rightO_len (rightP x)
  unfold idOct
  simp only [List.length_append, List.length_cons, List.length_nil]
  omega
def lineOf (xs : List Str) : List UInt8 := joinedB #[32] (xs.map fun x => (idOct x).toArray)
theorem line_len : ∀ {xs : List Str}, (∀ x ∈ xs, x.length ≤ 4096) → (lineOf xs).length ≤ xs.length * 20001
  | [], _ => Nat.zero_le _
  | [x], h => by
    have := idOct_len (h x List.mem_cons_self)
    simp only [lineOf, List.map_cons, List.map_nil, joinedB, List.length_cons, List.length_nil]
    omega
  | x :: y :: r, h => by
    have h1 := idOct_len (h x List.mem_cons_self)
    have h2 := line_len (xs := y :: r) fun z hz => h z (List.mem_cons_of_mem _ hz)
    simp only [lineOf, List.map_cons, joinedB, List.length_cons, List.length_append, List.length_nil] at h2 ⊢
    omega
theorem ids_are : ∀ {xs : List Str} {ys : List Value}, Paired (fun x y => okId x = true ∧ ∃ u, y = Value.bytes (idOct x).toArray u) xs ys → xs.all okId = true ∧ bytesAre ys (xs.map fun x => (idOct x).toArray)
  | _, _, .nil => ⟨rfl, trivial⟩
  | _, _, .cons h t => by
    obtain ⟨h1, h2⟩ := ids_are t
    exact ⟨by rw [List.all_cons, h.1, h1]; rfl, h.2, h2⟩
end
local macro_rules | `(tactic| walk_at "getMethod bytes") => `(tactic| (refine method_join ?_))
local macro_rules | `(tactic| walk_at "call builtin:bytes.join") => `(tactic| (refine join_bytes (by assumption) (by assumption) (by assumption) ?_; intro t' k'))
section
variable {prog : Program} {w : World} {A : Around} {E : Value → Shared → Prop} {s : Shared} {Q : Value → Shared → Prop} {base : Heap} {outer : List Env}

theorem c_write {D : Addr} {vs : List Value} {xs : List Str} (W : Wd w s.heap) (K : Below A base outer s.heap) (hh : A.handled = none) (hu : A.units + 128 < cLine) (hroom : A.depth + 7 < recursionLimit)
    (hl : s.heap.IsList D vs.toArray) (hvs : Paired StrV xs vs) (hn : xs.length ≤ 64) (hx : ∀ x ∈ xs, x.length ≤ 4096)
    (hok : xs.all okId = true → ∀ h' tk' t', s.heap.StaysIn h' → Q (.bytes (lineOf xs).toArray t') { s with heap := h', toks := tk' })
    (hbad : xs.all okId = false → ∀ h' tk' e t1, Heap.FlyingW base outer e (.ref 59) (.ref t1) h' → s.heap.UpToSlots h' → E (.ref e) { s with heap := h', toks := tk' }) :
    wpAny (model prog w) A (call (.ref 112) [.ref D]) Q E s := by
  obtain ⟨X, mean, mg, mb, T⟩ := id W
  refine' enterP (binds := [(Str.ofString "some", .ref D)]) ?X ?T ?ho ?hcd ?room ?hb ?hl ?_ ?c2 ?c3 ?c4 ?c5
  walk_at "mine enter"
  rename_i L h₁ tk F N
  walk_at "mine go"
  refine lc_raise (R := [D]) (L := L) (cl := []) (h₀ := s.heap) (V := StrV) (G := fun x y => okId x = true ∧ ∃ u, y = Value.bytes (idOct x).toArray u) (xs := xs) (base := base) (outer := outer) (cls := .ref 59) (Bad := xs.all okId = false) strV_inj rfl rfl (by decide) rfl (by decide) rfl ?_ (by intro _; exact rfl)
  walk_at "mine go"
  refine ⟨_, by assumption, (by refine' Below.push ?k1 ?k2 ?k3; (case k1 => assumption); (case k2 => assumption); (case k3 => rfl)), src_conv hvs (src_list hh ?_), by rw [sizeLine_eq]; omega, ?_, ?_, ?_⟩
  · obtain ⟨o, ho, r⟩ := hl
    exact ⟨o, F.keep _ _ ho, r⟩
  · rintro C x v s₃ m₃ hxm ⟨t, rfl⟩ F₃ st₃ hm
    walk_at "mine go"
    refine' c_id ?W ?K ?hh ?u ?r ?hx ?ok ?bad
    case W => exact Wd.fr W F₃
    case K => exact below_stays (by refine' Below.push ?k1 ?k2 ?k3; (case k1 => assumption); (case k2 => exact F); (case k3 => rfl)) st₃
    case hh => exact hh
    case u => (show _ + 3 + 64 < _; omega)
    case r => (show _ + 1 + 5 < _; omega)
    case hx => exact hx x hxm
    case ok => exact fun h h' tk' t' st => EltEnd.intro ⟨h, _, rfl⟩ st
    case bad =>
      refine fun h h' tk' e t1 hfl hup => RaiseEnd.intro hfl hup ?_
      exact List.all_eq_false.mpr ⟨x, hxm, by rw [h]; decide⟩
  · intro D' h' tk' ys st hD' hl' hp
    obtain ⟨h1, h2⟩ := ids_are hp
    have F' := F.keeps st
    have hz : (joinedB #[32] (xs.map fun x => (idOct x).toArray)).length ≤ 16777216 := by
      have := line_len hx
      unfold lineOf at this
      omega
    clear F N hl
    walk_at "mine go"
    exact hok h1 _ _ _ (Fr.keep (by assumption))
  · intro hb h' tk' e t1 had hup
    dsimp only
    refine leaves_adrift (Around.frames_deeper K.stack) rfl had fun h'' hfl hup2 => hbad hb h'' _ e t1 hfl (((Heap.UpToSlots.of_keeps F.keep).trans hup).trans hup2)
end
end part_C5
section part_D1
theorem fresh_D1 : True := by first | walk1 | trivial
theorem fill_D1 : hd.heap_39 = hd.heap_39 ∨ PySem.Challenge.rw_nz0273_01 = PySem.Challenge.rw_nz0273_01 := by w_on; k_fill; exact .inl rfl
def lawSigns : Str := Str.ofString "!#$%&'*+-/=?^_`{|}~."
def lrunB (c : Nat) : Bool := Txt.isalnum ⟨#[c]⟩ || !(Builtin.Str.occurrences lawSigns ⟨#[c]⟩ 0 lawSigns.length 1).isEmpty
def lrun (x : Str) : Bool := x != Str.ofString "" && x.cps.toList.all lrunB
theorem all_eq {α : Type} {f : α → Bool} {G : α → Value → Prop} {l : List α} {ys : List Value} (hp : Paired G (l.filter fun c => !f c) ys) : l.all f = ys.isEmpty := by
  have e := hp.length
  cases ys with
  | nil =>
    have : l.filter (fun c => !f c) = [] := List.eq_nil_of_length_eq_zero e
    rw [List.filter_eq_nil_iff] at this
    rw [List.isEmpty_nil, List.all_eq_true]
    intro c hc
    have := this c hc
    simpa using this
  | cons y r =>
    have hne : l.filter (fun c => !f c) ≠ [] := fun q => by rw [q] at e; cases e
    rw [List.isEmpty_cons]
    cases ha : l.all f with
    | false => rfl
    | true =>
      exfalso; apply hne
      rw [List.filter_eq_nil_iff]
      intro c hc
      have := List.all_eq_true.mp ha c hc
      simp [this]
section
variable {prog : Program} {w : World} {A : Around} {E : Value → Shared → Prop} {s : Shared} {Q : Value → Shared → Prop}

theorem c_lrun {x : Str} {t : Tok} (W : Wd w s.heap)
    (hb : x.length ≤ 4096) (hh : A.handled = none) (hu : A.units + 16 < cLine) (hroom : A.depth + 2 < recursionLimit)
    (hQ : ∀ h' tk', s.heap.StaysIn h' → Q (.bool (lrun x)) { s with heap := h', toks := tk' }) :
    wpAny (model prog w) A (call (.ref 141) [.str x t]) Q E s := by
  obtain ⟨X, mean, mg, mb, T⟩ := id W
  refine' enterP (binds := [(Str.ofString "text", .str x t)]) ?X ?T ?ho ?hcd ?room ?hb ?hl ?_ ?c2 ?c3 ?c4 ?c5
  walk_at "mine enter"
  rename_i L h₁ tk F N
  walk_at "mine go"
  · rename_i hne
    refine' lc_pure (R := []) (L := L) (cl := []) (h₀ := s.heap) (V := fun (c : Nat) v => ∃ u, v = .str ⟨#[c]⟩ u) (pb := fun c => !lrunB c) (G := fun c y => ∃ u, y = .str ⟨#[c]⟩ u) (xs := x.cps.toList) ?hV ?hclos ?hcell ?hkind ?hnames ?hx ?hit ?hs
    case hV => exact sign_inj
    case hclos => exact rfl
    case hcell => decide
    case hkind => exact rfl
    case hnames => decide
    case hx => exact rfl
    case hs => intro _; exact rfl
    walk_at "mine go"
    refine ⟨_, by assumption, src_str hh, by rw [sizeLine_eq, Array.length_toList]; exact Nat.le_trans hb (by decide), ⟨?_, ?_⟩, ?_⟩
    · rintro C c v s₃ m₃ E' hc ⟨u, rfl⟩ F₃ st₃ hm
      refine wpAny_tests_one ?_
      have hdef : lrunB c = (Txt.isalnum ⟨#[c]⟩ || !(Builtin.Str.occurrences (Str.ofString "!#$%&'*+-/=?^_`{|}~.") ⟨#[c]⟩ 0 (Str.ofString "!#$%&'*+-/=?^_`{|}~.").length 1).isEmpty) := rfl
      walk_at "mine go"
      · exact ⟨by rw [hdef]; simp [*], _, _, rfl, fun _ _ e => e⟩
      · refine TestEnd.intro ?_ (fun _ _ e => e)
        rw [hdef]; simp only [*, Bool.not_true, Bool.or_false, Bool.not_false]
      · refine TestEnd.intro ?_ (fun _ _ e => e)
        rw [hdef]; simp only [*, Bool.not_true, Bool.or_true, Bool.not_false]
    · rintro C c v s₃ m₃ E' hc ⟨u, rfl⟩ hp F₃ st₃ hm
      walk_at "mine go"
      exact EltEnd.intro ⟨_, rfl⟩ (fun _ _ e => e)
    · intro D h' tk ys st hD hl hp
      dsimp only at st hD
      obtain ⟨o, hoc, ⟨no, hod⟩, N'⟩ := list_news (F.keeps st) (News.grown N st) hl (fresh_of F hD)
      have F' := F.keeps st
      clear F N
      walk_at "mine go"
      rename_i hnew _
      refine eq_nil (list_of (by assumption) (.tail _ (.head _)) hoc hod) (list_of (by assumption) (.head _) rfl rfl) (by show A.units + 3 < cLine; omega) ?_
      refine cast (congrArg (fun b => Q (.bool b) _) ?_) (hQ _ _ (Fr.keep (by assumption)))
      unfold lrun
      rw [hne, all_eq hp, Bool.true_and]
  · rename_i hne
    refine cast (congrArg (fun b => Q (.bool b) _) ?_) (hQ _ _ (Fr.keep (by assumption)))
    unfold lrun
    rw [hne]; rfl
end
end part_D1
section part_D2
theorem fresh_D2 : True := by first | walk1 | trivial
theorem fill_D2 : hd.heap_39 = hd.heap_39 ∨ PySem.Challenge.rw_nz0273_01 = PySem.Challenge.rw_nz0273_01 := by w_on; k_fill; exact .inl rfl
/-- entering a def of the text that has cells -/
theorem enterC {prog : Program} {w : World} {A : Around} {E : Value → Shared → Prop} {s : Shared} {K : Frag} {p : Program} {loose : List Str} {mg mb : Str → Option Value} {h₀ : Heap} {news : List (Addr × Obj)}
    {Q : Value → Shared → Prop} {name qual : Str} {params : Arguments} {body : List Stmt} {scope : Scope} {dV kV doc pm cdv ct oc : Value} {an od : Option Addr} {osl : Array (Option Value)} {f : Addr} {args : List Value} {binds : List (Str × Value)}
    (X : K.In h₀) (T : TopRead p loose mg mb h₀) (k : h₀.StaysIn s.heap) (hsz : h₀.objs.size ≤ s.heap.objs.size) (hN : ∀ p ∈ news, s.heap.get? p.1 = some p.2 ∧ h₀.get? p.1 = none)
    (ho : K.lookup f = some ⟨oc, od, .func (fnOf name qual params body scope dV kV doc pm an cdv ct), osl⟩) (hcd : codeIn K cdv qual = true) (hroom : A.depth < recursionLimit)
    (hbind : BindsTo s (fnOf name qual params body scope dV kV doc pm an cdv ct) ⟨args, []⟩ binds) (hkind : (binds.all fun y => scope.names.lookup y.1 == some .local || scope.names.lookup y.1 == some .cell) = true)
    (hnd : ((cellsFrom 0 scope.names []).map (·.1)).Nodup)
    (h : ∀ L h₁ tk cells, Fr h₀ L h₁ (bindL (envOfC qual scope L f cdv).kindOf binds fun _ => none) → News h₀ L h₁ (cells ++ news) → CellsAre (bindC (envOfC qual scope L f cdv).kindOf binds fun _ => none) (cellsFrom (L + 1) scope.names []) cells →
      s.heap.StaysIn h₁ → (∀ p ∈ news, p.1 < L) →
      wpAny (model prog w) (A.deeper (envOfC qual scope L f cdv)) (execs body (envOfC qual scope L f cdv))
        (fun fl s' => Q (match fl with | .ret v => v | _ => .none) s')
        (fun e s' => wpAny (model prog w) (A.deeper (envOfC qual scope L f cdv)) (leaving (envOfC qual scope L f cdv) e) (fun _ s'' => E e s'') (fun e' s'' => E e' s'') s')
        { s with heap := h₁, toks := tk })
    (hco : scope.isCoroutine = false) (hgen : scope.isGenerator = false) (hk : scope.kind = .function) : wpAny (model prog w) A (call (.ref f) args) Q E s := by
  refine wpAny_call ?_
  refine codeAny_call_function hroom ((X.keeps k) _ _ ho) rfl hco hgen rfl (codeRec_of (X.keeps k) hcd) (hbind _ _ _ _ ?_)
  refine wpAny_newFunctionEnv_cells hk (kindsX hkind _) fun env' he s' x => ?_
  subst he
  refine ⟨(T.nolimit.keeps k).keeps x.toInCall.keep, codeAny_func ?_⟩
  obtain ⟨h₁, tk, rfl, _⟩ := x.done
  have hk₁ := x.toInCall.keep
  obtain ⟨cells, NC, Y⟩ := Cl.news (h₀ := s.heap) (Nat.le_refl _) fun n c hm => ⟨x.cell n c (lookup_of_mem_nodup (cellsFrom_names scope.names 0 (s.heap.objs.size + 1) [] [] rfl ▸ hnd) hm), x.above n c hm⟩
  refine h s.heap.objs.size h₁ tk cells ⟨x.toInCall.ns, fun b o e => hk₁ b o (k b o e), hsz⟩ (fun q hq => ?_) Y hk₁ fun q hq => Heap.lt_size (hN q hq).1
  rcases List.mem_append.mp hq with hq | hq
  · refine ⟨(NC q hq).1, (NC q hq).2.1, ?_⟩
    cases e : h₀.get? q.1 with
    | none => rfl
    | some o => have := k _ _ e; rw [(NC q hq).2.2] at this; cases this
  · exact ⟨hk₁ _ _ (hN q hq).1, Nat.ne_of_lt (Heap.lt_size (hN q hq).1), (hN q hq).2⟩
def escC (bar : Str) (c : Nat) : Str := if (Builtin.Str.occurrences bar ⟨#[c]⟩ 0 bar.length 1).isEmpty then ⟨#[c]⟩ else Str.ofString "\\" ++ ⟨#[c]⟩
def lesc (bar x : Str) : Str := Txt.join (Str.ofString "") (x.cps.toList.map (escC bar))
theorem strs_are {α : Type} {g : α → Str} : ∀ {xs : List α} {ys : List Value}, Paired (fun a y => ∃ u, y = Value.str (g a) u) xs ys → StrsAre ys (xs.map g)
  | _, _, .nil => .nil
  | _, _, .cons h t => by
    obtain ⟨u, rfl⟩ := h
    exact .cons _ u (strs_are t)
theorem escC_len (bar : Str) (c : Nat) : (escC bar c).length ≤ 2 := by
  unfold escC
  split
  · show 1 ≤ 2; decide
  · rw [Str.length_append]; show 1 + 1 ≤ 2; decide
theorem sum_two {l : List Str} (h : ∀ y ∈ l, y.length ≤ 2) : (l.map (·.length)).sum ≤ 2 * l.length := by
  induction l with
  | nil => exact Nat.le_refl _
  | cons y l ih =>
    have h1 := h y List.mem_cons_self
    have h2 := ih fun z hz => h z (List.mem_cons_of_mem _ hz)
    simp only [List.map_cons, List.sum_cons, List.length_cons]; omega
local macro_rules | `(tactic| walk_at "call builtin:str.join") => `(tactic| (refine join_list (by assumption) (by assumption) (by assumption) ?_; intro t' k'))
section
variable {prog : Program} {w : World} {A : Around} {E : Value → Shared → Prop} {s : Shared} {Q : Value → Shared → Prop}
theorem c_lesc {x bar : Str} {t u : Tok} (W : Wd w s.heap) (hh : A.handled = none) (hroom : A.depth + 2 < recursionLimit) (hx : x.length ≤ 4096)
    (hQ : ∀ h' tk' t', s.heap.StaysIn h' → Q (.str (lesc bar x) t') { s with heap := h', toks := tk' }) :
    wpAny (model prog w) A (call (.ref 146) [.str x t, .str bar u]) Q E s := by
  obtain ⟨X, mean, mg, mb, T⟩ := id W
  refine' enterC (binds := [(Str.ofString "text", .str x t), (Str.ofString "barred", .str bar u)]) (news := []) (h₀ := s.heap) ?X ?T ?k ?sz ?hN ?ho ?hcd ?room ?hb ?hl ?hnd ?h ?c2 ?c3 ?c4
  case X => assumption
  case T => k_asm
  case k => exact fun _ _ e => e
  case sz => exact Nat.le_refl _
  case hN => exact fun _ h => nomatch h
  case ho => k_is
  case hcd => k_is
  case room => omega
  case hb => first | exact BindsTo.of_eq rfl | exact binds_K (by k_in) rfl (by k_is) rfl rfl rfl
  case hl => exact rfl
  case hnd => decide
  case c2 => exact rfl
  case c3 => exact rfl
  case c4 => exact rfl
  intro L h₁ tk cells F N Y _ _
  obtain ⟨o, rfl, hod⟩ := CellsAre.one Y
  clear Y
  change Fr s.heap L h₁ (fun y => if y = Str.ofString "text" then some (.str x t) else none) at F
  change o.data = Data.cell (some (.str bar u)) at hod
  change News s.heap L h₁ [(L + 1, o)] at N
  (try dsimp only)
  walk_at "mine go"
  refine' lc_pure (R := []) (L := L) (cl := [(Str.ofString "barred", L + 1)]) (h₀ := s.heap) (V := fun (c : Nat) v => ∃ u, v = .str ⟨#[c]⟩ u) (pb := fun _ => true) (G := fun c y => ∃ u, y = .str (escC bar c) u) (xs := x.cps.toList) ?hV ?hclos ?hcell ?hkind ?hnames ?hx ?hit ?hs
  case hV => exact sign_inj
  case hclos => exact rfl
  case hcell => decide
  case hkind => exact rfl
  case hnames => decide
  case hx => exact rfl
  case hs => intro _; exact rfl
  walk_at "mine go"
  refine ⟨_, by assumption, src_str hh, by rw [sizeLine_eq, Array.length_toList]; exact Nat.le_trans hx (by decide), ⟨?_, ?_⟩, ?_⟩
  · rintro C c v s₃ m₃ E' hc ⟨u, rfl⟩ F₃ st₃ hm
    exact wpAny_tests_nil (TestEnd.intro rfl (fun _ _ e => e))
  · rintro C c v s₃ m₃ E' hc ⟨u, rfl⟩ hp F₃ st₃ hm
    have N₃ := News.grown N st₃
    clear N F
    walk_at "mine go"
    · rename_i hq
      exact ⟨⟨_, by unfold escC; rw [if_pos hq]⟩, _, _, rfl, fun _ _ e => e⟩
    · rename_i hq _ _ _
      refine EltEnd.intro ⟨_, by unfold escC; rw [if_neg (by rw [hq]; decide)]⟩ (fun _ _ e => e)
  · intro D h' tk ys st hD hl hp
    dsimp only at st hD
    rw [List.filter_eq_self.mpr (fun _ _ => rfl)] at hp
    have hs := strs_are hp
    have hz : ((x.cps.toList.map (escC bar)).map (·.length)).sum + (x.cps.toList.map (escC bar)).length * (Str.ofString "").length ≤ 16777216 := by
      have h1 := sum_two (l := x.cps.toList.map (escC bar)) fun y hy => by
        obtain ⟨c, _, rfl⟩ := List.mem_map.mp hy
        exact escC_len bar c
      have h2 : (Str.ofString "").length = 0 := rfl
      rw [h2, Nat.mul_zero]
      have h3 : (x.cps.toList.map (escC bar)).length = x.length := by rw [List.length_map, Array.length_toList]; rfl
      omega
    have F' := F.keeps st
    have N' := News.grown N st
    clear F N
    walk_at "mine go"
    exact hQ _ _ _ (Fr.keep (by assumption))
end
end part_D2
section part_D3
theorem fresh_D3 : True := by first | walk1 | trivial
theorem fill_D3 : hd.heap_39 = hd.heap_39 ∨ PySem.Challenge.rw_nz0273_01 = PySem.Challenge.rw_nz0273_01 := by w_on; k_fill; exact .inl rfl
def okC (c : Nat) : Bool := (decide (31 < (c : Int)) && decide ((c : Int) < 127)) || (⟨#[c]⟩ : Str) == Str.ofString "\t"
def OptStr : Option Str → Value → Prop
  | none, v => v = .none
  | some y, v => ∃ u, v = .str y u
def leftS (l : Str) : Str := if lrun l then l else Str.ofString "\"" ++ lesc (Str.ofString "\"\\") l ++ Str.ofString "\""
def finS (l r : Str) : Str := Str.ofString "<" ++ leftS l ++ Str.ofString "@" ++ r ++ Str.ofString ">"
def rightS (x : Str) : Str := Str.ofString "[" ++ lesc (Str.ofString "[]\\") (Txt.slice x (some (spotOf x + 2)) (some (-1))) ++ Str.ofString "]"
def closed (x : Str) : Bool := Txt.slice x (some (-1)) none == Str.ofString "]"
def laid (x : Str) : Option Str :=
  if x.cps.toList.all okC = false then none
  else if spotOf x < 0 then none
  else if closed x = true then some (finS (Txt.slice x none (some (spotOf x))) (rightS x))
  else if lrun (Txt.slice x (some (spotOf x + 1)) none) = false then none
  else some (finS (Txt.slice x none (some (spotOf x))) (Txt.slice x (some (spotOf x + 1)) none))

local macro_rules | `(tactic| walk_at "call ref") => `(tactic| ((with_reducible show wpAny _ _ (call (Value.ref 141) _) _ _ _); (refine c_lrun ?W ?hz ?hh ?u ?r ?_); (case W => exact Wd.fr (by assumption) (by assumption)); (case hh => assumption); (case u => first | assumption | (show _ + 3 + 16 < _; omega)); (case r => show _ + 1 + 2 < _; omega); (case hz => omega); (intro h' tk' st'); walk_at "mine after"))
local macro_rules | `(tactic| walk_at "call ref") => `(tactic| ((with_reducible show wpAny _ _ (call (Value.ref 146) _) _ _ _); (refine c_lesc ?W ?hh ?r ?hz ?_); (case W => exact Wd.fr (by assumption) (by assumption)); (case hh => assumption); (case r => show _ + 1 + 2 < _; omega); (case hz => omega); (intro h' tk' t' st'); walk_at "mine after"))
theorem laid_bad {x : Str} (h : x.cps.toList.all okC = false) : laid x = none := if_pos h
theorem laid_nospot {x : Str} (h : x.cps.toList.all okC = true) (hs : spotOf x < 0) : laid x = none := by
  unfold laid; rw [if_neg (by rw [h]; decide), if_pos hs]
theorem laid_closed {x : Str} (h : x.cps.toList.all okC = true) (hs : ¬ spotOf x < 0) (hc : closed x = true) : laid x = some (finS (Txt.slice x none (some (spotOf x))) (rightS x)) := by
  unfold laid; rw [if_neg (by rw [h]; decide), if_neg hs, if_pos hc]
theorem laid_norun {x : Str} (h : x.cps.toList.all okC = true) (hs : ¬ spotOf x < 0) (hc : closed x = false) (hr : lrun (Txt.slice x (some (spotOf x + 1)) none) = false) : laid x = none := by
  unfold laid; rw [if_neg (by rw [h]; decide), if_neg hs, if_neg (by rw [hc]; decide), if_pos hr]
theorem laid_run {x : Str} (h : x.cps.toList.all okC = true) (hs : ¬ spotOf x < 0) (hc : closed x = false) (hr : lrun (Txt.slice x (some (spotOf x + 1)) none) = true) :
    laid x = some (finS (Txt.slice x none (some (spotOf x))) (Txt.slice x (some (spotOf x + 1)) none)) := by
  unfold laid; rw [if_neg (by rw [h]; decide), if_neg hs, if_neg (by rw [hc]; decide), if_neg (by rw [hr]; decide)]
theorem spot_closed {x : Str} (h : closed x = true) : spotOf x = Txt.rfind x (Str.ofString "@\x5b") := if_pos h
theorem spot_open {x : Str} (h : closed x = false) : spotOf x = Txt.rfind x (Str.ofString "@") := if_neg (by unfold closed at h; rw [h]; decide)
theorem leftS_run {l : Str} (h : lrun l = true) : leftS l = l := if_pos h
theorem leftS_esc {l : Str} (h : lrun l = false) : leftS l = Str.ofString "\"" ++ lesc (Str.ofString "\"\\") l ++ Str.ofString "\"" := if_neg (by rw [h]; decide)
theorem lesc_len (bar x : Str) : (lesc bar x).length ≤ 2 * x.length := by
  unfold lesc Txt.join
  rw [StrLaws.glued_eq_join]
  refine Nat.le_trans (StrLaws.join_length_le _ _) ?_
  have h1 := sum_two (l := x.cps.toList.map (escC bar)) fun y hy => by
    obtain ⟨c, _, rfl⟩ := List.mem_map.mp hy
    exact escC_len bar c
  have h2 : (Str.ofString "").length = 0 := rfl
  rw [h2, Nat.mul_zero]
  have h3 : (x.cps.toList.map (escC bar)).length = x.length := by rw [List.length_map, Array.length_toList]; rfl
  omega
theorem lesc_le {bar x : Str} {n : Nat} (h : x.length ≤ n) : (lesc bar x).length ≤ 2 * n := Nat.le_trans (lesc_len bar x) (Nat.mul_le_mul_left 2 h)
theorem slice_le' {x : Str} {a b : Option Int} {n : Nat} (h : x.length ≤ n) : (Txt.slice x a b).length ≤ n := Nat.le_trans (Txt.slice_le x a b) h
theorem app_le {x y : Str} {m n : Nat} (h : x.length ≤ m) (h' : y.length ≤ n) : (x ++ y).length ≤ m + n := by rw [Str.length_append]; exact Nat.add_le_add h h'
theorem add_S {prog : Program} {w : World} {A : Around} {E : Value → Shared → Prop} {s : Shared} {x y : Str} {t u : Tok} {m n : Nat} {Q : Value → Shared → Prop} (h1 : x.length ≤ m) (h2 : y.length ≤ n) (h3 : m + n ≤ 16777216) (h : ∀ t' k, Q (.str (x ++ y) t') { s with toks := k }) :
    wpAny (model prog w) A (binaryOp .Add (.str x t) (.str y u)) Q E s :=
  PyProof.Rows.add_str h (by rw [sizeLine_eq]; exact Nat.le_trans (Nat.add_le_add h1 h2) h3)
local macro_rules | `(tactic| walk_at "mine len") => `(tactic| first
  | (with_reducible (refine' slice_le' ?h); (case h => walk_at "mine len"))
  | (with_reducible (refine' lesc_le ?h); (case h => walk_at "mine len"))
  | (with_reducible (refine' app_le ?h ?h2); (case h => walk_at "mine len"); (case h2 => walk_at "mine len"))
  | with_reducible assumption
  | exact Nat.le_refl _)
local macro_rules | `(tactic| walk_at "binaryOp Add str str") => `(tactic| ((refine' add_S ?a ?b ?c ?_); (case a => walk_at "mine len"); (case b => walk_at "mine len"); (case c => exact Nat.le_of_ble_eq_true rfl); intro t' k'))
local macro_rules | `(tactic| walk_at "truthy ref") => `(tactic| (refine wpAny_truthy_list (by assumption) (by assumption) ?_))
section
variable {prog : Program} {w : World} {A : Around} {E : Value → Shared → Prop} {s : Shared} {Q : Value → Shared → Prop}
theorem c_laid {x : Str} {t : Tok} (W : Wd w s.heap) (hh : A.handled = none) (hu : A.units + 64 < cLine) (hroom : A.depth + 4 < recursionLimit) (hx : x.length ≤ 4096)
    (hQ : ∀ h' tk' v, s.heap.StaysIn h' → OptStr (laid x) v → Q v { s with heap := h', toks := tk' }) :
    wpAny (model prog w) A (call (.ref 151) [.str x t]) Q E s := by
  obtain ⟨X, mean, mg, mb, T⟩ := id W
  refine' enterP (binds := [(Str.ofString "text", .str x t)]) ?X ?T ?ho ?hcd ?room ?hb ?hl ?_ ?c2 ?c3 ?c4 ?c5
  walk_at "mine enter"
  rename_i L h₁ tk F N
  walk_at "mine go"
  refine' lc_pure (R := []) (L := L) (cl := []) (h₀ := s.heap) (V := fun (c : Nat) v => ∃ u, v = .str ⟨#[c]⟩ u) (pb := fun c => !okC c) (G := fun c y => ∃ u, y = .str ⟨#[c]⟩ u) (xs := x.cps.toList) ?hV ?hclos ?hcell ?hkind ?hnames ?hx ?hit ?hs
  case hV => exact sign_inj
  case hclos => exact rfl
  case hcell => decide
  case hkind => exact rfl
  case hnames => decide
  case hx => exact rfl
  case hs => intro _; exact rfl
  walk_at "mine go"
  refine ⟨_, by assumption, src_str hh, by rw [sizeLine_eq, Array.length_toList]; exact Nat.le_trans hx (by decide), ⟨?_, ?_⟩, ?_⟩
  · rintro C c v s₃ m₃ E' hc ⟨u, rfl⟩ F₃ st₃ hm
    refine wpAny_tests_one ?_
    have hdef : okC c = ((decide (31 < (c : Int)) && decide ((c : Int) < 127)) || (⟨#[c]⟩ : Str) == Str.ofString "\t") := rfl
    walk_at "mine go"
    all_goals (refine TestEnd.intro ?_ (fun _ _ e => e); rw [hdef]; simp [*])
  · rintro C c v s₃ m₃ E' hc ⟨u, rfl⟩ hp F₃ st₃ hm
    walk_at "mine go"
    exact EltEnd.intro ⟨_, rfl⟩ (fun _ _ e => e)
  · intro D h' tk ys st hD hl hp
    dsimp only at st hD
    obtain ⟨o, hoc, ⟨no, hod⟩, N'⟩ := list_news (F.keeps st) (News.grown N st) hl (fresh_of F hD)
    have F' := F.keeps st
    clear F N
    have hys : ys.length ≤ 4096 := by
      rw [← hp.length]
      refine Nat.le_trans (List.length_filter_le _ _) ?_
      rw [Array.length_toList]; exact hx
    have hfit : ((ys.toArray.size : Nat) : Int) < 2 ^ 63 := by rw [List.size_toArray]; omega
    have hall := all_eq hp
    clear hp
    walk_at "mine go"
    all_goals (
      (with_reducible rename (Array.isEmpty _ = _) => q0)
      (with_reducible rename Fr _ _ _ _ => F₇)
      (rw [List.isEmpty_toArray, ← hall] at q0)
      (try (with_reducible rename (BEq.beq (Txt.slice x (some (-1)) none) _ = _) => q1)))
    · have hsp := spot_closed q1
      refine hQ _ _ _ (Fr.keep F₇) ?_
      rw [laid_nospot q0 (by rw [hsp]; assumption)]; exact rfl
    · have hsp := spot_closed q1
      refine hQ _ _ _ (Fr.keep F₇) ?_
      rw [laid_closed q0 (by rw [hsp]; assumption) q1]
      refine ⟨_, congrArg (fun z => Value.str z _) ?_⟩
      unfold finS rightS; rw [hsp, leftS_run (by assumption)]
    · have hsp := spot_closed q1
      refine hQ _ _ _ (Fr.keep F₇) ?_
      rw [laid_closed q0 (by rw [hsp]; assumption) q1]
      refine ⟨_, congrArg (fun z => Value.str z _) ?_⟩
      unfold finS rightS; rw [hsp, leftS_esc (by assumption)]
    · have hsp := spot_open q1
      refine hQ _ _ _ (Fr.keep F₇) ?_
      rw [laid_nospot q0 (by rw [hsp]; assumption)]; exact rfl
    · have hsp := spot_open q1
      refine hQ _ _ _ (Fr.keep F₇) ?_
      rw [laid_run q0 (by rw [hsp]; assumption) q1 (by rw [hsp]; assumption)]
      refine ⟨_, congrArg (fun z => Value.str z _) ?_⟩
      unfold finS; rw [hsp, leftS_run (by assumption)]
    · have hsp := spot_open q1
      refine hQ _ _ _ (Fr.keep F₇) ?_
      rw [laid_run q0 (by rw [hsp]; assumption) q1 (by rw [hsp]; assumption)]
      refine ⟨_, congrArg (fun z => Value.str z _) ?_⟩
      unfold finS; rw [hsp, leftS_esc (by assumption)]
    · have hsp := spot_open q1
      refine hQ _ _ _ (Fr.keep F₇) ?_
      rw [laid_norun q0 (by rw [hsp]; assumption) q1 (by rw [hsp]; assumption)]; exact rfl
    · refine hQ _ _ _ (Fr.keep F₇) ?_
      rw [laid_bad q0]; exact rfl
end
end part_D3
section part_Q0
theorem fresh_Q0 : True := by first | walk1 | trivial
theorem fill_Q0 : hd.heap_39 = hd.heap_39 ∨ PySem.Challenge.rw_nz0273_01 = PySem.Challenge.rw_nz0273_01 := by w_on; k_fill; exact .inl rfl
def PotAt (h : Heap) (p q : Addr) (n : Nat) : Prop := @Ne Nat p q ∧ ∃ vs ns st pl t1 t2 n1 n2, (0 ≤ pl ∧ pl ≤ (n : Int)) ∧ h.get? p = some (listOf #[.ref q, .int st t1, .int pl t2] n1) ∧ h.get? q = some (listOf vs.toArray n2) ∧ IntsAre vs ns ∧ ns.length ≤ 64
def But (p q : Addr) (h h' : Heap) : Prop := ∀ b o, b ≠ p → b ≠ q → h.get? b = some o → h'.get? b = some o
section
variable {prog : Program} {w : World} {A : Around} {E : Value → Shared → Prop} {s : Shared} {Q : Value → Shared → Prop}

theorem set_ints {h₀ : Heap} {L p q : Addr} {m : Str → Option Value} {o : Obj} {vs : List Value} {ns : List Int} {n : Nat} {k v : Int} {t u : Tok} {Q : Unit → Shared → Prop} (F : Fr h₀ L s.heap m) (N : News h₀ L s.heap [(p, o), (q, listOf vs.toArray n)]) (hpq : @Ne Nat p q)
    (hi : IntsAre vs ns) (hz : ns.length ≤ 64) (h0 : 0 ≤ k) (h1 : k < ns.length)
    (h : ∀ h' vs' ns' n', Fr h₀ L h' m → News h₀ L h' [(p, o), (q, listOf vs'.toArray n')] → IntsAre vs' ns' → ns'.length = ns.length → Q () { s with heap := h' }) :
    wpAny (model prog w) A (setItem (.ref q) (.int k t) (.int v u)) Q E s := by
  have z := N (q, listOf vs.toArray n) (.tail _ (.head _))
  have hl : vs.length = ns.length := hi.length
  refine ki_setAt z.1 h0 (by omega) (by rw [List.size_toArray, hl]; exact h1) ?_
  have hi' : IntsAre (vs.set k.toNat (.int v u)) (ns.set k.toNat v) := by
    clear N z hz h0 h1 h hl F
    generalize k.toNat = j
    induction hi generalizing j with
    | nil => exact .nil
    | cons a b r ih =>
      cases j with
      | zero => exact .cons _ _ r
      | succ j => exact .cons _ _ (ih j)
  refine h _ _ _ _ (F.change (Heap.SameBut.update ..) z.2.1 z.2.2) (ki_turn (pre := [(p, o)]) _ N (fun x hx => by rw [List.mem_singleton.mp hx]; exact hpq) (fun _ hx => nomatch hx) ?_ rfl) hi' (by rw [List.length_set])
  simp
end
theorem but_refl (p q : Addr) (h : Heap) : But p q h h := fun _ _ _ _ e => e
theorem But.trans {p q : Addr} {h1 h2 h3 : Heap} (x : But p q h1 h2) (y : But p q h2 h3) : But p q h1 h3 := fun b o a c e => y b o a c (x b o a c e)
theorem mem2 {b p q : Addr} (hp : b ≠ p) (hq : b ≠ q) : b ∉ [p, q] := fun h => by
  rcases List.mem_cons.mp h with e | e
  · exact hp e
  · exact hq (List.mem_singleton.mp e)
theorem not_at {g h : Heap} {b p : Addr} {o : Obj} (gp : g.get? p = none) (e : g.get? b = some o) : b ≠ p := fun q => by rw [q, gp] at e; cases e
theorem but_of {p q L : Addr} {h h' : Heap} {m : Str → Option Value} (F : Fr (hideAll h [p, q]) L h' m) : But p q h h' := fun b _ hp hq e => F.keep b _ (hideAll_get _ e (mem2 hp hq))
theorem W_hide {w : World} {g h : Heap} {p q : Addr} (W : Wd w g) (kk : g.StaysIn h) (gp : g.get? p = none) (gq : g.get? q = none) : Wd w (hideAll h [p, q]) :=
  W.stays fun b o e => hideAll_get _ (kk b o e) (mem2 (not_at (h := h) gp e) (not_at (h := h) gq e))
theorem pot_of {h₀ h : Heap} {L p q : Addr} {n : Nat} {vs : List Value} {ns : List Int} {st pl : Int} {t1 t2 : Tok} {n1 n2 : Nat} (N : News h₀ L h [(p, listOf #[.ref q, .int st t1, .int pl t2] n1), (q, listOf vs.toArray n2)]) (hpq : @Ne Nat p q) (hi : IntsAre vs ns) (hz : ns.length ≤ 64) (h0 : 0 ≤ pl) (hl : pl ≤ (n : Int)) : PotAt h p q n :=
  ⟨hpq, vs, ns, st, pl, t1, t2, n1, n2, ⟨h0, hl⟩, (N _ (.head _)).1, (N _ (.tail _ (.head _))).1, hi, hz⟩
local macro_rules | `(tactic| walk_at "truthy ref") => `(tactic| (refine wpAny_truthy_list (News.isList (by assumption) (.tail _ (.head _))) (by assumption) ?_))
local macro_rules | `(tactic| walk_at "setItem ref int") => `(tactic| ((with_reducible rename News _ _ _ _ => N'); (with_reducible rename Fr _ _ _ _ => F'); (refine set_ints F' N' (by assumption) (by assumption) (by assumption) (by omega) (by omega) ?_); clear F' N'; intro h' vs' ns' n' F' N' hi' hl'))
section
variable {prog : Program} {w : World} {A : Around} {E : Value → Shared → Prop} {s : Shared} {Q : Value → Shared → Prop}

theorem c_draw {g : Heap} {p q : Addr} {k : Int} {u : Tok} (W : Wd w g) (kk : g.StaysIn s.heap) (gp : g.get? p = none) (gq : g.get? q = none) {n : Nat} (P : PotAt s.heap p q n) (hn : n ≤ 100000) (hroom : A.depth + 1 < recursionLimit)
    (hk : 0 < k) (hk2 : k < 100)
    (hQ : ∀ h' tk' r t, PotAt h' p q (n + 1) → But p q s.heap h' → 0 ≤ r → r < k → Q (.int r t) { s with heap := h', toks := tk' }) :
    wpAny (model prog w) A (call (.ref 124) [.ref p, .int k u]) Q E s := by
  have W' := W_hide W kk gp gq
  obtain ⟨X, mean, mg, mb, T⟩ := id W'
  obtain ⟨hpq, vs, ns, st, pl, t1, t2, n1, n2, ⟨hpl0, hpl1⟩, hp, hq, hi, hz⟩ := P
  have hqp : @Ne Nat q p := Ne.symm hpq
  refine' enterB (h₀ := hideAll s.heap [p, q]) (news := [(p, listOf #[.ref q, .int st t1, .int pl t2] n1), (q, listOf vs.toArray n2)]) (binds := [(Str.ofString "pot", .ref p), (Str.ofString "limit", .int k u)]) ?X ?T ?kk ?sz ?hN ?ho ?hcd ?room ?hb ?hl ?_ ?c2 ?c3 ?c4 ?c5
  case kk => exact fun b o e => of_hideAll _ e
  case sz => exact Nat.le_of_eq (hideAll_size _ _)
  case hN =>
    intro x hx
    rcases List.mem_cons.mp hx with rfl | hx
    · exact ⟨hp, hideAll_none _ (.head _)⟩
    · rw [List.mem_singleton.mp hx]
      exact ⟨hq, hideAll_none _ (.tail _ (.head _))⟩
  case X => assumption
  case T => k_asm
  case ho => k_is
  case hcd => k_is
  case room => omega
  case hb => first | exact BindsTo.of_eq rfl | exact binds_K (by k_in) rfl (by k_is) rfl rfl rfl
  case hl => exact locs rfl
  case c2 => exact rfl
  case c3 => exact rfl
  case c4 => exact rfl
  case c5 => decide
  intro L h₁ tk F N st1 hL
  (try dsimp only)
  (try k_fold)
  have hvl : vs.length = ns.length := hi.length
  have hfit : ((vs.toArray.size : Nat) : Int) < 2 ^ 63 := by rw [List.size_toArray, hvl]; omega
  walk_at "mine go"
  all_goals (
    (with_reducible rename Fr _ _ _ _ => F₇)
    (with_reducible rename News _ _ _ _ => N₇)
    refine hQ _ _ _ _ (pot_of N₇ hpq (by assumption) (by first | assumption | (simp only [List.length_set]; exact hz)) (by omega) (by omega)) (but_of F₇) (Int.fmod_nonneg_of_pos _ hk) (Int.fmod_lt_of_pos _ hk))
end
end part_Q0
end group_8
section part_P0
open Builtin Builtin.Str in
theorem slice_idx (lo hi : Option Int) (n : Nat) : strSliceIndices lo hi 1 n = strSliceIndices (some ((lo.elim 0 (clipAt n) : Nat) : Int)) (some ((hi.elim n (clipAt n) : Nat) : Int)) 1 n := by
  unfold strSliceIndices
  cases lo <;> cases hi <;> simp only [Option.elim, show (1 : Int) > 0 by decide, if_true]
  all_goals (refine congrFun (congr (congrArg sliceRange ?_) ?_) 1)
  all_goals (try unfold clipAt)
  all_goals ((repeat' split) <;> omega)
def pickN (l : List Nat) (lo hi : Option Int) : List Nat := (l.drop (lo.elim 0 (clipAt l.length))).take (hi.elim l.length (clipAt l.length) - lo.elim 0 (clipAt l.length))
theorem slice_pick (x : Str) (lo hi : Option Int) : (Txt.slice x lo hi).cps.toList = pickN x.cps.toList lo hi := by
  have hlen : x.cps.toList.length = x.length := Array.length_toList
  unfold pickN
  rw [hlen]
  have hb : hi.elim x.length (clipAt x.length) ≤ x.length := by
    cases hi with
    | none => exact Nat.le_refl _
    | some i =>
      have := clipAt_cast x.length i
      simp only [Option.elim]; omega
  have hsl : Txt.slice x lo hi = StrLaws.sliceText x (some ((lo.elim 0 (clipAt x.length) : Nat) : Int)) (some ((hi.elim x.length (clipAt x.length) : Nat) : Int)) := by
    show StrLaws.sliceText x lo hi = _
    unfold StrLaws.sliceText
    rw [slice_idx lo hi]
  rw [hsl]
  generalize lo.elim 0 (clipAt x.length) = a
  generalize hi.elim x.length (clipAt x.length) = b at hb
  by_cases hab : a ≤ b
  · rw [StrLaws.sliceText_nat x hab hb]
  · have he : Builtin.Str.strSliceIndices (some (a : Int)) (some (b : Int)) 1 x.length = [] := by
      apply List.eq_nil_of_length_eq_zero
      unfold Builtin.Str.strSliceIndices sliceRange
      simp only [show (1 : Int) > 0 by decide, if_true, List.length_map, List.length_range]
      split <;> (try split) <;> (try split) <;> (try simp only [Int.ediv_one]) <;> omega
    unfold StrLaws.sliceText
    rw [he]
    rw [show b - a = 0 by omega, List.take_zero]
    split
    · rename_i hq
      have : 0 = x.length := by simpa using hq
      have : x.cps.toList.length = 0 := by omega
      exact List.eq_nil_of_length_eq_zero this
    · rfl
def enc (l : List Nat) : List UInt8 := l.map fun c => c.toUInt8
theorem octs_eq (x : Str) : octs x = enc x.cps.toList := by
  unfold octs byteArr codesI enc
  rw [List.map_map]
  simp [Function.comp_def]
theorem lrunB_eq : ∀ c, c < 127 → lrunB c = runB (c : Int) := by decide +kernel
theorem escL_eq : ∀ c, c < 127 → enc (escC (Str.ofString "\"\\") c).cps.toList = if (#[34, 92] : Array UInt8).contains c.toUInt8 then [92, c.toUInt8] else [c.toUInt8] := by decide +kernel
theorem escR_eq : ∀ c, c < 127 → enc (escC (Str.ofString "[]\\") c).cps.toList = if (#[91, 93, 92] : Array UInt8).contains c.toUInt8 then [92, c.toUInt8] else [c.toUInt8] := by decide +kernel
theorem okC_lt : ∀ c, c < 127 → okC c = !badB ((c.toUInt8).toNat : Int) := by decide +kernel
theorem ok_lt {c : Nat} (h : okC c = true) : c < 127 := by
  unfold okC at h
  rcases Bool.or_eq_true_iff.mp h with h | h
  · simp only [Bool.and_eq_true, decide_eq_true_eq] at h; omega
  · have e : (⟨#[c]⟩ : Str) = Str.ofString "\t" := by simpa using h
    have : #[c] = (Str.ofString "\t").cps := congrArg Str.cps e
    have h9 : #[c] = #[9] := this
    have : c = 9 := by simpa using h9
    omega
theorem okC_eq (c : Nat) : okC c = (decide (c ≤ 126) && !badB ((c.toUInt8).toNat : Int)) := by
  by_cases h : c < 127
  · rw [okC_lt c h, decide_eq_true (by omega), Bool.true_and]
  · rw [decide_eq_false (by omega), Bool.false_and]
    cases hq : okC c with
    | false => rfl
    | true => exact absurd (ok_lt hq) h
end part_P0
section part_P1
theorem goodB_eq (x : Str) : goodB x = (decide (0 ≤ spotOf x) && x.cps.toList.all okC) := by
  unfold goodB plainB
  rw [octs_eq, Bool.and_assoc]
  congr 1
  unfold enc
  rw [List.all_map]
  generalize x.cps.toList = l
  induction l with
  | nil => rfl
  | cons c l ih =>
    simp only [List.all_cons, Function.comp_apply]
    rw [← ih, okC_eq]
    cases decide (c ≤ 126) <;> cases badB ((c.toUInt8).toNat : Int) <;> simp
theorem enc_pick (l : List Nat) (lo hi : Option Int) : pickL (enc l) lo hi = enc (pickN l lo hi) := by
  unfold pickL pickN enc
  rw [List.length_map, List.map_take, List.map_drop]
theorem small {l : List Nat} (h : l.all okC = true) : ∀ c ∈ l, c < 127 := fun c hc => ok_lt (List.all_eq_true.mp h c hc)
theorem toB {c : Nat} (h : c < 127) : (c.toUInt8).toNat = c := by
  rw [Nat.toUInt8_eq, UInt8.toNat_ofNat']; omega
theorem isRun_enc {l : List Nat} (h : ∀ c ∈ l, c < 127) : isRun (enc l) = (!l.isEmpty && l.all lrunB) := by
  unfold isRun enc
  rw [List.all_map]
  congr 1
  · cases l <;> rfl
  · induction l with
    | nil => rfl
    | cons c l ih =>
      simp only [List.all_cons, Function.comp_apply]
      rw [ih fun d hd => h d (List.mem_cons_of_mem _ hd), toB (h c List.mem_cons_self), lrunB_eq c (h c List.mem_cons_self)]
theorem lrun_eq (x : Str) : lrun x = (!x.cps.toList.isEmpty && x.cps.toList.all lrunB) := by
  unfold lrun
  congr 1
  obtain ⟨⟨l⟩⟩ := x
  cases l with
  | nil => rfl
  | cons c l =>
    have : (⟨(c :: l).toArray⟩ : Str) ≠ Str.ofString "" := fun e => by
      have := congrArg (fun z : Str => z.cps.size) e
      simp at this
      have h0 : (Str.ofString "").cps.size = 0 := rfl
      omega
    show (_ != _) = true
    rw [bne_iff_ne]; exact this
theorem run_enc {x : Str} (h : ∀ c ∈ x.cps.toList, c < 127) : isRun (enc x.cps.toList) = lrun x := by rw [isRun_enc h, lrun_eq]

theorem join_empty : ∀ ys : List Str, (Str.join (Str.ofString "") ys).cps.toList = ys.flatMap fun y => y.cps.toList
  | [] => rfl
  | [y] => by simp [Str.join]
  | y :: z :: r => by
    have := join_empty (z :: r)
    show ((y ++ Str.ofString "" ++ Str.join (Str.ofString "") (z :: r)) : Str).cps.toList = _
    rw [List.flatMap_cons, ← this]
    show (y.cps ++ (Str.ofString "").cps ++ (Str.join (Str.ofString "") (z :: r)).cps).toList = _
    have h0 : (Str.ofString "").cps = #[] := rfl
    rw [h0]; simp
theorem app_cps (x y : Str) : (x ++ y).cps.toList = x.cps.toList ++ y.cps.toList := by
  show (x.cps ++ y.cps).toList = _
  simp
theorem enc_app (l m : List Nat) : enc (l ++ m) = enc l ++ enc m := List.map_append
theorem lesc_cps (bar x : Str) : (lesc bar x).cps.toList = x.cps.toList.flatMap fun c => (escC bar c).cps.toList := by
  unfold lesc Txt.join
  rw [StrLaws.glued_eq_join, join_empty, List.flatMap_map]
theorem enc_lesc {bar x : Str} {sg : Array UInt8} (h : ∀ c ∈ x.cps.toList, c < 127) (he : ∀ c, c < 127 → enc (escC bar c).cps.toList = if sg.contains c.toUInt8 then [92, c.toUInt8] else [c.toUInt8]) :
    enc (lesc bar x).cps.toList = escB sg (enc x.cps.toList) := by
  rw [lesc_cps]
  generalize x.cps.toList = l at h
  induction l with
  | nil => rfl
  | cons c l ih =>
    rw [List.flatMap_cons, enc_app, ih fun d hd => h d (List.mem_cons_of_mem _ hd), he c (h c List.mem_cons_self)]
    rfl
theorem lesc_small {bar x : Str} (h : ∀ c ∈ x.cps.toList, c < 127) : ∀ c ∈ (lesc bar x).cps.toList, c < 127 := by
  rw [lesc_cps]
  intro c hc
  obtain ⟨d, hd, hcd⟩ := List.mem_flatMap.mp hc
  have := h d hd
  unfold escC at hcd
  split at hcd
  · have : c = d := by simpa using hcd
    omega
  · rw [app_cps] at hcd
    rcases List.mem_append.mp hcd with q | q
    · have : c = 92 := by
        have e : (Str.ofString "\\").cps.toList = [92] := rfl
        rw [e] at q; simpa using q
      omega
    · have : c = d := by simpa using q
      omega
theorem slice_small {x : Str} {a b : Option Int} (h : ∀ c ∈ x.cps.toList, c < 127) : ∀ c ∈ (Txt.slice x a b).cps.toList, c < 127 := by
  rw [slice_pick]
  exact fun c hc => h c (List.mem_of_mem_drop (List.mem_of_mem_take hc))
theorem left_eq {x : Str} (h : ∀ c ∈ x.cps.toList, c < 127) : enc (leftS x).cps.toList = leftO (enc x.cps.toList) ∧ ∀ c ∈ (leftS x).cps.toList, c < 127 := by
  unfold leftS leftO
  rw [run_enc h]
  cases hr : lrun x with
  | true => exact ⟨rfl, h⟩
  | false =>
    have e : (Str.ofString "\"").cps.toList = [34] := rfl
    refine ⟨?_, ?_⟩
    · simp only [Bool.false_eq_true, if_false, app_cps, enc_app]
      rw [enc_lesc h escL_eq, e]; rfl
    · simp only [Bool.false_eq_true, if_false, app_cps, e]
      intro c hc
      simp only [List.mem_append, List.mem_singleton] at hc
      rcases hc with (hc | hc) | hc
      · omega
      · exact lesc_small h c hc
      · omega
theorem leftP_eq {x : Str} (h : 0 ≤ spotOf x) : leftP x = enc (Txt.slice x none (some (spotOf x))).cps.toList := by
  unfold leftP
  rw [slice_pick, ← enc_pick, pick_lo _ h, octs_eq]
theorem rightP_eq {x : Str} (h : 0 ≤ spotOf x) : rightP x = enc (Txt.slice x (some (spotOf x + 1)) none).cps.toList := by
  unfold rightP
  rw [slice_pick, ← enc_pick, pick_hi _ (by omega), octs_eq]
end part_P1
section part_P2
theorem pick_last (l : List Nat) : pickN l (some (-1)) none = l.drop (l.length - 1) := by
  unfold pickN
  simp only [Option.elim]
  rw [show (-1 : Int) = -((1 : Nat) : Int) from rfl, clipAt_neg _ _ (Nat.le_refl _)]
  exact List.take_of_length_le (by rw [List.length_drop]; omega)
theorem str_beq {x y : Str} : (x == y) = true ↔ x.cps.toList = y.cps.toList := by
  rw [beq_iff_eq]
  constructor
  · intro h; rw [h]
  · intro h
    obtain ⟨⟨a⟩⟩ := x
    obtain ⟨⟨b⟩⟩ := y
    have : a = b := h
    rw [this]
theorem closed_iff (x : Str) : closed x = true ↔ x.cps.toList.drop (x.cps.toList.length - 1) = [93] := by
  unfold closed
  rw [str_beq, slice_pick, pick_last]
  exact Iff.rfl
theorem rfind_at {x y : Str} (h : 0 ≤ Txt.rfind x y) : ∃ k : Nat, Txt.rfind x y = (k : Int) ∧ k + y.length ≤ x.length ∧ x.cps.extract k (k + y.length) = y.cps := by
  unfold Txt.rfind at h ⊢
  rcases StrLaws.last_spec x y with ⟨h1, _⟩ | ⟨i, h1, h2, _⟩
  · rw [h1] at h; exact absurd h (by decide)
  · rw [h1]
    obtain ⟨h3, h4⟩ := h2
    unfold Builtin.Str.subAt at h4
    exact ⟨i, rfl, h3, by simpa using h4⟩
theorem len_cps (x : Str) : x.cps.toList.length = x.length := Array.length_toList

theorem spot_lt {x : Str} (h : 0 ≤ spotOf x) : ∃ k : Nat, spotOf x = (k : Int) ∧ k < x.length ∧ (closed x = true → k + 2 ≤ x.length ∧ x.cps.toList[k + 1]? = some 91) := by
  cases hc : closed x with
  | true =>
    rw [spot_closed hc] at h ⊢
    obtain ⟨k, h1, h2, h3⟩ := rfind_at h
    have e2 : (Str.ofString "@\x5b").length = 2 := rfl
    rw [e2] at h2 h3
    refine ⟨k, h1, by omega, fun _ => ⟨h2, ?_⟩⟩
    have e : (Str.ofString "@\x5b").cps = #[64, 91] := rfl
    rw [e] at h3
    have := congrArg (fun z : Array Nat => z[1]?) h3
    simp only [Array.getElem?_extract] at this
    rw [Array.getElem?_toList]
    have hs : x.cps.size = x.length := rfl
    simpa [hs, show k + 2 - k = 2 by omega, Nat.min_eq_left h2] using this
  | false =>
    rw [spot_open hc] at h ⊢
    obtain ⟨k, h1, h2, h3⟩ := rfind_at h
    have e2 : (Str.ofString "@").length = 1 := rfl
    rw [e2] at h2
    exact ⟨k, h1, by omega, fun q => by cases q⟩

theorem drop_one {l : List Nat} {k c : Nat} (h : l[k]? = some c) : (l.drop k).take 1 = [c] := by
  obtain ⟨hk, he⟩ := List.getElem?_eq_some_iff.mp h
  rw [List.drop_eq_getElem_cons hk, he]; rfl
theorem enc_sing {l : List Nat} {c : Nat} {b : UInt8} (h : ∀ d ∈ l, d < 127) (hc : c < 127) (hb : c.toUInt8 = b) : enc l = [b] ↔ l = [c] := by
  constructor
  · intro q
    match l, q with
    | [d], q =>
      have h1 : d.toUInt8 = b := by simpa [enc] using q
      have h2 := toB (h d List.mem_cons_self)
      have h3 := toB hc
      rw [h1, ← hb, h3] at h2
      rw [h2]
  · rintro rfl; simp [enc, hb]

theorem brk_eq {x : Str} (hs : ∀ c ∈ x.cps.toList, c < 127) (h : 0 ≤ spotOf x) : brk (rightP x) = closed x := by
  obtain ⟨k, hk, hlt, hcl⟩ := spot_lt h
  rw [rightP_eq h]
  have hr : (Txt.slice x (some (spotOf x + 1)) none).cps.toList = x.cps.toList.drop (k + 1) := by
    rw [slice_pick, hk]
    unfold pickN
    simp only [Option.elim]
    rw [show ((k : Int) + 1) = ((k + 1 : Nat) : Int) from rfl, clipAt_nat, len_cps, Nat.min_eq_left (by omega)]
    exact List.take_of_length_le (by rw [List.length_drop, len_cps]; omega)
  rw [hr]
  have hsR : ∀ c ∈ x.cps.toList.drop (k + 1), c < 127 := fun c hc => hs c (List.mem_of_mem_drop hc)
  have p1 : pickN (x.cps.toList.drop (k + 1)) none (some 1) = (x.cps.toList.drop (k + 1)).take 1 := by
    unfold pickN
    simp only [Option.elim, List.drop_zero, Nat.sub_zero]
    rw [show (1 : Int) = ((1 : Nat) : Int) from rfl, clipAt_nat, ← List.take_eq_take_min]
  have p2 : pickN (x.cps.toList.drop (k + 1)) (some 1) none = x.cps.toList.drop (k + 2) := by
    rcases Nat.lt_or_ge (k + 1) x.length with hk1 | hk1
    · unfold pickN
      simp only [Option.elim]
      rw [show (1 : Int) = ((1 : Nat) : Int) from rfl, clipAt_nat, List.length_drop, len_cps, Nat.min_eq_left (by omega), List.drop_drop]
      exact List.take_of_length_le (by rw [List.length_drop, len_cps]; omega)
    · rw [List.drop_of_length_le (by rw [len_cps]; exact hk1), List.drop_of_length_le (by rw [len_cps]; omega)]
      unfold pickN; rw [List.drop_nil, List.take_nil]
  unfold brk
  rw [enc_pick, enc_pick, enc_pick, p1, p2, pick_last]
  have dd : (x.cps.toList.drop (k + 2)).drop ((x.cps.toList.drop (k + 2)).length - 1) = x.cps.toList.drop (k + 2 + (x.length - (k + 2) - 1)) := by rw [List.drop_drop, List.length_drop, len_cps]
  rw [dd]
  cases hc : closed x with
  | true =>
    obtain ⟨h2, h91⟩ := hcl hc
    have hl := (closed_iff x).mp hc
    rw [len_cps] at hl
    have h93 : x.cps.toList[x.length - 1]? = some 93 := by
      have := congrArg (fun z : List Nat => z[0]?) hl
      simpa using this
    have hne : (k + 1 = x.length - 1) → False := fun q => by rw [q, h93] at h91; cases h91
    have h4 : k + 2 < x.length := by
      rcases Nat.lt_or_ge (k + 2) x.length with q | q
      · exact q
      · exact (hne (by omega)).elim
    rw [drop_one h91, show k + 2 + (x.length - (k + 2) - 1) = x.length - 1 by omega, hl]
    rfl
  | false =>
    rw [Bool.and_eq_false_iff]
    refine .inr ?_
    rw [beq_eq_false_iff_ne]
    intro q
    have q' := (enc_sing (c := 93) (fun d hd => hs d (List.mem_of_mem_drop hd)) (by decide) rfl).mp q
    have hlen := congrArg List.length q'
    rw [List.length_drop, len_cps] at hlen
    simp only [List.length_cons, List.length_nil] at hlen
    have : closed x = true := by
      rw [closed_iff, len_cps, ← q']
      congr 1; omega
    rw [hc] at this; cases this

theorem rightO_closed {x : Str} (hs : ∀ c ∈ x.cps.toList, c < 127) (h : 0 ≤ spotOf x) (hc : closed x = true) : rightO (rightP x) = enc (rightS x).cps.toList := by
  obtain ⟨k, hk, hlt, hcl⟩ := spot_lt h
  obtain ⟨h2, h91⟩ := hcl hc
  unfold rightO
  rw [brk_eq hs h, if_pos hc, rightP_eq h]
  unfold rightS
  rw [app_cps, app_cps, enc_app, enc_app]
  have e1 : (Str.ofString "[").cps.toList = [91] := rfl
  have e2 : (Str.ofString "]").cps.toList = [93] := rfl
  rw [e1, e2, enc_lesc (slice_small hs) escR_eq, enc_pick]
  have hp : pickN (Txt.slice x (some (spotOf x + 1)) none).cps.toList (some 1) (some (-1)) = (Txt.slice x (some (spotOf x + 2)) (some (-1))).cps.toList := by
    rw [slice_pick, slice_pick, hk]
    unfold pickN
    simp only [Option.elim]
    rw [show ((k : Int) + 1) = ((k + 1 : Nat) : Int) from rfl, show ((k : Int) + 2) = ((k + 2 : Nat) : Int) from rfl, clipAt_nat, clipAt_nat, len_cps, Nat.min_eq_left (by omega), Nat.min_eq_left (by omega)]
    rw [List.take_of_length_le (i := x.length - (k + 1)) (by rw [List.length_drop, len_cps]; omega), List.length_drop, len_cps]
    rw [show (-1 : Int) = -((1 : Nat) : Int) from rfl, clipAt_neg _ _ (Nat.le_refl _), clipAt_neg _ _ (Nat.le_refl _)]
    rw [show (1 : Int) = ((1 : Nat) : Int) from rfl, clipAt_nat, Nat.min_eq_left (by omega), List.drop_drop]
    congr 1; omega
  rw [hp]
  rfl

theorem fin_enc {l r : Str} (h : ∀ c ∈ l.cps.toList, c < 127) : enc (finS l r).cps.toList = [60] ++ leftO (enc l.cps.toList) ++ [64] ++ enc r.cps.toList ++ [62] := by
  unfold finS
  simp only [app_cps, enc_app]
  rw [(left_eq h).1]
  rfl
theorem fin_small {l r : Str} (h : ∀ c ∈ l.cps.toList, c < 127) (hr : ∀ c ∈ r.cps.toList, c < 127) : ∀ c ∈ (finS l r).cps.toList, c < 127 := by
  unfold finS
  intro c hc
  have e1 : (Str.ofString "<").cps.toList = [60] := rfl
  have e2 : (Str.ofString "@").cps.toList = [64] := rfl
  have e3 : (Str.ofString ">").cps.toList = [62] := rfl
  simp only [app_cps, e1, e2, e3, List.mem_append, List.mem_singleton] at hc
  rcases hc with (((hc | hc) | hc) | hc) | hc
  · omega
  · exact (left_eq h).2 c hc
  · omega
  · exact hr c hc
  · omega
theorem rightS_small {x : Str} (h : ∀ c ∈ x.cps.toList, c < 127) : ∀ c ∈ (rightS x).cps.toList, c < 127 := by
  unfold rightS
  intro c hc
  have e1 : (Str.ofString "[").cps.toList = [91] := rfl
  have e2 : (Str.ofString "]").cps.toList = [93] := rfl
  simp only [app_cps, e1, e2, List.mem_append, List.mem_singleton] at hc
  rcases hc with (hc | hc) | hc
  · omega
  · exact lesc_small (slice_small h) c hc
  · omega

/-- the plain law of one id -/
theorem law_one (x : Str) : (okId x = false ∧ laid x = none) ∨ ∃ y, okId x = true ∧ laid x = some y ∧ idOct x = enc y.cps.toList ∧ ∀ c ∈ y.cps.toList, c < 127 := by
  cases ho : x.cps.toList.all okC with
  | false => exact .inl ⟨by unfold okId; rw [goodB_eq, ho, Bool.and_false, Bool.false_and], laid_bad ho⟩
  | true =>
    by_cases hsp : spotOf x < 0
    · exact .inl ⟨by unfold okId; rw [goodB_eq, decide_eq_false (by omega), Bool.false_and, Bool.false_and], laid_nospot ho hsp⟩
    · have h0 : 0 ≤ spotOf x := by omega
      have hs := small ho
      have hg : goodB x = true := by rw [goodB_eq, ho, decide_eq_true h0]; rfl
      have hL := slice_small (a := none) (b := some (spotOf x)) hs
      have hR := slice_small (a := some (spotOf x + 1)) (b := none) hs
      cases hc : closed x with
      | true =>
        refine .inr ⟨_, by unfold okId; rw [hg, brk_eq hs h0, hc]; rfl, laid_closed ho hsp hc, ?_, fin_small hL (rightS_small hs)⟩
        rw [fin_enc hL]
        unfold idOct
        rw [rightO_closed hs h0 hc, leftP_eq h0]
      | false =>
        have hb := brk_eq hs h0
        rw [hc] at hb
        have hrun : isRun (rightP x) = lrun (Txt.slice x (some (spotOf x + 1)) none) := by rw [rightP_eq h0, run_enc hR]
        cases hr : lrun (Txt.slice x (some (spotOf x + 1)) none) with
        | false => exact .inl ⟨by unfold okId; rw [hg, hb, hrun, hr]; rfl, laid_norun ho hsp hc hr⟩
        | true =>
          refine .inr ⟨_, by unfold okId; rw [hg, hb, hrun, hr]; rfl, laid_run ho hsp hc hr, ?_, fin_small hL hR⟩
          rw [fin_enc hL]
          unfold idOct rightO
          rw [hb, leftP_eq h0, rightP_eq h0]
          rfl
end part_P2
section part_P3
theorem enc_joined : ∀ ws : List Str, joinedB #[32] (ws.map fun y => (enc y.cps.toList).toArray) = enc (Str.join (Str.ofString " ") ws).cps.toList
  | [] => rfl
  | [y] => by simp [joinedB, Str.join]
  | y :: z :: r => by
    have ih := enc_joined (z :: r)
    simp only [List.map_cons, joinedB] at ih ⊢
    show _ = enc ((y ++ Str.ofString " " ++ Str.join (Str.ofString " ") (z :: r)) : Str).cps.toList
    rw [ih, app_cps, app_cps, enc_app, enc_app]
    rfl
theorem join_small {sep : Str} (hs : ∀ c ∈ sep.cps.toList, c < 127) : ∀ ws : List Str, (∀ y ∈ ws, ∀ c ∈ y.cps.toList, c < 127) → ∀ c ∈ (Str.join sep ws).cps.toList, c < 127
  | [], _, c, h => nomatch h
  | [y], h, c, hc => h y List.mem_cons_self c hc
  | y :: z :: r, h, c, hc => by
    have hc' : c ∈ ((y ++ sep ++ Str.join sep (z :: r)) : Str).cps.toList := hc
    rw [app_cps, app_cps] at hc'
    simp only [List.mem_append] at hc'
    rcases hc' with (q | q) | q
    · exact h y List.mem_cons_self c q
    · exact hs c q
    · exact join_small hs (z :: r) (fun u hu => h u (List.mem_cons_of_mem _ hu)) c q
/-- the plain law of a row of texts -/
theorem law_all : ∀ zs : List Str, (zs.all okId = true ∧ ∃ ws : List Str, zs.map laid = ws.map some ∧ zs.map (fun x => (idOct x).toArray) = ws.map (fun y => (enc y.cps.toList).toArray) ∧ ∀ y ∈ ws, ∀ c ∈ y.cps.toList, c < 127) ∨ (zs.all okId = false ∧ ∃ x ∈ zs, laid x = none)
  | [] => .inl ⟨rfl, [], rfl, rfl, (fun _ h => nomatch h)⟩
  | x :: zs => by
    rcases law_one x with ⟨h1, h2⟩ | ⟨y, h1, h2, h3, h4⟩
    · exact .inr ⟨by rw [List.all_cons, h1]; rfl, x, List.mem_cons_self, h2⟩
    · rcases law_all zs with ⟨h5, ws, h6, h7, h8⟩ | ⟨h5, z, hz, h6⟩
      · refine .inl ⟨by rw [List.all_cons, h1, h5]; rfl, y :: ws, ?_, ?_, fun u hu => ?_⟩
        · rw [List.map_cons, List.map_cons, h2, h6]
        · rw [List.map_cons, List.map_cons, h3, h7]
        · rcases List.mem_cons.mp hu with rfl | hu
          · exact h4
          · exact h8 u hu
      · exact .inr ⟨by rw [List.all_cons, h5, Bool.and_false], z, List.mem_cons_of_mem _ hz, h6⟩
theorem line_eq {zs ws : List Str} (h : zs.map (fun x => (idOct x).toArray) = ws.map (fun y => (enc y.cps.toList).toArray)) : lineOf zs = enc (Txt.join (Str.ofString " ") ws).cps.toList := by
  unfold lineOf Txt.join
  rw [h, StrLaws.glued_eq_join]; exact enc_joined ws

def isNoneV : Value → Bool
  | .none => true
  | _ => false
theorem due_strs : ∀ {zs : List Str} {ys : List Value} {ws : List Str}, Paired (fun x y => OptStr (laid x) y) zs ys → zs.map laid = ws.map some → StrsAre ys ws
  | _, _, [], .nil, _ => .nil
  | _, _, w :: ws, .cons h t, e => by
    simp only [List.map_cons, List.cons.injEq] at e
    rw [e.1] at h
    obtain ⟨u, rfl⟩ := h
    exact .cons w u (due_strs t e.2)
  | _, _, [], .cons _ _, e => by simp at e
  | _, _, _ :: _, .nil, e => by simp at e
theorem due_none : ∀ {zs : List Str} {ys : List Value}, Paired (fun x y => OptStr (laid x) y) zs ys → (∃ x ∈ zs, laid x = none) → ys.toArray.any isNoneV = true := by
  intro zs ys h
  rw [List.any_toArray]
  induction h with
  | nil => rintro ⟨x, hx, _⟩; cases hx
  | cons h t ih =>
    rintro ⟨x, hx, hn⟩
    rw [List.any_cons]
    rcases List.mem_cons.mp hx with rfl | hx
    · rw [hn] at h
      have : _ = Value.none := h
      rw [this]; rfl
    · rw [ih ⟨x, hx, hn⟩, Bool.or_true]
theorem due_some : ∀ {ys : List Value} {ws : List Str}, StrsAre ys ws → ys.toArray.any isNoneV = false := by
  intro ys ws h
  rw [List.any_toArray]
  induction h with
  | nil => rfl
  | cons y t r ih => rw [List.any_cons, ih]; rfl
theorem due_eqAt {A : Around} {s : Shared} : ∀ {zs : List Str} {ys : List Value}, Paired (fun x y => OptStr (laid x) y) zs ys → ∀ y ∈ ys.toArray, SeqAt.EqAt A s y .none (isNoneV y) := by
  intro zs ys h y hy
  rw [List.mem_toArray] at hy
  induction h with
  | nil => cases hy
  | cons h t ih =>
    rename_i a b _ _
    rcases List.mem_cons.mp hy with rfl | hy
    · cases hl : laid a with
      | none =>
        rw [hl] at h
        have : y = Value.none := h
        rw [this]
        exact SeqAt.EqAt.same _
      | some z =>
        rw [hl] at h
        obtain ⟨u, rfl⟩ := h
        exact SeqAt.EqAt.str_none _ _
    · exact ih hy
theorem strs_paired : ∀ {ys : List Value} {zs : List Str}, StrsAre ys zs → Paired StrV zs ys
  | _, _, .nil => .nil
  | _, _, .cons y t r => .cons ⟨t, rfl⟩ (strs_paired r)
end part_P3
section part_M0
theorem PotAt.move {h h' : Heap} {p q : Addr} {n : Nat} (P : PotAt h p q n) (k : ∀ b o, b = p ∨ b = q → h.get? b = some o → h'.get? b = some o) : PotAt h' p q n := by
  obtain ⟨hpq, vs, ns, st, pl, t1, t2, n1, n2, hb, hp, hq, r⟩ := P
  exact ⟨hpq, vs, ns, st, pl, t1, t2, n1, n2, hb, k _ _ (.inl rfl) hp, k _ _ (.inr rfl) hq, r⟩
theorem PotAt.mono {h : Heap} {p q : Addr} {n n' : Nat} (P : PotAt h p q n) (l : n ≤ n') : PotAt h p q n' := by
  obtain ⟨hpq, vs, ns, st, pl, t1, t2, n1, n2, hb, r⟩ := P
  exact ⟨hpq, vs, ns, st, pl, t1, t2, n1, n2, ⟨hb.1, by omega⟩, r⟩
theorem PotAt.lt {h : Heap} {p q : Addr} {n : Nat} (P : PotAt h p q n) : p < h.objs.size ∧ q < h.objs.size := by
  obtain ⟨_, vs, ns, st, pl, t1, t2, n1, n2, _, hp, hq, _⟩ := P
  exact ⟨Heap.lt_size hp, Heap.lt_size hq⟩

section
variable {α : Type} {prog : Program} {w : World} {A : Around} {E : Value → Shared → Prop} {s : Shared} {env : Env} {h₀ : Heap} {L p q : Addr} {n d : Nat}
  {V : α → Value → Prop} {G : α → Value → Prop} {xs : List α} {x : Str} {px : Pos} {elt iter : Expr} {scope : Scope} {cl : List (Str × Addr)} {pos : Pos}

def PotEnd (p q : Addr) (n : Nat) (G : Value → Prop) (s₃ : Shared) (y : Value) (s₄ : Shared) : Prop :=
  G y ∧ ∃ h tk, s₄ = { s₃ with heap := h, toks := tk } ∧ But p q s₃.heap h ∧ PotAt h p q n
theorem PotEnd.intro {G : Value → Prop} {y : Value} {s₃ : Shared} {h : Heap} {tk : Nat} (hG : G y) (hb : But p q s₃.heap h) (P : PotAt h p q n) : PotEnd p q n G s₃ y { s₃ with heap := h, toks := tk } := ⟨hG, h, tk, rfl, hb, P⟩
/-- what a turn that draws does -/
def PotTurn (prog : Program) (w : World) (A : Around) (h₀ g : Heap) (env : Env) (scope : Scope) (cl : List (Str × Addr)) (x : Str) (elt : Expr) (V : α → Value → Prop) (G : α → Value → Prop) (xs : List α) (p q : Addr) (n d : Nat) : Prop :=
  ∀ i C a v s₃ m₃ E', i < xs.length → a ∈ xs → V a v → Fr h₀ C s₃.heap m₃ → But p q g s₃.heap → PotAt s₃.heap p q (n + d * i) → m₃ x = some v →
    wpAny (model prog w) A (eval elt (compEnvC scope cl C env)) (PotEnd p q (n + d * (i + 1)) (G a) s₃) E' s₃

theorem pot_block {s₁ : Shared} {m : Str → Option Value} {o : Obj} {fp : List Addr} {St : Nat → Heap → Prop} {P : Nat → Value → Prop} {RR : Value → Addr → Result → Shared → Prop} (hV : ∀ a a' v, V a v → V a' v → a = a')
    (hcell : ∀ y ∈ scope.names, y.2 ≠ .cell) (hkind : scope.kind = .function) (hx : scope.names.lookup x = some .local)
    (F : Fr h₀ L s₁.heap m) (hp₀ : h₀.get? p = none) (hq₀ : h₀.get? q = none) (hsz : xs.length ≤ sizeLine) (PA : PotAt s₁.heap p q n)
    (W : Walks prog w A s₁.heap.objs.size fp [s₁.heap.objs.size] xs.length P St) (hP : ∀ i v, P i v → ∃ a, xs[i]? = some a ∧ V a v) (hfp : ∀ b ∈ fp, b < s₁.heap.objs.size + 1) (hfp' : ∀ b ∈ fp, b = s₁.heap.objs.size) (hst : St 0 (s₁.heap.push o))
    (turn : PotTurn prog w A h₀ s₁.heap env scope cl x elt V G xs p q n d)
    (hRR : ∀ h' tk m' ys, But p q s₁.heap h' → PotAt h' p q (n + d * xs.length) → h'.Ns (s₁.heap.objs.size + 2) m' → h'.IsList (s₁.heap.objs.size + 1) ys.toArray → Paired G xs ys →
      RR (.ref (s₁.heap.objs.size + 1)) (s₁.heap.objs.size + 2) (.ok .next) { s₁ with heap := h', toks := tk }) :
    wpAny (model prog w) A (newList []) (fun acc s₃ => wpAny (model prog w) A (newFunctionEnv scope env.globals cl [] env.qual none .none (some env)) (fun cenv s₄ =>
      codeAny (model prog w) A (.compStart (.ListComp elt [⟨.Name x px, iter, [], 0⟩] scope pos) 0 (.ref s₁.heap.objs.size) acc { cenv with scope := relabel scope env }) (RR acc cenv.locals) s₄) E s₃) E { s₁ with heap := s₁.heap.push o } := by
  have hpI : p < s₁.heap.objs.size := PA.lt.1
  have hqI : q < s₁.heap.objs.size := PA.lt.2
  have up0 : ∀ b o', s₁.heap.get? b = some o' → (s₁.heap.push o).get? b = some o' := fun b o' e => Heap.get?_push_of_some _ e
  have hGsz : (s₁.heap.push o).objs.size = s₁.heap.objs.size + 1 := Heap.size_push ..
  generalize hI : s₁.heap.objs.size = I at *
  generalize s₁.heap.push o = H1 at *
  refine wpAny_newObj_type (wpAny_newFunctionEnv hcell (by intro y hy; simp at hy) (fun h₁ hns₁ hsb₁ => ?_) hkind)
  dsimp only at hns₁ hsb₁ ⊢
  have hLD : (H1.push { cls := .type "list", dict := none, data := .seq ([] : List Value).toArray }).objs.size = I + 2 := by rw [Heap.size_push, hGsz]
  have hDat : (H1.push { cls := .type "list", dict := none, data := .seq ([] : List Value).toArray }).get? H1.objs.size = some { cls := .type "list", dict := none, data := .seq ([] : List Value).toArray } := Heap.get?_push_size _ rfl
  have up1 : ∀ b o', H1.get? b = some o' → (H1.push { cls := .type "list", dict := none, data := .seq ([] : List Value).toArray }).get? b = some o' := fun b o' e => Heap.get?_push_of_some _ e
  generalize H1.push { cls := .type "list", dict := none, data := .seq ([] : List Value).toArray } = H2 at *
  rw [hGsz] at hDat ⊢
  rw [hLD] at hns₁ hsb₁ ⊢
  have up2 : ∀ b o', b < I + 2 → H2.get? b = some o' → h₁.get? b = some o' := fun b o' hb e => hsb₁.extBut b o' (Nat.ne_of_lt hb) (Heap.get?_push_of_some _ e)
  have low : ∀ b o', s₁.heap.get? b = some o' → b < I := fun b o' e => hI ▸ Heap.lt_size e
  have low1 : ∀ b o', H1.get? b = some o' → b < I + 1 := fun b o' e => hGsz ▸ Heap.lt_size e
  have old : ∀ b o', s₁.heap.get? b = some o' → h₁.get? b = some o' := fun b o' e => up2 b o' (Nat.lt_of_lt_of_le (low b o' e) (Nat.le_add_right _ _)) (up1 b o' (up0 b o' e))
  have lt1 : I + 1 < I + 2 := Nat.lt_succ_self _
  have ltI : ∀ {b : Addr}, b < I → b ≠ I + 2 ∧ b ≠ I + 1 ∧ b ≠ I := fun h => ⟨Nat.ne_of_lt (Nat.lt_of_lt_of_le h (Nat.le_add_right _ _)), Nat.ne_of_lt (Nat.lt_of_lt_of_le h (Nat.le_add_right _ _)), Nat.ne_of_lt h⟩
  have hst₁ : St 0 h₁ := W.frame _ _ _ hst fun b hb o' e => up2 b o' (Nat.lt_trans (hfp b hb) lt1) (up1 b o' e)
  have hCf : I + 2 ∉ fp := fun hm => Nat.lt_irrefl _ (Nat.lt_trans lt1 (hfp _ hm))
  have hDf : I + 1 ∉ fp := fun hm => Nat.lt_irrefl _ (hfp _ hm)
  have pqI : ∀ {b : Addr}, b = p ∨ b = q → b < I := fun h => by rcases h with rfl | rfl; exact hpI; exact hqI
  have offpq : ∀ {b : Addr}, I ≤ b → b ≠ p ∧ b ≠ q := fun h => ⟨fun e => Nat.lt_irrefl _ (Nat.lt_of_lt_of_le (e ▸ hpI) h), fun e => Nat.lt_irrefl _ (Nat.lt_of_lt_of_le (e ▸ hqI) h)⟩
  have fpI : ∀ {b : Addr}, b ∈ fp → b ≠ p ∧ b ≠ q := fun hm => offpq (Nat.le_of_eq (hfp' _ hm).symm)
  have nI : ∀ {b : Addr}, b ≠ I → b ∉ [I] := fun h hm => h (List.mem_singleton.mp hm)
  have hCI : I + 2 ≠ I := Nat.ne_of_gt (Nat.lt_add_of_pos_right (by decide))
  have hDI : I + 1 ≠ I := Nat.ne_of_gt (Nat.lt_succ_self _)
  have loop : ∀ s₃ : Shared, s₃ = { s₁ with heap := h₁, toks := s₁.toks + ([] : List (Str × Value)).length } →
      codeAny (model prog w) A (.compLoop (.ListComp elt [⟨.Name x px, iter, [], 0⟩] scope pos) 0 (.ref I) (.ref (I + 1)) (compEnvC scope cl (I + 2) env)) (RR (.ref (I + 1)) (I + 2)) s₃ := by
    rintro s₃ rfl
    refine codeAny_compLoop_tests
      (fun k s' => ∃ h' tk m' ys, ∃ vs : List Value, s' = { s₁ with heap := h', toks := tk } ∧ St vs.length h' ∧ h'.IsList (I + 1) ys.toArray ∧ h'.Ns (I + 2) m' ∧ (∀ j v, vs[j]? = some v → P j v) ∧
        Paired (fun v y => ∃ a, V a v ∧ G a y) vs ys ∧ vs.length ≤ xs.length ∧ k = xs.length + 1 - vs.length ∧ But p q s₁.heap h' ∧ PotAt h' p q (n + d * vs.length)) ?_ (xs.length + 1)
      ⟨h₁, _, _, [], [], rfl, hst₁, ⟨_, up2 _ _ lt1 hDat, rfl, _, rfl⟩, hns₁, by simp, .nil, Nat.zero_le _, rfl, fun b o' _ _ e => old b o' e, PA.move fun b o' _ e => old b o' e⟩
    rintro k s' ⟨h', tk, m', ys, vs, rfl, hst', hacc', hn', hPv, hpair, hle, rfl, hk, PA'⟩
    by_cases hlt : vs.length < xs.length
    · refine W.item vs.length _ _ _ hlt hst' fun v h₂ tk₂ hPi hst₂ hk₂ => ?_
      refine wpAny_assign_Name (wpAny_storeName_local (lookup_relabel_local hx) (hn'.at' fun o e => hk₂ _ o (nI hCI) e) (fun h₃ hn₃ hs₃ => ?_) (by simp [compEnvC, relabel, hkind]))
      refine wpAny_tests_nil ?_
      simp only [if_true]
      have st₃ : But p q s₁.heap h₃ := fun b o' h1 h2 e => hs₃.extBut _ _ (ltI (low b o' e)).1 (hk₂ b o' (nI (ltI (low b o' e)).2.2) (hk b o' h1 h2 e))
      have PA₃ : PotAt h₃ p q (n + d * vs.length) := PA'.move fun b o' hb e => hs₃.extBut _ _ (ltI (pqI hb)).1 (hk₂ b o' (nI (ltI (pqI hb)).2.2) e)
      have hst₃ : St (vs.length + 1) h₃ := W.frame _ _ _ hst₂ fun b hb o' e => hs₃.extBut b o' (fun q => hCf (by have q' : b = I + 2 := q; rw [← q']; exact hb)) e
      have hacc₃ : h₃.IsList (I + 1) ys.toArray := by
        obtain ⟨o', e, r⟩ := hacc'
        exact ⟨o', hs₃.extBut _ _ (Nat.ne_of_lt lt1) (hk₂ _ _ (nI hDI) e), r⟩
      obtain ⟨a, ha, hv⟩ := hP _ v hPi
      have Fc : Fr h₀ (I + 2) h₃ _ := ⟨hn₃, fun b o' e => st₃ b o' (fun z => by rw [z, hp₀] at e; cases e) (fun z => by rw [z, hq₀] at e; cases e) (F.keep b o' e), by
        have h1 := F.above
        have h2 := F.ns.lt
        rw [hI] at h2
        exact Nat.le_trans h1 (Nat.le_trans (Nat.le_of_lt h2) (Nat.le_add_right _ _))⟩
      refine wpAny_mono (turn vs.length (I + 2) a v _ _ _ hlt (List.mem_of_getElem? ha) hv Fc st₃ PA₃ (by simp)) (fun y s₄ h₄ => ?_) fun _ _ e => e
      obtain ⟨hG, h₄, tk₄, rfl, hk₄, PA₄⟩ := h₄
      have o1 := offpq (b := I + 1) (Nat.le_succ _)
      have o2 := offpq (b := I + 2) (Nat.le_add_right _ _)
      have hacc₄ : h₄.IsList (I + 1) ys.toArray := by
        obtain ⟨o', e, r⟩ := hacc₃
        exact ⟨o', hk₄ _ _ o1.1 o1.2 e, r⟩
      refine wpAny_list_append (hsz := by rw [List.size_toArray, ← hpair.length]; exact Nat.le_trans hle hsz) hacc₄ fun h₅ hl₅ hs₅ => ?_
      refine ⟨xs.length + 1 - (vs.length + 1), by omega, h₅, tk₄, _, ys ++ [y], vs ++ [v], rfl, ?_, ?_, ((hn₃.at' fun o' e => hk₄ _ _ o2.1 o2.2 e).sameBut hs₅ (Nat.ne_of_gt lt1)), ?_, hpair.snoc ⟨a, hv, hG⟩, ?_, ?_, ?_, ?_⟩
      · rw [List.length_append, List.length_singleton]
        exact W.frame _ _ _ (W.frame _ _ _ hst₃ fun b hb o' e => hk₄ b o' (fpI hb).1 (fpI hb).2 e) fun b hb o' e => hs₅.extBut b o' (fun q => hDf (q ▸ hb)) e
      · rw [← List.push_toArray]; exact hl₅
      · intro j u hj
        rcases Nat.lt_trichotomy j vs.length with h | h | h
        · exact hPv j u (by rwa [List.getElem?_append_left h] at hj)
        · subst h; simp at hj; subst hj; exact hPi
        · have hnone : (vs ++ [v])[j]? = none := List.getElem?_eq_none (by rw [List.length_append, List.length_singleton]; omega)
          rw [hnone] at hj; cases hj
      · rw [List.length_append, List.length_singleton]; exact hlt
      · rw [List.length_append, List.length_singleton]
      · exact fun b o' h1 h2 e => hs₅.extBut _ _ (ltI (low b o' e)).2.1 (hk₄ _ _ h1 h2 (st₃ b o' h1 h2 e))
      · rw [List.length_append, List.length_singleton]
        exact PA₄.move fun b o' hb e => hs₅.extBut _ _ (ltI (pqI hb)).2.1 e
    · obtain hlen : vs.length = xs.length := Nat.le_antisymm hle (Nat.not_lt.mp hlt)
      refine W.done _ _ _ (hlen ▸ hst') fun h₂ tk₂ hk₂ => ?_
      have hp := paired_conv hV (pb := fun _ => true) xs vs ys hlen (fun j v hj => hP j v (hPv j v hj)) (by
        rw [List.filter_eq_self.mpr fun v hv => by
          obtain ⟨j, hj⟩ := List.getElem?_of_mem hv
          obtain ⟨a, _, hav⟩ := hP j v (hPv j v hj)
          exact pOf_eq hV hav]
        exact hpair)
      rw [List.filter_eq_self.mpr (fun _ _ => rfl)] at hp
      refine hRR h₂ tk₂ m' ys (fun b o' h1 h2 e => hk₂ b o' (nI (ltI (low b o' e)).2.2) (hk b o' h1 h2 e)) ?_ (hn'.at' fun o e => hk₂ _ o (nI hCI) e) ?_ hp
      · rw [← hlen]; exact PA'.move fun b o' hb e => hk₂ b o' (nI (ltI (pqI hb)).2.2) e
      · obtain ⟨o', e, r⟩ := hacc'
        exact ⟨o', hk₂ _ _ (nI hDI) e, r⟩
  exact codeAny_compStart_list (loop _ rfl) (W.self 0 _ _ _ hst₁ (loop _ rfl))
end
end part_M0
section part_M1
theorem ns_ne {h : Heap} {L p q : Addr} {m : Str → Option Value} {n : Nat} (N : h.Ns L m) (P : PotAt h p q n) : L ≠ p ∧ L ≠ q := by
  obtain ⟨_, vs, ns, st, pl, t1, t2, n1, n2, _, hp, hq, _⟩ := P
  obtain ⟨oL, es, ep, hL, hd, _⟩ := N
  refine ⟨fun e => ?_, fun e => ?_⟩
  · rw [e, hp] at hL; injection hL with hL; subst hL; cases hd
  · rw [e, hq] at hL; injection hL with hL; subst hL; cases hd
section
variable {α : Type} {prog : Program} {w : World} {A : Around} {E : Value → Shared → Prop} {s : Shared} {env : Env} {h₀ : Heap} {L p q : Addr} {n d : Nat}
  {V : α → Value → Prop} {G : α → Value → Prop} {x : Str} {px : Pos} {elt iter : Expr} {scope : Scope} {cl : List (Str × Addr)} {pos : Pos}

theorem lc_pot {Q : Value → Shared → Prop} (hV : ∀ a a' v, V a v → V a' v → a = a')
    (hclos : closureFor scope env = pure cl) (hcell : ∀ y ∈ scope.names, y.2 ≠ .cell) (hkind : scope.kind = .function)
    (hnames : ∀ y ∈ scope.names, y.2 = .local → scope.names.lookup y.1 = some .local) (hx : scope.names.lookup x = some .local) (hp₀ : h₀.get? p = none) (hq₀ : h₀.get? q = none)
    (hiter : wpAny (model prog w) A (eval iter env) (fun xv s₁ => ∃ (xs : List α) (m : Str → Option Value), Fr h₀ L s₁.heap m ∧ SrcOf prog w A xv xs V [] s₁ ∧ xs.length ≤ sizeLine ∧ PotAt s₁.heap p q n ∧
      PotTurn prog w A h₀ s₁.heap env scope cl x elt V G xs p q n d ∧
      (∀ D h' tk ys, But p q s₁.heap h' → PotAt h' p q (n + d * xs.length) → s₁.heap.get? D = none → h'.IsList D ys.toArray → Paired G xs ys → Q (.ref D) { s₁ with heap := h', toks := tk })) E s)
    (hs : ∀ x, foldedSetIterable iter env x = pure x := by intro _; rfl) :
    wpAny (model prog w) A (eval (.ListComp elt [⟨.Name x px, iter, [], 0⟩] scope pos) env) Q E s := by
  rw [eval_ListComp]
  refine wpAny_comprehension_free (use := none) rfl hs hclos hkind hnames (wpAny_mono hiter (fun xv s₁ h₁ => ?_) fun _ _ e => e)
  obtain ⟨xs, m, F, src, hsz, PA, turn, done⟩ := h₁
  refine src _ _ fun o fp St P W hP hfp hfp' hst hfree => ?_
  refine pot_block (RR := fun acc C => compPost (model prog w) A E none Q acc C) hV hcell hkind hx F hp₀ hq₀ hsz PA W hP hfp (fun b hb => by rcases hfp' b hb with e | e; exact e; cases e) hst turn ?_
  intro h' tk m' ys hk PA' hn hl hp
  have hC : ∀ b o', s₁.heap.get? b = some o' → b ≠ s₁.heap.objs.size + 2 := fun b o' e => Nat.ne_of_lt (Nat.lt_of_lt_of_le (Heap.lt_size e) (Nat.le_add_right _ _))
  have hpq := PA.lt
  refine ⟨m', hn, fun h'' hs'' => done _ h'' tk ys (fun b o' h1 h2 e => hs''.extBut _ _ (hC b o' e) (hk b o' h1 h2 e)) (PA'.move fun b o' hb e => hs''.extBut _ _ ?_ e) ?_ ?_ hp⟩
  · rcases hb with rfl | rfl
    · exact Nat.ne_of_lt (Nat.lt_of_lt_of_le hpq.1 (Nat.le_add_right _ _))
    · exact Nat.ne_of_lt (Nat.lt_of_lt_of_le hpq.2 (Nat.le_add_right _ _))
  · cases e : s₁.heap.get? (s₁.heap.objs.size + 1) with
    | none => rfl
    | some o' => exact absurd (Heap.lt_size e) (Nat.not_lt.mpr (Nat.le_succ _))
  · exact hl.extBut hs''.extBut (Nat.ne_of_lt (Nat.lt_succ_self _))

theorem lc_pot_assign {Q : Flow → Shared → Prop} {y : Str} {py spos : Pos} (hV : ∀ a a' v, V a v → V a' v → a = a') (hLe : env.locals = L)
    (hsw : swapsWith (.ListComp elt [⟨.Name x px, iter, [], 0⟩] scope pos) (some (.Name y py)) spos.line env = pure true)
    (hclos : closureFor scope env = pure cl) (hcell : ∀ y ∈ scope.names, y.2 ≠ .cell) (hkind : scope.kind = .function)
    (hnames : ∀ y ∈ scope.names, y.2 = .local → scope.names.lookup y.1 = some .local) (hx : scope.names.lookup x = some .local)
    (hy : env.kindOf y = some .local) (hpp : (env.scope.kind == .class || (env.scope.kind == .module && env.locals != env.globals)) = false) (hp₀ : h₀.get? p = none) (hq₀ : h₀.get? q = none)
    (hiter : wpAny (model prog w) A (eval iter env) (fun xv s₁ => ∃ (xs : List α) (m : Str → Option Value), Fr h₀ L s₁.heap m ∧ SrcOf prog w A xv xs V [] s₁ ∧ xs.length ≤ sizeLine ∧ PotAt s₁.heap p q n ∧
      PotTurn prog w A h₀ s₁.heap env scope cl x elt V G xs p q n d ∧
      (∀ D h' tk ys, (∀ b o, b ≠ p → b ≠ q → b ≠ L → s₁.heap.get? b = some o → h'.get? b = some o) → Fr h₀ L h' (fun z => if z = y then some (.ref D) else m z) → PotAt h' p q (n + d * xs.length) → s₁.heap.get? D = none → h'.IsList D ys.toArray → Paired G xs ys →
        Q .next { s₁ with heap := h', toks := tk })) E s)
    (hs : ∀ x, foldedSetIterable iter env x = pure x := by intro _; rfl) :
    wpAny (model prog w) A (exec (.Assign [.Name y py] (.ListComp elt [⟨.Name x px, iter, [], 0⟩] scope pos) spos) env) Q E s := by
  subst hLe
  rw [exec_Assign_Name_used _ _ _ _ hsw]
  refine wpAny_bind (wpAny_standAt (wpAny_bind ?_))
  show wpAny _ A (do let _ ← comprehension (.ListComp elt [⟨.Name x px, iter, [], 0⟩] scope pos) scope env _ (newList []) false (eval iter env) (some (assign (.Name y py) env))) _ _ s
  refine wpAny_bind (wpAny_mono (wpAny_comprehension_free (use := some (assign (.Name y py) env)) (Q := fun _ s' => Q .next s') rfl hs hclos hkind hnames
    (wpAny_mono hiter (fun xv s₁ h₁ => ?_) fun _ _ e => e)) (fun _ s' hq => wpAny_pure (wpAny_pure hq)) fun _ _ e => e)
  obtain ⟨xs, m, F, src, hsz, PA, turn, done⟩ := h₁
  refine src _ _ fun o fp St P W hP hfp hfp' hst hfree => ?_
  refine pot_block (RR := fun acc C => compPost (model prog w) A E (some (assign (.Name y py) env)) (fun _ s' => Q .next s') acc C) hV hcell hkind hx F hp₀ hq₀ hsz PA W hP hfp (fun b hb => by rcases hfp' b hb with e | e; exact e; cases e) hst turn ?_
  intro h' tk m' ys hk PA' hn hl hp
  have hC : ∀ b o', s₁.heap.get? b = some o' → b ≠ s₁.heap.objs.size + 2 := fun b o' e => Nat.ne_of_lt (Nat.lt_of_lt_of_le (Heap.lt_size e) (Nat.le_add_right _ _))
  have hpq := PA.lt
  have hL := ns_ne F.ns PA
  have hLlt := F.ns.lt
  have hLC : env.locals ≠ s₁.heap.objs.size + 2 := Nat.ne_of_lt (Nat.lt_of_lt_of_le hLlt (Nat.le_add_right _ _))
  have hLD : env.locals ≠ s₁.heap.objs.size + 1 := Nat.ne_of_lt (Nat.lt_of_lt_of_le hLlt (Nat.le_add_right _ _))
  have hL₀ : h₀.get? env.locals = none := Heap.get?_none_of_le F.above
  show wpAny _ A (assign (.Name y py) env (.ref (s₁.heap.objs.size + 1))) _ _ _
  refine wpAny_assign_Name (wpAny_storeName_local hy (F.ns.at' fun o' e => hk _ o' hL.1 hL.2 e) (fun h₂ hn₂ hs₂ => ?_) hpp)
  refine ⟨m', hn.sameBut hs₂ (Ne.symm hLC), fun h₃ hs₃ => ?_⟩
  have keep : ∀ b o', b ≠ p → b ≠ q → b ≠ env.locals → s₁.heap.get? b = some o' → h₃.get? b = some o' := fun b o' h1 h2 h3 e => hs₃.extBut _ _ (hC b o' e) (hs₂.extBut _ _ h3 (hk b o' h1 h2 e))
  refine done _ h₃ _ ys keep ⟨hn₂.sameBut hs₃ hLC, fun b o' e => keep b o' (fun z => by rw [z, hp₀] at e; cases e) (fun z => by rw [z, hq₀] at e; cases e) (fun z => by rw [z, hL₀] at e; cases e) (F.keep b o' e), F.above⟩
    (PA'.move fun b o' hb e => hs₃.extBut _ _ ?_ (hs₂.extBut _ _ ?_ e)) ?_ ?_ hp
  · rcases hb with rfl | rfl
    · exact Nat.ne_of_lt (Nat.lt_of_lt_of_le hpq.1 (Nat.le_add_right _ _))
    · exact Nat.ne_of_lt (Nat.lt_of_lt_of_le hpq.2 (Nat.le_add_right _ _))
  · rcases hb with rfl | rfl
    · exact Ne.symm hL.1
    · exact Ne.symm hL.2
  · cases e : s₁.heap.get? (s₁.heap.objs.size + 1) with
    | none => rfl
    | some o' => exact absurd (Heap.lt_size e) (Nat.not_lt.mpr (Nat.le_succ _))
  · exact (hl.extBut hs₂.extBut (Ne.symm hLD)).extBut hs₃.extBut (Nat.ne_of_lt (Nat.lt_succ_self _))
end
end part_M1
section group_15
theorem ldC_15 {M : Model} {A : Around} {E : Value → Shared → Prop} {s : Shared} {h₀ : Heap} {C : Addr} {m : Str → Option Value} {scope : Scope} {cl : List (Str × Addr)} {env : Env} {x : Str} {pos : Pos} {v : Value} {Q : Value → Shared → Prop}
    (F : Fr h₀ C s.heap m) (hv : m x = some v) (h : Q v s) (hk : (compEnvC scope cl C env).scope.kind = .function) (hl : (compEnvC scope cl C env).kindOf x = some .local) (hd : (x == ("__debug__" : Str)) = false := by decide) :
    wpAny M A (eval (.Name x pos) (compEnvC scope cl C env)) Q E s := wpAny_Name (wpAny_loadName_local hk hl F.ns hv h) hd
theorem stays_keep_15 {h₀ h h' : Heap} {L : Addr} {m : Str → Option Value} (F : Fr h₀ L h m) (st : h.StaysIn h') : Fr h₀ L h' m := F.keeps st
theorem fr_news_15 {h₀ h : Heap} {L : Addr} {m : Str → Option Value} (_ : Fr h₀ L h m) : News h₀ L h [] := News.nil
local macro_rules | `(tactic| walk_at "eval Name") => `(tactic| ((with_reducible show wpAny _ _ (eval (Expr.Name _ _) (compEnvC _ _ _ _)) _ _ _); k_dflt (first
  | (refine' ldC_15 ?F ?v ?_ ?k ?l; (case F => assumption); (case v => assumption); (case k => rfl); (case l => rfl); k_whole)
  | (refine' LCgL.ld_global ?F ?X ?T ?e ?_ ?g ?k ?x; (case F => assumption); (case X => assumption); (case T => assumption); (case g => rfl); (case k => rfl); (case x => rfl); (case e => k_is); k_whole)
  | (refine' LCgL.ld_built ?F ?X ?T ?e ?v ?n ?_ ?g ?b ?k ?x; (case F => assumption); (case X => assumption); (case T => assumption); (case g => rfl); (case b => rfl); (case k => rfl); (case x => rfl); (case e => k_is); (case v => boot_fast); (case n => decide); k_whole))))
local macro_rules | `(tactic| walk_at "mine enter") => `(tactic| (
  (case X => assumption)
  (case T => k_asm)
  (case ho => k_is)
  (case hcd => k_is)
  (case room => first | assumption | omega | (show _ + _ < _; omega))
  (case hb => first | exact BindsTo.of_eq rfl | exact binds_K (by k_in) rfl (by k_is) rfl rfl rfl)
  (case hl => exact locs rfl)
  (case c2 => exact rfl)
  (case c3 => exact rfl)
  (case c4 => exact rfl)
  (case c5 => decide)
  intro L h₁ tk F
  (have N := fr_news_15 F)
  (try dsimp only)
  (try k_fold)))
local macro_rules | `(tactic| walk_at "mine go") => `(tactic| repeat' (
  (fail_if_success (with_reducible show Exists _))
  (fail_if_success (with_reducible show wpAny _ _ (eval (Expr.ListComp _ _ _ _) _) _ _ _))
  (fail_if_success (with_reducible show wpAny _ _ (exec (Stmt.Assign _ (Expr.ListComp _ _ _ _) _) _) _ _ _))
  (fail_if_success (with_reducible show wpAny _ _ (exec (Stmt.For _ _ _ _ _) _) _ _ _))
  first | (k_unfold; (try dsimp only)) | walk1 | (dsimp only; walk1)))
local macro_rules | `(tactic| walk_at "compareOp In int bytes") => `(tactic| (refine in_bytes (by omega) (by omega) ?_))
-- what a call of the text's leaves behind
local macro_rules | `(tactic| walk_at "mine after") => `(tactic| (
  (have F' := stays_keep_15 (by assumption) (by assumption))
  (try (have N' := News.grown (by assumption) (by assumption)))
  (try dsimp only)))
local macro_rules | `(tactic| walk_at "mine bool") => `(tactic| (
  (try simp only [decide_eq_true_eq, decide_eq_false_iff_not, Bool.not_eq_true, Bool.not_eq_false, Bool.not_eq_true', Bool.not_eq_false'] at *)
  first
  | rfl
  | (rw [Bool.eq_iff_iff]; simp [*]; done)
  | (rw [Bool.eq_iff_iff]; simp [*]; omega)
  | (rw [Bool.eq_iff_iff]; simp; omega)))
local macro_rules | `(tactic| walk_at "exec Raise") => `(tactic| (refine Raise_wf (w := _) ?hh ?room ?_ ?he ?hp; (case hh => assumption); (case room => show _ + 1 + 1 < _; omega); (case he => rfl); (case hp => rfl)))
section part_Q1
theorem fresh_Q1 : True := by first | walk1 | trivial
theorem fill_Q1 : hd.heap_39 = hd.heap_39 ∨ PySem.Challenge.rw_nz0273_01 = PySem.Challenge.rw_nz0273_01 := by w_on; k_fill; exact .inl rfl
theorem fr_pot {h₀ h h' : Heap} {C p q : Addr} {m : Str → Option Value} {n : Nat} (F : Fr h₀ C h m) (PA : PotAt h p q n) (hp₀ : h₀.get? p = none) (hq₀ : h₀.get? q = none) (hb : But p q h h') : Fr h₀ C h' m :=
  ⟨F.ns.at' fun o e => hb _ o (ns_ne F.ns PA).1 (ns_ne F.ns PA).2 e, fun b o e => hb _ _ (fun z => by rw [z, hp₀] at e; cases e) (fun z => by rw [z, hq₀] at e; cases e) (F.keep b o e), F.above⟩
theorem cell_pot {h₀ h h' : Heap} {C p q c : Addr} {o : Obj} {v : Option Value} {n : Nat} (N : News h₀ C h [(c, o)]) (PA : PotAt h p q n) (hod : o.data = .cell v) (hb : But p q h h') : News h₀ C h' [(c, o)] := by
  obtain ⟨_, vs, ns, st, pl, t1, t2, n1, n2, _, hp, hq, _⟩ := PA
  have z := N _ (.head _)
  intro x hx
  rw [List.mem_singleton.mp hx]
  refine ⟨hb _ _ (fun e => ?_) (fun e => ?_) z.1, z.2⟩
  · have := z.1; rw [e, hp] at this; injection this with this; subst this; cases hod
  · have := z.1; rw [e, hq] at this; injection this with this; subst this; cases hod
theorem news_any {h₀ h : Heap} {L C : Addr} {c : Addr} {o : Obj} (N : News h₀ L h [(c, o)]) (hc : c ≠ C) : News h₀ C h [(c, o)] := fun x hx => by
  have z := N x hx
  rw [List.mem_singleton.mp hx] at z ⊢
  exact ⟨z.1, hc, z.2.2⟩
theorem strs_ex {α : Type} {b : Nat} : ∀ {xs : List α} {ys : List Value}, Paired (fun (_ : α) y => ∃ x u, y = Value.str x u ∧ x.length ≤ b) xs ys → ∃ zs, StrsAre ys zs ∧ (∀ z ∈ zs, z.length ≤ b) ∧ zs.length = xs.length
  | _, _, .nil => ⟨[], .nil, (fun _ h => nomatch h), rfl⟩
  | _, _, .cons h t => by
    obtain ⟨x, u, rfl, hx⟩ := h
    obtain ⟨zs, h1, h2, h3⟩ := strs_ex t
    refine ⟨x :: zs, .cons _ u h1, fun z hz => ?_, congrArg (· + 1) h3⟩
    rcases List.mem_cons.mp hz with rfl | hz
    · exact hx
    · exact h2 z hz
theorem join_le {zs : List Str} {b : Nat} (h : ∀ z ∈ zs, z.length ≤ b) : (zs.map (·.length)).sum + zs.length * (Str.ofString "").length ≤ zs.length * b ∧ (Txt.join (Str.ofString "") zs).length ≤ zs.length * b := by
  have h1 := StrLaws.sumLen_le zs h
  have h2 : (Str.ofString "").length = 0 := rfl
  refine ⟨by rw [h2]; omega, ?_⟩
  unfold Txt.join
  rw [StrLaws.glued_eq_join]
  refine Nat.le_trans (StrLaws.join_length_le _ _) ?_
  rw [h2]; omega
local macro_rules | `(tactic| walk_at "call builtin:str.join") => `(tactic| (refine join_list (by assumption) (by assumption) (by assumption) ?_; intro t' k'))
local macro_rules | `(tactic| walk_at "call ref") => `(tactic| ((with_reducible show wpAny _ _ (call (Value.ref 124) _) _ _ _); (refine c_draw ?W (Fr.keep (by assumption)) ?gp ?gq (by assumption) ?n ?r ?k ?k2 ?_); (case W => assumption); (case gp => assumption); (case gq => assumption); (case n => omega); (case r => show _ + 1 + 1 < _; omega); (case k => first | assumption | decide); (case k2 => first | assumption | decide); (intro h' tk' r t PA' hb' hr0 hr1); (have F' := fr_pot (by assumption) (by assumption) (by assumption) (by assumption) hb'); (have N' := cell_pot (by assumption) (by assumption) (by assumption) hb'); (try dsimp only)))
section
variable {prog : Program} {w : World} {A : Around} {E : Value → Shared → Prop} {s : Shared} {Q : Value → Shared → Prop}
theorem c_side {g : Heap} {p q : Addr} {k : Int} {u : Tok} {n : Nat} (W : Wd w g) (kk : g.StaysIn s.heap) (gp : g.get? p = none) (gq : g.get? q = none) (P : PotAt s.heap p q n) (hn : n ≤ 90000) (hh : A.handled = none) (hroom : A.depth + 3 < recursionLimit)
    (hk : 0 < k) (hk2 : k < 100)
    (hQ : ∀ h' tk' x t, PotAt h' p q (n + 201) → But p q s.heap h' → x.length ≤ 100 → Q (.str x t) { s with heap := h', toks := tk' }) :
    wpAny (model prog w) A (call (.ref 129) [.ref p, .int k u]) Q E s := by
  have W' := W_hide W kk gp gq
  have hp₀ : (hideAll s.heap [p, q]).get? p = none := hideAll_none _ (.head _)
  have hq₀ : (hideAll s.heap [p, q]).get? q = none := hideAll_none _ (.tail _ (.head _))
  obtain ⟨X, mean, mg, mb, T⟩ := id W'
  refine' enterC (h₀ := hideAll s.heap [p, q]) (news := []) (binds := [(Str.ofString "pot", .ref p), (Str.ofString "many", .int k u)]) ?X ?T ?kk ?sz ?hN ?ho ?hcd ?room ?hb ?hl ?hnd ?h ?c2 ?c3 ?c4
  case kk => exact fun b o e => of_hideAll _ e
  case sz => exact Nat.le_of_eq (hideAll_size _ _)
  case hN => exact fun _ h => nomatch h
  case X => assumption
  case T => k_asm
  case ho => k_is
  case hcd => k_is
  case room => omega
  case hb => first | exact BindsTo.of_eq rfl | exact binds_K (by k_in) rfl (by k_is) rfl rfl rfl
  case hl => exact rfl
  case hnd => decide
  case c2 => exact rfl
  case c3 => exact rfl
  case c4 => exact rfl
  intro L h₁ tk cells F N Y st _
  obtain ⟨o, rfl, hod⟩ := CellsAre.one Y
  clear Y
  change Fr (hideAll s.heap [p, q]) L h₁ (fun y => if y = Str.ofString "many" then some (.int k u) else none) at F
  change o.data = Data.cell (some (.ref p)) at hod
  change News (hideAll s.heap [p, q]) L h₁ [(L + 1, o)] at N
  have PA := P.move fun b o' _ e => st b o' e
  (try dsimp only)
  walk_at "mine go"
  refine' lc_pot (L := L) (cl := [(Str.ofString "pot", L + 1)]) (h₀ := hideAll s.heap [p, q]) (p := p) (q := q) (n := n + 1) (d := 2) (V := fun (a : Nat) v => ∃ u, v = .int (a : Int) u) (G := fun _ y => ∃ x u, y = .str x u ∧ x.length ≤ 1) ?hV ?hclos ?hcell ?hkind ?hnames ?hx ?hp ?hq ?hit ?hs
  case hV =>
    rintro a a' v ⟨u, rfl⟩ ⟨u', h⟩
    have := (Value.int.inj h).1
    omega
  case hclos => exact rfl
  case hcell => decide
  case hkind => exact rfl
  case hnames => decide
  case hx => exact rfl
  case hp => exact hp₀
  case hq => exact hq₀
  case hs => intro _; exact rfl
  walk_at "mine go"
  rename_i h2 tk2 r tr PA2 hb2 hr0 hr1 F2 N2 h3 tk3 t1 t2 t3 hR F3 N3 k3
  obtain ⟨j, rfl⟩ := Int.eq_ofNat_of_zero_le hr0
  have PA3 := PA2.move fun b o' _ e => k3 b o' e
  refine ⟨List.range j, _, F3, src_range (n := j) hh hR (by omega), by rw [List.length_range, sizeLine_eq]; omega, PA3, ?_, ?_⟩
  · rintro i C a v s₃ m₃ E' hi ha ⟨u, rfl⟩ F₄ B₄ P₄ hm
    rw [List.length_range] at hi
    have N₄ := cell_pot N3 PA3 hod B₄
    clear F N PA F2 N2 F3 N3 PA2 PA3 hR
    walk_at "mine go"
    all_goals (exact PotEnd.intro ⟨_, _, rfl, Nat.le_of_eq (by assumption)⟩ (But.trans (by assumption) (by assumption)) (PotAt.mono (by assumption) (by omega)))
  · intro D h' tk' ys hb PA' hD hl hp
    obtain ⟨zs, hz1, hz2, hz3⟩ := strs_ex hp
    rw [List.length_range] at hz3
    have hj := join_le hz2
    have hz : (zs.map (·.length)).sum + zs.length * (Str.ofString "").length ≤ 16777216 := by omega
    walk_at "mine go"
    refine hQ _ _ _ _ (PotAt.mono (by assumption) (by rw [List.length_range]; omega)) ?_ (by omega)
    exact fun b o' e1 e2 e => hb b o' e1 e2 (k3 b o' (hb2 b o' e1 e2 (st b o' e)))
end
end part_Q1
section part_Q2
theorem fresh_Q2 : True := by first | walk1 | trivial
theorem fill_Q2 : hd.heap_39 = hd.heap_39 ∨ PySem.Challenge.rw_nz0273_01 = PySem.Challenge.rw_nz0273_01 := by w_on; k_fill; exact .inl rfl
theorem pot_news {h₀ h : Heap} {L p q : Addr} {m : Str → Option Value} {n : Nat} (F : Fr h₀ L h m) (PA : PotAt h p q n) (hp₀ : h₀.get? p = none) (hq₀ : h₀.get? q = none) :
    ∃ vs ns st pl t1 t2 n1 n2, News h₀ L h [(p, listOf #[.ref q, .int st t1, .int pl t2] n1), (q, listOf vs.toArray n2)] ∧ (0 ≤ pl ∧ pl ≤ (n : Int)) ∧ IntsAre vs ns ∧ ns.length ≤ 64 := by
  have z := ns_ne F.ns PA
  obtain ⟨hpq, vs, ns, st, pl, t1, t2, n1, n2, hb, hp, hq, hi, hz⟩ := PA
  refine ⟨vs, ns, st, pl, t1, t2, n1, n2, fun x hx => ?_, hb, hi, hz⟩
  rcases List.mem_cons.mp hx with rfl | hx
  · exact ⟨hp, Ne.symm z.1, hp₀⟩
  · rw [List.mem_singleton.mp hx]
    exact ⟨hq, Ne.symm z.2, hq₀⟩
theorem pot_mem {h₀ h : Heap} {L p q : Addr} {n : Nat} {news : List (Addr × Obj)} {vs : List Value} {ns : List Int} {st pl : Int} {t1 t2 : Tok} {n1 n2 : Nat} (N : News h₀ L h news) (hpq : @Ne Nat p q) (m1 : (p, listOf #[.ref q, .int st t1, .int pl t2] n1) ∈ news) (m2 : (q, listOf vs.toArray n2) ∈ news)
    (hb : 0 ≤ pl ∧ pl ≤ (n : Int)) (hi : IntsAre vs ns) (hz : ns.length ≤ 64) : PotAt h p q n :=
  ⟨hpq, vs, ns, st, pl, t1, t2, n1, n2, hb, (N _ m1).1, (N _ m2).1, hi, hz⟩
theorem len_fin {x : Str} {m : Nat} (h : x.length ≤ m) (h2 : m ≤ 300) : x.length ≤ 300 := Nat.le_trans h h2
local macro_rules | `(tactic| walk_at "mine pot") => `(tactic| exact pot_mem (by assumption) (by assumption) (by k_mem) (by k_mem) (by assumption) (by assumption) (by assumption))
local macro_rules | `(tactic| walk_at "call ref") => `(tactic| ((with_reducible show wpAny _ _ (call (Value.ref 124) _) _ _ _); (refine c_draw ?W (Fr.keep (by assumption)) ?gp ?gq (by walk_at "mine pot") ?n ?r ?k ?k2 ?_); (case W => assumption); (case gp => assumption); (case gq => assumption); (case n => omega); (case r => show _ + 1 + 1 < _; omega); (case k => first | assumption | decide); (case k2 => first | assumption | decide); (intro h' tk' r t PA' hb' hr0 hr1); (have F' := fr_pot (by assumption) (by walk_at "mine pot") (by assumption) (by assumption) hb'); (obtain ⟨vs', ns', st', pl', t1', t2', n1', n2', N', hpl', hi', hz'⟩ := pot_news F' PA' (by assumption) (by assumption)); (try dsimp only)))
local macro_rules | `(tactic| walk_at "call ref") => `(tactic| ((with_reducible show wpAny _ _ (call (Value.ref 129) _) _ _ _); (refine c_side ?W (Fr.keep (by assumption)) ?gp ?gq (by walk_at "mine pot") ?n ?hh ?r ?k ?k2 ?_); (case W => assumption); (case gp => assumption); (case gq => assumption); (case n => omega); (case hh => assumption); (case r => show _ + 1 + 3 < _; omega); (case k => first | assumption | decide); (case k2 => first | assumption | decide); (intro h' tk' x t PA' hb' hx'); (have F' := fr_pot (by assumption) (by walk_at "mine pot") (by assumption) (by assumption) hb'); (obtain ⟨vs', ns', st', pl', t1', t2', n1', n2', N', hpl', hi', hz'⟩ := pot_news F' PA' (by assumption) (by assumption)); (try dsimp only)))
local macro_rules | `(tactic| walk_at "mine len") => `(tactic| first
  | (with_reducible (refine' app_le ?h ?h2); (case h => walk_at "mine len"); (case h2 => walk_at "mine len"))
  | with_reducible assumption
  | exact Nat.le_refl _)
local macro_rules | `(tactic| walk_at "binaryOp Add str str") => `(tactic| ((refine' add_S ?a ?b ?c ?_); (case a => walk_at "mine len"); (case b => walk_at "mine len"); (case c => exact Nat.le_of_ble_eq_true rfl); intro t' k'))
section
variable {prog : Program} {w : World} {A : Around} {E : Value → Shared → Prop} {s : Shared} {Q : Value → Shared → Prop}
theorem c_text {g : Heap} {p q : Addr} {n : Nat} (W : Wd w g) (kk : g.StaysIn s.heap) (gp : g.get? p = none) (gq : g.get? q = none) (P : PotAt s.heap p q n) (hn : n ≤ 80000) (hh : A.handled = none) (hroom : A.depth + 5 < recursionLimit)
    (hQ : ∀ h' tk' x t, PotAt h' p q (n + 500) → But p q s.heap h' → x.length ≤ 300 → Q (.str x t) { s with heap := h', toks := tk' }) :
    wpAny (model prog w) A (call (.ref 136) [.ref p]) Q E s := by
  have W' := W_hide W kk gp gq
  have hp₀ : (hideAll s.heap [p, q]).get? p = none := hideAll_none _ (.head _)
  have hq₀ : (hideAll s.heap [p, q]).get? q = none := hideAll_none _ (.tail _ (.head _))
  obtain ⟨X, mean, mg, mb, T⟩ := id W'
  refine' enterB (h₀ := hideAll s.heap [p, q]) (news := []) (binds := [(Str.ofString "pot", .ref p)]) ?X ?T ?kk ?sz ?hN ?ho ?hcd ?room ?hb ?hl ?_ ?c2 ?c3 ?c4 ?c5
  case kk => exact fun b o e => of_hideAll _ e
  case sz => exact Nat.le_of_eq (hideAll_size _ _)
  case hN => exact fun _ h => nomatch h
  case X => assumption
  case T => k_asm
  case ho => k_is
  case hcd => k_is
  case room => omega
  case hb => first | exact BindsTo.of_eq rfl | exact binds_K (by k_in) rfl (by k_is) rfl rfl rfl
  case hl => exact locs rfl
  case c2 => exact rfl
  case c3 => exact rfl
  case c4 => exact rfl
  case c5 => decide
  intro L h₁ tk F N st _
  have PA := P.move fun b o' _ e => st b o' e
  clear N
  have hpq := PA.1
  obtain ⟨vs, ns, st', pl, t1, t2, n1, n2, N, hpl, hi, hz⟩ := pot_news F PA hp₀ hq₀
  clear PA P
  (try dsimp only)
  walk_at "mine go"
  all_goals (
    refine hQ _ _ _ _ (PotAt.mono (by walk_at "mine pot") (by omega)) (but_of (by assumption)) ?_
    refine' len_fin ?hA ?hB
    (case hA => walk_at "mine len")
    (case hB => exact Nat.le_of_ble_eq_true rfl))
end
end part_Q2
section part_Q3
theorem fresh_Q3 : True := by first | walk1 | trivial
theorem fill_Q3 : hd.heap_39 = hd.heap_39 ∨ PySem.Challenge.rw_nz0273_01 = PySem.Challenge.rw_nz0273_01 := by w_on; k_fill; exact .inl rfl
section
variable {α : Type} {prog : Program} {w : World} {A : Around} {E : Value → Shared → Prop} {s : Shared} {env : Env} {h₀ : Heap} {L : Addr} {m : Str → Option Value}
  {V : α → Value → Prop} {pb : α → Bool} {G : α → Value → Prop} {xs : List α} {xv : Value} {x : Str} {px : Pos} {elt iter : Expr} {ifs : List Expr} {scope : Scope} {cl : List (Str × Addr)} {pos : Pos}
theorem lc_plain {Q : Value → Shared → Prop} (hV : ∀ a a' v, V a v → V a' v → a = a')
    (hclos : closureFor scope env = pure cl) (hcell : ∀ y ∈ scope.names, y.2 ≠ .cell) (hkind : scope.kind = .function)
    (hnames : ∀ y ∈ scope.names, y.2 = .local → scope.names.lookup y.1 = some .local) (hx : scope.names.lookup x = some .local)
    (hiter : wpAny (model prog w) A (eval iter env) (fun xv s₁ => ∃ m, Fr h₀ L s₁.heap m ∧ (∃ R, SrcOf prog w A xv xs V R s₁) ∧ xs.length ≤ sizeLine ∧ TurnP prog w A h₀ s₁.heap env scope cl x ifs elt V pb G xs ∧
      ∀ D h' tk ys, s₁.heap.StaysIn h' → s₁.heap.get? D = none → h'.PlainList D ys.toArray → Paired G (xs.filter pb) ys → Q (.ref D) { s₁ with heap := h', toks := tk }) E s)
    (hs : ∀ x, foldedSetIterable iter env x = pure x := by intro _; rfl) :
    wpAny (model prog w) A (eval (.ListComp elt [⟨.Name x px, iter, ifs, 0⟩] scope pos) env) Q E s := by
  refine wpAny_ListComp_free (pOf V pb) (fun v y => ∃ a, V a v ∧ G a y) hclos hcell hkind hnames hx (wpAny_mono hiter (fun xv s₁ h₁ => ?_) fun _ _ e => e) hs
  obtain ⟨m, F, ⟨R, src⟩, hsz, T, done⟩ := h₁
  refine src _ _ fun o fp St P W hP hfp hfp' hst hfree => ?_
  refine ⟨_, fp, _, _, P, St, rfl, W, hsz, hst, fun b hb => by rw [Heap.size_push]; exact hfp b hb, turn_quiet hV F hP T, ?_⟩
  intro D h' tk ys vs hD hl hpl hlen hPv hpair hk
  have fresh : s₁.heap.get? s₁.heap.objs.size = none := by
    cases e : s₁.heap.get? s₁.heap.objs.size with
    | none => rfl
    | some o' => exact absurd (Heap.lt_size e) (Nat.lt_irrefl _)
  refine done D h' tk ys.toList (fun b o' e => hk b o' (fun hm => ?_) (Heap.get?_push_of_some _ e)) ?_ (by simpa using hpl) (paired_conv hV xs vs _ hlen (fun j v hj => hP j v (hPv j v hj)) hpair)
  · rw [List.mem_singleton.mp hm, fresh] at e; cases e
  · cases e : s₁.heap.get? D with
    | none => rfl
    | some o' => have := Heap.get?_push_of_some o e; rw [hD] at this; cases this

theorem lc_pure_assign2 {Q : Flow → Shared → Prop} {y : Str} {py spos : Pos} (hV : ∀ a a' v, V a v → V a' v → a = a') (hLe : env.locals = L)
    (hsw : swapsWith (.ListComp elt [⟨.Name x px, iter, ifs, 0⟩] scope pos) (some (.Name y py)) spos.line env = pure true)
    (hclos : closureFor scope env = pure cl) (hcell : ∀ y ∈ scope.names, y.2 ≠ .cell) (hkind : scope.kind = .function)
    (hnames : ∀ y ∈ scope.names, y.2 = .local → scope.names.lookup y.1 = some .local) (hx : scope.names.lookup x = some .local)
    (hy : env.kindOf y = some .local) (hp : (env.scope.kind == .class || (env.scope.kind == .module && env.locals != env.globals)) = false)
    (hiter : wpAny (model prog w) A (eval iter env) (fun xv s₁ => ∃ m, Fr h₀ L s₁.heap m ∧ (∃ R, SrcOf prog w A xv xs V R s₁) ∧ xs.length ≤ sizeLine ∧ TurnP prog w A h₀ s₁.heap env scope cl x ifs elt V pb G xs ∧
      ∀ D h' tk ys, (∀ b o, b ≠ L → s₁.heap.get? b = some o → h'.get? b = some o) → Fr h₀ L h' (fun z => if z = y then some (.ref D) else m z) → s₁.heap.get? D = none → h'.IsList D ys.toArray → Paired G (xs.filter pb) ys → Q .next { s₁ with heap := h', toks := tk }) E s)
    (hs : ∀ x, foldedSetIterable iter env x = pure x := by intro _; rfl) :
    wpAny (model prog w) A (exec (.Assign [.Name y py] (.ListComp elt [⟨.Name x px, iter, ifs, 0⟩] scope pos) spos) env) Q E s := by
  refine wpAny_Assign_ListComp_free (pOf V pb) (fun v y => ∃ a, V a v ∧ G a y) hsw hclos hcell hkind hnames hx hy hp (wpAny_mono hiter (fun xv s₁ h₁ => ?_) fun _ _ e => e) hs
  obtain ⟨m, F, ⟨R, src⟩, hsz, T, done⟩ := h₁
  subst hLe
  refine src _ _ fun o fp St P W hP hfp hfp' hst hfree => ?_
  have fresh : s₁.heap.get? s₁.heap.objs.size = none := by
    cases e : s₁.heap.get? s₁.heap.objs.size with
    | none => rfl
    | some o' => exact absurd (Heap.lt_size e) (Nat.lt_irrefl _)
  have F' := F.push o
  refine ⟨_, fp, _, _, P, St, m, rfl, W, hsz, hst, (fun b hb => by rw [Heap.size_push]; exact hfp b hb), (fun hm => absurd F.ns.lt (by rw [List.mem_singleton.mp hm]; exact Nat.lt_irrefl _)), F'.ns, turn_quiet hV F hP T, ?_⟩
  intro D h' tk ys vs hD hl hpl hlen hPv hpair hn hk
  have keep : ∀ b o', b ≠ env.locals → s₁.heap.get? b = some o' → h'.get? b = some o' := fun b o' hb e => hk b o' hb (fun hm => by rw [List.mem_singleton.mp hm, fresh] at e; cases e) (Heap.get?_push_of_some _ e)
  refine done D h' tk ys.toList keep ⟨hn, fun b o' e => keep b o' (fun q => ?_) (F.keep b o' e), F.above⟩ ?_ (by simpa using hl) (paired_conv hV xs vs _ hlen (fun j v hj => hP j v (hPv j v hj)) hpair)
  · rw [q] at e
    exact absurd (Heap.lt_size e) (Nat.not_lt.mpr F.above)
  · cases e : s₁.heap.get? D with
    | none => rfl
    | some o' => have := Heap.get?_push_of_some o e; rw [hD] at this; cases this

end
section
variable {prog : Program} {w : World} {A : Around} {E : Value → Shared → Prop} {s : Shared} {Q : Value → Shared → Prop}
theorem ints_ex {α : Type} : ∀ {xs : List α} {ys : List Value}, Paired (fun (_ : α) y => ∃ b u, y = Value.int b u) xs ys → ∃ ns, IntsAre ys ns ∧ ns.length = xs.length
  | _, _, .nil => ⟨[], .nil, rfl⟩
  | _, _, .cons h t => by
    obtain ⟨b, u, rfl⟩ := h
    obtain ⟨ns, h1, h2⟩ := ints_ex t
    exact ⟨b :: ns, .cons b u h1, congrArg (· + 1) h2⟩
theorem two_maps {m m₀ : Str → Option Value} {a b : Str} {v : Option Value} (h1 : m b = v) (h2 : ∀ z, z ≠ a → z ≠ b → m z = m₀ z) : ∀ z, z ≠ a → m z = if z = b then v else m₀ z := by
  intro z hz
  by_cases h : z = b
  · rw [if_pos h, h, h1]
  · rw [if_neg h, h2 z hz h]
theorem ints_paired : ∀ {vs : List Value} {ns : List Int}, IntsAre vs ns → Paired (fun a v => ∃ u, v = Value.int a u) ns vs
  | _, _, .nil => .nil
  | _, _, .cons a u r => .cons ⟨u, rfl⟩ (ints_paired r)
theorem c_pot {l : Addr} {vs : List Value} {ns : List Int} (W : Wd w s.heap) (hh : A.handled = none) (hroom : A.depth + 3 < recursionLimit) (hl : s.heap.IsList l vs.toArray) (hi : IntsAre vs ns) (hlen : ns.length ≤ 63)
    (hQ : ∀ h' tk' p q, s.heap.StaysIn h' → s.heap.get? p = none → s.heap.get? q = none → PotAt h' p q 0 → Q (.ref p) { s with heap := h', toks := tk' }) :
    wpAny (model prog w) A (call (.ref 117) [.ref l]) Q E s := by
  obtain ⟨X, mean, mg, mb, T⟩ := id W
  refine' enterP (binds := [(Str.ofString "script", .ref l)]) ?X ?T ?ho ?hcd ?room ?hb ?hl ?_ ?c2 ?c3 ?c4 ?c5
  walk_at "mine enter"
  rename_i L h₁ tk F N
  have hvl : vs.length = ns.length := hi.length
  have hl₁ : h₁.IsList l vs.toArray := by
    obtain ⟨o, ho, r⟩ := hl
    exact ⟨o, F.keep _ _ ho, r⟩
  walk_at "mine go"
  have hi40 : IntsAre (vs.take 40) (ns.take 40) := by
    clear hl hl₁ hvl hlen hQ
    generalize 40 = j
    induction hi generalizing j with
    | nil => simp; exact .nil
    | cons a b r ih =>
      cases j with
      | zero => exact .nil
      | succ j => exact .cons _ _ (ih j)
  refine' lc_pure_assign2 (L := L) (cl := []) (h₀ := s.heap) (V := fun (a : Int) v => ∃ u, v = .int a u) (pb := fun _ => true) (G := fun a y => ∃ u, y = .int a u) (xs := ns.take 40) ?hV ?hLe ?hsw ?hclos ?hcell ?hkind ?hnames ?hx ?hy ?hp ?hit ?hs
  case hV =>
    rintro a a' v ⟨u, rfl⟩ ⟨u', h⟩
    exact (Value.int.inj h).1
  case hLe => exact rfl
  case hsw => with_unfolding_all exact rfl
  case hclos => exact rfl
  case hcell => decide
  case hkind => exact rfl
  case hnames => decide
  case hx => exact rfl
  case hy => exact rfl
  case hp => exact rfl
  case hs => intro _; exact rfl
  walk_at "mine go"
  rename_i D0 ws h2 F2 N2 hI2 hC2 hL2 l1
  refine ⟨_, F2, ⟨_, src_conv (ints_paired hI2) (src_list hh (News.isList N2 (.head _)))⟩, by rw [sizeLine_eq]; omega, ⟨?_, ?_⟩, ?_⟩
  · rintro C c v s₃ m₃ E' hc ⟨u, rfl⟩ F₃ st₃ hm
    exact wpAny_tests_nil (TestEnd.intro rfl (fun _ _ e => e))
  · rintro C c v s₃ m₃ E' hc ⟨u, rfl⟩ hp F₃ st₃ hm
    walk_at "mine go"
    exact ⟨⟨_, rfl⟩, _, _, rfl, fun _ _ e => e⟩
  · intro D h' tk' ys keep F' hD hl' hp
    dsimp only at keep hD
    rw [List.filter_eq_self.mpr (fun _ _ => rfl)] at hp
    obtain ⟨o, hoc, ⟨no, hod⟩, N'⟩ := list_news F' News.nil hl' (fresh_of F2 hD)
    have hlen40 : (ns.take 40).length ≤ 40 := by rw [List.length_take]; omega
    clear F2 N2 hI2
    have ho40 : o.data = .seq ys.toArray no := hod
    walk_at "mine go"
    refine for_src (h₀ := s.heap) (V := fun (a : Int) v => ∃ u, v = .int a u) (R := [D]) (xs := ns.take 40)
      (fun i m' news' => ((∃ st t, m' (Str.ofString "state") = some (.int st t)) ∧ ∀ z, z ≠ Str.ofString "cell" → z ≠ Str.ofString "state" → m' z = if z = Str.ofString "cells" then some (.ref D) else List.lookup z [(Str.ofString "script", Value.ref l)].reverse) ∧ news' = [(D, o)]) rfl rfl PassesOwn.leaving ?_ (by intro _; rfl)
    walk_at "mine go"
    (with_reducible rename Fr _ _ _ _ => F₅)
    (with_reducible rename News _ _ _ _ => N₅)
    refine ⟨_, _, F₅, N₅, src_conv hp (src_list hh (list_of N₅ (.head _) hoc hod)), ?_, ⟨⟨⟨_, _, if_pos rfl⟩, fun z _ h => if_neg h⟩, rfl⟩, ?_, ?_⟩
    · intro hm
      exact absurd (List.mem_singleton.mp hm) (Ne.symm (N₅ _ (.head _)).2.1)
    · rintro i c v m₁ news₁ h tk own I hc ⟨u', rfl⟩ ⟨⟨⟨st, t, hm1⟩, hm2⟩, rfl⟩ hoff hown F₁ N₁
      change Fr s.heap L h _ at F₁
      change News s.heap L h _ at N₁
      rw [map_but (two_maps hm1 hm2)] at F₁
      clear F₅ N₅ hm1 hm2
      walk_at "mine go"
      refine ForEnd.next (by assumption) (by assumption) hoff ⟨⟨⟨_, _, if_pos rfl⟩, fun z hz hs => ?_⟩, rfl⟩
      simp only [if_neg hs, if_neg hz]
    · rintro m' news' h'' tk'' ⟨⟨⟨st, t, hm1⟩, hm2⟩, rfl⟩ F₆ N₆
      change Fr s.heap L h'' _ at F₆
      change News s.heap L h'' _ at N₆
      rw [map_done (two_maps hm1 hm2)] at F₆
      clear F₅ N₅ hm1 hm2
      walk_at "mine go"
      refine' lc_plain (L := L) (cl := []) (h₀ := s.heap) (V := fun (a : Int) v => ∃ u, v = .int a u) (pb := fun _ => true) (G := fun _ y => ∃ b u, y = .int b u) (xs := ns.take 40) ?ghV ?ghclos ?ghcell ?ghkind ?ghnames ?ghx ?ghit ?ghs
      case ghV =>
        rintro a a' v ⟨u, rfl⟩ ⟨u', h⟩
        exact (Value.int.inj h).1
      case ghclos => exact rfl
      case ghcell => decide
      case ghkind => exact rfl
      case ghnames => decide
      case ghx => exact rfl
      case ghs => intro _; exact rfl
      walk_at "mine go"
      refine ⟨_, by assumption, ⟨_, src_conv hp (src_list hh (list_of (by assumption) (.head _) hoc hod))⟩, by rw [sizeLine_eq]; omega, ⟨?_, ?_⟩, ?_⟩
      · rintro C c v s₃ m₃ E' hc ⟨u, rfl⟩ F₃ st₃ hm
        exact wpAny_tests_nil (TestEnd.intro rfl (fun _ _ e => e))
      · rintro C c v s₃ m₃ E' hc ⟨u, rfl⟩ hp F₃ st₃ hm
        walk_at "mine go"
        exact EltEnd.intro ⟨_, _, rfl⟩ (fun _ _ e => e)
      · intro q h3 tk3 ys3 st3 hq hl3 hp3
        dsimp only at st3 hq
        rw [List.filter_eq_self.mpr (fun _ _ => rfl)] at hp3
        obtain ⟨n3, hl3⟩ := hl3
        have hq₀ := fresh_of F₆ hq
        have F₇ := F₆.keeps st3
        have N₇ := News.more F₇ News.nil hl3 (fun es n q => by cases q) hq₀
        clear F₆ N₆
        walk_at "mine go"
        rename_i p h5 F5 N5 l1
        obtain ⟨ns3, hi3, hn3⟩ := ints_ex hp3
        have z1 := N5 _ (List.Mem.head _)
        have z2 := N5 _ (List.Mem.tail _ (List.Mem.head _))
        exact hQ _ _ _ q F5.keep z1.2.2 hq₀ ⟨Ne.symm (Nat.ne_of_lt l1), ys3, ns3, st, 0, _, _, 0, n3, ⟨Int.le_refl _, Int.le_refl _⟩, z1.1, z2.1, hi3, by omega⟩
end
end part_Q3
section part_X0
theorem fresh_X0 : True := by first | walk1 | trivial
theorem fill_X0 : hd.heap_39 = hd.heap_39 ∨ PySem.Challenge.rw_nz0273_01 = PySem.Challenge.rw_nz0273_01 := by w_on; k_fill; exact .inl rfl
local macro_rules | `(tactic| walk_at "law go") => `(tactic| repeat' (
  (fail_if_success (with_reducible show Exists _))
  (fail_if_success (with_reducible show wpAny _ _ (eval (Expr.ListComp _ _ _ _) _) _ _ _))
  (fail_if_success (with_reducible show wpAny _ _ (exec (Stmt.Assign _ (Expr.ListComp _ _ _ _) _) _) _ _ _))
  (fail_if_success (with_reducible show wpAny _ _ (exec (Stmt.For _ _ _ _ _) _) _ _ _))
  (fail_if_success (with_reducible show wpAny _ _ (exec (Stmt.Try _ _ _ _ _) _) _ _ _))
  (fail_if_success (with_reducible show wpAny _ _ (call (Value.ref _) _) _ _ _))
  first | (k_unfold; (try dsimp only)) | walk1 | (dsimp only; walk1)))
def NoneEq (items : Array Value) : Prop := ∀ (A : Around) (s : Shared), ∀ y ∈ items, SeqAt.EqAt A s y .none (isNoneV y)
theorem in_none {prog : Program} {w : World} {A : Around} {E : Value → Shared → Prop} {s : Shared} {h₀ : Heap} {L D : Addr} {news : List (Addr × Obj)} {o : Obj} {items : Array Value} {n : Nat} {b : Bool} {Q : Value → Shared → Prop} (N : News h₀ L s.heap news) (hm : (D, o) ∈ news) (hc : o.cls = .type "list") (hd : o.data = .seq items n)
    (key : NoneEq items) (hany : items.any isNoneV = b) (h : Q (.bool b) s) : wpAny (model prog w) A (compareOp .In .none (.ref D)) Q E s :=
  SeqAt.in_listAt isNoneV (list_of N hm hc hd) (key _ _) (by rw [hany]; exact h)
theorem ws_len {zs ws : List Str} (h : zs.map (fun x => (idOct x).toArray) = ws.map (fun y => (enc y.cps.toList).toArray)) (hz : ∀ x ∈ zs, x.length ≤ 4096) : ∀ y ∈ ws, y.length ≤ 20000 := by
  intro y hy
  have : (enc y.cps.toList).toArray ∈ zs.map (fun x => (idOct x).toArray) := by rw [h]; exact List.mem_map.mpr ⟨y, hy, rfl⟩
  obtain ⟨x, hx, e⟩ := List.mem_map.mp this
  have h1 := idOct_len (hz x hx)
  have h2 := congrArg Array.size e
  rw [List.size_toArray, List.size_toArray] at h2
  unfold enc at h2
  rw [List.length_map, len_cps] at h2
  omega
local macro_rules | `(tactic| walk_at "compareOp In none ref") => `(tactic| (refine in_none (by assumption) (by k_mem) (by assumption) (by assumption) (by assumption) (by assumption) ?_))
local macro_rules | `(tactic| walk_at "call builtin:str.join") => `(tactic| (refine join_list (list_of (by assumption) (by k_mem) (by assumption) (by assumption)) (by assumption) (by assumption) ?_; intro t' k'))
theorem cw : PySem.Challenge.rw_nz0273_01.Holds := hd (by
  k_go0
  (all_goals try k_fold)
  rename_i w s₀ s₁ mg mb G Y fa ob pm doc ho hg KX X V GL T B TE TW w10 w9 M w8 w7 hcd ns hs hlay0 hLay hr1 hl2 w5 w4 l vs w1 hL ra wl r0 hI hr hc1 hc2 K0 hD h₁ tk₁ F oc hoc N X0
  have W : Wd w s₁.heap := ⟨KX, _, _, _, T⟩
  have hlen : ns.length ≤ 63 := by omega
  have hroom : callerA.depth + 60 < recursionLimit := by decide
  have hunits : callerA.units + 400 < cLine := by decide
  change oc.data = Data.cell none at hoc
  change Fr s₁.heap s₁.heap.objs.size h₁ (fun y => if y = Str.ofString "script" then some (.ref l) else none) at F
  clear X0 hD wl r0 hr GL
  walk_at "law go"
  refine c_pot (Wd.fr W F) rfl (by show callerA.depth + 1 + 3 < recursionLimit; omega) (vs := vs) (ns := ns) ?_ hI hlen ?_
  · obtain ⟨o, e, r⟩ := hL
    exact ⟨o, F.keep _ _ e, r⟩
  intro h2 tk2 p q st2 hp hq PA
  have hp₀ := fresh_of F hp
  have hq₀ := fresh_of F hq
  have F2 := F.keeps st2
  have N2 := News.grown N st2
  have hpq := PA.1
  obtain ⟨vs', ns', sv, pl, t1, t2, n1, n2, N3, hpl, hi', hz'⟩ := pot_news F2 PA hp₀ hq₀
  have N4 := News.append N3 N2
  clear N N2 N3 F PA
  (try dsimp only [List.cons_append, List.nil_append] at N4)
  (try dsimp only)
  walk_at "law go"
  rename_i h3 o3 F3 N3 ho3
  have PA3 : PotAt h3 p q 0 := pot_mem N3 hpq (.head _) (.tail _ (.head _)) hpl hi' hz'
  have Nc : News s₁.heap s₁.heap.objs.size h3 [(s₁.heap.objs.size + 1, o3)] := fun x hx => N3 x (List.mem_append_right _ hx)
  clear N3 hpl hi' hz'
  refine' lc_pot_assign (L := s₁.heap.objs.size) (cl := [(Str.ofString "pot", s₁.heap.objs.size + 1)]) (h₀ := s₁.heap) (p := p) (q := q) (n := 1) (d := 500) (V := fun (a : Nat) v => ∃ u, v = .int (a : Int) u) (G := fun _ y => ∃ x u, y = .str x u ∧ x.length ≤ 300) ?hV ?hLe ?hsw ?hclos ?hcell ?hkind ?hnames ?hx ?hy ?hpp ?hp ?hq ?hit ?hs
  case hV =>
    rintro a a' v ⟨u, rfl⟩ ⟨u', h⟩
    have := (Value.int.inj h).1
    omega
  case hLe => exact rfl
  case hsw => with_unfolding_all exact rfl
  case hclos => exact rfl
  case hcell => decide
  case hkind => exact rfl
  case hnames => decide
  case hx => exact rfl
  case hy => exact rfl
  case hpp => exact rfl
  case hp => exact hp₀
  case hq => exact hq₀
  case hs => intro _; exact rfl
  walk_at "law go"
  refine c_draw W F3.keep hp₀ hq₀ PA3 (by decide) (by show callerA.depth + 1 + 1 < recursionLimit; omega) (by decide) (by decide) ?_
  intro h4 tk4 r tr PA4 hb4 hr0 hr1
  have F4 := fr_pot F3 PA3 hp₀ hq₀ hb4
  have N4 := cell_pot Nc PA3 ho3 hb4
  clear F3 Nc PA3
  (try dsimp only)
  walk_at "law go"
  rename_i h5 tk5 t4 t5 t6 hR F5 N5 k5
  obtain ⟨j, rfl⟩ := Int.eq_ofNat_of_zero_le hr0
  have PA5 := PA4.move fun b o' _ e => k5 b o' e
  refine ⟨List.range j, _, F5, src_range (n := j) rfl hR (by omega), by rw [List.length_range, sizeLine_eq]; omega, PA5, ?_, ?_⟩
  · rintro i C a v s₃ m₃ E' hi ha ⟨u, rfl⟩ F₄ B₄ P₄ hm
    rw [List.length_range] at hi
    have N₄ := cell_pot N5 PA5 ho3 B₄
    clear PA4 F5 N5 PA5 hR
    walk_at "law go"
    refine c_text W F₄.keep hp₀ hq₀ P₄ (by omega) rfl (by show callerA.depth + 1 + 5 < recursionLimit; omega) ?_
    intro h6 tk6 x tx PA6 hb6 hx6
    exact PotEnd.intro ⟨_, _, rfl, hx6⟩ hb6 (PA6.mono (by omega))
  · intro D h' tk' ys hb F6 PA6 hD hl6 hp6
    obtain ⟨zs, hz1, hz2, hz3⟩ := strs_ex hp6
    rw [List.length_range] at hz3
    have hD₀ := fresh_of F5 hD
    obtain ⟨oD, hDc, ⟨nD, hDd⟩, N6⟩ := list_news F6 News.nil hl6 hD₀
    have hzn : zs.length ≤ 64 := by omega
    clear hp6 PA6 PA5 hb4
    (try dsimp only)
    walk_at "law go"
    refine' lc_pure_assign2 (L := s₁.heap.objs.size) (cl := []) (h₀ := s₁.heap) (V := StrV) (pb := fun _ => true) (G := fun x y => OptStr (laid x) y) (xs := zs) ?iV ?iLe ?isw ?iclos ?icell ?ikind ?inames ?ix ?iy ?ip ?iit ?is
    case iV => exact strV_inj
    case iLe => exact rfl
    case isw => with_unfolding_all exact rfl
    case iclos => exact rfl
    case icell => decide
    case ikind => exact rfl
    case inames => decide
    case ix => exact rfl
    case iy => exact rfl
    case ip => exact rfl
    case is => intro _; exact rfl
    walk_at "law go"
    refine ⟨_, F6, ⟨_, src_conv (strs_paired hz1) (src_list rfl (list_of N6 (.head _) hDc hDd))⟩, by rw [sizeLine_eq]; omega, ⟨?_, ?_⟩, ?_⟩
    · rintro C x v s₃ m₃ E' hc ⟨u, rfl⟩ F₃ st₃ hm
      exact wpAny_tests_nil (TestEnd.intro rfl (fun _ _ e => e))
    · rintro C x v s₃ m₃ E' hc ⟨u, rfl⟩ hpp F₃ st₃ hm
      walk_at "law go"
      refine c_laid (Wd.fr W F₃) rfl (by show callerA.units + 3 + 64 < cLine; omega) (by show callerA.depth + 1 + 4 < recursionLimit; omega) (Nat.le_trans (hz2 x hc) (by decide)) ?_
      intro h7 tk7 v7 st7 hv7
      exact EltEnd.intro hv7 st7
    · intro D2 h7 tk7 ys2 keep F7 hD2 hl7 hp7
      dsimp only at keep hD2
      rw [List.filter_eq_self.mpr (fun _ _ => rfl)] at hp7
      have hD2₀ := fresh_of F6 hD2
      have zD := N6 _ (List.Mem.head _)
      have hlD : h7.IsList D ys.toArray := ⟨oD, keep _ _ zD.2.1 zD.1, hDc, nD, hDd⟩
      clear F6 N6
      have hys2 : ys2.length ≤ 64 := by rw [← hp7.length]; exact hzn
      have key : NoneEq ys2.toArray := fun A' s' => due_eqAt hp7
      obtain ⟨o2, h2c, ⟨n2, h2d⟩, N7⟩ := list_news F7 News.nil hl7 hD2₀
      rcases law_all zs with ⟨hall, ws, hw1, hw2, hw3⟩ | ⟨hall, hex⟩
      · have hS := due_strs hp7 hw1
        have hany := due_some hS
        walk_at "law go"
        refine wpAny_Try_except ?_
        walk_at "law go"
        refine c_write (Wd.fr W F7) (pushX K0 F7 rfl rfl) rfl (by show callerA.units + 3 + 128 < cLine; omega) (by show callerA.depth + 1 + 7 < recursionLimit; omega) hlD (strs_paired hz1) hzn (fun x hx => Nat.le_trans (hz2 x hx) (by decide)) ?_ ?_
        · intro _ h8 tk8 t8 st8
          have F8 := F7.keeps st8
          have N8 := News.grown N7 st8
          have hwl : ws.length ≤ 64 := by
            have := congrArg List.length hw1
            rw [List.length_map, List.length_map] at this
            omega
          have hwz := ws_len hw2 fun x hx => Nat.le_trans (hz2 x hx) (by decide)
          have hjz : (ws.map (·.length)).sum + ws.length * (Str.ofString " ").length ≤ 16777216 := by
            have h1 := StrLaws.sumLen_le ws hwz
            have h2 : (Str.ofString " ").length = 1 := rfl
            rw [h2]; omega
          have hS' : StrsAre ys2.toArray.toList ws := by rw [List.toList_toArray]; exact hS
          clear F7 N7
          (try dsimp only)
          walk_at "law go"
          refine' lc_pure (R := []) (L := s₁.heap.objs.size) (cl := []) (h₀ := s₁.heap) (V := fun (c : Nat) v => ∃ u, v = .str ⟨#[c]⟩ u) (pb := fun _ => true) (G := fun c y => ∃ u, y = .int (c : Int) u) (xs := (Txt.join (Str.ofString " ") ws).cps.toList) ?jV ?jclos ?jcell ?jkind ?jnames ?jx ?jit ?js
          case jV => exact sign_inj
          case jclos => exact rfl
          case jcell => decide
          case jkind => exact rfl
          case jnames => decide
          case jx => exact rfl
          case js => intro _; exact rfl
          walk_at "law go"
          have hJ : (Txt.join (Str.ofString " ") ws).length ≤ 16777216 := by
            unfold Txt.join
            rw [StrLaws.glued_eq_join]
            exact Nat.le_trans (StrLaws.join_length_le _ _) hjz
          have hJs : ∀ c ∈ (Txt.join (Str.ofString " ") ws).cps.toList, c < 127 := by
            unfold Txt.join
            rw [StrLaws.glued_eq_join]
            exact join_small (by decide) ws hw3
          (with_reducible rename Fr _ _ _ _ => F9)
          (with_reducible rename News _ _ _ _ => N9)
          refine ⟨_, F9, src_str rfl, by rw [sizeLine_eq, Array.length_toList]; exact hJ, ⟨?_, ?_⟩, ?_⟩
          · rintro C c v s₃ m₃ E' hc ⟨u, rfl⟩ F₃ st₃ hm
            exact wpAny_tests_nil (TestEnd.intro rfl (fun _ _ e => e))
          · rintro C c v s₃ m₃ E' hc ⟨u, rfl⟩ hpp F₃ st₃ hm
            walk_at "law go"
            exact EltEnd.intro ⟨_, rfl⟩ (fun _ _ e => e)
          · intro D3 h10 tk10 ys3 st10 hD3 hl10 hp10
            dsimp only at st10 hD3
            have F10 := F9.keeps st10
            have N10 := News.grown N9 st10
            clear F9 N9
            walk_at "law go"
            refine call_bytes_ints (ns := codesI (Txt.join (Str.ofString " ") ws)) hl10 (ints_of_paired hp10) (codes_in (List.all_eq_true.mpr fun c hc => decide_eq_true (by have := hJs c hc; omega))) ?_ rfl fun h11 t11 k11 st11 => ?_
            · rw [paired_len hp10, Array.length_toList, sizeLine_eq]; exact hJ
            have F11 := F10.keeps st11
            have N11 := News.grown N10 st11
            clear F10 N10
            have hfin : ((lineOf zs).toArray.toList == (byteArr (codesI (Txt.join (Str.ofString " ") ws))).toList) = true := by
              rw [beq_iff_eq, List.toList_toArray, line_eq hw2, ← octs_eq]; rfl
            dsimp only
            walk_at "law go"
            rw [show (lineOf zs == (byteArr (codesI (Txt.join (Str.ofString " ") ws))).toList) = true from hfin]
            wrow_close
        · intro hno
          rw [hall] at hno; cases hno
      · have hany := due_none hp7 hex
        walk_at "law go"
        refine wpAny_Try_except ?_
        walk_at "law go"
        refine c_write (Wd.fr W F7) (pushX K0 F7 rfl rfl) rfl (by show callerA.units + 3 + 128 < cLine; omega) (by show callerA.depth + 1 + 7 < recursionLimit; omega) hlD (strs_paired hz1) hzn (fun x hx => Nat.le_trans (hz2 x hx) (by decide)) ?_ ?_
        · intro hyes
          rw [hall] at hyes; cases hyes
        · intro _ h8 tk8 e1 t1 hfl8 hup8
          (try dsimp only)
          refine wpAny_looks_onW (Around.frames_deeper K0.stack) rfl hfl8 fun h9 hheld9 hup9 => ?_
          refine wpAny_landsW hheld9 fun h10 hfl10 hup10 => ?_
          have hupA := (hup8.trans hup9).trans hup10
          have F10 := Fr.of_stays F7 hfl10.1 hupA
          obtain ⟨ob1, hob1, hobc⟩ := hfl10.there
          have W10 := Wd.fr W F10
          obtain ⟨bs, sn, sub, ab, col, dd, k0, k1, k2, k3, k5, hC⟩ := wf_obj (s := ⟨h10, s₁.gens, s₁.drawn, tk8, s₁.os⟩) W10.1
          refine wpAny_handleBy_cons (codeAny_handlers_test ?_) (by intro z; cases z)
          walk_at "law go"
          refine wpAny_excMatches_sub_self hC hob1 hobc (by simp [bmE]) (codeAny_handlers_suite ?_)
          refine lands_againW hfl10 fun h11 hfl11 hup11 => ?_
          have hupB := hupA.trans hup11
          have F11 := Fr.of_stays F7 hfl11.1 hupB
          have hl11 : h11.IsList D2 ys2.toArray := by
            have z := N7 _ (List.Mem.head _)
            obtain ⟨sl, e⟩ := hupB _ _ z.1 (fun ws q => by rw [h2d] at q; cases q)
            exact ⟨_, e, h2c, n2, h2d⟩
          obtain ⟨o3', h3c, ⟨n3', h3d⟩, N11⟩ := list_news F11 News.nil hl11 hD2₀
          clear F7 N7 F10
          (try dsimp only)
          walk_at "law go"
          dsimp only
          walk_at "law go"
          wrow_close)
end part_X0
end group_15
end Mine
theorem PySem.Challenge.cw_nz0273_01_holds : PySem.Challenge.rw_nz0273_01.Holds :=
  Mine.cw
