import PyProof.Rows.All
import Wide.All
import OpenK.AllK
import Wide.FinOn
import Lean
import PySem.Challenge.RW_rh0001_01
open PySem PySem.W PySem.Calls PyProof.Rows
set_option Elab.async false
set_option maxRecDepth 100000
set_option maxHeartbeats 8000000
namespace Mine
theorem pick {L T H : Prop} (m : H) (_ : L) (_ : T) : H := m
set_option linter.defProp false in
/-- the head, its run held at once by the kernel: the kit's «open_top» lays it in pieces, and they weigh 17 MB compiled. The walk's own goal is «call». -/
def hd := fun (call : (_ : Prop)) => (show PySem.Challenge.rw_rh0001_01.Holds from by
  refine' pick ?main ?hl ?hc
  case' hc => exact call
  case main => (w_on; o_law; k_head; w_witness2)
  case hl => (intro w; kernel_rfl))
end Mine
namespace Mine

/-- the surroundings that every contract of ours speaks of -/
abbrev AC (d : Nat) (fr : List Env) : Around := { handled := none, depth := d, frames := some fr, guards := none, units := 10 * d }

theorem in_weaken {Γ : Ctx} {A : Around} {d : Nat} {fr : List Env} (h : Γ.In A) (hh : A.handled = none) (hd : A.depth ≤ d) (hf : A.frames = some fr) (hu : A.units ≤ 10 * d) : Γ.In (AC d fr) := by
  refine ⟨h.1.trans hh, Nat.le_trans h.2.1 hd, fun l hl => h.2.2.1 l (hf.trans hl), fun g hg => (by cases hg), Nat.le_trans h.2.2.2.2 hu⟩

theorem use_AC {α : Type} {M : Model} {A : Around} {d : Nat} {fr : List Env} {t : Sem α} {Q : α → Shared → Prop} {E : Value → Shared → Prop} {s : Shared}
    (h : wpAny M (AC d fr) t Q E s) (hh : A.handled = none) (hf : A.frames = some fr) (hd : A.depth ≤ d) (hu : A.units ≤ 10 * d) : wpAny M A t Q E s :=
  fun Γ p hΓ => h Γ p (in_weaken hΓ hh hd hf hu)

/-- the object of a tuple -/
def tupO (o : Obj) : Prop := o.cls = .type "tuple" ∧ ∃ vs n, o.data = .seq vs n
/-- all that stood outside the footprint stands as it stood -/
def Mods (as : List Addr) (h h' : Heap) : Prop := ∀ b o, h.get? b = some o → b ∉ as → h'.get? b = some o

section
variable {prog : Program} {w : World} {A A₀ : Around} {s : Shared} {K : Frag} {L : Addr} {h₀ base : Heap} {m mg mb : Str → Option Value} {news : List (Addr × Obj)} {p : Program} {loose : List Str} {mean : ExcName → Option Value}

/-- where the walk shall stand still -/
def Halt (P : Prop) : Prop := P
theorem halt {P : Prop} (h : Halt P) : P := h
theorem halt_call {M : Model} {A : Around} {n : Addr} {args : List Value} {Q : Value → Shared → Prop} {E : Value → Shared → Prop} {s : Shared} (_ : ([182, 100, 93, 189, 194, 199, 204, 211, 216, 121, 128, 135, 154, 161, 88, 147] : List Nat).contains n = true)
    (h : Halt (wpAny M A (call (.ref n) args) Q E s)) : wpAny M A (call (.ref n) args) Q E s := h
/-- behind the callee's body: what the caller is given -/
def Back (h₀ : Heap) (L : Addr) (m : Str → Option Value) (g : Heap) (as : List Addr) (h : Heap) (Q : Value → Shared → Prop) (v : Value) (s' : Shared) : Prop :=
  ∃ L' m' news', Fr g L' s'.heap m' ∧ News g L' s'.heap news' ∧ (Fr h₀ L s'.heap m → News h₀ L s'.heap news' → Mods as h s'.heap → Q v s')

theorem back_mk {h₀ g h : Heap} {L L' : Addr} {m m' : Str → Option Value} {news' : List (Addr × Obj)} {as : List Addr} {Q : Value → Shared → Prop} {v : Value} {s' : Shared} (F' : Fr g L' s'.heap m') (N' : News g L' s'.heap news')
    (k : Fr h₀ L s'.heap m → News h₀ L s'.heap news' → Mods as h s'.heap → Q v s') : Back h₀ L m g as h Q v s' := ⟨L', m', news', F', N', k⟩

/-- a call of one of the text's own defs, at our surroundings -/
theorem enter {d : Nat} {env : Env} {outer : List Env} {Q : Value → Shared → Prop} {E : Value → Shared → Prop} {name qual : Str} {params : Arguments} {body : List Stmt} {scope : Scope} {dV kV doc pm cdv ct oc : Value} {an od : Option Addr} {osl : Array (Option Value)} {f : Addr} {args : List Value} {binds : List (Str × Value)}
    (B : Below A₀ base outer h₀) (F : Fr h₀ L s.heap m) (X₀ : K.In h₀) (N : News h₀ L s.heap news) (T : Top p loose mean mg mb h₀) (hf : env.frame = some L) (hke : env.scope.kind = .function)
    (ho : K.lookup f = some ⟨oc, od, .func (fnOf name qual params body scope dV kV doc pm an cdv ct), osl⟩) (hcd : codeIn K cdv qual = true) (hroom : Nat.ble (d + 1) recursionLimit = true)
    (hbind : bindArgs (fnOf name qual params body scope dV kV doc pm an cdv ct) ⟨args, []⟩ = pure binds) (hloc : (binds.all fun x => decide (scope.names.lookup x.1 = some .local)) = true)
    (hco : scope.isCoroutine = false) (hgen : scope.isGenerator = false) (hk : scope.kind = .function) (hcell : (scope.names.all fun x => decide (x.2 ≠ .cell)) = true)
    (h : let LL : Addr := s.heap.objs.size; let MM : Str → Option Value := fun y => binds.reverse.lookup y; ∀ g h₁ tk₁ gs dr os (P : Flow → Shared → Prop), (∀ fl h' tk, Back h₀ L m g (news.map (·.1)) s.heap Q (match fl with | .ret v => v | _ => .none) { s with heap := h', toks := tk } → P fl ⟨h', gs, dr, tk, os⟩) →
      Fr g LL h₁ MM → News g LL h₁ news → Below (AC d (env :: outer)) base (env :: outer) g → K.In g → Top p loose mean mg mb g →
      (∀ b o, s.heap.get? b = some o → b ∉ news.map (·.1) → g.get? b = some o) → (∀ b o, g.get? b = some o → s.heap.get? b = some o) →
      let env' := envOf qual scope LL f cdv; let A' := (AC d (env :: outer)).deeper env'
      wpAny (model prog w) A' (execs body env') P (fun _ _ => False) ⟨h₁, gs, dr, tk₁, os⟩) :
    wpAny (model prog w) (AC d (env :: outer)) (call (.ref f) args) Q E s := by
  refine wpAny_call ?_
  obtain ⟨FG, BG, st, lv⟩ := groundX (R := fun r s' => match r with | .ok (.ret v) => Q v s' | .ok _ => False | .error e => E e s') B F N (A := AC d (env :: outer)) (outer := outer) rfl hf hke
  refine codeAny_call_def (fd := fnOf name qual params body scope dV kV doc pm an cdv ct) (body := body) (binds := binds) (Nat.le_of_ble_eq_true hroom) ((X₀.keeps F.keep) _ _ ho) rfl (T.nolimit.keeps F.keep) (codeRec_of (X₀.keeps F.keep) hcd) rfl (BindsTo.of_eq hbind)
    (fun x hx => of_decide_eq_true (List.all_eq_true.mp hcell x hx)) (locs hloc) (fun h₁ hns hk₁ => ?_) hco hgen hk
  refine wpAny_mono (h _ h₁ _ _ _ _ (fun fl s' => (∃ h' tk, s' = { s with heap := h', toks := tk }) ∧ Back h₀ L m (hideAll s.heap (news.map (·.1))) (news.map (·.1)) s.heap Q (match fl with | .ret v => v | _ => .none) s') (fun fl h' tk b => ⟨⟨h', tk, rfl⟩, b⟩) ⟨hns, fun b o e => hk₁ b o (of_hideAll _ e), Nat.le_of_eq (hideAll_size _ _)⟩
    (fun q hq => ⟨hk₁ _ _ (N q hq).1, Nat.ne_of_lt (Heap.lt_size (N q hq).1), hideAll_none _ (List.mem_map_of_mem hq)⟩) BG (X₀.keeps st) (T.keeps st)
    (fun b o e hn => hideAll_get _ e hn) (fun b o e => of_hideAll _ e)) (fun fl s' hl => ?_) fun _ _ y => y.elim
  obtain ⟨-, L', m', news', F', N', k⟩ := hl
  exact lv _ _ ⟨L', m', news', F', N', fun F'' N'' => k F'' N'' fun b o e hn => F'.keep b o (hideAll_get _ e hn)⟩

/-- the same, where a block of the def reads names of its frame -/
theorem enterC {d : Nat} {env : Env} {outer : List Env} {Q : Value → Shared → Prop} {E : Value → Shared → Prop} {name qual : Str} {params : Arguments} {body : List Stmt} {scope : Scope} {dV kV doc pm cdv ct oc : Value} {an od : Option Addr} {osl : Array (Option Value)} {f : Addr} {args : List Value} {binds : List (Str × Value)}
    (B : Below A₀ base outer h₀) (F : Fr h₀ L s.heap m) (X₀ : K.In h₀) (N : News h₀ L s.heap news) (T : Top p loose mean mg mb h₀) (hf : env.frame = some L) (hke : env.scope.kind = .function)
    (ho : K.lookup f = some ⟨oc, od, .func (fnOf name qual params body scope dV kV doc pm an cdv ct), osl⟩) (hcd : codeIn K cdv qual = true) (hroom : Nat.ble (d + 1) recursionLimit = true)
    (hbind : bindArgs (fnOf name qual params body scope dV kV doc pm an cdv ct) ⟨args, []⟩ = pure binds)
    (hkind : (binds.all fun y => scope.names.lookup y.1 == some .local || scope.names.lookup y.1 == some .cell) = true)
    (hnd : decide ((cellsFrom 0 scope.names []).map (·.1)).Nodup = true)
    (hco : scope.isCoroutine = false) (hgen : scope.isGenerator = false) (hk : scope.kind = .function)
    (h : let LL : Addr := s.heap.objs.size; let MM : Str → Option Value := bindL (envOfC qual scope LL f cdv).kindOf binds fun _ => none; ∀ g h₁ tk₁ cells gs dr os (P : Flow → Shared → Prop), (∀ fl h' tk, Back h₀ L m g (news.map (·.1)) s.heap Q (match fl with | .ret v => v | _ => .none) { s with heap := h', toks := tk } → P fl ⟨h', gs, dr, tk, os⟩) →
      Fr g LL h₁ MM → News g LL h₁ (cells ++ news) →
      CellsAre (bindC (envOfC qual scope LL f cdv).kindOf binds fun _ => none) (cellsFrom (LL + 1) scope.names []) cells →
      Below (AC d (env :: outer)) base (env :: outer) g → K.In g → Top p loose mean mg mb g → (∀ b o, s.heap.get? b = some o → b ∉ news.map (·.1) → g.get? b = some o) → (∀ b o, g.get? b = some o → s.heap.get? b = some o) → (∀ q ∈ news, q.1 < LL) →
      let env' := envOfC qual scope LL f cdv; let A' := (AC d (env :: outer)).deeper env'
      wpAny (model prog w) A' (execs body env') P (fun _ _ => False) ⟨h₁, gs, dr, tk₁, os⟩) :
    wpAny (model prog w) (AC d (env :: outer)) (call (.ref f) args) Q E s := by
  refine wpAny_call ?_
  obtain ⟨FG, BG, st, lv⟩ := groundX (R := fun r s' => match r with | .ok (.ret v) => Q v s' | .ok _ => False | .error e => E e s') B F N (A := AC d (env :: outer)) (outer := outer) rfl hf hke
  refine codeAny_call_function (Nat.le_of_ble_eq_true hroom) ((X₀.keeps F.keep) _ _ ho) rfl hco hgen rfl (codeRec_of (X₀.keeps F.keep) hcd) (BindsTo.of_eq hbind _ _ _ _ ?_)
  refine wpAny_newFunctionEnv_cells hk (kindsX hkind _) fun env' he s' x => ?_
  subst he
  refine ⟨(T.nolimit.keeps F.keep).keeps x.toInCall.keep, codeAny_func ?_⟩
  obtain ⟨h₁, tk, rfl, _⟩ := x.done
  have hk₁ := x.toInCall.keep
  obtain ⟨cells, NC, Y⟩ := Cl.news (h₀ := s.heap) (Nat.le_refl _) fun n c hm => ⟨x.cell n c (lookup_of_mem_nodup (cellsFrom_names scope.names 0 (s.heap.objs.size + 1) [] [] rfl ▸ of_decide_eq_true hnd) hm), x.above n c hm⟩
  refine wpAny_mono (h _ h₁ tk cells _ _ _ (fun fl s' => (∃ h' tk, s' = { s with heap := h', toks := tk }) ∧ Back h₀ L m (hideAll s.heap (news.map (·.1))) (news.map (·.1)) s.heap Q (match fl with | .ret v => v | _ => .none) s') (fun fl h' tk b => ⟨⟨h', tk, rfl⟩, b⟩) ⟨x.toInCall.ns, fun b o e => hk₁ b o (of_hideAll _ e), Nat.le_of_eq (hideAll_size _ _)⟩ (fun q hq => ?_) Y BG (X₀.keeps st) (T.keeps st)
    (fun b o e hn => hideAll_get _ e hn) (fun b o e => of_hideAll _ e) (fun q hq => Heap.lt_size (N q hq).1)) (fun fl s' hl => ?_) fun _ _ y => y.elim
  · rcases List.mem_append.mp hq with hq | hq
    · refine ⟨(NC q hq).1, (NC q hq).2.1, ?_⟩
      cases e : (hideAll s.heap (news.map (·.1))).get? q.1 with
      | none => rfl
      | some o => have := of_hideAll _ e; rw [(NC q hq).2.2] at this; cases this
    · exact ⟨hk₁ _ _ (N q hq).1, Nat.ne_of_lt (Heap.lt_size (N q hq).1), hideAll_none _ (List.mem_map_of_mem hq)⟩
  · obtain ⟨-, L', m', news', F', N', k⟩ := hl
    exact lv _ _ ⟨L', m', news', F', N', fun F'' N'' => k F'' N'' fun b o e hn => F'.keep b o (hideAll_get _ e hn)⟩
end

theorem ne_of_cls {h : Heap} {a b : Addr} {oa ob : Obj} (ha : h.get? a = some oa) (hb : h.get? b = some ob) (hc : oa.cls ≠ ob.cls) : a ≠ b := by
  rintro rfl; rw [ha] at hb; cases hb; exact hc rfl

theorem Mods.refl (as : List Addr) (h : Heap) : Mods as h h := fun _ _ e _ => e
theorem Mods.trans {as : List Addr} {h h' h'' : Heap} (x : Mods as h h') (y : Mods as h' h'') : Mods as h h'' := fun b o e n => y b o (x b o e n) n
theorem News.mods {h₀ h h' : Heap} {L : Addr} {news : List (Addr × Obj)} {as : List Addr} (N : News h₀ L h news) (M : Mods as h h') (n : ∀ p ∈ news, p.1 ∉ as) : News h₀ L h' news :=
  fun p hp => ⟨M _ _ (N p hp).1 (n p hp), (N p hp).2⟩
theorem News.app {h₀ h : Heap} {L : Addr} {a b : List (Addr × Obj)} (x : News h₀ L h a) (y : News h₀ L h b) : News h₀ L h (a ++ b) := fun p hp => (List.mem_append.mp hp).elim (x p) (y p)
theorem News.sub {h₀ h : Heap} {L : Addr} {a b : List (Addr × Obj)} (x : News h₀ L h b) (s : ∀ p ∈ a, p ∈ b) : News h₀ L h a := fun p hp => x p (s p hp)
theorem News.cons {h₀ h : Heap} {L : Addr} {a : Addr} {o : Obj} {r : List (Addr × Obj)} (h1 : h.get? a = some o) (h2 : a ≠ L) (h3 : h₀.get? a = none) (x : News h₀ L h r) : News h₀ L h ((a, o) :: r) := fun p hp => by
  rcases List.mem_cons.mp hp with rfl | hp
  · exact ⟨h1, h2, h3⟩
  · exact x p hp
end Mine
namespace Mine

/-- a row: an op and the numbers of its kids -/
abbrev Row := Str × List Nat

/-- what is reckoned row by row from what stands ahead -/
def scan {α : Type} (f : List α → Row → α) (rows : List Row) : List α := rows.foldl (fun acc r => acc ++ [f acc r]) []

section
variable {α : Type} (f : List α → Row → α)
theorem scan_append (rows : List Row) (r : Row) : scan f (rows ++ [r]) = scan f rows ++ [f (scan f rows) r] := by
  simp [scan, List.foldl_append]
@[simp] theorem scan_nil : scan f [] = [] := rfl
theorem scan_length (rows : List Row) : (scan f rows).length = rows.length := by
  have all : ∀ (rows : List Row) (acc : List α), (rows.foldl (fun acc r => acc ++ [f acc r]) acc).length = acc.length + rows.length := by
    intro rows
    induction rows with
    | nil => intro acc; simp
    | cons r rs ih => intro acc; simp only [List.foldl_cons, ih, List.length_append, List.length_cons, List.length_nil]; omega
  simpa [scan] using all rows []
theorem scan_take (rows : List Row) : ∀ k, scan f (rows.take k) = (scan f rows).take k := by
  have key : ∀ n, ∀ rows : List Row, rows.length = n → ∀ k, scan f (rows.take k) = (scan f rows).take k := by
    intro n
    induction n with
    | zero => intro rows h k; rw [List.length_eq_zero_iff.mp h]; simp
    | succ n ih =>
      intro rows h k
      have hne : rows ≠ [] := by rintro rfl; simp at h
      obtain ⟨r, x, e⟩ : ∃ r x, rows = r ++ [x] := ⟨rows.dropLast, rows.getLast hne, (List.dropLast_concat_getLast hne).symm⟩
      subst e
      have hr : r.length = n := by simpa using h
      by_cases hk : k ≤ r.length
      · rw [List.take_append_of_le_length hk, scan_append, List.take_append_of_le_length (by rw [scan_length]; exact hk)]
        exact ih r hr k
      · have hk' : (r ++ [x]).length ≤ k := by simp; omega
        rw [List.take_of_length_le hk', List.take_of_length_le (by rw [scan_length]; exact hk')]
  exact fun k => key _ rows rfl k
theorem scan_get (rows : List Row) (i : Nat) (r : Row) (h : rows[i]? = some r) : (scan f rows)[i]? = some (f ((scan f rows).take i) r) := by
  have hi : i < rows.length := by
    rcases Nat.lt_or_ge i rows.length with h' | h'
    · exact h'
    · rw [List.getElem?_eq_none h'] at h; cases h
  have e1 : rows.take (i + 1) = rows.take i ++ [r] := by rw [List.take_add_one, h]; rfl
  have e2 : scan f (rows.take (i + 1)) = scan f (rows.take i) ++ [f (scan f (rows.take i)) r] := by rw [e1, scan_append]
  rw [scan_take, scan_take] at e2
  have e3 := congrArg (fun l => l[i]?) e2
  have hl : ((scan f rows).take i).length = i := by rw [List.length_take, scan_length]; omega
  rw [List.getElem?_take_of_lt (Nat.lt_succ_self i), List.getElem?_append_right (by omega), hl] at e3
  simpa using e3
end

def wtOf (acc : List Int) (r : Row) : Int := 1 + (r.2.map fun k => acc.getD k 0).sum
def dpOf (acc : List Int) (r : Row) : Int := 1 + (r.2.map fun k => acc.getD k 0).foldr max 0
def tmOf (acc : List PyData) (r : Row) : PyData := .tuple (.str r.1 :: r.2.map fun k => acc.getD k .none)
def wts (rows : List Row) : List Int := scan wtOf rows
def dps (rows : List Row) : List Int := scan dpOf rows
def tms (rows : List Row) : List PyData := scan tmOf rows

def opsAll : List Str := ["a", "b", "c", "f", "g"]
/-- each row's op is one of five, its kids are few and stand ahead of it -/
structure WF (rows : List Row) : Prop where
  ops : ∀ r ∈ rows, r.1 ∈ opsAll
  few : ∀ r ∈ rows, r.2.length ≤ 2
  kid : ∀ (i : Nat) (r : Row), rows[i]? = some r → ∀ k ∈ r.2, k < i
  nodup : rows.Nodup

theorem WF.nil : WF [] := ⟨by simp, by simp, by simp, List.nodup_nil⟩
theorem WF.push {rows : List Row} {r : Row} (W : WF rows) (h1 : r.1 ∈ opsAll) (h2 : r.2.length ≤ 2) (h3 : ∀ k ∈ r.2, k < rows.length) (h4 : r ∉ rows) : WF (rows ++ [r]) := by
  refine ⟨?_, ?_, ?_, ?_⟩
  · intro x hx; rcases List.mem_append.mp hx with hx | hx
    · exact W.ops x hx
    · rw [List.mem_singleton.mp hx]; exact h1
  · intro x hx; rcases List.mem_append.mp hx with hx | hx
    · exact W.few x hx
    · rw [List.mem_singleton.mp hx]; exact h2
  · intro i x hx k hk
    rcases Nat.lt_or_ge i rows.length with h | h
    · rw [List.getElem?_append_left h] at hx; exact W.kid i x hx k hk
    · rw [List.getElem?_append_right h] at hx
      have : i - rows.length = 0 := by
        rcases Nat.eq_zero_or_pos (i - rows.length) with h' | h'
        · exact h'
        · rw [List.getElem?_eq_none (by simp; omega)] at hx; cases hx
      rw [this] at hx
      simp at hx; subst hx
      have := h3 k hk; omega
  · rw [List.nodup_append]
    refine ⟨W.nodup, by simp, ?_⟩
    intro a ha b hb e
    rw [List.mem_singleton.mp hb] at e
    exact h4 (e ▸ ha)
theorem WF.take {rows : List Row} (W : WF rows) (n : Nat) : WF (rows.take n) := by
  refine ⟨fun r h => W.ops r (List.mem_of_mem_take h), fun r h => W.few r (List.mem_of_mem_take h), fun i r h => ?_, W.nodup.sublist (List.take_sublist _ _)⟩
  have hi : i < n := by
    rcases Nat.lt_or_ge i n with h' | h'
    · exact h'
    · rw [List.getElem?_eq_none (by rw [List.length_take]; omega)] at h; cases h
  rw [List.getElem?_take_of_lt hi] at h
  exact W.kid i r h
/-- rows with one more: nothing where it is there already -/
def addRow (rows : List Row) (r : Row) : List Row := if r ∈ rows then rows else rows ++ [r]
theorem WF.add {rows : List Row} {r : Row} (W : WF rows) (h1 : r.1 ∈ opsAll) (h2 : r.2.length ≤ 2) (h3 : ∀ k ∈ r.2, k < rows.length) : WF (addRow rows r) := by
  unfold addRow; split
  · exact W
  · exact W.push h1 h2 h3 ‹_›
theorem addRow_length (rows : List Row) (r : Row) : rows.length ≤ (addRow rows r).length ∧ (addRow rows r).length ≤ rows.length + 1 := by
  unfold addRow; split <;> simp
theorem addRow_pos (rows : List Row) (r : Row) : 0 < (addRow rows r).length := by
  unfold addRow; split
  · rename_i h; exact List.length_pos_of_mem h
  · simp

/-- a number as a datum -/
def pin (k : Nat) : PyData := .int (k : Int)
def rowD (r : Row) : PyData := .tuple [.str r.1, .tuple (r.2.map pin)]
def nodeD (r : Row) : PyData := .tuple (.str r.1 :: r.2.map pin)

theorem ops_ok {x : Str} (h : x ∈ opsAll) : PyData.strOk x = true := by
  have : ∀ y ∈ opsAll, PyData.strOk y = true := by decide +kernel
  exact this x h

theorem lay_ints (ks : List Nat) : PyData.canLayAll0 (ks.map pin) = true := by
  induction ks with
  | nil => rfl
  | cons k r ih => simp [PyData.canLayAll0, PyData.canLay0, pin, ih]
theorem dep_ints (ks : List Nat) : PyData.depthAll (ks.map pin) ≤ 1 := by
  induction ks with
  | nil => simp [PyData.depthAll]
  | cons k r ih => simp [PyData.depthAll, PyData.depth, pin]; omega
theorem lay_row {r : Row} (h : r.1 ∈ opsAll) : (rowD r).canLay0 = true := by
  simp [rowD, PyData.canLay0, PyData.canLayAll0, ops_ok h, lay_ints]
theorem dep_row (r : Row) : (rowD r).depth ≤ 8 := by
  have := dep_ints r.2
  simp only [rowD, PyData.depth, PyData.depthAll]
  omega
theorem eqv_ints : ∀ ks ls : List Nat, PyData.eqvAll (ks.map pin) (ls.map pin) = decide (ks = ls)
  | [], [] => by simp [PyData.eqvAll]
  | [], _ :: _ => by simp [PyData.eqvAll]
  | _ :: _, [] => by simp [PyData.eqvAll]
  | k :: ks, l :: ls => by
    simp only [List.map_cons, PyData.eqvAll, pin, PyData.eqv, List.cons.injEq]
    rw [eqv_ints ks ls]
    by_cases h : k = l <;> by_cases h' : ks = ls <;> simp [h, h'] <;> omega
theorem eqv_row (r q : Row) : PyData.eqv (rowD r) (rowD q) = decide (r = q) := by
  simp only [rowD, PyData.eqv, PyData.eqvAll, eqv_ints, Bool.and_true]
  obtain ⟨a, b⟩ := r; obtain ⟨c, d⟩ := q
  simp only [Prod.mk.injEq]
  by_cases h : a = c <;> by_cases h' : b = d <;> simp [h, h']
theorem any_row (rows : List Row) (r : Row) : ((rows.map rowD).any fun y => PyData.eqv y (rowD r)) = decide (r ∈ rows) := by
  induction rows with
  | nil => simp
  | cons q rs ih =>
    simp only [List.map_cons, List.any_cons, ih, eqv_row, List.mem_cons]
    by_cases h : q = r <;> by_cases h' : r ∈ rs <;> simp [h, h', eq_comm]
    all_goals (try (intro e; exact absurd e.symm h))
theorem lay_rows {rows : List Row} (h : ∀ r ∈ rows, r.1 ∈ opsAll) : PyData.canLayAll0 (rows.map rowD) = true ∧ PyData.depthAll (rows.map rowD) ≤ 8 := by
  induction rows with
  | nil => simp [PyData.canLayAll0, PyData.depthAll]
  | cons q rs ih =>
    have i := ih fun r hr => h r (.tail _ hr)
    have d := dep_row q
    simp only [List.map_cons, PyData.canLayAll0, PyData.depthAll, lay_row (h q (.head _)), i.1, Bool.and_self, true_and]
    have := i.2; omega
end Mine
namespace Mine

/-- the tuples stand as they stood -/
def TK (h h' : Heap) : Prop := ∀ b o, h.get? b = some o → tupO o → h'.get? b = some o
theorem TK.refl (h : Heap) : TK h h := fun _ _ e _ => e
theorem TK.trans {a b c : Heap} (x : TK a b) (y : TK b c) : TK a c := fun i o e k => y i o (x i o e k) k
theorem TK.of_keep {h h' : Heap} (k : ∀ b o, h.get? b = some o → h'.get? b = some o) : TK h h' := fun b o e _ => k b o e
theorem TK.of_mods {as : List Addr} {h h' : Heap} (M : Mods as h h') (n : ∀ a ∈ as, ∀ o, h.get? a = some o → ¬ tupO o) : TK h h' :=
  fun b o e c => M b o e fun hb => n b hb o e c

mutual
def tupOnly : PyData → Bool
  | .none => true
  | .bool _ => true
  | .int _ => true
  | .str _ => true
  | .tuple xs => tupOnlyAll xs
  | .list _ => false
  | .dict _ => false
def tupOnlyAll : List PyData → Bool
  | [] => true
  | x :: xs => tupOnly x && tupOnlyAll xs
end
mutual
theorem reads_tk {h h' : Heap} (k : TK h h') : ∀ {d : PyData} {v : Value} {as : List Addr}, tupOnly d = true → Reads h v d as → Reads h' v d as
  | .none, _, _, _, r => by cases r; exact .none
  | .bool _, _, _, _, r => by cases r; exact .bool _
  | .int _, _, _, _, r => by cases r; exact .int _ _
  | .str _, _, _, _, r => by cases r; exact .str _ _
  | .tuple xs, _, _, e, r => by
    cases r with
    | tuple h1 h2 h3 h4 => exact .tuple (k _ _ h1 ⟨h2, _, _, h3⟩) h2 h3 (readsAll_tk k (by simpa [tupOnly] using e) h4)
  | .list _, _, _, e, _ => by simp [tupOnly] at e
  | .dict _, _, _, e, _ => by simp [tupOnly] at e
theorem readsAll_tk {h h' : Heap} (k : TK h h') : ∀ {ds : List PyData} {vs : List Value} {as : List Addr}, tupOnlyAll ds = true → ReadsAll h vs ds as → ReadsAll h' vs ds as
  | [], _, _, _, r => by cases r; exact .nil
  | d :: ds, _, _, e, r => by
    have e' : tupOnly d = true ∧ tupOnlyAll ds = true := by simpa [tupOnlyAll] using e
    cases r with
    | cons r1 r2 => exact .cons (reads_tk k e'.1 r1) (readsAll_tk k e'.2 r2)
end
theorem tup_ints (ks : List Nat) : tupOnlyAll (ks.map pin) = true := by
  induction ks with
  | nil => rfl
  | cons k r ih => simp [tupOnlyAll, tupOnly, pin, ih]
theorem tup_row (r : Row) : tupOnly (rowD r) = true := by simp [rowD, tupOnly, tupOnlyAll, tup_ints]
theorem tup_node (r : Row) : tupOnly (nodeD r) = true := by simp [nodeD, tupOnly, tupOnlyAll, tup_ints]
theorem tup_rows (rows : List Row) : tupOnlyAll (rows.map rowD) = true := by
  induction rows with
  | nil => rfl
  | cons k r ih => simp [tupOnlyAll, tup_row, ih]
theorem tup_nodes (rows : List Row) : tupOnlyAll (rows.map nodeD) = true := by
  induction rows with
  | nil => rfl
  | cons k r ih => simp [tupOnlyAll, tup_node, ih]

/-- what a key's item may be -/
inductive NK where
  | s (x : Str)
  | i (n : Int)
  deriving DecidableEq
def NK.is : NK → Value → Bool
  | .s x, .str y _ => y == x
  | .i n, .int m _ => m == n
  | _, _ => false
theorem NK.shape {k : NK} {v : Value} (h : k.is v = true) : (∃ x t, k = .s x ∧ v = .str x t) ∨ ∃ n t, k = .i n ∧ v = .int n t := by
  cases k <;> cases v <;> simp_all [NK.is]

theorem eqBool_str_int {prog : Program} {w : World} {A : Around} {E : Value → Shared → Prop} {s : Shared} {x : Str} {t : Tok} {n : Int} {u : Tok} {Q : Bool → Shared → Prop} (h : Q false s) :
    wpAny (model prog w) A (PySem.eqBool (.str x t) (.int n u)) Q E s := by
  unfold PySem.eqBool
  try with_reducible refine wpAny_holding ?_
  have e : (Value.str x t == Value.int n u) = false := by rw [beq_eq_false_iff_ne]; intro h; cases h
  rw [e]
  simp only [Bool.false_eq_true, if_false]
  exact wpAny_bind (EqMixed.eq_str_int (Q := fun r s' => wpAny (model prog w) A (truthOfDropped r) Q E s') (wpAny_truthy_bool h))
theorem eqBool_int_str {prog : Program} {w : World} {A : Around} {E : Value → Shared → Prop} {s : Shared} {x : Str} {t : Tok} {n : Int} {u : Tok} {Q : Bool → Shared → Prop} (h : Q false s) :
    wpAny (model prog w) A (PySem.eqBool (.int n u) (.str x t)) Q E s := by
  unfold PySem.eqBool
  try with_reducible refine wpAny_holding ?_
  have e : (Value.int n u == Value.str x t) = false := by rw [beq_eq_false_iff_ne]; intro h; cases h
  rw [e]
  simp only [Bool.false_eq_true, if_false]
  exact wpAny_bind (EqMixed.eq_int_str (Q := fun r s' => wpAny (model prog w) A (truthOfDropped r) Q E s') (wpAny_truthy_bool h))

def nkKind (prog : Program) (w : World) : PySem.KeyKind prog w NK where
  is := NK.is
  hash := fun k => match k with | .s x => hashStr w x | .i n => hashInt n
  inj := fun v a b ha hb => by
    rcases NK.shape ha with ⟨x, t, rfl, rfl⟩ | ⟨x, t, rfl, rfl⟩ <;> rcases NK.shape hb with ⟨y, u, rfl, e⟩ | ⟨y, u, rfl, e⟩ <;> cases e <;> rfl
  byValue := fun k v h => by rcases NK.shape h with ⟨x, t, rfl, rfl⟩ | ⟨x, t, rfl, rfl⟩ <;> rfl
  pyHash := fun hv h => by
    rcases NK.shape hv with ⟨x, t, rfl, rfl⟩ | ⟨x, t, rfl, rfl⟩
    · exact wpAny_pyHash_str h
    · exact wpAny_pyHash_int h
  eqBool := fun hu hv h => by
    rcases NK.shape hu with ⟨x, t, rfl, rfl⟩ | ⟨x, t, rfl, rfl⟩ <;> rcases NK.shape hv with ⟨y, u, rfl, rfl⟩ | ⟨y, u, rfl, rfl⟩
    · rw [show decide (NK.s x = NK.s y) = decide (x = y) from decide_eq_decide.mpr ⟨fun h => by injection h, fun h => by rw [h]⟩] at h
      exact wpAny_eqBool_str h
    · exact eqBool_str_int (by simpa using h)
    · exact eqBool_int_str (by simpa using h)
    · rw [show decide (NK.i x = NK.i y) = decide (x = y) from decide_eq_decide.mpr ⟨fun h => by injection h, fun h => by rw [h]⟩] at h
      exact wpAny_eqBool_int h
  «strs» := fun k x t v h => by
    rcases NK.shape h with ⟨y, u, rfl, e⟩ | ⟨y, u, rfl, e⟩
    · cases e; cases v <;> rfl
    · cases e

/-- a row as a key -/
def keyOf (r : Row) : List NK := .s r.1 :: r.2.map fun k : Nat => .i (k : Int)
theorem keyOf_inj {r q : Row} (h : keyOf r = keyOf q) : r = q := by
  obtain ⟨a, b⟩ := r; obtain ⟨c, d⟩ := q
  simp only [keyOf, List.cons.injEq, NK.s.injEq] at h
  obtain ⟨rfl, h2⟩ := h
  congr 1
  induction b generalizing d with
  | nil => cases d with
    | nil => rfl
    | cons _ _ => simp at h2
  | cons x xs ih => cases d with
    | nil => simp at h2
    | cons y ys =>
      simp only [List.map_cons, List.cons.injEq, NK.i.injEq] at h2
      rw [ih ys h2.2]; congr 1; omega
theorem items_of_reads {prog : Program} {w : World} {h : Heap} : ∀ {ks : List Nat} {vs : List Value} {as : List Addr}, ReadsAll h vs (ks.map pin) as → PySem.ItemsAre (nkKind prog w) (ks.map fun k : Nat => NK.i (k : Int)) vs
  | [], _, _, r => by cases r; exact .nil
  | k :: ks, _, _, r => by
    cases r with
    | cons r1 r2 =>
      unfold pin at r1
      cases r1
      exact .cons (by simp [nkKind, NK.is]) (items_of_reads r2)
theorem key_of_node {prog : Program} {w : World} {h : Heap} {a : Addr} {r : Row} {as : List Addr} (x : Reads h (.ref a) (nodeD r) as) : IsTupleKey (nkKind prog w) h (keyOf r) a := by
  cases x with
  | tuple h1 h2 h3 h4 =>
    rename_i o vs n
    refine ⟨o, vs, n, h1, h2, h3, ?_⟩
    generalize hv : vs.toList = l at h4
    cases h4 with
    | cons r1 r2 =>
      cases r1
      exact .cons (by simp [nkKind, NK.is]) (items_of_reads r2)

/-- the dict of the numbers: its keys' addresses are ks -/
def NumsX (prog : Program) (w : World) (o : Obj) (rows : List Row) (ks : List Addr) : Prop :=
  ∃ (xs : List (List NK × Addr × Value)) (es : Array DictEntry) (ep : Nat), o.ExactDict ∧ o.data = .dict es ep ∧ es.toList = xs.map (entryOfKey (tupleKind (nkKind prog w))) ∧ xs.map (·.1) = rows.map keyOf ∧ xs.map (·.2.1) = ks ∧ ∀ (i : Nat) x, xs[i]? = some x → ∃ t, x.2.2 = .int (i : Int) t
def KeysAt (prog : Program) (w : World) (h : Heap) (rows : List Row) (ks : List Addr) : Prop := ∀ (i : Nat) r k, rows[i]? = some r → ks[i]? = some k → IsTupleKey (nkKind prog w) h (keyOf r) k
theorem KeysAt.tk {prog : Program} {w : World} {h h' : Heap} {rows : List Row} {ks : List Addr} (x : KeysAt prog w h rows ks) (k : TK h h') : KeysAt prog w h' rows ks := fun i r a hr ha => by
  obtain ⟨o, items, n, ho, hc, hd, hi⟩ := x i r a hr ha
  exact ⟨o, items, n, k _ _ ho ⟨hc, _, _, hd⟩, hc, hd, hi⟩
theorem NumsX.len {prog : Program} {w : World} {o : Obj} {rows : List Row} {ks : List Addr} (x : NumsX prog w o rows ks) : ks.length = rows.length := by
  obtain ⟨xs, _, _, _, _, _, h1, h2, _⟩ := x
  have := congrArg List.length h1
  rw [← h2]; simpa using this
theorem keys_nodup {rows : List Row} (h : rows.Nodup) : (rows.map keyOf).Nodup := by
  rw [List.nodup_iff_pairwise_ne, List.pairwise_map]
  exact (List.nodup_iff_pairwise_ne.mp h).imp fun h e => h (keyOf_inj e)
theorem NumsX.dict {prog : Program} {w : World} {o : Obj} {rows : List Row} {ks : List Addr} {h : Heap} {nd : Addr} (x : NumsX prog w o rows ks) (ho : h.get? nd = some o) (k : KeysAt prog w h rows ks) (hn : rows.Nodup) :
    ∃ xs, h.DictOfH (tupleKind (nkKind prog w)) nd xs ∧ xs.map (·.1) = rows.map keyOf ∧ xs.map (·.2.1) = ks ∧ ∀ (i : Nat) x, xs[i]? = some x → ∃ t, x.2.2 = .int (i : Int) t := by
  obtain ⟨xs, es, ep, a, b, c, d, e, f⟩ := x
  refine ⟨xs, ⟨o, es, ep, ho, a, b, c, fun y hy => ?_, by rw [d]; exact keys_nodup hn⟩, d, e, f⟩
  obtain ⟨i, hi⟩ := List.mem_iff_getElem?.mp hy
  have h1 : (rows.map keyOf)[i]? = some y.1 := by rw [← d, List.getElem?_map, hi]; rfl
  have h2 : ks[i]? = some y.2.1 := by rw [← e, List.getElem?_map, hi]; rfl
  rw [List.getElem?_map] at h1
  cases hr : rows[i]? with
  | none => rw [hr] at h1; cases h1
  | some r =>
    rw [hr] at h1
    rw [← Option.some.inj h1]
    exact k i r _ hr h2
theorem NumsX.of_dict {prog : Program} {w : World} {rows : List Row} {ks : List Addr} {h : Heap} {nd : Addr} {xs : List (List NK × Addr × Value)} (x : h.DictOfH (tupleKind (nkKind prog w)) nd xs) (h1 : xs.map (·.1) = rows.map keyOf) (h2 : xs.map (·.2.1) = ks)
    (h3 : ∀ (i : Nat) x, xs[i]? = some x → ∃ t, x.2.2 = .int (i : Int) t) : ∃ o, h.get? nd = some o ∧ NumsX prog w o rows ks := by
  obtain ⟨o, es, ep, a, b, c, d, e, f⟩ := x
  exact ⟨o, a, xs, es, ep, b, c, d, h1, h2, h3⟩

/-- the numbers of the nodes -/
def NumsAt (prog : Program) (w : World) (h : Heap) (nd : Addr) (rows : List Row) : Prop := ∃ o ks, h.get? nd = some o ∧ NumsX prog w o rows ks ∧ KeysAt prog w h rows ks

/-- where a bank's parts lie -/
structure BA where
  bk : Addr
  bd : Addr
  nl : Addr
  nd : Addr
  wl : Addr
  dl : Addr
structure BA.Ok (b : BA) : Prop where
  h1 : b.nl ≠ b.wl
  h2 : b.nl ≠ b.dl
  h3 : b.wl ≠ b.dl
  h4 : b.bd ≠ b.nd
  lo : (b.nd == sysModules) = false

def RowsAt (h : Heap) (rl : Addr) (rows : List Row) : Prop := ∃ vs n, h.get? rl = some (listOf (List.toArray vs) n) ∧ ReadsAll h vs (rows.map rowD) []
def BankI (w : World) (h : Heap) (b : BA) : Prop := h.get? b.bk = some (instObj 171 b.bd) ∧
  ∃ t1 t2 t3 t4 n, h.get? b.bd = some (dictOf [⟨PyData.keyHash w.params "nodes", .str "nodes" t1, .ref b.nl⟩, ⟨PyData.keyHash w.params "numbers", .str "numbers" t2, .ref b.nd⟩,
    ⟨PyData.keyHash w.params "weights", .str "weights" t3, .ref b.wl⟩, ⟨PyData.keyHash w.params "depths", .str "depths" t4, .ref b.dl⟩] n)
structure BankAt (prog : Program) (w : World) (h : Heap) (b : BA) (rows : List Row) : Prop where
  inst : BankI w h b
  nodes : ∃ vs n, h.get? b.nl = some (listOf (List.toArray vs) n) ∧ ReadsAll h vs (rows.map nodeD) []
  nums : NumsAt prog w h b.nd rows
  wts : ∃ vs n, h.get? b.wl = some (listOf (List.toArray vs) n) ∧ IntsAre vs (wts rows)
  dps : ∃ vs n, h.get? b.dl = some (listOf (List.toArray vs) n) ∧ IntsAre vs (dps rows)

theorem RowsAt.mods {as : List Addr} {h h' : Heap} {rl : Addr} {rows : List Row} (x : RowsAt h rl rows) (M : Mods as h h') (n : rl ∉ as) (k : TK h h') : RowsAt h' rl rows := by
  obtain ⟨vs, m, e, r⟩ := x
  exact ⟨vs, m, M _ _ e n, readsAll_tk k (tup_rows _) r⟩
theorem BankI.mods {w : World} {as : List Addr} {h h' : Heap} {b : BA} (x : BankI w h b) (M : Mods as h h') (n1 : b.bk ∉ as) (n2 : b.bd ∉ as) : BankI w h' b := by
  obtain ⟨e, t1, t2, t3, t4, n, e2⟩ := x
  exact ⟨M _ _ e n1, t1, t2, t3, t4, n, M _ _ e2 n2⟩
theorem NumsAt.mods {prog : Program} {w : World} {as : List Addr} {h h' : Heap} {nd : Addr} {rows : List Row} (x : NumsAt prog w h nd rows) (M : Mods as h h') (n : nd ∉ as) (k : TK h h') : NumsAt prog w h' nd rows := by
  obtain ⟨o, ks, a, b, c⟩ := x
  exact ⟨o, ks, M _ _ a n, b, c.tk k⟩
theorem BankAt.mods {prog : Program} {w : World} {as : List Addr} {h h' : Heap} {b : BA} {rows : List Row} (x : BankAt prog w h b rows) (M : Mods as h h') (k : TK h h')
    (n : ∀ a ∈ as, a ≠ b.bk ∧ a ≠ b.bd ∧ a ≠ b.nl ∧ a ≠ b.nd ∧ a ≠ b.wl ∧ a ≠ b.dl) : BankAt prog w h' b rows := by
  obtain ⟨i, ⟨vs, q, e, r⟩, nu, ⟨ws, q1, e1, r1⟩, ⟨ds, q2, e2, r2⟩⟩ := x
  refine ⟨i.mods M (fun z => (n _ z).1 rfl) (fun z => (n _ z).2.1 rfl), ⟨vs, q, M _ _ e (fun z => (n _ z).2.2.1 rfl), readsAll_tk k (tup_nodes _) r⟩, nu.mods M (fun z => (n _ z).2.2.2.1 rfl) k,
    ⟨ws, q1, M _ _ e1 (fun z => (n _ z).2.2.2.2.1 rfl), r1⟩, ⟨ds, q2, M _ _ e2 (fun z => (n _ z).2.2.2.2.2 rfl), r2⟩⟩
end Mine
namespace Mine

/-- an iterator's object -/
def IterObj (h : Heap) (a : Addr) : Prop := ∃ o ty, h.get? a = some o ∧ o.cls = .type ty ∧ ty ∈ ["list_iterator", "tuple_iterator", "range_iterator", "str_ascii_iterator", "str_iterator"]
theorem IterObj.noTup {h : Heap} {a : Addr} (x : IterObj h a) : ∀ o, h.get? a = some o → ¬ tupO o := by
  rintro o e ⟨hc, _⟩
  obtain ⟨o', ty, e', hc', hm⟩ := x
  rw [e] at e'; cases e'
  rw [hc] at hc'; injection hc' with q; subst q
  simp at hm
theorem IterObj.letGo {prog : Program} {w : World} {A : Around} {E : Value → Shared → Prop} {target : Expr} {a : Addr} {v : Value} {Q : Unit → Shared → Prop} {s : Shared} (x : IterObj s.heap a) (h : Q () s) :
    wpAny (model prog w) A (letOwnedTupleGo target (.ref a) v) Q E s := by
  obtain ⟨⟨c, d, dt, sl⟩, ty, ho, hc, hm⟩ := x
  dsimp only at hc
  subst hc
  have hn : (["enumerate", "zip", "dict_itemiterator", "dict_reverseitemiterator", "odict_iterator", "itertools.zip_longest", "itertools.pairwise"].contains ty) = false := by
    simp only [List.mem_cons, List.not_mem_nil, or_false] at hm
    rcases hm with rfl | rfl | rfl | rfl | rfl <;> decide
  unfold letOwnedTupleGo
  cases target <;> first
    | exact wpAny_pure h
    | (cases v <;> first
        | exact wpAny_pure h
        | (refine wpAny_bind (wpAny_load ho ?_)
           cases dt <;> first
             | exact wpAny_pure h
             | (dsimp only; rw [hn, Bool.false_and]; simp only [Bool.false_eq_true, if_false]; exact wpAny_pure h)))

/-- an iterator has been made: the n values, told by P; src: what is walked -/
def It (prog : Program) (w : World) (A : Around) (n : Nat) (P : Nat → Value → Prop) (src : List Addr) (s : Shared) (it : Value) (s₂ : Shared) : Prop :=
  ∃ o St, it = .ref s.heap.objs.size ∧ s₂ = { s with heap := s.heap.push o } ∧ o.isFreed = false ∧ (∀ (i : Nat) (h : Heap), St i h → IterObj h s.heap.objs.size) ∧
    Walks prog w A s.heap.objs.size (s.heap.objs.size :: src) [s.heap.objs.size] n P St ∧ St 0 s₂.heap ∧ ∀ b ∈ src, ∃ o, s.heap.get? b = some o

section
variable {prog : Program} {w : World} {A : Around} {E : Value → Shared → Prop} {s : Shared} {Q : Value → Shared → Prop}
theorem iter_list {l : Addr} {vs : List Value} (hh : A.handled = none) (hl : s.heap.IsList l vs.toArray) (h : ∀ it s₂, It prog w A vs.length (fun i v => vs[i]? = some v) [l] s it s₂ → Q it s₂) : wpAny (model prog w) A (pyIter (.ref l)) Q E s := by
  have hlt : l < s.heap.objs.size := by obtain ⟨o, e, _⟩ := hl; exact Heap.lt_size e
  have W := Walks.list (prog := prog) (w := w) hh s.heap.objs.size l (Nat.ne_of_lt hlt) vs.toArray
  refine wpAny_pyIter_list hl (h _ _ ⟨_, fun i h => h.IsListIter s.heap.objs.size l i ∧ h.IsList l vs.toArray, rfl, rfl, rfl, ?_, by simpa using W, ⟨⟨_, Heap.get?_push_size _ rfl, rfl, rfl⟩, hl.at fun o e => Heap.get?_push_of_some _ e⟩, fun b hb => ?_⟩)
  · rintro i h ⟨⟨o, e, hc, _⟩, _⟩
    exact ⟨o, _, e, hc, by simp⟩
  · rw [List.mem_singleton.mp hb]; obtain ⟨o, e, _⟩ := hl; exact ⟨o, e⟩
theorem iter_tuple {l : Addr} {vs : List Value} (hh : A.handled = none) (hl : s.heap.IsTuple l vs.toArray) (h : ∀ it s₂, It prog w A vs.length (fun i v => vs[i]? = some v) [l] s it s₂ → Q it s₂) : wpAny (model prog w) A (pyIter (.ref l)) Q E s := by
  have hlt : l < s.heap.objs.size := by obtain ⟨o, e, _⟩ := hl; exact Heap.lt_size e
  have W := Walks.tuple (prog := prog) (w := w) hh s.heap.objs.size l (Nat.ne_of_lt hlt) vs.toArray
  refine wpAny_pyIter_tuple hl (h _ _ ⟨_, fun i h => h.IsTupleIter s.heap.objs.size l i ∧ h.IsTuple l vs.toArray, rfl, rfl, rfl, ?_, by simpa using W, ⟨⟨_, Heap.get?_push_size _ rfl, rfl, rfl⟩, hl.at fun o e => Heap.get?_push_of_some _ e⟩, fun b hb => ?_⟩)
  · rintro i h ⟨⟨o, e, hc, _⟩, _⟩
    exact ⟨o, _, e, hc, by simp⟩
  · rw [List.mem_singleton.mp hb]; obtain ⟨o, e, _⟩ := hl; exact ⟨o, e⟩
theorem iter_range {r : Addr} {a b : Int} {t u v : Tok} {n : Nat} (hh : A.handled = none) (hr : IsRange s.heap r a b 1 t u v) (hsmall : Builtin.Range.small a b 1 = true) (hn : Builtin.Range.rangeSize a b 1 = (n : Int))
    (h : ∀ it s₂, It prog w A n (fun i v => ∃ t, v = .int (a + (i : Int) * 1) t) [] s it s₂ → Q it s₂) : wpAny (model prog w) A (pyIter (.ref r)) Q E s := by
  have W := Walks.range (prog := prog) (w := w) hh s.heap.objs.size a 1 n
  refine wpAny_pyIter_range hr hsmall (h _ _ ⟨_, _, rfl, rfl, rfl, ?_, W, ?_, fun b hb => nomatch hb⟩)
  · intro i h st
    exact ⟨_, _, st, rfl, by simp⟩
  · show IsRangeIter _ _ _ _ _
    rw [hn]; simpa using Heap.get?_push_size _ rfl
theorem iter_upto {r : Addr} {t u v : Tok} {n : Nat} (hh : A.handled = none) (hr : IsRange s.heap r 0 (n : Int) 1 t u v) (hb : n ≤ 100000)
    (h : ∀ it s₂, It prog w A n (fun i v => ∃ t, v = .int (i : Int) t) [] s it s₂ → Q it s₂) : wpAny (model prog w) A (pyIter (.ref r)) Q E s := by
  refine iter_range (n := n) hh hr (small_one (by decide) (by decide) (by omega) (by omega)) (by rw [rangeSize_one]; split <;> omega) fun it s₂ x => h it s₂ ?_
  have e : (fun (i : Nat) (v : Value) => ∃ t, v = .int (0 + (i : Int) * 1) t) = fun (i : Nat) (v : Value) => ∃ t, v = .int (i : Int) t := by funext i v; simp
  rw [e] at x; exact x
theorem iter_str {x : Str} {t : Tok} (hh : A.handled = none) (h : ∀ it s₂, It prog w A x.cps.size (SignAt x) [] s it s₂ → Q it s₂) : wpAny (model prog w) A (pyIter (.str x t)) Q E s := by
  refine wpAny_pyIter_strU ?_
  by_cases ha : x.cps.all (· < 128) = true
  · have e : strIterType x = "str_ascii_iterator" := by simp only [strIterType, ha, if_true]
    rw [e]
    refine h _ _ ⟨_, _, rfl, rfl, rfl, ?_, Walks.strAscii hh _ x t, ⟨_, Heap.get?_push_size _ rfl, rfl, rfl⟩, fun b hb => nomatch hb⟩
    rintro i h ⟨o, e, hc, _⟩
    exact ⟨o, _, e, hc, by simp⟩
  · have e : strIterType x = "str_iterator" := by simp only [strIterType, ha]; rfl
    rw [e]
    refine h _ _ ⟨_, _, rfl, rfl, rfl, ?_, Walks.strWide hh _ x t, ⟨_, Heap.get?_push_size _ rfl, rfl, rfl⟩, fun b hb => nomatch hb⟩
    rintro i h ⟨o, e, hc, _⟩
    exact ⟨o, _, e, hc, by simp⟩
end

/-- all that stood at the start (h₀), and all tuples, stand in h' as in h -/
def Near (h₀ h h' : Heap) : Prop := ∀ b o, h.get? b = some o → (h₀.get? b = none ∧ ¬ tupO o) ∨ h'.get? b = some o
theorem Near.of_keep {h₀ h h' : Heap} (k : ∀ b o, h.get? b = some o → h'.get? b = some o) : Near h₀ h h' := fun b o e => .inr (k b o e)
theorem Near.trans {h₀ a b c : Heap} (x : Near h₀ a b) (y : Near h₀ b c) : Near h₀ a c := fun i o e => (x i o e).elim .inl fun e' => y i o e'
theorem Near.sameBut {h₀ h h' : Heap} {a : Addr} (hs : Heap.SameBut a h h') (h0 : h₀.get? a = none) (ht : ∀ o, h.get? a = some o → ¬ tupO o) : Near h₀ h h' := fun b o e => by
  by_cases q : b = a
  · subst q; exact .inl ⟨h0, ht o e⟩
  · exact .inr ((hs.2 b q).trans e)
theorem ns_noTup {h : Heap} {a : Addr} {m : Str → Option Value} (n : h.Ns a m) : ∀ o, h.get? a = some o → ¬ tupO o := by
  rintro o e ⟨_, vs, k, hd⟩
  obtain ⟨o', es, ep, e', hd', _⟩ := n
  rw [e] at e'; cases e'; rw [hd] at hd'; cases hd'
theorem plain_noTup {h : Heap} {a : Addr} {ys : Array Value} (n : h.PlainList a ys) : ∀ o, h.get? a = some o → ¬ tupO o := by
  rintro o e ⟨hc, _⟩
  obtain ⟨k, e'⟩ := n
  rw [e] at e'; cases e'; simp at hc

section
variable {prog : Program} {w : World} {A : Around} {env : Env}

theorem comp_loop {R : Result → Shared → Prop} {s : Shared} {h₀ : Heap} {elt iter : Expr} {x : Str} {px : Pos} {ifs : List Expr} {scope : Scope} {pos : Pos} {I D : Addr} {n : Nat} {P : Nat → Value → Prop} {St : Nat → Heap → Prop} {src S : List Addr}
    {cenv : Env} {m : Str → Option Value} (W : Walks prog w A I (I :: src) [I] n P St) (Inv : Nat → List Value → Heap → Prop)
    (hx : cenv.kindOf x = some .local) (hp : (cenv.scope.kind == .class || (cenv.scope.kind == .module && cenv.locals != cenv.globals)) = false)
    (hI0 : h₀.get? I = none) (hC0 : h₀.get? cenv.locals = none) (hD0 : h₀.get? D = none) (hDC : D ≠ cenv.locals) (hDI : D ≠ I) (hCI : cenv.locals ≠ I) (hsrc : ∀ b ∈ src, ∃ o, h₀.get? b = some o) (hS : ∀ a ∈ S, (∃ o, h₀.get? a = some o) ∧ a ∉ src)
    (hst : St 0 s.heap) (hacc : s.heap.PlainList D #[]) (hn : s.heap.Ns cenv.locals m) (hold : ∀ b o, h₀.get? b = some o → s.heap.get? b = some o)
    (hItT : ∀ (i : Nat) (h : Heap) (o : Obj), St i h → h.get? I = some o → ¬ tupO o)
    (stab : ∀ i ys h h', Inv i ys h → Near h₀ h h' → Inv i ys h') (inv0 : Inv 0 [] s.heap)
    (turn : ∀ i v ys h tk m₂, i < n → P i v → Inv i ys h → h.Ns cenv.locals m₂ → m₂ x = some v → (∀ b o, h₀.get? b = some o → b ∉ S → h.get? b = some o) →
      wpAny (model prog w) A (forIn ifs true fun c r => if r = true then do let ok ← isTrue c cenv (eval c cenv); pure (ForInStep.yield ok) else pure (ForInStep.yield r))
        (fun ok s₃ => ∃ h₃ tk₃, s₃ = { s with heap := h₃, toks := tk₃ } ∧ Mods S h h₃ ∧ if ok = true then
          wpAny (model prog w) A (eval elt cenv) (fun y s₄ => ∃ h₄ tk₄, s₄ = { s with heap := h₄, toks := tk₄ } ∧ Mods S h₃ h₄ ∧ Inv (i + 1) (ys ++ [y]) h₄) (fun _ _ => False) s₃
          else Inv (i + 1) ys h₃) (fun _ _ => False) { s with heap := h, toks := tk })
    (hR : ∀ h' tk m' ys k, h'.Ns cenv.locals m' → Inv n ys h' → h'.get? D = some (listOf (List.toArray ys) k) → (∀ b o, h₀.get? b = some o → b ∉ S → h'.get? b = some o) → R (.ok .next) { s with heap := h', toks := tk })
    (hsz : n ≤ 100000) :
    codeAny (model prog w) A (.compLoop (.ListComp elt [⟨.Name x px, iter, ifs, 0⟩] scope pos) 0 (.ref I) (.ref D) cenv) R s := by
  have hszl : (100000 : Nat) ≤ sizeLine := by rw [sizeLine_eq]; decide
  have notS : ∀ a, h₀.get? a = none → a ∉ S := fun a e hm => by obtain ⟨⟨o, h⟩, _⟩ := hS a hm; rw [e] at h; cases h
  have fpS : ∀ b ∈ I :: src, b ∉ S := fun b hb hm => by
    rcases List.mem_cons.mp hb with rfl | hb
    · exact notS _ hI0 hm
    · exact (hS b hm).2 hb
  have fpC : ∀ b ∈ I :: src, b ≠ cenv.locals := fun b hb e => by
    rcases List.mem_cons.mp hb with rfl | hb
    · exact hCI e.symm
    · obtain ⟨o, h⟩ := hsrc b hb; rw [e, hC0] at h; cases h
  have fpD : ∀ b ∈ I :: src, b ≠ D := fun b hb e => by
    rcases List.mem_cons.mp hb with rfl | hb
    · exact hDI e.symm
    · obtain ⟨o, h⟩ := hsrc b hb; rw [e, hD0] at h; cases h
  have keepS : ∀ {h h' : Heap} {i : Nat}, Mods S h h' → St i h → St i h' := fun M st => W.frame _ _ _ st fun b hb o e => M b o e (fpS b hb)
  refine codeAny_compLoop_tests
    (fun k s' => ∃ h' tk m' ys i, s' = { s with heap := h', toks := tk } ∧ St i h' ∧ h'.PlainList D (List.toArray ys) ∧ h'.Ns cenv.locals m' ∧ Inv i ys h' ∧ ys.length ≤ i ∧ i ≤ n ∧ k = n + 1 - i ∧
      (∀ b o, h₀.get? b = some o → b ∉ S → h'.get? b = some o)) ?_ (n + 1)
    ⟨s.heap, s.toks, m, [], 0, rfl, hst, hacc, hn, inv0, Nat.le_refl _, Nat.zero_le _, rfl, fun b o e _ => hold b o e⟩
  rintro k s' ⟨H, tk, m', ys, i, rfl, hst', hacc', hn', hInv, hyl, hi, rfl, hk⟩
  have nearI : ∀ h₁ : Heap, (∀ b o, b ∉ [I] → H.get? b = some o → h₁.get? b = some o) → Near h₀ H h₁ := fun h₁ hk₁ b o e => by
    by_cases q : b = I
    · subst q; exact .inl ⟨hI0, hItT _ _ o hst' e⟩
    · exact .inr (hk₁ b o (by simpa using q) e)
  have oldI : ∀ h₁ : Heap, (∀ b o, b ∉ [I] → H.get? b = some o → h₁.get? b = some o) → ∀ b o, h₀.get? b = some o → b ∉ S → h₁.get? b = some o := fun h₁ hk₁ b o e hb =>
    hk₁ b o (by intro q; rw [List.mem_singleton.mp q, hI0] at e; cases e) (hk b o e hb)
  by_cases hlt : i < n
  · refine W.item i _ _ _ hlt hst' fun v h₁ tk₁ hPv hst₁ hk₁ => ?_
    have hn₁ : h₁.Ns cenv.locals m' := hn'.at' fun o e => hk₁ _ o (by simpa using hCI) e
    have hacc₁ : h₁.PlainList D (List.toArray ys) := hacc'.at fun o e => hk₁ _ o (by simpa using hDI) e
    refine wpAny_assign_Name (wpAny_storeName_local hx hn₁ (fun h₂ hn₂ hs₂ => ?_) hp)
    have near₂ : Near h₀ H h₂ := (nearI h₁ hk₁).trans (Near.sameBut hs₂ hC0 (ns_noTup hn₁))
    have hst₂ : St (i + 1) h₂ := W.frame _ _ _ hst₁ fun b hb o e => hs₂.extBut b o (fpC b hb) e
    have hacc₂ : h₂.PlainList D (List.toArray ys) := hacc₁.extBut hs₂.extBut hDC
    have old₂ : ∀ b o, h₀.get? b = some o → b ∉ S → h₂.get? b = some o := fun b o e hb => hs₂.extBut b o (fun q => by rw [q, hC0] at e; cases e) (oldI h₁ hk₁ b o e hb)
    refine wpAny_mono (turn i v ys h₂ (tk₁ + 1) _ hlt hPv (stab _ _ _ _ hInv near₂) hn₂ (by simp) old₂) (fun ok s₃ h₃ => ?_) fun _ _ x => x.elim
    obtain ⟨h₃, tk₃, rfl, M₃, rest⟩ := h₃
    have old₃ : ∀ b o, h₀.get? b = some o → b ∉ S → h₃.get? b = some o := fun b o e hb => M₃ b o (old₂ b o e hb) hb
    have hst₃ := keepS M₃ hst₂
    have hn₃ := hn₂.at' fun o e => M₃ _ o e (notS _ hC0)
    have hacc₃ : h₃.PlainList D (List.toArray ys) := hacc₂.at fun o e => M₃ _ o e (notS _ hD0)
    cases ok with
    | false =>
      simp only [Bool.false_eq_true, if_false] at rest ⊢
      exact ⟨n + 1 - (i + 1), by omega, h₃, tk₃, _, ys, i + 1, rfl, hst₃, hacc₃, hn₃, rest, by omega, hlt, rfl, old₃⟩
    | true =>
      simp only [if_true] at rest ⊢
      refine wpAny_mono rest (fun y s₄ h₄ => ?_) fun _ _ x => x.elim
      obtain ⟨h₄, tk₄, rfl, M₄, inv₄⟩ := h₄
      have hst₄ := keepS M₄ hst₃
      have hn₄ := hn₃.at' fun o e => M₄ _ o e (notS _ hC0)
      have hacc₄ : h₄.PlainList D (List.toArray ys) := hacc₃.at fun o e => M₄ _ o e (notS _ hD0)
      have old₄ : ∀ b o, h₀.get? b = some o → b ∉ S → h₄.get? b = some o := fun b o e hb => M₄ b o (old₃ b o e hb) hb
      refine wpAny_list_append_plain (hsz := by simp; omega) hacc₄ fun h₅ hl₅ hs₅ => ?_
      have hst₅ : St (i + 1) h₅ := W.frame _ _ _ hst₄ fun b hb o e => hs₅.extBut b o (fpD b hb) e
      refine ⟨n + 1 - (i + 1), by omega, h₅, tk₄, _, ys ++ [y], i + 1, rfl, hst₅, by simpa using hl₅, hn₄.sameBut hs₅ (Ne.symm hDC), stab _ _ _ _ inv₄ (Near.sameBut hs₅ hD0 (plain_noTup hacc₄)), by simp; omega, hlt, rfl, fun b o e hb => hs₅.extBut b o (fun q => by rw [q, hD0] at e; cases e) (old₄ b o e hb)⟩
  · have hin : i = n := by omega
    subst hin
    refine W.done _ _ _ hst' fun h₁ tk₁ hk₁ => ?_
    obtain ⟨kk, ek⟩ := hacc'.at (h' := h₁) fun o e => hk₁ _ o (by simpa using hDI) e
    exact hR h₁ tk₁ m' ys kk (hn'.at' fun o e => hk₁ _ o (by simpa using hCI) e) (stab _ _ _ _ hInv (nearI h₁ hk₁)) ek (oldI h₁ hk₁)

/-- a list comprehension over one clause, by what holds of it -/
theorem comp_walk {s : Shared} {elt iter : Expr} {x : Str} {px : Pos} {ifs : List Expr} {scope : Scope} {cl : List (Str × Addr)} {pos : Pos} {Q : Value → Shared → Prop} {E : Value → Shared → Prop}
    (hclos : closureFor scope env = pure cl) (hcell : (scope.names.all fun y => decide (y.2 ≠ .cell)) = true) (hkind : scope.kind = .function)
    (hnames : (scope.names.all fun y => decide (y.2 = .local → scope.names.lookup y.1 = some .local)) = true) (hx : scope.names.lookup x = some .local)
    (h : ∀ PI : Shared → Value → Shared → Prop, (∀ s₁ it s₂, (∃ (n : Nat) (P : Nat → Value → Prop) (src S : List Addr) (Inv : Nat → List Value → Heap → Prop), It prog w A n P src s₁ it s₂ ∧ n ≤ 100000 ∧ (∀ a ∈ S, (∃ o, s₁.heap.get? a = some o) ∧ a ∉ src) ∧
      (∀ i ys h h', Inv i ys h → Near s₁.heap h h' → Inv i ys h') ∧ Inv 0 [] s₁.heap ∧
      (∀ C i v ys h tk m, s₁.heap.get? C = none → s₁.heap.objs.size ≤ C → i < n → P i v → Inv i ys h → h.Ns C m → m x = some v → (∀ b o, s₁.heap.get? b = some o → b ∉ S → h.get? b = some o) →
        wpAny (model prog w) A (forIn ifs true fun c r => if r = true then do let ok ← isTrue c (compEnvC scope cl C env) (eval c (compEnvC scope cl C env)); pure (ForInStep.yield ok) else pure (ForInStep.yield r))
          (fun ok s₃ => Halt (∃ h₃ tk₃, s₃ = { s₁ with heap := h₃, toks := tk₃ } ∧ Mods S h h₃ ∧ if ok = true then
            wpAny (model prog w) A (eval elt (compEnvC scope cl C env)) (fun y s₄ => Halt (∃ h₄ tk₄, s₄ = { s₁ with heap := h₄, toks := tk₄ } ∧ Mods S h₃ h₄ ∧ Inv (i + 1) (ys ++ [y]) h₄)) (fun _ _ => False) s₃
            else Inv (i + 1) ys h₃)) (fun _ _ => False) { s₁ with heap := h, toks := tk }) ∧
      (∀ D ys h tk k, s₁.heap.objs.size ≤ D → Inv n ys h → h.get? D = some (listOf (List.toArray ys) k) → (∀ b o, s₁.heap.get? b = some o → b ∉ S → h.get? b = some o) → Q (.ref D) { s₁ with heap := h, toks := tk })) → PI s₁ it s₂) → wpAny (model prog w) A (eval iter env) (fun xv s₁ => wpAny (model prog w) A (pyIter xv) (PI s₁) E s₁) E s)
    (hs : ∀ x, foldedSetIterable iter env x = pure x := by intro _; rfl) :
    wpAny (model prog w) A (eval (.ListComp elt [⟨.Name x px, iter, ifs, 0⟩] scope pos) env) Q E s := by
  replace h := h _ fun _ _ _ x => x
  rw [eval_ListComp]
  have hcell' : ∀ y ∈ scope.names, y.2 ≠ .cell := fun y hy => of_decide_eq_true (List.all_eq_true.mp hcell y hy)
  refine wpAny_comprehension_free (use := none) rfl hs hclos hkind (fun y hy => of_decide_eq_true (List.all_eq_true.mp hnames y hy)) (wpAny_mono h (fun xv s₁ h₁ => wpAny_mono h₁ (fun it s₂ h₂ => ?_) fun _ _ e => e) fun _ _ e => e)
  obtain ⟨n, P, src, S, Inv, ⟨o, St, rfl, rfl, hfr, hItT, W, hst, hsrc⟩, hsz, hS, stab, inv0, turn, hQ⟩ := h₂
  dsimp only at hst ⊢
  have keep1 : ∀ b o', s₁.heap.get? b = some o' → (s₁.heap.push o).get? b = some o' := fun b o' e => Heap.get?_push_of_some _ e
  generalize hH : s₁.heap.push o = H at *
  have hHs : H.objs.size = s₁.heap.objs.size + 1 := by rw [← hH, Heap.size_push]
  refine wpAny_newObj_type (wpAny_newFunctionEnv hcell' (by intro y hy; simp at hy) (fun h₁ hns₁ hsb₁ => ?_) hkind)
  dsimp only at hns₁ hsb₁ ⊢
  generalize hH2 : H.push { cls := .type "list", dict := none, data := .seq ([] : List Value).toArray } = H2 at hns₁ hsb₁ ⊢
  have hC : H2.objs.size = s₁.heap.objs.size + 2 := by rw [← hH2, Heap.size_push, hHs]
  have none_of : ∀ a, s₁.heap.objs.size ≤ a → s₁.heap.get? a = none := fun a ha => by
    cases e : s₁.heap.get? a with
    | none => rfl
    | some o' => exact absurd (Heap.lt_size e) (Nat.not_lt.mpr ha)
  have hDC : H.objs.size ≠ H2.objs.size := by rw [hC, hHs]; omega
  have keep2 : ∀ b o', H.get? b = some o' → h₁.get? b = some o' := fun b o' e => hsb₁.extBut b o' (Nat.ne_of_lt (by have := ltN (Heap.lt_size e); omega)) (Heap.get?_push_of_some _ (hH2 ▸ Heap.get?_push_of_some _ e))
  have hacc : h₁.PlainList H.objs.size #[] := ⟨_, hsb₁.extBut _ _ hDC (Heap.get?_push_of_some _ (hH2 ▸ Heap.get?_push_size _ rfl))⟩
  have hst₁ : St 0 h₁ := W.frame _ _ _ hst fun b _ o' e => keep2 b o' e
  have loop : ∀ s₃ : Shared, s₃ = { s₁ with heap := h₁, toks := s₁.toks + ([] : List (Str × Value)).length } →
      codeAny (model prog w) A (.compLoop (.ListComp elt [⟨.Name x px, iter, ifs, 0⟩] scope pos) 0 (.ref s₁.heap.objs.size) (.ref H.objs.size) (compEnvC scope cl H2.objs.size env))
        (compPost (model prog w) A E none Q (.ref H.objs.size) H2.objs.size) s₃ := by
    rintro s₃ rfl
    refine comp_loop (h₀ := s₁.heap) (S := S) (src := src) (cenv := compEnvC scope cl H2.objs.size env) W Inv (lookup_relabel_local hx) (by simp [compEnvC, relabel, hkind]) (none_of _ (Nat.le_refl _)) (none_of _ (by show s₁.heap.objs.size ≤ H2.objs.size; omega)) (none_of _ (by omega)) hDC
      (show H.objs.size ≠ s₁.heap.objs.size by omega) (show H2.objs.size ≠ s₁.heap.objs.size by omega) hsrc hS hst₁ hacc hns₁ (fun b o' e => keep2 b o' (keep1 b o' e)) (fun i h o' st e => (hItT i h st).noTup o' e) stab (stab _ _ _ _ inv0 (Near.of_keep fun b o' e => keep2 b o' (keep1 b o' e)))
      (fun i v ys h tk m₂ a b c d e f => turn H2.objs.size i v ys h tk m₂ (none_of _ (by omega)) (by omega) a b c d e f) ?_ hsz
    intro h' tk m' ys k hn hInv hD hold
    refine ⟨m', hn, fun h'' hs'' => hQ H.objs.size ys h'' tk k (by omega) (stab _ _ _ _ hInv (Near.sameBut hs'' (none_of _ (by show s₁.heap.objs.size ≤ H2.objs.size; omega)) (ns_noTup hn))) (hs''.extBut _ _ hDC hD) fun b o' e hb => hs''.extBut b o' (fun q => ?_) (hold b o' e hb)⟩
    rw [q, none_of H2.objs.size (by omega)] at e; cases e
  exact codeAny_compStart_list (loop _ rfl) (W.self 0 _ _ _ hst₁ (loop _ rfl))

/-- a for by what holds of it -/
theorem for_walk {s : Shared} {target iter : Expr} {body : List Stmt} {pos : Pos} {Q : Flow → Shared → Prop} {E : Value → Shared → Prop}
    (h : wpAny (model prog w) A (eval iter env) (fun xv s₁ => wpAny (model prog w) A (pyIter xv) (fun it s₂ => ∃ (n : Nat) (P : Nat → Value → Prop) (src : List Addr) (Inv : Nat → Shared → Prop), It prog w A n P src s₁ it s₂ ∧
      (∀ i s s', Inv i s → (∃ h tk, s' = { s with heap := h, toks := tk }) → (∀ b o, s.heap.get? b = some o → b ≠ s₁.heap.objs.size ∨ tupO o → s'.heap.get? b = some o) → Inv i s') ∧ Inv 0 s₁ ∧
      (∀ i v s' oI, i < n → P i v → Inv i s' → s'.heap.get? s₁.heap.objs.size = some oI → ¬ tupO oI →
        wpAny (model prog w) A (assign target env v) (fun _ s₃ => wpAny (model prog w) A (execs body env) (fun f s₄ => match f with
          | .ret r => Q (.ret r) s₄
          | .brk => Q .next s₄
          | _ => Halt (Inv (i + 1) s₄ ∧ s₄.heap.get? s₁.heap.objs.size = some oI ∧ ∀ b ∈ src, ∀ o, s'.heap.get? b = some o → s₄.heap.get? b = some o)) (fun _ _ => False) s₃) (fun _ _ => False) s') ∧
      (∀ s', Inv n s' → Q .next s')) E s₁) E s)
    (hs : ∀ x, foldedSetIterable iter env x = pure x := by intro _; rfl) :
    wpAny (model prog w) A (exec (.For target iter body [] pos) env) Q E s := by
  refine wpAny_For (wpAny_mono h (fun xv s₁ h₁ => wpAny_mono h₁ (fun it s₂ h₂ => ?_) fun _ _ e => e) fun _ _ e => e) hs
  obtain ⟨n, P, src, Inv, ⟨o, St, rfl, rfl, hfr, hItT, W, hst, hsrc⟩, stab, inv0, turn, hQ⟩ := h₂
  refine codeAny_forLoop_any (fun k s' => ∃ i, St i s'.heap ∧ Inv i s' ∧ i ≤ n ∧ k = n + 1 - i) ?_ (n + 1) ⟨0, hst, stab _ _ _ inv0 ⟨_, _, rfl⟩ (fun b o' e _ => Heap.get?_push_of_some _ e), Nat.zero_le _, rfl⟩
  rintro k s' ⟨i, hst', hInv, hi, rfl⟩
  have near : ∀ (h₁ : Heap) (tk₁ : Nat), (∀ b o', b ∉ [s₁.heap.objs.size] → s'.heap.get? b = some o' → h₁.get? b = some o') → Inv i { s' with heap := h₁, toks := tk₁ } := fun h₁ tk₁ hk₁ =>
    stab _ _ _ hInv ⟨_, _, rfl⟩ fun b o' e hb => by
      by_cases q : b = s₁.heap.objs.size
      · rcases hb with hb | hb
        · exact absurd q hb
        · subst q; exact absurd hb ((hItT _ _ hst').noTup o' e)
      · exact hk₁ b o' (by simpa using q) e
  by_cases hlt : i < n
  · refine W.item i _ _ _ hlt hst' fun v h₁ tk₁ hPv hst₁ hk₁ => ?_
    refine (hItT _ _ hst₁).letGo ?_
    obtain ⟨oI, ty, hoI, _⟩ := id (hItT _ _ hst₁)
    refine wpAny_mono (turn i v _ oI hlt hPv (near h₁ tk₁ hk₁) hoI ((hItT _ _ hst₁).noTup _ hoI)) (fun _ s₃ h₃ => wpAny_mono h₃ (fun f s₄ h₄ => ?_) fun _ _ x => x.elim) fun _ _ x => x.elim
    have fin : Inv (i + 1) s₄ ∧ s₄.heap.get? s₁.heap.objs.size = some oI ∧ (∀ b ∈ src, ∀ o, h₁.get? b = some o → s₄.heap.get? b = some o) → ∃ m, m < n + 1 - i ∧ ∃ i, St i s₄.heap ∧ Inv i s₄ ∧ i ≤ n ∧ m = n + 1 - i := by
      rintro ⟨a, b, c⟩
      refine ⟨n + 1 - (i + 1), by omega, i + 1, W.frame _ _ _ hst₁ fun x hx o' e => ?_, a, hlt, rfl⟩
      rcases List.mem_cons.mp hx with rfl | hx
      · rw [hoI] at e; cases e; exact b
      · exact c x hx o' e
    cases f with
    | ret r => exact h₄
    | brk => exact h₄
    | next => exact fin h₄
    | cont => exact fin h₄
  · have hin : i = n := by omega
    subst hin
    refine W.done _ _ _ hst' fun h₁ tk₁ hk₁ => wpAny_execs_nil (hQ _ (near h₁ tk₁ hk₁))
end
end Mine
namespace Mine
section
variable {M : Model} {A : Around} {E : Value → Shared → Prop} {s : Shared} {K : Frag} {h₀ : Heap} {L : Addr} {m mg mb : Str → Option Value} {p : Program} {loose : List Str} {env : Env}
  {x : Str} {pos : Pos} {v : Value} {Q : Value → Shared → Prop} {news : List (Addr × Obj)} {c : Addr} {o : Obj}
theorem nameE_L (F : Fr h₀ L s.heap m) (hL : env.locals = L) (hk : env.scope.kind = .function) (hx : env.kindOf x = some .local) (hd : (x == ("__debug__" : Str)) = false) (hv : m x = some v) (h : Q v s) :
    wpAny M A (eval (.Name x pos) env) Q E s := wpAny_Name (wpAny_loadName_local hk hx (by rw [hL]; exact F.ns) hv h) hd
theorem nameE_C (N : News h₀ L s.heap news) (hk : env.scope.kind = .function) (hx : env.kindOf x = some .cell) (hb : (x == ("__debug__" : Str)) = false) (hc : env.cells.lookup x = some c) (hm : (c, o) ∈ news) (hd : o.data = .cell (some v)) (h : Q v s) :
    wpAny M A (eval (.Name x pos) env) Q E s := wpAny_Name (wpAny_loadName_cell hk hx hc ⟨o, N.get hm, hd⟩ h) hb
theorem nameE_K (F : Fr h₀ L s.heap m) (X : K.In h₀) (T : TopRead p loose mg mb h₀) (hk : env.scope.kind = .function) (hg : env.globals = mainGlobals) (hx : env.kindOf x = some .globalImplicit) (hd : (x == ("__debug__" : Str)) = false)
    (e : nsIn K mainGlobals x = some (some v)) (h : Q v s) : wpAny M A (eval (.Name x pos) env) Q E s :=
  Name_function_global hk hx (loadGlobal_global (env := env) (by rw [hg]; exact T.g.keeps F.keep) (mg_of X T.g e) h) hd
theorem nameE_B (F : Fr h₀ L s.heap m) (X : K.In h₀) (T : TopRead p loose mg mb h₀) (hk : env.scope.kind = .function) (hg : env.globals = mainGlobals) (hbn : env.builtins = builtinsNs) (hx : env.kindOf x = some .globalImplicit) (hd : (x == ("__debug__" : Str)) = false)
    (e : nsIn K mainGlobals x = some none) (hv : bootBuiltins x = some v) (hn : x ≠ "__name__") (h : Q v s) : wpAny M A (eval (.Name x pos) env) Q E s :=
  Name_function_global hk hx (loadGlobal_builtin (env := env) (by rw [hg]; exact T.g.keeps F.keep) (mg_none_of X T.g e) (by rw [hbn]; exact T.b.keeps F.keep) ((T.builtins x hn).trans hv) h) hd
end
theorem Fr.ne_new {g h : Heap} {L a : Addr} {m : Str → Option Value} (F : Fr g L h m) (e : h.get? a = none) : a ≠ L := by
  rintro rfl; obtain ⟨o, _, _, ho, _⟩ := F.ns; rw [e] at ho; cases ho
theorem Fr.base_new {g h : Heap} {L a : Addr} {m : Str → Option Value} (F : Fr g L h m) (e : h.get? a = none) : g.get? a = none := fresh_of_stays F.keep e
/-- the block's own frame -/
theorem comp_frame {g h₁ h : Heap} {C L : Addr} {m m₂ : Str → Option Value} {S : List Addr} (F : Fr g L h₁ m) (hs : h₁.objs.size ≤ C) (n : h.Ns C m₂) (old : ∀ b o, h₁.get? b = some o → b ∉ S → h.get? b = some o) (hS : ∀ a ∈ S, g.get? a = none) : Fr g C h m₂ :=
  ⟨n, fun b o e => old b o (F.keep b o e) (fun hm => by rw [hS b hm] at e; cases e), Nat.le_trans F.above (Nat.le_trans (Nat.le_of_lt F.ns.lt) hs)⟩
/-- the frame around the block -/
theorem comp_outer {g h₁ h : Heap} {L : Addr} {m : Str → Option Value} {S : List Addr} (F : Fr g L h₁ m) (old : ∀ b o, h₁.get? b = some o → b ∉ S → h.get? b = some o) (hS : ∀ a ∈ S, g.get? a = none) (hL : L ∉ S) : Fr g L h m :=
  ⟨F.ns.at' fun o e => old L o e hL, fun b o e => old b o (F.keep b o e) (fun hm => by rw [hS b hm] at e; cases e), F.above⟩
theorem comp_news {g h₁ h : Heap} {C L : Addr} {S : List Addr} {news : List (Addr × Obj)} (N : News g L h₁ news) (hs : h₁.objs.size ≤ C) (old : ∀ b o, h₁.get? b = some o → b ∉ S → h.get? b = some o) (hS : ∀ p ∈ news, p.1 ∉ S) : News g C h news :=
  fun p hp => ⟨old _ _ (N p hp).1 (hS p hp), Nat.ne_of_lt (Nat.lt_of_lt_of_le (Heap.lt_size (N p hp).1) hs), (N p hp).2.2⟩

theorem fr_same {g h : Heap} {L : Addr} {m : Str → Option Value} (F : Fr g L h m) (x : Str) : Fr g L h (fun y => if y = x then m x else m y) := by
  have e : (fun y => if y = x then m x else m y) = m := by funext y; split <;> simp_all
  rw [e]; exact F
theorem fr_again {g h : Heap} {L : Addr} {m : Str → Option Value} {x : Str} {v c : Option Value} (F : Fr g L h (fun y => if y = x then v else if y = x then c else m y)) : Fr g L h (fun y => if y = x then v else m y) := by
  have e : (fun y => if y = x then v else if y = x then c else m y) = fun y => if y = x then v else m y := by funext y; split <;> simp_all
  rw [← e]; exact F

/-- a for over the frame and the ledger: J speaks of the turn, the heap, the frame's map and the ledger; (I, oI) is the iterator, kept at the ledger's end -/
theorem for_ledger {prog : Program} {w : World} {A : Around} {env : Env} {s : Shared} {g : Heap} {L : Addr} {target iter : Expr} {body : List Stmt} {pos : Pos} {Q : Flow → Shared → Prop} {E : Value → Shared → Prop}
    (_hL : env.locals = L) (h : ∀ PI : Shared → Value → Shared → Prop, (∀ s₁ it s₂, (∃ (n : Nat) (P : Nat → Value → Prop) (src : List Addr) (m₀ : Str → Option Value) (news₀ : List (Addr × Obj)) (J : Nat → Heap → (Str → Option Value) → List (Addr × Obj) → Prop),
      It prog w A n P src s₁ it s₂ ∧ Fr g L s₁.heap m₀ ∧ News g L s₁.heap news₀ ∧
      (∀ i h h' m news, J i h m news → Fr g L h m → News g L h news → (∀ b o, h.get? b = some o → b ≠ s₁.heap.objs.size ∨ tupO o → h'.get? b = some o) → J i h' m news) ∧ J 0 s₁.heap m₀ news₀ ∧
      (∀ i v h tk m news oI, i < n → P i v → J i h m news → Fr g L h m → News g L h (news ++ [(s₁.heap.objs.size, oI)]) → (∀ p ∈ news, p.1 ≠ s₁.heap.objs.size) → g.get? s₁.heap.objs.size = none → ¬ tupO oI →
        ∀ R : Flow → Shared → Prop, (∀ f s₄, (match f with
          | .ret r => Q (.ret r) s₄
          | .brk => Q .next s₄
          | _ => Halt (∃ h' tk' m' news', s₄ = { s₁ with heap := h', toks := tk' } ∧ Fr g L h' m' ∧ News g L h' (news' ++ [(s₁.heap.objs.size, oI)]) ∧ (∀ p ∈ news', p.1 ≠ s₁.heap.objs.size) ∧
              (∀ b ∈ src, ∀ o, h.get? b = some o → h'.get? b = some o) ∧ J (i + 1) h' m' news')) → R f s₄) →
        wpAny (model prog w) A (assign target env v) (fun _ s₃ => wpAny (model prog w) A (execs body env) R (fun _ _ => False) s₃) (fun _ _ => False) { s₁ with heap := h, toks := tk }) ∧
      (∀ h tk m news, J n h m news → Fr g L h m → News g L h news → Q .next { s₁ with heap := h, toks := tk })) → PI s₁ it s₂) → wpAny (model prog w) A (eval iter env) (fun xv s₁ => wpAny (model prog w) A (pyIter xv) (PI s₁) E s₁) E s)
    (hs : ∀ x, foldedSetIterable iter env x = pure x := by intro _; rfl) :
    wpAny (model prog w) A (exec (.For target iter body [] pos) env) Q E s := by
  replace h := h _ fun _ _ _ x => x
  refine for_walk (wpAny_mono h (fun xv s₁ h₁ => wpAny_mono h₁ (fun it s₂ h₂ => ?_) fun _ _ e => e) fun _ _ e => e) hs
  obtain ⟨n, P, src, m₀, news₀, J, hIt, F₀, N₀, stab, j0, turn, hQ⟩ := h₂
  have hI : s₁.heap.get? s₁.heap.objs.size = none := by
    cases e : s₁.heap.get? s₁.heap.objs.size with
    | none => rfl
    | some o => exact absurd (Heap.lt_size e) (Nat.lt_irrefl _)
  have gI : g.get? s₁.heap.objs.size = none := Fr.base_new F₀ hI
  have LI : s₁.heap.objs.size ≠ L := Fr.ne_new F₀ hI
  refine ⟨n, P, src, fun i s' => ∃ h tk m news, s' = { s₁ with heap := h, toks := tk } ∧ Fr g L h m ∧ News g L h news ∧ (∀ p ∈ news, p.1 ≠ s₁.heap.objs.size) ∧ J i h m news, hIt, ?_, ⟨s₁.heap, s₁.toks, m₀, news₀, rfl, F₀, N₀, fun p hp e => ?_, j0⟩, ?_, ?_⟩
  · rintro i s s' ⟨h, tk, m, news, rfl, F, N, hne, j⟩ ⟨h', tk', rfl⟩ k
    refine ⟨h', tk', m, news, rfl, ⟨F.ns.at' fun o e => k _ o e (.inl (Ne.symm LI)), fun b o e => k b o (F.keep b o e) (.inl fun q => by rw [q, gI] at e; cases e), F.above⟩, fun p hp => ⟨k _ _ (N p hp).1 (.inl (hne p hp)), (N p hp).2⟩, hne, stab _ _ _ _ _ j F N k⟩
  · have := (N₀ p hp).1; rw [e, hI] at this; cases this
  · rintro i v s' oI hi hP ⟨h, tk, m, news, rfl, F, N, hne, j⟩ hoI hT
    refine wpAny_mono (turn i v h tk m news oI hi hP j F (fun p hp => ?_) hne gI hT _ fun _ _ x => x) (fun _ s₃ h₃ => wpAny_mono h₃ (fun f s₄ h₄ => ?_) fun _ _ e => e) fun _ _ e => e
    · rcases List.mem_append.mp hp with hp | hp
      · exact N p hp
      · rw [List.mem_singleton.mp hp]; exact ⟨hoI, LI, gI⟩
    · have fin : Halt (∃ h' tk' m' news', s₄ = { s₁ with heap := h', toks := tk' } ∧ Fr g L h' m' ∧ News g L h' (news' ++ [(s₁.heap.objs.size, oI)]) ∧ (∀ p ∈ news', p.1 ≠ s₁.heap.objs.size) ∧
              (∀ b ∈ src, ∀ o, h.get? b = some o → h'.get? b = some o) ∧ J (i + 1) h' m' news') →
          Halt ((∃ h tk m news, s₄ = { s₁ with heap := h, toks := tk } ∧ Fr g L h m ∧ News g L h news ∧ (∀ p ∈ news, p.1 ≠ s₁.heap.objs.size) ∧ J (i + 1) h m news) ∧ s₄.heap.get? s₁.heap.objs.size = some oI ∧ ∀ b ∈ src, ∀ o, h.get? b = some o → s₄.heap.get? b = some o) := by
        rintro ⟨h', tk', m', news', rfl, F', N', hne', hk, j'⟩
        exact ⟨⟨h', tk', m', news', rfl, F', fun p hp => N' p (List.mem_append_left _ hp), hne', j'⟩, (N' _ (List.mem_append_right _ (.head _))).1, hk⟩
      cases f with
      | ret r => exact h₄
      | brk => exact h₄
      | next => exact fin h₄
      | cont => exact fin h₄
  · rintro s' ⟨h, tk, m, news, rfl, F, N, hne, j⟩
    exact hQ h tk m news j F N

/-- a loop that leaves all as it is, but its own name -/
def JSame (x : Str) (m₀ : Str → Option Value) (news₀ : List (Addr × Obj)) : Nat → Heap → (Str → Option Value) → List (Addr × Obj) → Prop := fun _ _ m news => news = news₀ ∧ ∃ c, m = fun y => if y = x then c else m₀ y
theorem JSame.start {x : Str} {m₀ : Str → Option Value} {news₀ : List (Addr × Obj)} {i : Nat} {h : Heap} : JSame x m₀ news₀ i h m₀ news₀ := ⟨rfl, m₀ x, by funext y; split <;> simp_all⟩
theorem JSame.next {x : Str} {m₀ : Str → Option Value} {news₀ : List (Addr × Obj)} {g h h' : Heap} {L I : Addr} {oI : Obj} {v c : Option Value} {src : List Addr} {s₁ s₄ : Shared} {tk' : Nat} {i : Nat}
    (hs : s₄ = { s₁ with heap := h', toks := tk' }) (F : Fr g L h' (fun y => if y = x then v else if y = x then c else m₀ y)) (N : News g L h' (news₀ ++ [(I, oI)])) (hne : ∀ p ∈ news₀, p.1 ≠ I) (hk : ∀ b ∈ src, ∀ o, h.get? b = some o → h'.get? b = some o) :
    Halt (∃ h₂ tk₂ m' news', s₄ = { s₁ with heap := h₂, toks := tk₂ } ∧ Fr g L h₂ m' ∧ News g L h₂ (news' ++ [(I, oI)]) ∧ (∀ p ∈ news', p.1 ≠ I) ∧ (∀ b ∈ src, ∀ o, h.get? b = some o → h₂.get? b = some o) ∧ JSame x m₀ news₀ (i + 1) h₂ m' news') :=
  ⟨h', tk', _, news₀, hs, fr_again F, N, hne, hk, rfl, v, rfl⟩
theorem ints_get : ∀ {vs : List Value} {ns : List Int}, IntsAre vs ns → ∀ (i : Nat), i < ns.length → ∃ t, vs[i]? = some (.int (ns.getD i 0) t)
  | _, _, .nil, i, h => absurd h (Nat.not_lt_zero _)
  | _, _, .cons n t r, 0, _ => ⟨t, rfl⟩
  | _, _, .cons n t r, i + 1, h => by
    obtain ⟨u, e⟩ := ints_get r i (Nat.lt_of_succ_lt_succ h)
    exact ⟨u, by simpa using e⟩
theorem ints_snoc : ∀ {vs : List Value} {ns : List Int} {n : Int} {t : Tok}, IntsAre vs ns → IntsAre (vs ++ [.int n t]) (ns ++ [n])
  | _, _, _, _, .nil => .cons _ _ .nil
  | _, _, _, _, .cons n t r => .cons n t (ints_snoc r)
/-- a comprehension that maps: each element is reckoned and leaves the heap's objects as they are -/
theorem comp_map {prog : Program} {w : World} {A : Around} {env : Env} {s : Shared} {g : Heap} {L : Addr} {elt iter : Expr} {x : Str} {px : Pos} {scope : Scope} {cl : List (Str × Addr)} {pos : Pos} {Q : Value → Shared → Prop} {E : Value → Shared → Prop}
    (hclos : closureFor scope env = pure cl) (hcell : (scope.names.all fun y => decide (y.2 ≠ .cell)) = true) (hkind : scope.kind = .function)
    (hnames : (scope.names.all fun y => decide (y.2 = .local → scope.names.lookup y.1 = some .local)) = true) (hx : scope.names.lookup x = some .local)
    (h : ∀ PI : Shared → Value → Shared → Prop, (∀ s₁ it s₂, (∃ (n : Nat) (P : Nat → Value → Prop) (src : List Addr) (R : Nat → Value → Prop) (m : Str → Option Value) (news : List (Addr × Obj)), It prog w A n P src s₁ it s₂ ∧ n ≤ 100000 ∧ Fr g L s₁.heap m ∧ News g L s₁.heap news ∧
      (∀ C i v h tk mC, i < n → P i v → Fr g C h mC → mC x = some v → News g C h news → (∀ b o, s₁.heap.get? b = some o → h.get? b = some o) →
        wpAny (model prog w) A (eval elt (compEnvC scope cl C env)) (fun y s₄ => Halt (∃ h₄ tk₄, s₄ = { s₁ with heap := h₄, toks := tk₄ } ∧ Mods [] h h₄ ∧ R i y)) (fun _ _ => False) { s₁ with heap := h, toks := tk }) ∧
      (∀ D ys h tk k, Fr g L h m → News g L h ((D, listOf (List.toArray ys) k) :: news) → (∀ p ∈ news, p.1 < D) → (∀ b o, s₁.heap.get? b = some o → h.get? b = some o) → ys.length = n → (∀ j y, ys[j]? = some y → R j y) → Q (.ref D) { s₁ with heap := h, toks := tk })) → PI s₁ it s₂) → wpAny (model prog w) A (eval iter env) (fun xv s₁ => wpAny (model prog w) A (pyIter xv) (PI s₁) E s₁) E s)
    (hs : ∀ x, foldedSetIterable iter env x = pure x := by intro _; rfl) :
    wpAny (model prog w) A (eval (.ListComp elt [⟨.Name x px, iter, [], 0⟩] scope pos) env) Q E s := by
  replace h := h _ fun _ _ _ x => x
  refine comp_walk hclos hcell hkind hnames hx (fun PI hPI => wpAny_mono h (fun xv s₁ h₁ => wpAny_mono h₁ (fun it s₂ h₂ => hPI _ _ _ ?_) fun _ _ e => e) fun _ _ e => e) hs
  obtain ⟨n, P, src, R, m, news, hIt, hn, F, N, turn, hQ⟩ := h₂
  refine ⟨n, P, src, [], fun i ys _ => ys.length = i ∧ ∀ j y, ys[j]? = some y → R j y, hIt, hn, (fun a ha => nomatch ha), fun i ys h h' a _ => a, ⟨rfl, fun j y e => by simp at e⟩, ?_, ?_⟩
  · intro C i v ys h tk mC hC hCs hi hP hInv hns hm old
    refine wpAny_pure ⟨_, _, rfl, Mods.refl _ _, ?_⟩
    simp only [if_true]
    refine wpAny_mono (turn C i v h tk mC hi hP (comp_frame F hCs hns old (fun a ha => nomatch ha)) hm (comp_news N hCs old fun _ _ hm => nomatch hm) fun b o e => old b o e (fun hm => nomatch hm)) (fun y s₄ h₄ => ?_) fun _ _ e => e
    obtain ⟨h₄, tk₄, e, M, r⟩ := h₄
    refine ⟨h₄, tk₄, e, M, by simp [hInv.1], fun j z hz => ?_⟩
    rcases Nat.lt_or_ge j ys.length with q | q
    · rw [List.getElem?_append_left q] at hz; exact hInv.2 j z hz
    · rw [List.getElem?_append_right q] at hz
      have : j = i := by
        rcases Nat.lt_or_ge ys.length j with q' | q'
        · rw [List.getElem?_eq_none (by simp; omega)] at hz; cases hz
        · omega
      subst this
      rw [hInv.1, Nat.sub_self] at hz
      simp at hz; subst hz; exact r
  · intro D ys h tk k hD hInv hDo old
    have old' := fun b o e => old b o e (fun hm => nomatch hm)
    have N' : News g L h news := fun p hp => ⟨old' _ _ (N p hp).1, (N p hp).2⟩
    have F' := comp_outer F old (fun a ha => nomatch ha) (fun hm => nomatch hm)
    have hD' := Heap.get?_none_of_le hD
    exact hQ D ys h tk k F' (News.cons hDo (Fr.ne_new F hD') (Fr.base_new F hD') N') (fun p hp => Nat.lt_of_lt_of_le (Heap.lt_size (N p hp).1) hD) old' hInv.1 hInv.2
/-- a while by what holds of it, with a measure -/
theorem while_walk {prog : Program} {w : World} {A : Around} {env : Env} {s : Shared} {test : Expr} {body : List Stmt} {pos : Pos} {Q : Flow → Shared → Prop} {E : Value → Shared → Prop} (I : Nat → Shared → Prop) (n₀ : Nat) (i0 : I n₀ s)
    (turn : ∀ n s, I n s → ∀ R : Flow → Shared → Prop, (∀ f s₃, (match f with
            | .ret v => Q (.ret v) s₃
            | .brk => Q .next s₃
            | _ => Halt (∃ m, m < n ∧ I m s₃)) → R f s₃) → wpAny (model prog w) A (isTrue test env (eval test env)) (fun b s₂ =>
        if b then wpAny (model prog w) A (execs body env) R (fun _ _ => False) s₂
        else Q .next s₂) (fun _ _ => False) s) :
    wpAny (model prog w) A (exec (.While test body [] pos) env) Q E s := by
  refine wpAny_While (codeAny_whileLoop I (fun n s h => ?_) n₀ i0)
  refine wpAny_mono (turn n s h _ fun _ _ x => x) (fun b s₂ h₂ => ?_) fun _ _ x => x.elim
  cases b with
  | false => simp only [Bool.false_eq_true, if_false] at h₂ ⊢; exact wpAny_execs_nil h₂
  | true =>
    simp only [if_true] at h₂ ⊢
    refine wpAny_mono h₂ (fun f s₃ h₃ => ?_) fun _ _ x => x.elim
    cases f <;> exact h₃
end Mine
set_option compiler.extract_closed false
local macro_rules | `(tactic| walk_at "call ref") => `(tactic| (refine Mine.halt_call (by decide) ?_; (try dsimp only)))
local macro_rules | `(tactic| walk_at "eval ListComp") => `(tactic| (refine Mine.halt ?_; (try dsimp only)))
local macro_rules | `(tactic| walk_at "eval Name") => `(tactic| (k_here; (with_reducible show wpAny _ _ (eval _ (compEnvC _ _ _ _)) _ _ _); k_dflt (first
  | (refine' Mine.nameE_L ?F ?L ?k ?x ?d ?v ?_; (case L => exact rfl); (case k => rfl); (case x => rfl); (case d => decide); (case F => k_asm); (case v => first | rfl | assumption); k_whole)
  | (refine' Mine.nameE_C ?N ?k ?x ?d ?c ?m ?o ?_; (case k => rfl); (case x => rfl); (case d => decide); (case N => k_asm); (case c => rfl); (case m => k_mem); (case o => k_asm); k_whole)
  | (refine' Mine.nameE_K ?F ?X ?T ?k ?g ?x ?d ?e ?_; (case k => rfl); (case g => rfl); (case x => rfl); (case d => decide); (case F => k_asm); (case X => k_asm); (case T => k_asm); (case e => k_is); k_whole)
  | (refine' Mine.nameE_B ?F ?X ?T ?k ?g ?b ?x ?d ?e ?v ?n ?_; (case k => rfl); (case g => rfl); (case b => rfl); (case x => rfl); (case d => decide); (case F => k_asm); (case X => k_asm); (case T => k_asm); (case e => k_is); (case v => boot_fast); (case n => decide); k_whole))))
namespace Mine
theorem require_spec (w : World) {A₀ : Around} {env : Env} {outer : List Env} {base h₀ : Heap} {L : Addr} {m mg mb : Str → Option Value} {loose : List Str} {mean : ExcName → Option Value} {s : Shared} {v : Value} {x : Str} {t : Tok}
    {Q E : Value → Shared → Prop} (B : Below A₀ base outer h₀) (F : Fr h₀ L s.heap m) (X : (hd.heap_39 w.params).In h₀) (T : Top hd.view_39 loose mean mg mb h₀) (hf : env.frame = some L) (hk : env.scope.kind = .function)
    (hx : x ∈ opsAll)
    (ret : ∀ h' tk', Fr h₀ L h' m → Mods [] s.heap h' → Q .none { s with heap := h', toks := tk' }) :
    wpAny (model PySem.Challenge.rw_rh0001_01.row.prog w) (AC 400 (env :: outer)) (call (.ref 100) [v, .str x t]) Q E s := by
  w_top off
  revert X; k_fill; intro X
  simp only [opsAll, List.mem_cons, List.not_mem_nil, or_false] at hx
  have N : News h₀ L s.heap [] := News.nil
  rcases hx with rfl | rfl | rfl | rfl | rfl
  all_goals (
    k_dflt (refine' enter (binds := [(Str.ofString "self", v), (Str.ofString "op", .str _ t)]) B F X N T hf hk ?k6 ?k7 ?k8 ?k9 ?kB ?c2 ?c3 ?c4 ?c5 ?_; (case k6 => k_is); (case k7 => k_is); (case k8 => exact rfl); (case k9 => exact rfl); (case kB => exact rfl); (case c2 => exact rfl); (case c3 => exact rfl); (case c4 => exact rfl); (case c5 => exact rfl))
    clear F N B X T
    intro LL MM g h₁ tk₁ gs dr os PQ hPQ F N B X T keep back EV AA
    clear keep back
    show wpAny _ ((AC 400 (env :: outer)).deeper EV) _ _ _ _
    clear AA
    k_steps)
  all_goals (
    show wpAny _ _ _ _ _ _
    k_dflt (refine' comp_walk ?a1 ?a2 ?a3 ?a4 ?a5 ?_; (case a1 => exact rfl); (case a2 => exact rfl); (case a3 => exact rfl); (case a4 => exact rfl); (case a5 => exact rfl))
    intro PI hPI
    k_steps
    (rename Fr _ _ _ _ => F'); (rename News _ _ _ _ => N')
    refine iter_str rfl fun it s₂ hIt => ?_
    refine hPI _ _ _ ?_
    refine ⟨_, _, _, [], fun i ys h => ys = [], hIt, by decide, (fun a ha => nomatch ha), fun i ys h h' a _ => a, rfl, ?_, ?_⟩
    · intro C i v ys h tk m hC hCs hi hP hInv hn hm old
      obtain ⟨c, u, hc, rfl⟩ := hP
      obtain rfl : i = 0 := Nat.lt_one_iff.mp hi
      cases hc
      subst hInv
      have FC := comp_frame F' hCs hn old (fun a ha => nomatch ha)
      refine wpAny_tests_one ?_
      dsimp only at FC ⊢
      clear F' old
      k_steps
      · exact ⟨_, _, rfl, Mods.refl _ _, rfl⟩
      · rename_i hb; exact absurd hb (by decide +kernel)
    · intro D ys h tk k hD hInv hDo old
      replace hD := Heap.get?_none_of_le hD
      subst hInv
      have F'' := comp_outer F' old (fun a ha => nomatch ha) (fun hm => nomatch hm)
      have N'' : News _ _ h [(D, listOf (List.toArray []) k)] := News.cons hDo (Fr.ne_new F' hD) (Fr.base_new F' hD) News.nil
      dsimp only at F'' N'' ⊢
      clear F' N' old
      k_steps
      refine hPQ _ _ _ ?_
      refine' back_mk ?f ?n ?k
      case f => k_asm
      case n => k_asm
      case k => intro F₂ _ M₂; exact ret _ _ F₂ M₂)
end Mine
namespace Mine
/-- an instance that stands in the ground -/
def InstB (h : Heap) (x dx C : Addr) (es : List DictEntry) (n : Nat) : Prop := h.get? x = some (instObj C dx) ∧ h.get? dx = some (dictOf es n)
theorem InstB.at {h₀ h : Heap} {L x dx C : Addr} {m : Str → Option Value} {es : List DictEntry} {n : Nat} (F : Fr h₀ L h m) (b : InstB h₀ x dx C es n) : InstAt h x (instObj C dx) C (some (dictOf es n)) :=
  ⟨F.keep _ _ b.1, rfl, rfl, F.keep _ _ b.2⟩

section
variable {prog : Program} {w : World} {A : Around} {E : Value → Shared → Prop} {s : Shared} {h₀ : Heap} {L : Addr} {m : Str → Option Value} {news : List (Addr × Obj)} {Q : Value → Shared → Prop}
theorem tuple_same {t : Addr} {l : List Value} (ht : IsTup s.heap t l.toArray) (h : Q (.ref t) s) : wpAny (model prog w) A (call (.type "tuple") [.ref t]) Q E s := call_tuple_same ht h
theorem add_tup_nil {t b : Addr} {v : Value} {vs : List Value} (F : Fr h₀ L s.heap m) (N : News h₀ L s.heap news) (ht : IsTup s.heap t (v :: vs).toArray) (hb : IsTup s.heap b (List.toArray [])) (hs : (v :: vs).length ≤ 1000) (h : Q (.ref t) s) :
    wpAny (model prog w) A (binaryOp .Add (.ref t) (.ref b)) Q E s :=
  add_tuples F N ht hb (fun e => nomatch e) (fun _ _ => h) (fun _ e => absurd rfl e) (by rw [sizeLine_eq]; simp only [List.length_nil]; omega)
theorem add_tup_cons {t b : Addr} {v u : Value} {vs us : List Value} (F : Fr h₀ L s.heap m) (N : News h₀ L s.heap news) (ht : IsTup s.heap t (v :: vs).toArray) (hb : IsTup s.heap b (u :: us).toArray) (hs : (v :: vs).length + (u :: us).length ≤ 1000)
    (h : ∀ D h', Fr h₀ L h' m → News h₀ L h' ((D, { cls := .type "tuple", data := .seq (v :: vs ++ u :: us).toArray }) :: news) → (∀ p ∈ news, p.1 < D) → Q (.ref D) { s with heap := h' }) :
    wpAny (model prog w) A (binaryOp .Add (.ref t) (.ref b)) Q E s :=
  add_tuples F N ht hb (fun e => nomatch e) (fun _ e => nomatch e) (fun _ _ h' F' N' => h _ h' F' N' fun p hp => Heap.lt_size (N p hp).1) (by rw [sizeLine_eq]; omega)

/-- an item of a list of whatever items -/
theorem item_listE {value slice : PySem.Expr} {l : Addr} {vs : List Value} {k : Int} {u : Tok} {n : Nat} {v : Value} (hl : s.heap.IsList l vs.toArray) (hk : k = (n : Int)) (hn : n < 2 ^ 62) (hx : vs[n]? = some v) (h : Q v s)
    (hs : subscripted slice false (.ref l) (.int k u) = operate [.ref l, .int k u] (getItem (.ref l) (.int k u)) := by with_unfolding_all rfl) :
    wpAny (model prog w) A (subscriptTail value slice (.ref l) (.int k u)) Q E s := by
  subst hk
  exact tail_any hl.typeIs slot_list_getitem.lookup (wpAny_getItem_list hl (Int.natCast_nonneg n) (by omega) (by simpa using hx) h) hs

section
variable {rows : List Row} {r : Row} {a nd : Addr} {o : Obj} {ks : List Addr}
theorem nums_get {h : Heap} (x : NumsX prog w o rows ks) (ho : h.get? nd = some o) (k : KeysAt prog w h rows ks) (hn : rows.Nodup) (hr : r ∈ rows) :
    ∃ (xs : List (List NK × Addr × Value)) (i : Nat) (b : Addr) (t : Tok), h.DictOfH (tupleKind (nkKind prog w)) nd xs ∧ rows[i]? = some r ∧ atKey xs (keyOf r) = some (b, .int (i : Int) t) := by
  obtain ⟨xs, hd, hk, _, hv⟩ := x.dict ho k hn
  obtain ⟨i, hi⟩ := List.mem_iff_getElem?.mp hr
  have h1 : (xs.map (·.1))[i]? = some (keyOf r) := by rw [hk, List.getElem?_map, hi]; rfl
  rw [List.getElem?_map] at h1
  cases hx : xs[i]? with
  | none => rw [hx] at h1; cases h1
  | some y =>
    rw [hx] at h1
    obtain ⟨k, b, v⟩ := y
    obtain rfl : k = keyOf r := by simpa using h1
    obtain ⟨t, rfl⟩ : ∃ t, v = .int (i : Int) t := hv i _ hx
    have hn : (xs.map (·.1)).Nodup := by obtain ⟨_, _, _, _, _, _, _, _, hn⟩ := hd; exact hn
    exact ⟨xs, i, b, t, hd, hi, atKey_of_get hn hx⟩
theorem nums_none {h : Heap} (x : NumsX prog w o rows ks) (ho : h.get? nd = some o) (k : KeysAt prog w h rows ks) (hn : rows.Nodup) (hr : r ∉ rows) :
    ∃ xs, h.DictOfH (tupleKind (nkKind prog w)) nd xs ∧ atKey xs (keyOf r) = none ∧ xs.map (·.1) = rows.map keyOf ∧ xs.map (·.2.1) = ks ∧ ∀ (i : Nat) x, xs[i]? = some x → ∃ t, x.2.2 = .int (i : Int) t := by
  obtain ⟨xs, hd, hk, h2, hv⟩ := x.dict ho k hn
  refine ⟨xs, hd, atKey_none_of_get fun j p hj => hr ?_, hk, h2, hv⟩
  have h1 : (xs.map (·.1))[j]? = some (keyOf r) := by rw [List.getElem?_map, hj]; rfl
  rw [hk, List.getElem?_map] at h1
  cases hx : rows[j]? with
  | none => rw [hx] at h1; cases h1
  | some q =>
    rw [hx] at h1
    obtain rfl := keyOf_inj (Option.some.inj h1)
    exact List.mem_of_getElem? hx
theorem in_nums (lo : (nd == sysModules) = false) (hu : A.units + 1 < cLine) (x : NumsX prog w o rows ks) (ho : s.heap.get? nd = some o) (k : KeysAt prog w s.heap rows ks) (hn : rows.Nodup) (ha : IsTupleKey (nkKind prog w) s.heap (keyOf r) a) (hr : r ∈ rows) (h : ∀ tk, Q (.bool true) { s with toks := tk }) :
    wpAny (model prog w) A (compareOp .In (.ref a) (.ref nd)) Q E s := by
  obtain ⟨xs, i, b, t, hd, _, hk⟩ := nums_get x ho k hn hr
  exact wpAny_in_heap (knd := tupleKind (nkKind prog w)) hu ha lo hd (by rw [hk]; exact h _)
theorem notIn_nums (lo : (nd == sysModules) = false) (hu : A.units + 1 < cLine) (x : NumsX prog w o rows ks) (ho : s.heap.get? nd = some o) (k : KeysAt prog w s.heap rows ks) (hn : rows.Nodup) (ha : IsTupleKey (nkKind prog w) s.heap (keyOf r) a) (hr : r ∉ rows) (h : ∀ tk, Q (.bool false) { s with toks := tk }) :
    wpAny (model prog w) A (compareOp .In (.ref a) (.ref nd)) Q E s := by
  obtain ⟨xs, hd, hk, _⟩ := nums_none x ho k hn hr
  exact wpAny_in_heap (knd := tupleKind (nkKind prog w)) hu ha lo hd (by rw [hk]; exact h _)
theorem get_nums {value slice : PySem.Expr} (hu : A.units + 1 < cLine) (x : NumsX prog w o rows ks) (ho : s.heap.get? nd = some o) (k : KeysAt prog w s.heap rows ks) (hn : rows.Nodup) (ha : IsTupleKey (nkKind prog w) s.heap (keyOf r) a) (hr : r ∈ rows)
    (h : ∀ i t tk, rows[i]? = some r → Q (.int ((i : Nat) : Int) t) { s with toks := tk })
    (hs : subscripted slice false (.ref nd) (.ref a) = operate [.ref nd, .ref a] (getItem (.ref nd) (.ref a)) := by with_unfolding_all rfl) :
    wpAny (model prog w) A (subscriptTail value slice (.ref nd) (.ref a)) Q E s := by
  obtain ⟨xs, i, b, t, hd, hi, hk⟩ := nums_get x ho k hn hr
  exact tail_any hd.typeIs slot_dict_getitem.lookup (wpAny_getItem_heap (knd := tupleKind (nkKind prog w)) hu ha hd hk (h i t _ hi)) hs
theorem set_nums {j : Int} {t : Tok} {Q : Unit → Shared → Prop} (hu : A.units + 1 < cLine) (x : NumsX prog w o rows ks) (ho : s.heap.get? nd = some o) (k : KeysAt prog w s.heap rows ks) (hn : rows.Nodup) (ha : IsTupleKey (nkKind prog w) s.heap (keyOf r) a) (hr : r ∉ rows) (hlen : rows.length ≤ 1000) (hk : j = (rows.length : Int))
    (h : ∀ h' tk o', h'.get? nd = some o' → NumsX prog w o' (rows ++ [r]) (ks ++ [a]) → Heap.SameBut nd s.heap h' → Q () { s with heap := h', toks := tk }) :
    wpAny (model prog w) A (setItem (.ref nd) (.ref a) (.int j t)) Q E s := by
  obtain ⟨xs, hd, hn', hm, h2, hv⟩ := nums_none x ho k hn hr
  have hl : xs.length = rows.length := by have := congrArg List.length hm; simpa using this
  refine wpAny_setItem_heap (hsz := by rw [sizeLine_eq]; omega) (knd := tupleKind (nkKind prog w)) hu ha hd fun h' hd' hs => ?_
  obtain ⟨o', ho', x'⟩ := NumsX.of_dict (rows := rows ++ [r]) (ks := ks ++ [a]) hd' (by rw [storedH_new hn', List.map_append, hm, List.map_append]; rfl) (by rw [storedH_new hn', List.map_append, h2]; rfl) (by
    rw [storedH_new hn']
    intro i y hy
    rcases Nat.lt_or_ge i xs.length with q | q
    · rw [List.getElem?_append_left q] at hy; exact hv i y hy
    · rw [List.getElem?_append_right q] at hy
      have : i = xs.length := by
        rcases Nat.lt_or_ge xs.length i with q' | q'
        · rw [List.getElem?_eq_none (by simp; omega)] at hy; cases hy
        · omega
      subst this
      simp at hy
      subst hy
      exact ⟨t, by rw [hk, hl]⟩)
  exact h h' _ o' ho' x' hs
end
end
section
variable {prog : Program} {w : World} {h : Heap} {a : Addr}
theorem key_mk {ks : List NK} {vs : List Value} (ht : IsTup h a vs.toArray) (hi : PySem.ItemsAre (nkKind prog w) ks vs) : IsTupleKey (nkKind prog w) h ks a := by
  obtain ⟨o, ho, hc, n, hd⟩ := ht
  exact ⟨o, _, n, ho, hc, hd, by simpa using hi⟩
/-- a tuple that is read: its items -/
theorem tup_of_reads {h : Heap} {a : Addr} {ds : List PyData} {as : List Addr} (x : Reads h (.ref a) (.tuple ds) as) : ∃ vs, IsTup h a (List.toArray vs) ∧ ReadsAll h vs ds as := by
  cases x with
  | tuple h1 h2 h3 h4 => rename_i o vs n; exact ⟨vs.toList, ⟨o, h1, h2, n, by simpa using h3⟩, h4⟩
theorem ints_of_reads {h : Heap} : ∀ {ks : List Nat} {vs : List Value} {as : List Addr}, ReadsAll h vs (ks.map pin) as → vs.length = ks.length ∧ ∀ (i : Nat) (k : Nat), ks[i]? = some k → ∃ t, vs[i]? = some (.int (k : Int) t)
  | [], _, _, r => by cases r; exact ⟨rfl, fun _ _ e => by simp at e⟩
  | k :: ks, _, _, r => by
    cases r with
    | cons r1 r2 =>
      unfold pin at r1
      cases r1
      have ih := ints_of_reads r2
      refine ⟨by simp [ih.1], fun i q e => ?_⟩
      cases i with
      | zero => simp at e; subst e; exact ⟨_, rfl⟩
      | succ i => simp only [List.getElem?_cons_succ] at e ⊢; exact ih.2 i q e
end
theorem reads2 {h : Heap} {vs : List Value} {as : List Addr} {k l : Nat} (x : ReadsAll h vs ([k, l].map pin) as) : ∃ t u, vs = [.int (k : Int) t, .int (l : Int) u] := by
  cases x with
  | cons r1 r2 =>
    unfold pin at r1; cases r1
    cases r2 with
    | cons r3 r4 => unfold pin at r3; cases r3; cases r4; exact ⟨_, _, rfl⟩
theorem readsAll_length {h : Heap} : ∀ {ds : List PyData} {vs : List Value} {as : List Addr}, ReadsAll h vs ds as → vs.length = ds.length
  | [], _, _, x => by cases x; rfl
  | d :: ds, _, _, x => by cases x with | cons _ r => simp [readsAll_length r]
/-- the ground of a call holds all but the footprint -/
theorem ground_of {h₀ h g : Heap} {L : Addr} {news : List (Addr × Obj)} (N : News h₀ L h news) (keep : ∀ b o, h.get? b = some o → b ∉ news.map (·.1) → g.get? b = some o) {a : Addr} {o : Obj} (e : h.get? a = some o) (n : ∀ p ∈ news, p.1 ≠ a ∨ p.2 ≠ o) : g.get? a = some o :=
  keep a o e fun hm => by
    obtain ⟨p, hp, rfl⟩ := List.mem_map.mp hm
    rcases n p hp with q | q
    · exact q rfl
    · have := (N p hp).1; rw [e] at this; exact q (Option.some.inj this).symm
theorem ground_tk {h₀ h g : Heap} {L : Addr} {news : List (Addr × Obj)} (N : News h₀ L h news) (keep : ∀ b o, h.get? b = some o → b ∉ news.map (·.1) → g.get? b = some o) (n : ∀ p ∈ news, ¬ tupO p.2) : TK h g :=
  fun _ _ e t => ground_of N keep e fun p hp => .inr fun q => n p hp (q ▸ t)
theorem noTup_cls {o : Obj} (h : o.cls ≠ .type "tuple") : ¬ tupO o := fun x => h x.1
theorem set_numsK {prog : Program} {w : World} {A : Around} {E : Value → Shared → Prop} {s : Shared} {h₀ : Heap} {L : Addr} {m : Str → Option Value} {news : List (Addr × Obj)} {rows : List Row} {r : Row} {a nd : Addr} {o : Obj} {ks : List Addr} {u : Obj → List (Addr × Obj)} {j : Int} {t : Tok} {Q : Unit → Shared → Prop}
    (hr : r ∉ rows) (F : Fr h₀ L s.heap m) (N : News h₀ L s.heap news) (U : UpdF nd o news u) (x : NumsX prog w o rows ks) (k : KeysAt prog w s.heap rows ks) (hn : rows.Nodup) (ha : IsTupleKey (nkKind prog w) s.heap (keyOf r) a) (hu : A.units + 1 < cLine) (hlen : rows.length ≤ 1000) (hk : j = (rows.length : Int))
    (h : ∀ h' tk o', Fr h₀ L h' m → News h₀ L h' (u o') → NumsX prog w o' (rows ++ [r]) (ks ++ [a]) → o'.cls = .type "dict" → Q () { s with heap := h', toks := tk }) :
    wpAny (model prog w) A (setItem (.ref nd) (.ref a) (.int j t)) Q E s := by
  obtain ⟨pre, post, rfl, hg, h1, h2⟩ := U.split
  have hm := N (nd, o) (List.mem_append_right _ (.head _))
  refine set_nums hu x hm.1 k hn ha hr hlen hk fun h' tk o' ho' x' hs => ?_
  exact h h' tk o' (F.change hs hm.2.1 hm.2.2) (hg o' ▸ N.setIn h1 h2 hs ho') x' (by obtain ⟨_, _, _, y, _⟩ := x'; exact y.1)
theorem slice1_tup {prog : Program} {w : World} {A : Around} {E : Value → Shared → Prop} {h₀ h : Heap} {L : Addr} {m : Str → Option Value} {news : List (Addr × Obj)} {Q : Value → Shared → Prop} {value slice : PySem.Expr} {t : Addr} {v : Value} {vs : List Value} {u : Tok} {g d tk os}
    (F : Fr h₀ L h m) (N : News h₀ L h news) (ht : IsTup h t (v :: vs).toArray) (hl : (v :: vs).length ≤ 1000)
    (hq : ∀ D h', Fr h₀ L h' m → News h₀ L h' ((D, { cls := .type "tuple", data := .seq vs.toArray }) :: news) → (∀ p ∈ news, p.1 < D) → Q (.ref D) ⟨h', g, d, tk, os⟩)
    (hs : subscripted slice false (.ref t) (.ref h.objs.size) = operate [.ref h.objs.size, .ref t] (getItem (.ref t) (.ref h.objs.size)))
    (hg : ∀ r, letTemporaryGo value (.ref t) r = pure ()) :
    wpAny (model prog w) A (subscriptTail value slice (.ref t) (.ref h.objs.size)) Q E ⟨h.push { cls := .type "slice", data := .fields #[.int 1 u, .none, .none] }, g, d, tk, os⟩ :=
  slice_tuple_from (s := ⟨h, g, d, tk, os⟩) (a := 1) F N ht (Nat.le_refl _) (by simp) (fun h' F' N' => hq _ h' F' (by simpa using N') fun p hp => Nat.lt_succ_of_lt (Heap.lt_size (N p hp).1)) hs hg (by rw [sizeLine_eq]; simp only [List.size_toArray]; omega)
theorem isListN {h₀ h : Heap} {L a : Addr} {news : List (Addr × Obj)} {vs : List Value} {n : Nat} (N : News h₀ L h news) (hm : (a, listOf vs.toArray n) ∈ news) : h.IsList a vs.toArray := ⟨_, (N _ hm).1, rfl, _, rfl⟩
theorem len_listN {prog : Program} {w : World} {A : Around} {E : Value → Shared → Prop} {s : Shared} {Q : Value → Shared → Prop} {l : Addr} {vs : List Value} {n : Nat} (hl : s.heap.IsList l vs.toArray) (hn : vs.length = n) (hz : n ≤ 16384) (h : Q (.int (n : Int) (s.toks + 1)) { s with toks := s.toks + 1 + 1 }) :
    wpAny (model prog w) A (call (.builtin "len") [.ref l]) Q E s := by
  subst hn
  refine call_len_list hl (by simp only [List.size_toArray]; omega) ?_
  simpa using h
theorem len_app1 {vs : List Value} {v : Value} {n : Nat} (h : vs.length = n) : (vs ++ [v]).length = n + 1 := by simp [h]
theorem append_listN {prog : Program} {w : World} {A : Around} {E : Value → Shared → Prop} {s : Shared} {h₀ : Heap} {L D : Addr} {m : Str → Option Value} {news news' : List (Addr × Obj)} {vs : List Value} {n k : Nat} {x : Value} {Q : Value → Shared → Prop}
    (F : Fr h₀ L s.heap m) (N : News h₀ L s.heap news) (U : Upd D (listOf vs.toArray n) (listOf (vs ++ [x]).toArray (n + 1)) news news') (hn : vs.length = k) (hk : k ≤ 1000)
    (h : ∀ h', Fr h₀ L h' m → News h₀ L h' news' → Q .none { s with heap := h' }) : wpAny (model prog w) A (call (.builtin "list.append") [.ref D, x]) Q E s :=
  append_K F N (its := vs.toArray) (n := n) (by simpa using U) h (by rw [sizeLine_eq, List.size_toArray]; omega)
theorem keptN {g h h' : Heap} {L D : Addr} {news' : List (Addr × Obj)} {o : Obj} (a : h.get? D = some o) (N' : News g L h' news') (b : (D, o) ∈ news') : ∀ b ∈ [D], ∀ o, h.get? b = some o → h'.get? b = some o := fun x hx q e => by
  rw [List.mem_singleton.mp hx] at e ⊢
  rw [e] at a; cases a
  exact (N' _ b).1
theorem kid_of {h : Heap} {ks : List Nat} {vs : List Value} {as : List Addr} (r : ReadsAll h vs (ks.map pin) as) {i : Nat} {v : Value} (e : vs[i]? = some v) : ∃ (k : Nat) (u : Tok), v = .int (k : Int) u ∧ ks[i]? = some k := by
  have h := ints_of_reads r
  have hi : i < vs.length := by
    rcases Nat.lt_or_ge i vs.length with q | q
    · exact q
    · rw [List.getElem?_eq_none q] at e; cases e
  have hk : ks[i]? = some (ks[i]'(h.1 ▸ hi)) := List.getElem?_eq_getElem _
  obtain ⟨t, e2⟩ := h.2 i _ hk
  rw [e] at e2
  exact ⟨_, t, Option.some.inj e2, hk⟩
theorem len2 {α : Type} {l : List α} (h : l.length = 2) : ∃ a b, l = [a, b] := by
  match l, h with
  | [a, b], _ => exact ⟨a, b, rfl⟩
theorem ints_reads_any {h h' : Heap} : ∀ {ks : List Nat} {vs : List Value} {as : List Addr}, ReadsAll h vs (ks.map pin) as → ReadsAll h' vs (ks.map pin) []
  | [], _, _, r => by cases r; exact .nil
  | k :: ks, _, _, r => by
    cases r with
    | cons r1 r2 => unfold pin at r1; cases r1; exact .cons (as := []) (bs := []) (.int _ _) (ints_reads_any r2)
theorem reads_snoc {h : Heap} : ∀ {vs : List Value} {ds : List PyData} {v : Value} {d : PyData}, ReadsAll h vs ds [] → Reads h v d [] → ReadsAll h (vs ++ [v]) (ds ++ [d]) [] := by
  have key : ∀ {vs : List Value} {ds : List PyData} {as : List Addr} {v : Value} {d : PyData}, ReadsAll h vs ds as → Reads h v d [] → ReadsAll h (vs ++ [v]) (ds ++ [d]) as := by
    intro vs
    induction vs with
    | nil => intro ds as v d r x; cases r; exact .cons (as := []) (bs := []) x .nil
    | cons y ys ih =>
      intro ds as v d r x
      cases r with
      | cons r1 r2 => exact .cons r1 (ih r2 x)
  exact fun {_ _ _ _} r x => key r x
theorem node_of_tup {h h' : Heap} {D : Addr} {op : Str} {t : Tok} {kids : List Nat} {vs : List Value} {as : List Addr} (ht : IsTup h D (.str op t :: vs).toArray) (r : ReadsAll h' vs (kids.map pin) as) : Reads h (.ref D) (nodeD (op, kids)) [] := by
  obtain ⟨o, e, hc, n, hd⟩ := ht
  exact .tuple e hc hd (.cons (as := []) (bs := []) (.str _ _) (ints_reads_any r))
theorem KeysAt.snoc {prog : Program} {w : World} {h : Heap} {rows : List Row} {r : Row} {ks : List Addr} {a : Addr} (x : KeysAt prog w h rows ks) (hl : ks.length = rows.length) (k : IsTupleKey (nkKind prog w) h (keyOf r) a) : KeysAt prog w h (rows ++ [r]) (ks ++ [a]) := by
  intro i q b hq hb
  rcases Nat.lt_or_ge i rows.length with p | p
  · rw [List.getElem?_append_left p] at hq
    rw [List.getElem?_append_left (by omega)] at hb
    exact x i q b hq hb
  · rw [List.getElem?_append_right p] at hq
    rw [List.getElem?_append_right (by omega), hl] at hb
    cases hz : i - rows.length with
    | zero => rw [hz] at hq hb; simp at hq hb; subst hq; subst hb; exact k
    | succ n => rw [hz] at hq; simp at hq
theorem bank_add {prog : Program} {w : World} {H : Heap} {b : BA} {rows : List Row} {r : Row} {nvs wvs dvs : List Value} {D : Addr} {n1 n2 n3 : Nat} {o : Obj} {ks : List Addr} {W V : Int} {t u : Tok}
    (BI : BankI w H b) (e1 : H.get? b.nl = some (listOf (List.toArray (nvs ++ [Value.ref D])) n1)) (rn : ReadsAll H nvs (rows.map nodeD) []) (ndr : Reads H (.ref D) (nodeD r) []) (e2 : H.get? b.nd = some o) (x : NumsX prog w o (rows ++ [r]) (ks ++ [D])) (hl : ks.length = rows.length) (KA : KeysAt prog w H rows ks)
    (e3 : H.get? b.wl = some (listOf (List.toArray (wvs ++ [Value.int W t])) n2)) (iw : IntsAre wvs (wts rows)) (hW : W = wtOf (wts rows) r)
    (e4 : H.get? b.dl = some (listOf (List.toArray (dvs ++ [Value.int V u])) n3)) (id : IntsAre dvs (dps rows)) (hV : V = dpOf (dps rows) r) : BankAt prog w H b (rows ++ [r]) := by
  subst hW hV
  refine ⟨BI, ⟨_, _, e1, by rw [List.map_append]; exact reads_snoc rn ndr⟩, ⟨o, _, e2, x, KA.snoc hl (key_of_node ndr)⟩, ⟨_, _, e3, ?_⟩, ⟨_, _, e4, ?_⟩⟩
  · rw [show wts (rows ++ [r]) = wts rows ++ [wtOf (wts rows) r] from scan_append _ _ _]; exact ints_snoc iw
  · rw [show dps (rows ++ [r]) = dps rows ++ [dpOf (dps rows) r] from scan_append _ _ _]; exact ints_snoc id
/-- every tuple that stands now stands in the ground or in the tail -/
def Tail (g h : Heap) (T : List (Addr × Obj)) : Prop := (∀ p ∈ T, tupO p.2) ∧ ∀ a o, h.get? a = some o → tupO o → g.get? a = some o ∨ (a, o) ∈ T
theorem tail_new {g h : Heap} {L : Addr} {m : Str → Option Value} (F : Fr g L h m) : ∃ T, News g L h T ∧ Tail g h T := by
  classical
  refine ⟨(List.range h.objs.size).filterMap fun a => match h.get? a with
    | some o => if tupO o ∧ g.get? a = none then some (a, o) else none
    | none => none, ?_, ?_, ?_⟩
  · rintro ⟨a, o⟩ hp
    obtain ⟨x, _, hx⟩ := List.mem_filterMap.mp hp
    cases e : h.get? x with
    | none => rw [e] at hx; cases hx
    | some q =>
      rw [e] at hx
      dsimp only at hx
      split at hx
      · rename_i hc
        cases hx
        exact ⟨e, fun q => ns_noTup F.ns o (q ▸ e) hc.1, hc.2⟩
      · cases hx
  · rintro ⟨a, o⟩ hp
    obtain ⟨x, _, hx⟩ := List.mem_filterMap.mp hp
    cases e : h.get? x with
    | none => rw [e] at hx; cases hx
    | some q =>
      rw [e] at hx
      dsimp only at hx
      split at hx
      · rename_i hc
        cases hx
        exact hc.1
      · cases hx
  · intro a o e t
    cases eg : g.get? a with
    | some q => left; have := F.keep _ _ eg; rw [e] at this; exact this.symm
    | none =>
      right
      refine List.mem_filterMap.mpr ⟨a, List.mem_range.mpr (Heap.lt_size e), ?_⟩
      rw [e]; dsimp only; rw [if_pos ⟨t, eg⟩]
theorem Tail.tk {g h h' : Heap} {L : Addr} {m : Str → Option Value} {T news : List (Addr × Obj)} (x : Tail g h T) (F : Fr g L h' m) (N : News g L h' news) (sub : ∀ p ∈ T, p ∈ news) : TK h h' := fun a o e t => by
  rcases x.2 a o e t with q | q
  · exact F.keep _ _ q
  · exact (N _ (sub _ q)).1
theorem Tail.ne {g h : Heap} {T : List (Addr × Obj)} {L a : Addr} {o : Obj} (x : Tail g h T) (N : News g L h T) (e : h.get? a = some o) (n : ¬ tupO o) : ∀ p ∈ T, p.1 ≠ a := fun p hp q => by
  have h1 := (N p hp).1
  rw [q, e] at h1; cases h1
  exact n (x.1 p hp)
theorem News.own {g h : Heap} {L a : Addr} {o : Obj} {news : List (Addr × Obj)} (N : News g L h news) (hm : (a, o) ∈ news) : a ≠ L ∧ g.get? a = none := (N _ hm).2
theorem own4 {P : Addr → Prop} {a b c d : Addr} (h1 : P a) (h2 : P b) (h3 : P c) (h4 : P d) : ∀ x ∈ [a, b, c, d], P x := fun x hx => by
  simp only [List.mem_cons, List.not_mem_nil, or_false] at hx
  rcases hx with rfl | rfl | rfl | rfl <;> assumption
theorem own5 {P : Addr → Prop} {a b c d e : Addr} (h0 : P e) (h1 : P a) (h2 : P b) (h3 : P c) (h4 : P d) : ∀ x ∈ [e, a, b, c, d], P x := fun x hx => by
  simp only [List.mem_cons, List.not_mem_nil, or_false] at hx
  rcases hx with rfl | rfl | rfl | rfl | rfl <;> assumption
theorem kids_reads {h h' : Heap} {kd : Addr} {kvs : List Value} {kids : List Nat} {as : List Addr} (ht : IsTup h kd kvs.toArray) (r : ReadsAll h' kvs (kids.map pin) as) : Reads h (.ref kd) (.tuple (kids.map pin)) [] := by
  obtain ⟨o, e, hc, n, hd⟩ := ht
  exact .tuple e hc hd (ints_reads_any r)
theorem row_of_tup {h h' : Heap} {D kd : Addr} {op : Str} {t : Tok} {kids : List Nat} {kvs : List Value} {as : List Addr} (ht : IsTup h D (List.toArray [.str op t, .ref kd])) (hk : IsTup h kd kvs.toArray) (r : ReadsAll h' kvs (kids.map pin) as) : Reads h (.ref D) (rowD (op, kids)) [] := by
  obtain ⟨o, e, hc, n, hd⟩ := ht
  exact .tuple e hc hd (.cons (as := []) (bs := []) (.str _ _) (.cons (as := []) (bs := []) (kids_reads hk r) .nil))
theorem IsTup.tk {h h' : Heap} {a : Addr} {vs : Array Value} (x : IsTup h a vs) (k : TK h h') : IsTup h' a vs := by
  obtain ⟨o, e, hc, n, hd⟩ := x
  exact ⟨o, k _ _ e ⟨hc, _, n, hd⟩, hc, n, hd⟩
/-- what is said of a bank's parts, the parts themselves aside -/
structure BankN (prog : Program) (w : World) (g h : Heap) (b : BA) (rows : List Row) (nvs : List Value) (ond : Obj) (ks : List Addr) (wvs dvs : List Value) : Prop where
  inst : BankI w g b
  rn : ReadsAll h nvs (rows.map nodeD) []
  nx : NumsX prog w ond rows ks
  ka : KeysAt prog w h rows ks
  iw : IntsAre wvs (wts rows)
  id : IntsAre dvs (dps rows)
theorem BankAt.open {prog : Program} {w : World} {g h : Heap} {b : BA} {rows : List Row} (x : BankAt prog w h b rows) (BI : BankI w g b) :
    ∃ nvs nn ond ks wvs wn dvs dn, h.get? b.nl = some (listOf (List.toArray nvs) nn) ∧ h.get? b.nd = some ond ∧ h.get? b.wl = some (listOf (List.toArray wvs) wn) ∧ h.get? b.dl = some (listOf (List.toArray dvs) dn) ∧ BankN prog w g h b rows nvs ond ks wvs dvs := by
  obtain ⟨_, ⟨nvs, nn, en, rn⟩, ⟨ond, ks, ed, NX, KA⟩, ⟨wvs, wn, ew, iw⟩, ⟨dvs, dn, ee, id⟩⟩ := x
  exact ⟨nvs, nn, ond, ks, wvs, wn, dvs, dn, en, ed, ew, ee, BI, rn, NX, KA, iw, id⟩
theorem BankN.tk {prog : Program} {w : World} {g h h' : Heap} {b : BA} {rows : List Row} {nvs wvs dvs : List Value} {ond : Obj} {ks : List Addr} (x : BankN prog w g h b rows nvs ond ks wvs dvs) (k : TK h h') : BankN prog w g h' b rows nvs ond ks wvs dvs :=
  ⟨x.inst, readsAll_tk k (tup_nodes rows) x.rn, x.nx, x.ka.tk k, x.iw, x.id⟩
theorem BankN.cls {prog : Program} {w : World} {g h : Heap} {b : BA} {rows : List Row} {nvs wvs dvs : List Value} {ond : Obj} {ks : List Addr} (x : BankN prog w g h b rows nvs ond ks wvs dvs) : ond.cls = .type "dict" := by obtain ⟨_, _, _, y, _⟩ := x.nx; exact y.1
theorem BankN.ln {prog : Program} {w : World} {g h : Heap} {b : BA} {rows : List Row} {nvs wvs dvs : List Value} {ond : Obj} {ks : List Addr} (x : BankN prog w g h b rows nvs ond ks wvs dvs) : nvs.length = rows.length := by
  have := readsAll_length x.rn; simpa using this
theorem BankI.keep {w : World} {g h : Heap} {b : BA} (x : BankI w g b) (k : ∀ a o, g.get? a = some o → h.get? a = some o) : BankI w h b := by
  obtain ⟨e, t1, t2, t3, t4, n, e2⟩ := x
  exact ⟨k _ _ e, t1, t2, t3, t4, n, k _ _ e2⟩
theorem BankN.at {prog : Program} {w : World} {g h : Heap} {L : Addr} {m : Str → Option Value} {b : BA} {rows : List Row} {nvs wvs dvs : List Value} {ond : Obj} {ks : List Addr} {nn wn dn : Nat} (x : BankN prog w g h b rows nvs ond ks wvs dvs)
    {h' : Heap} (F : Fr g L h' m) (k : TK h h') (e1 : h'.get? b.nl = some (listOf (List.toArray nvs) nn)) (e2 : h'.get? b.nd = some ond) (e3 : h'.get? b.wl = some (listOf (List.toArray wvs) wn)) (e4 : h'.get? b.dl = some (listOf (List.toArray dvs) dn)) : BankAt prog w h' b rows :=
  have y := x.tk k
  ⟨x.inst.keep F.keep, ⟨_, _, e1, y.rn⟩, ⟨_, _, e2, y.nx, y.ka⟩, ⟨_, _, e3, y.iw⟩, ⟨_, _, e4, y.id⟩⟩
theorem bank_news {g h : Heap} {L : Addr} {b : BA} {o1 o2 o3 o4 : Obj} (e1 : h.get? b.nl = some o1) (e2 : h.get? b.nd = some o2) (e3 : h.get? b.wl = some o3) (e4 : h.get? b.dl = some o4) (own : ∀ a ∈ [b.nl, b.nd, b.wl, b.dl], a ≠ L ∧ g.get? a = none) {r : List (Addr × Obj)} (N : News g L h r) :
    News g L h ((b.nl, o1) :: (b.nd, o2) :: (b.wl, o3) :: (b.dl, o4) :: r) :=
  News.cons e1 (own _ (by simp)).1 (own _ (by simp)).2 (News.cons e2 (own _ (by simp)).1 (own _ (by simp)).2 (News.cons e3 (own _ (by simp)).1 (own _ (by simp)).2 (News.cons e4 (own _ (by simp)).1 (own _ (by simp)).2 N)))
section
variable {prog : Program} {w : World} {A : Around} {E : Value → Shared → Prop} {s : Shared} {Q : Value → Shared → Prop} {rl D kd : Addr} {rvs kvs : List Value} {n : Nat} {rows : List Row} {op : Str} {t : Tok} {kids : List Nat} {h' : Heap} {as : List Addr}
theorem reads_rows {h : Heap} (hl : h.get? rl = some (listOf (List.toArray rvs) n)) (rr : ReadsAll h rvs (rows.map rowD) []) : Reads h (.ref rl) (.list (rows.map rowD)) [rl] := by
  have := Reads.list (h := h) hl rfl (by rfl) rr
  simpa using this
theorem notIn_rows_no (hin : (op, kids) ∉ rows) (hl : s.heap.get? rl = some (listOf (List.toArray rvs) n)) (rr : ReadsAll s.heap rvs (rows.map rowD) []) (ht : IsTup s.heap D (List.toArray [.str op t, .ref kd])) (hk : IsTup s.heap kd kvs.toArray) (r : ReadsAll h' kvs (kids.map pin) as)
    (ops : ∀ q ∈ rows, q.1 ∈ opsAll) (hop : op ∈ opsAll) (hu : A.units + 20 < cLine) (h : Q (.bool true) s) : wpAny (model prog w) A (compareOp .NotIn (.ref D) (.ref rl)) Q E s := by
  have d := dep_row (op, kids)
  refine SeqAt.notIn_list_reads (reads_rows hl rr) (row_of_tup ht hk r) (lay_rows ops).1 (lay_row (r := (op, kids)) hop) (by omega) ?_
  rw [any_row]; simpa [hin] using h
theorem notIn_rows_yes (hin : (op, kids) ∈ rows) (hl : s.heap.get? rl = some (listOf (List.toArray rvs) n)) (rr : ReadsAll s.heap rvs (rows.map rowD) []) (ht : IsTup s.heap D (List.toArray [.str op t, .ref kd])) (hk : IsTup s.heap kd kvs.toArray) (r : ReadsAll h' kvs (kids.map pin) as)
    (ops : ∀ q ∈ rows, q.1 ∈ opsAll) (hop : op ∈ opsAll) (hu : A.units + 20 < cLine) (h : Q (.bool false) s) : wpAny (model prog w) A (compareOp .NotIn (.ref D) (.ref rl)) Q E s := by
  have d := dep_row (op, kids)
  refine SeqAt.notIn_list_reads (reads_rows hl rr) (row_of_tup ht hk r) (lay_rows ops).1 (lay_row (r := (op, kids)) hop) (by omega) ?_
  rw [any_row]; simpa [hin] using h
theorem index_rows {j : Nat} (hj : rows[j]? = some (op, kids)) (hl : s.heap.get? rl = some (listOf (List.toArray rvs) n)) (rr : ReadsAll s.heap rvs (rows.map rowD) []) (ht : IsTup s.heap D (List.toArray [.str op t, .ref kd])) (hk : IsTup s.heap kd kvs.toArray) (r : ReadsAll h' kvs (kids.map pin) as)
    (W : WF rows) (hlen : rows.length ≤ 1000) (hop : op ∈ opsAll) (hu : A.units + 20 < cLine) (h : Q (.int (j : Int) s.toks) { s with toks := s.toks + 1 }) : wpAny (model prog w) A (call (.builtin "list.index") [.ref rl, .ref D]) Q E s := by
  have d := dep_row (op, kids)
  have hvl : rvs.length = rows.length := by have := readsAll_length rr; simpa using this
  have hjl : j < rows.length := by
    rcases Nat.lt_or_ge j rows.length with q | q
    · exact q
    · rw [List.getElem?_eq_none q] at hj; cases hj
  have lay := (lay_rows W.ops).1
  have hrd := SeqAt.readsAll_map (h := s.heap) _ _ _ lay rr
  have at_ : ∀ i (hi : i < rvs.length), PyData.eqv (SeqAt.readOf s.heap rvs[i]) (rowD (op, kids)) = decide (rows[i]'(by omega) = (op, kids)) := by
    intro i hi
    have e : SeqAt.readOf s.heap rvs[i] = rowD (rows[i]'(by omega)) := by
      have := congrArg (fun l => l[i]?) hrd
      simp only [List.getElem?_map, List.getElem?_eq_getElem hi, List.getElem?_eq_getElem (show i < rows.length by omega), Option.map_some] at this
      exact Option.some.inj this
    rw [e, eqv_row]
  have hjr : rows[j] = (op, kids) := by rw [List.getElem?_eq_getElem hjl] at hj; exact Option.some.inj hj
  refine call_meets PySem.F.slot_list_index ⟨_, hl, rfl⟩ PySem.F.entry_list_index (PySem.F.args_list_index_2 _ _)
    (SeqAt.list_indexAt rl rvs.toArray n none #[] (.ref D) (fun y => PyData.eqv (SeqAt.readOf s.heap y) (rowD (op, kids))) j (by simpa [hvl] using hjl) (by omega) ?_ ?_) ⟨hl, SeqAt.items_eqAt (by simpa using rr) (row_of_tup ht hk r) lay (lay_row (r := (op, kids)) hop) (by omega), h⟩
  · show PyData.eqv (SeqAt.readOf s.heap rvs[j]) _ = true
    rw [at_ j (by omega)]; simp [hjr]
  · intro i hi hlt
    have hi' : i < rvs.length := by simpa using hi
    show PyData.eqv (SeqAt.readOf s.heap rvs[i]) _ = false
    rw [at_ i hi']
    have : rows[i]'(by omega) ≠ (op, kids) := fun q => by
      exact (List.pairwise_iff_getElem.mp (List.nodup_iff_pairwise_ne.mp W.nodup)) i j (by omega) hjl hlt (q.trans hjr.symm)
    simp [this]
end
theorem bank_tk {h h' : Heap} {b : BA} {v1 v3 v4 : Array Value} {n1 n3 n4 : Nat} {o : Obj} (M : Mods [b.nl, b.nd, b.wl, b.dl] h h') (e1 : h.get? b.nl = some (listOf v1 n1)) (e2 : h.get? b.nd = some o) (e3 : h.get? b.wl = some (listOf v3 n3)) (e4 : h.get? b.dl = some (listOf v4 n4)) (hc : o.cls = .type "dict") : TK h h' := fun a x e t => by
  refine M _ _ e fun hm => ?_
  simp only [List.mem_cons, List.not_mem_nil, or_false] at hm
  rcases hm with rfl | rfl | rfl | rfl
  · rw [e1] at e; cases e; exact absurd t.1 (by simp)
  · rw [e2] at e; cases e; rw [tupO, hc] at t; exact absurd t.1 (by simp)
  · rw [e3] at e; cases e; exact absurd t.1 (by simp)
  · rw [e4] at e; cases e; exact absurd t.1 (by simp)
/-- one entry of the ledger is another now -/
theorem news_redo {g h h' : Heap} {L a : Addr} {o o' : Obj} {news : List (Addr × Obj)} {u : Obj → List (Addr × Obj)} (N : News g L h news) (M : Mods [a] h h') (U : UpdF a o news u) (e : h'.get? a = some o') : News g L h' (u o') := by
  obtain ⟨pre, post, rfl, hg, h1, h2⟩ := U.split
  rw [hg]
  have hm := N (a, o) (List.mem_append_right _ (.head _))
  intro p hp
  rcases List.mem_append.mp hp with hp | hp
  · have q := N p (List.mem_append_left _ hp)
    exact ⟨M _ _ q.1 (by simpa using h1 p hp), q.2⟩
  · rcases List.mem_cons.mp hp with rfl | hp
    · exact ⟨e, hm.2⟩
    · have q := N p (List.mem_append_right _ (.tail _ hp))
      exact ⟨M _ _ q.1 (by simpa using h2 p hp), q.2⟩
theorem kp_mods {I : Addr} {h h' : Heap} (k : ∀ b o, h.get? b = some o → b ≠ I ∨ tupO o → h'.get? b = some o) : Mods [I] h h' ∧ TK h h' :=
  ⟨fun b o e n => k b o e (.inl (by simpa using n)), fun b o e t => k b o e (.inr t)⟩
/-- a map that may differ at two names -/
def JM2 (x y : Str) (m₀ m : Str → Option Value) : Prop := ∃ c d, m = fun z => if z = x then c else if z = y then d else m₀ z
theorem JM2.start {x y : Str} {m : Str → Option Value} : JM2 x y m m := ⟨m x, m y, by
  funext z
  by_cases h1 : z = x
  · subst h1; simp
  · by_cases h2 : z = y
    · subst h2; simp [h1]
    · simp [h1, h2]⟩
theorem JM2.both {x y : Str} {m : Str → Option Value} {v1 v2 c d : Option Value} : JM2 x y m (fun z => if z = x then v1 else if z = y then v2 else if z = x then c else if z = y then d else m z) :=
  ⟨v1, v2, by
  funext z
  by_cases h1 : z = x
  · simp [h1]
  · by_cases h2 : z = y
    · simp [h2]
    · simp [h1, h2]⟩
theorem News.first2 {g h : Heap} {L : Addr} {a b : Addr × Obj} {r : List (Addr × Obj)} (N : News g L h (a :: b :: r)) : News g L h [a, b] := News.sub N fun p hp => by
  simp only [List.mem_cons, List.not_mem_nil, or_false] at hp ⊢
  rcases hp with rfl | rfl <;> simp
theorem News.lt {g h : Heap} {L a : Addr} {o : Obj} {news : List (Addr × Obj)} (N : News g L h news) (hm : (a, o) ∈ news) : a ≠ h.objs.size := Nat.ne_of_lt (Heap.lt_size (N _ hm).1)
theorem get_lt {h : Heap} {a : Addr} {o : Obj} (e : h.get? a = some o) : a ≠ h.objs.size := Nat.ne_of_lt (Heap.lt_size e)
theorem bank_lt {g h : Heap} {L : Addr} {b : BA} {o1 o2 o3 o4 : Obj} {news : List (Addr × Obj)} (N : News g L h news) (h1 : (b.nl, o1) ∈ news) (h2 : (b.nd, o2) ∈ news) (h3 : (b.wl, o3) ∈ news) (h4 : (b.dl, o4) ∈ news) : ∀ a ∈ [b.nl, b.nd, b.wl, b.dl], a ≠ h.objs.size :=
  own4 (News.lt N h1) (News.lt N h2) (News.lt N h3) (News.lt N h4)
theorem News.push {g h : Heap} {L a : Addr} {o : Obj} {r : List (Addr × Obj)} (x : h.get? a = some o ∧ a ≠ L ∧ g.get? a = none) (N : News g L h r) : News g L h ((a, o) :: r) := News.cons x.1 x.2.1 x.2.2 N
theorem comp_keep {g h₁ h : Heap} {C L a : Addr} {o : Obj} {S : List Addr} {news : List (Addr × Obj)} (N : News g L h₁ news) (hm : (a, o) ∈ news) (hs : h₁.objs.size ≤ C) (old : ∀ b o, h₁.get? b = some o → b ∉ S → h.get? b = some o) (hn : a ∉ S) : h.get? a = some o ∧ a ≠ C ∧ g.get? a = none :=
  ⟨old _ _ (N _ hm).1 hn, Nat.ne_of_lt (Nat.lt_of_lt_of_le (Heap.lt_size (N _ hm).1) hs), (N _ hm).2.2⟩
theorem eqN {a b : Nat} (h : a = b) : a = b := h
theorem reads_at {α : Type} {f : α → PyData} {h : Heap} : ∀ {rows : List α} {vs : List Value} {as : List Addr}, ReadsAll h vs (rows.map f) as → as = [] → ∀ {i : Nat} {v : Value}, vs[i]? = some v → ∃ r, rows[i]? = some r ∧ Reads h v (f r) []
  | [], _, _, x, _, i, v, e => by cases x; simp at e
  | r :: rs, _, _, x, h0, i, v, e => by
    cases x with
    | cons r1 r2 =>
      have hn := List.append_eq_nil_iff.mp h0
      cases i with
      | zero => simp at e; subst e; exact ⟨r, rfl, hn.1 ▸ r1⟩
      | succ i => simp only [List.getElem?_cons_succ] at e ⊢; exact reads_at r2 hn.2 e
theorem row_parts {h : Heap} {v : Value} {r : Row} (x : Reads h v (rowD r) []) : ∃ a t kd kvs, v = .ref a ∧ IsTup h a (List.toArray [.str r.1 t, .ref kd]) ∧ IsTup h kd (List.toArray kvs) ∧ ReadsAll h kvs (r.2.map pin) [] := by
  unfold rowD at x
  cases x with
  | tuple h1 h2 h3 h4 =>
    rename_i o vs n
    generalize hv : vs.toList = l at h4
    generalize has : ([] : List Addr) = as0 at h4
    cases h4 with
    | cons r1 r2 =>
      cases r1
      cases r2 with
      | cons r3 r4 =>
        cases r4
        simp only [List.nil_append, List.append_nil] at has
        subst has
        cases r3 with
        | tuple k1 k2 k3 k4 =>
          rename_i o2 vs2 n2
          have hvs := congrArg List.toArray hv
          rw [Array.toArray_toList] at hvs
          rw [hvs] at h3
          exact ⟨_, _, _, vs2.toList, rfl, ⟨_, h1, h2, n, h3⟩, ⟨_, k1, k2, n2, by simpa using k3⟩, k4⟩
theorem kept_ground {g h h' : Heap} {L a : Addr} {m m' : Str → Option Value} {o : Obj} (e : g.get? a = some o) (F : Fr g L h m) (F' : Fr g L h' m') : ∀ b ∈ [a], ∀ o, h.get? b = some o → h'.get? b = some o := fun x hx q eq => by
  rw [List.mem_singleton.mp hx] at eq ⊢
  rw [F.keep _ _ e] at eq; cases eq
  exact F'.keep _ _ e
theorem scan_succ {α : Type} {f : List α → Row → α} {rows : List Row} {i : Nat} {r : Row} (e : rows[i]? = some r) : scan f (rows.take (i + 1)) = scan f (rows.take i) ++ [f (scan f (rows.take i)) r] := by
  rw [List.take_add_one, e]; exact scan_append _ _ _
theorem get_some_lt {α : Type} {l : List α} {i : Nat} {x : α} (e : l[i]? = some x) : i < l.length := by
  rcases Nat.lt_or_ge i l.length with q | q
  · exact q
  · rw [List.getElem?_eq_none q] at e; cases e
theorem News.drop1 {g h : Heap} {L : Addr} {a : Addr × Obj} {r : List (Addr × Obj)} (N : News g L h (a :: r)) : News g L h r := fun p hp => N p (.tail _ hp)
theorem News.first3 {g h : Heap} {L : Addr} {a b c : Addr × Obj} {r : List (Addr × Obj)} (N : News g L h (a :: b :: c :: r)) : News g L h [a, c, b] := News.sub N fun p hp => by
  simp only [List.mem_cons, List.not_mem_nil, or_false] at hp ⊢
  rcases hp with rfl | rfl | rfl <;> simp
theorem ints_snoc_eq {vs : List Value} {ns : List Int} {n W : Int} {t : Tok} (x : IntsAre vs ns) (e : W = n) : IntsAre (vs ++ [.int W t]) (ns ++ [n]) := e ▸ ints_snoc x
/-- the term of a number -/
def tm (rows : List Row) (n : Nat) : PyData := (tms rows).getD n .none
theorem tm_eq {rows : List Row} (W : WF rows) {n : Nat} {r : Row} (hr : rows[n]? = some r) : tm rows n = .tuple (.str r.1 :: r.2.map (tm rows)) := by
  have h := scan_get tmOf rows n r hr
  unfold tm
  rw [List.getD_eq_getElem?_getD, show (tms rows)[n]? = _ from h, Option.getD_some, tmOf]
  congr 2
  refine List.map_congr_left fun k hk => ?_
  have hkn := W.kid n r hr k hk
  show List.getD _ k _ = (tms rows).getD k .none
  rw [List.getD_eq_getElem?_getD, List.getD_eq_getElem?_getD, List.getElem?_take_of_lt hkn]
  rfl
theorem tm_none {rows : List Row} {n : Nat} (h : rows.length ≤ n) : tm rows n = .none := by
  unfold tm
  rw [List.getD_eq_getElem?_getD, List.getElem?_eq_none (by rw [tms, scan_length]; exact h)]; rfl
theorem tup_tm {rows : List Row} (W : WF rows) : ∀ n, tupOnly (tm rows n) = true := by
  intro n
  induction n using Nat.strongRecOn with
  | ind n ih =>
    cases hr : rows[n]? with
    | none => rw [tm_none (List.getElem?_eq_none_iff.mp hr)]; rfl
    | some r =>
      rw [tm_eq W hr]
      simp only [tupOnly, tupOnlyAll, Bool.true_and]
      have all : ∀ l : List Nat, (∀ k ∈ l, k < n) → tupOnlyAll (l.map (tm rows)) = true := by
        intro l
        induction l with
        | nil => intro _; rfl
        | cons x l ihl => intro hl; simp [tupOnlyAll, ih x (hl x (.head _)), ihl fun k hk => hl k (.tail _ hk)]
      exact all _ (W.kid n r hr)
theorem tup_tml {rows : List Row} (W : WF rows) (l : List Nat) : tupOnlyAll (l.map (tm rows)) = true := by
  induction l with
  | nil => rfl
  | cons x l ih => simp [tupOnlyAll, tup_tm W x, ih]
theorem ref_of_tup {h : Heap} {v : Value} {ds : List PyData} {as : List Addr} (x : Reads h v (.tuple ds) as) : ∃ a, v = .ref a := by cases x; exact ⟨_, rfl⟩
theorem ground_list {g h : Heap} {L a : Addr} {m : Str → Option Value} {vs : List Value} {n : Nat} (F : Fr g L h m) (e : g.get? a = some (listOf (List.toArray vs) n)) : h.IsList a (List.toArray vs) := ⟨_, F.keep _ _ e, rfl, _, rfl⟩
theorem readsAll_at {h : Heap} : ∀ {ds : List PyData} {vs : List Value} {as : List Addr}, ReadsAll h vs ds as → as = [] → ∀ {i : Nat} {d : PyData}, ds[i]? = some d → ∃ v, vs[i]? = some v ∧ Reads h v d []
  | [], _, _, _, _, i, d, e => by simp at e
  | d :: ds, _, _, x, h0, i, q, e => by
    cases x with
    | cons r1 r2 =>
      have hn := List.append_eq_nil_iff.mp h0
      cases i with
      | zero => simp at e; subst e; exact ⟨_, rfl, hn.1 ▸ r1⟩
      | succ i => simp only [List.getElem?_cons_succ] at e ⊢; exact readsAll_at r2 hn.2 e
theorem tuple_reads {h : Heap} {D : Addr} {op : Str} {t : Tok} {vs : List Value} {ds : List PyData} (ht : IsTup h D (.str op t :: vs).toArray) (r : ReadsAll h vs ds []) : Reads h (.ref D) (.tuple (.str op :: ds)) [] := by
  obtain ⟨o, e, hc, n, hd⟩ := ht
  exact .tuple e hc hd (.cons (as := []) (bs := []) (.str _ _) r)
theorem tuple_parts {h : Heap} {v : Value} {op : Str} {ds : List PyData} (x : Reads h v (.tuple (.str op :: ds)) []) : ∃ a t ys, v = .ref a ∧ IsTup h a (List.toArray (.str op t :: ys)) ∧ ReadsAll h ys ds [] := by
  cases x with
  | tuple h1 h2 h3 h4 =>
    rename_i o vs n
    generalize hv : vs.toList = l at h4
    generalize has : ([] : List Addr) = as0 at h4
    cases h4 with
    | cons r1 r2 =>
      cases r1
      simp only [List.nil_append] at has
      subst has
      have hvs := congrArg List.toArray hv
      rw [Array.toArray_toList] at hvs
      rw [hvs] at h3
      exact ⟨_, _, _, rfl, ⟨_, h1, h2, n, h3⟩, r2⟩
section
variable {prog : Program} {w : World} {A : Around} {E : Value → Shared → Prop} {s : Shared} {Q : Value → Shared → Prop} {D kd : Addr}
theorem ne_nil_no (hk : IsTup s.heap kd (List.toArray [])) (hD : IsTup s.heap D (List.toArray [])) (hu : A.units + 20 < cLine) (h : Q (.bool false) s) : wpAny (model prog w) A (compareOp .NotEq (.ref kd) (.ref D)) Q E s := by
  refine SeqAt.compareNe_reads (kids_reads (kids := []) (h' := s.heap) hk .nil) (kids_reads (kids := []) (h' := s.heap) hD .nil) rfl rfl ?_ (by simpa [PyData.eqv, PyData.eqvAll] using h)
  have : min (PyData.tuple (List.map pin [])).depth (PyData.tuple (List.map pin [])).depth ≤ 1 := by decide
  omega
theorem ne_nil_yes {x : Value} {vs : List Value} {ks : List Nat} {h' : Heap} {as : List Addr} (hk : IsTup s.heap kd (List.toArray (x :: vs))) (hkR : ReadsAll h' (x :: vs) (ks.map pin) as) (hD : IsTup s.heap D (List.toArray [])) (hu : A.units + 20 < cLine) (h : Q (.bool true) s) : wpAny (model prog w) A (compareOp .NotEq (.ref kd) (.ref D)) Q E s := by
  obtain ⟨k, l, rfl⟩ : ∃ k l, ks = k :: l := by
    cases ks with
    | nil => cases hkR
    | cons k l => exact ⟨k, l, rfl⟩
  refine SeqAt.compareNe_reads (kids_reads hk hkR) (kids_reads (kids := []) (h' := s.heap) hD .nil) ?_ rfl ?_ (by simpa [PyData.eqv, PyData.eqvAll] using h)
  · have := lay_ints (k :: l); simpa [PyData.canLay0] using this
  · have : min (PyData.tuple (List.map pin (k :: l))).depth (PyData.tuple (List.map pin [])).depth ≤ 1 := Nat.le_trans (Nat.min_le_right _ _) (by decide)
    omega
end
section
variable {prog : Program} {w : World} {A : Around} {E : Value → Shared → Prop} {s : Shared} {Q : Value → Shared → Prop} {D ta : Addr}
theorem ne_str_same {x : Str} {t u : Tok} (h : Q (.bool false) s) : wpAny (model prog w) A (compareOp .NotEq (.str x t) (.str x u)) Q E s := ne_str (by simpa using h)
theorem mod_known {a b r : Int} {t u : Tok} (e : Int.fmod a b = r) (hb : (b == 0) = false) (h : Q (.int r s.toks) { s with toks := s.toks + 1 }) : wpAny (model prog w) A (binaryOp .Mod (.int a t) (.int b u)) Q E s := by
  subst e
  exact AutoIntOps.mod_1 (by rw [hb]; decide) h
theorem eq_leaf {op : Str} {t u : Tok} (hop : op ∈ opsAll) (ht : IsTup s.heap ta (List.toArray [.str op t])) (hD : IsTup s.heap D (List.toArray [.str op u])) (hu : A.units + 20 < cLine) (h : Q (.bool true) s) : wpAny (model prog w) A (compareOp .Eq (.ref ta) (.ref D)) Q E s := by
  have lay : (PyData.tuple [.str op]).canLay0 = true := by simp [PyData.canLay0, PyData.canLayAll0, ops_ok hop]
  refine SeqAt.compareEq_reads (tuple_reads (vs := []) ht .nil) (tuple_reads (vs := []) hD .nil) lay lay ?_ (by simpa [PyData.eqv, PyData.eqvAll] using h)
  have : min (PyData.tuple [.str op]).depth (PyData.tuple [.str op]).depth ≤ 2 := by simp [PyData.depth, PyData.depthAll]
  omega
end
theorem len_tupG {prog : Program} {w : World} {A : Around} {E : Value → Shared → Prop} {s : Shared} {Q : Value → Shared → Prop} {l : Addr} {vs : List Value} (k : Int) (hl : IsTup s.heap l (List.toArray vs)) (hk : (vs.length : Int) = k) (hz : k ≤ 16384) (h : Q (.int k (s.toks + 1)) { s with toks := s.toks + 1 + 1 }) :
    wpAny (model prog w) A (call (.builtin "len") [.ref l]) Q E s := kun_lenT hl (by simpa using hk) hz h
theorem readsAll_hd {h : Heap} {v : Value} {vs : List Value} {d : PyData} {ds : List PyData} (x : ReadsAll h (v :: vs) (d :: ds) []) : Reads h v d [] ∧ ReadsAll h vs ds [] := by
  generalize has : ([] : List Addr) = as0 at x
  cases x with
  | cons r1 r2 =>
    obtain ⟨rfl, rfl⟩ := List.append_eq_nil_iff.mp has.symm
    exact ⟨r1, r2⟩
theorem ints_map : ∀ {ys : List Value} {K : List Nat} {f : Nat → Int}, ys.length = K.length → (∀ (j : Nat) (y : Value), ys[j]? = some y → ∃ k t, K[j]? = some k ∧ y = .int (f k) t) → IntsAre ys (K.map f)
  | [], [], _, _, _ => .nil
  | [], _ :: _, _, h, _ => by simp at h
  | _ :: _, [], _, h, _ => by simp at h
  | y :: ys, k :: K, f, h, hR => by
    obtain ⟨k', t, e, rfl⟩ := hR 0 y rfl
    obtain rfl : k = k' := by simpa using e
    exact .cons _ _ (ints_map (by simpa using h) fun j z hz => hR (j + 1) z (by simpa using hz))
theorem fold_max : ∀ (l : List Int), (∀ a ∈ l, a ≤ l.foldr max 0) ∧ 0 ≤ l.foldr max 0 ∧ (l.foldr max 0 ∈ l ∨ l.foldr max 0 = 0)
  | [] => ⟨fun _ h => (nomatch h), Int.le_refl _, .inr rfl⟩
  | x :: l => by
    obtain ⟨a, b, c⟩ := fold_max l
    simp only [List.foldr_cons]
    refine ⟨fun z hz => ?_, by omega, ?_⟩
    · rcases List.mem_cons.mp hz with rfl | hz
      · omega
      · have := a z hz; omega
    · rcases Int.le_total x (l.foldr max 0) with q | q
      · rw [Int.max_eq_right q]; exact c.imp (List.mem_cons_of_mem _) id
      · rw [Int.max_eq_left q]; exact .inl (.head _)
theorem max_is {l : List Int} {M : Int} (h1 : M ∈ l ++ [0]) (h2 : ∀ a, a ∈ l ++ [0] → a ≤ M) : M = l.foldr max 0 := by
  obtain ⟨a, b, c⟩ := fold_max l
  have h0 := h2 0 (by simp)
  have le : l.foldr max 0 ≤ M := by
    rcases c with c | c
    · exact h2 _ (List.mem_append_left _ c)
    · omega
  have ge : M ≤ l.foldr max 0 := by
    rcases List.mem_append.mp h1 with q | q
    · exact a _ q
    · rw [List.mem_singleton.mp q]; exact b
  omega
theorem allLt_mem {D : Addr} : ∀ {l : List (Addr × Obj)}, AllLt D l → ∀ p ∈ l, p.1 < D
  | [], _, _, h => nomatch h
  | q :: l, x, p, h => by
    rcases List.mem_cons.mp h with rfl | h
    · exact x.1
    · exact allLt_mem x.2 p h
/-- (v,) + us: the first tuple itself, or a new one; either way the ledger's head -/
theorem add_tup_one {prog : Program} {w : World} {A : Around} {E : Value → Shared → Prop} {s : Shared} {h₀ : Heap} {L : Addr} {m : Str → Option Value} {rest : List (Addr × Obj)} {Q : Value → Shared → Prop} {t b : Addr} {v : Value} {us : List Value}
    (F : Fr h₀ L s.heap m) (N : News h₀ L s.heap ((t, { cls := .type "tuple", data := .seq #[v] }) :: rest)) (hb : IsTup s.heap b us.toArray) (hs : us.length ≤ 990) (hl : AllLt t rest)
    (h : ∀ D h', Fr h₀ L h' m → News h₀ L h' ((D, { cls := .type "tuple", data := .seq (v :: us).toArray }) :: rest) → (∀ p ∈ rest, p.1 < D) → Q (.ref D) { s with heap := h' }) :
    wpAny (model prog w) A (binaryOp .Add (.ref t) (.ref b)) Q E s := by
  have ht : IsTup s.heap t [v].toArray := News.isTup N (.head _)
  cases us with
  | nil => exact add_tup_nil F N ht hb (by simp) (h t s.heap F N (allLt_mem hl))
  | cons u us => exact add_tup_cons F N ht hb (by simp only [List.length_cons, List.length_nil] at hs ⊢; omega) fun D h' F' N' l => h D h' F' (fun p hp => N' p (by rcases List.mem_cons.mp hp with rfl | hp; exact .head _; exact .tail _ (.tail _ hp))) fun p hp => l p (.tail _ hp)
theorem tuple_listN {prog : Program} {w : World} {A : Around} {E : Value → Shared → Prop} {s : Shared} {h₀ : Heap} {L : Addr} {m : Str → Option Value} {news : List (Addr × Obj)} {Q : Value → Shared → Prop} {l : Addr} {ys : List Value} {n : Nat}
    (F : Fr h₀ L s.heap m) (N : News h₀ L s.heap news) (hm : (l, listOf ys.toArray n) ∈ news) (hz : ys.length ≤ 16384)
    (h : ∀ D h', Fr h₀ L h' m → News h₀ L h' ((D, { cls := .type "tuple", data := .seq ys.toArray }) :: news) → (∀ p ∈ news, p.1 < D) → Q (.ref D) { s with heap := h' }) : wpAny (model prog w) A (call (.type "tuple") [.ref l]) Q E s :=
  kde_tupleOf F N (isListN N hm) (by simpa using hz) rfl h
theorem item_tupE {prog : Program} {w : World} {A : Around} {E : Value → Shared → Prop} {s : Shared} {Q : Value → Shared → Prop} {value slice : PySem.Expr} {l : Addr} {vs : List Value} {k : Int} {u : Tok} {n : Nat} {v : Value} (hl : IsTup s.heap l vs.toArray) (hx : vs[n]? = some v) (hk : k = (n : Int)) (hn : n < 2 ^ 62) (h : Q v s)
    (hs : subscripted slice false (.ref l) (.int k u) = operate [.ref l, .int k u] (getItem (.ref l) (.int k u)) := by with_unfolding_all rfl) :
    wpAny (model prog w) A (subscriptTail value slice (.ref l) (.int k u)) Q E s := by
  subst hk
  have hlt : n < vs.length := by
    rcases Nat.lt_or_ge n vs.length with q | q
    · exact q
    · rw [List.getElem?_eq_none q] at hx; cases hx
  have h0 : ¬ ((n : Int) < 0) := by omega
  have hj : seqIndex? (n : Int) vs.length = some n := by simp [seqIndex?, h0, hlt]
  exact item_tupleT hl (by omega) (by omega) hj hx h hs
theorem ne_int_eq {prog : Program} {w : World} {A : Around} {E : Value → Shared → Prop} {s : Shared} {x y : Int} {t u : Tok} {Q : Value → Shared → Prop} (e : x = y) (h : Q (.bool false) s) : wpAny (model prog w) A (compareOp .NotEq (.int x t) (.int y u)) Q E s :=
  PyProof.Rows.ne_int (by subst e; simpa using h)
theorem ne_gt {D a : Addr} {o : Obj} {l : List (Addr × Obj)} (h : AllLt D l) (m : (a, o) ∈ l) : D ≠ a := Nat.ne_of_gt (allLt_mem h _ m)
theorem ne_lt {D a : Addr} {o : Obj} {l : List (Addr × Obj)} (h : AllLt D l) (m : (a, o) ∈ l) : a ≠ D := Nat.ne_of_lt (allLt_mem h _ m)
theorem ne_suc {a n : Nat} (h : a < n) : n + 1 ≠ a := Nat.ne_of_gt (Nat.lt_succ_of_lt h)
theorem suc_ne {a n : Nat} (h : a < n) : a ≠ n + 1 := Nat.ne_of_lt (Nat.lt_succ_of_lt h)
theorem le_small {a n m : Nat} (h : a ≤ n) (k : n ≤ m) : a ≤ m := Nat.le_trans h k
theorem lt_small {a b n m : Nat} (h : a < b) (h2 : b ≤ n) (k : n ≤ m) : a < m := Nat.lt_of_lt_of_le h (Nat.le_trans h2 k)
theorem BankAt.openK {prog : Program} {w : World} {g h : Heap} {b : BA} {rows : List Row} {G : Prop} (x : BankAt prog w h b rows) (BI : BankI w g b)
    (k : ∀ nvs nn ond ks wvs wn dvs dn, h.get? b.nl = some (listOf (List.toArray nvs) nn) → h.get? b.nd = some ond → h.get? b.wl = some (listOf (List.toArray wvs) wn) → h.get? b.dl = some (listOf (List.toArray dvs) dn) → BankN prog w g h b rows nvs ond ks wvs dvs → G) : G := by
  obtain ⟨nvs, nn, ond, ks, wvs, wn, dvs, dn, e1, e2, e3, e4, y⟩ := x.open BI
  exact k _ _ _ _ _ _ _ _ e1 e2 e3 e4 y
theorem RowsAt.openK {h : Heap} {rl : Addr} {rows : List Row} {G : Prop} (x : RowsAt h rl rows) (k : ∀ vs n, h.get? rl = some (listOf (List.toArray vs) n) → ReadsAll h vs (rows.map rowD) [] → G) : G := by
  obtain ⟨vs, n, e, y⟩ := x
  exact k vs n e y
theorem tail_newK {g h : Heap} {L : Addr} {m : Str → Option Value} {G : Prop} (F : Fr g L h m) (k : ∀ T, News g L h T → Tail g h T → G) : G := by
  obtain ⟨T, a, b⟩ := tail_new F
  exact k T a b
end Mine
namespace Mine
open PySem.Spec in
section
variable {prog : Program} {w : World} {A : Around} {E : Value → Shared → Prop} {s : Shared} {h₀ : Heap} {L D : Addr} {m : Str → Option Value} {news news' : List (Addr × Obj)}
/-- a list that ends with v gives v back -/
theorem pop_listN {vs : List Value} {n : Nat} {v : Value} {Q : Value → Shared → Prop} (F : Fr h₀ L s.heap m) (N : News h₀ L s.heap news) (U : Upd D (listOf (vs ++ [v]).toArray n) (listOf vs.toArray (n + 1)) news news') (hk : vs.length ≤ 1000)
    (h : ∀ h', Fr h₀ L h' m → News h₀ L h' news' → Q v { s with heap := h' }) : wpAny (model prog w) A (call (.builtin "list.pop") [.ref D]) Q E s := by
  refine kl_pop F N (its := (vs ++ [v]).toArray) (p := vs) (y := v) (kpa_last v vs) U ?_ h
  rw [sizeLine_eq]; simp only [List.length_append, List.length_cons, List.length_nil]; omega
end
theorem nums_kf : ∀ {vs : List Value} {ns : List Int}, IntsAre vs ns → kf_ints vs = true ∧ lks_nums vs = ns
  | _, _, .nil => ⟨rfl, rfl⟩
  | _, _, .cons a u r => by
    have ih := nums_kf r
    exact ⟨by show kf_ints _ = true; exact ih.1, by show _ :: lks_nums _ = _; rw [ih.2]⟩
theorem vals_are : ∀ (q : List Int) (i : Nat) (t : Nat → Tok), IntsAre (lks_vals q i t) q
  | [], _, _ => .nil
  | _ :: r, i, t => .cons _ _ (vals_are r (i + 1) t)
theorem asc_of : ∀ {q : List Int}, q.Pairwise (· ≤ ·) → lks_asc q = true
  | [], _ => rfl
  | a :: r, h => by
    have h' := List.pairwise_cons.mp h
    simp only [lks_asc, Bool.and_eq_true, List.all_eq_true, decide_eq_true_eq]
    exact ⟨h'.1, asc_of h'.2⟩
section
variable {prog : Program} {w : World} {A : Around} {E : Value → Shared → Prop} {s : Shared} {h₀ : Heap} {L d : Addr} {m : Str → Option Value} {news : List (Addr × Obj)} {o : Obj} {kvs : List (Int × Value)} {Q : Value → Shared → Prop}
theorem ints_at {kvs : List (Int × Value)} : ∀ {vs : List Value}, vs.length = kvs.length → (∀ (j : Nat) (v : Value), vs[j]? = some v → ∃ k x, kvs[j]? = some (k, x) ∧ (PySem.intKind prog w).is k v = true) → IntsAre vs (kvs.map (·.1)) := by
  induction kvs with
  | nil => intro vs h _; rw [List.length_eq_zero_iff.mp h]; exact .nil
  | cons y ys ih =>
    intro vs h hv
    cases vs with
    | nil => simp at h
    | cons v vs =>
      obtain ⟨k, x, e, hk⟩ := hv 0 v rfl
      simp at e
      subst e
      cases v <;> first
        | (obtain rfl := (by simpa [intKind, Value.isInt] using hk : _ = k)
           exact .cons _ _ (ih (by simpa using h) fun j v e => by
             obtain ⟨k, x, e1, e2⟩ := hv (j + 1) v (by simpa using e)
             exact ⟨k, x, by simpa using e1, e2⟩))
        | cases hk
/-- sorted(d) for a dict with int keys -/
theorem sorted_dict (hh : A.handled = none) (F : Fr h₀ L s.heap m) (N : News h₀ L s.heap news) (hm : (d, o) ∈ news) (hd : o.IsDictOf (PySem.intKind prog w) kvs) (lo : (d == sysModules) = false) (hne : 0 < kvs.length) (h64 : kvs.length < 64)
    {q : List Int} (hq : q.Perm (kvs.map (·.1))) (ho : q.Pairwise (· ≤ ·))
    (h : ∀ D h' tk out k, Fr h₀ L h' m → News h₀ L h' ((D, listOf (List.toArray out) k) :: news) → (∀ p ∈ news, p.1 < D) → IntsAre out q → Q (.ref D) { s with heap := h', toks := tk }) :
    wpAny (model prog w) A (call (.builtin "sorted") [.ref d]) Q E s := by
  have hD := kda_dict N hm hd
  obtain ⟨ep, hat⟩ := hD.dictAt
  refine kdu_sorted (kdl_dict (knd := PySem.intKind prog w) (kvs := kvs) (ep := ep) lo) hh F N hat (by rw [sizeLine_eq]; omega) fun B h' tk vs F' N' l1 hl hv => ?_
  have hI := ints_at hl hv
  have hk := nums_kf hI
  have hB : ∀ p ∈ news, p.1 ≠ B := fun p hp => Nat.ne_of_lt (l1 p hp)
  refine lks_sort (q := q) (news' := fun t => (B, listOf (lks_vals q 0 t).toArray (0 + 2)) :: news) F' N' (fun t => Upd.head hB) hk.1 ?_ ?_ ?_ fun t h₂ F₂ N₂ => h B h₂ tk _ _ F₂ N₂ l1 (vals_are q 0 t)
  · simp only [lks_ok, Bool.and_eq_true]
    refine ⟨List.isPerm_iff.mpr ?_, asc_of ho⟩
    have e : lks_nums (vs.toArray.toList) = kvs.map (·.1) := hk.2
    rw [e]; exact hq.symm
  · cases vs with
    | nil => simp at hl; omega
    | cons _ _ => rfl
  · show vs.length < 64; omega
end
section
variable {prog : Program} {w : World} {K : Type} [DecidableEq K] {knd : HeapKind prog w K} {A : Around} {E : Value → Shared → Prop} {s : Shared} {d a b : Addr} {k : K} {v : Value} {ys : List (K × Addr × Value)}
theorem takeOut_last {Q : Option DictEntry → Shared → Prop} (hu : knd.room A) (hkey : knd.is s.heap k a) (hm : s.heap.DictOfH knd d (ys ++ [(k, b, v)])) (hsz : ys.length ≤ 1000)
    (h : ∀ h', h'.DictOfH knd d ys → Heap.SameBut d s.heap h' → Q (some (entryOfKey knd (k, b, v))) { s with heap := h', toks := s.toks + knd.draws k }) :
    wpAny (model prog w) A (Builtin.Dict.takeOut d (.ref a)) Q E s := by
  obtain ⟨o, es, ep, ho, hc, hd, he, his, hn⟩ := hm
  have hl : es.size = ys.length + 1 := by rw [size_of_entries he]; simp
  have hlast : (ys ++ [(k, b, v)])[ys.length]? = some (k, b, v) := by simp
  unfold Builtin.Dict.takeOut
  try with_reducible refine wpAny_holding ?_
  refine wpAny_bind (knd.pyHash hu hkey ?_)
  refine wpAny_bind (wpAny_dictFind_heap (s := { s with toks := s.toks + knd.draws k }) hu hkey ho hd he his hn (fun hno => absurd hlast (hno _ _)) fun j p hj => ?_)
  obtain rfl : j = ys.length := idxH_unique hn hj hlast
  refine wpAny_bind (wpAny_dictEntries (s := { s with toks := s.toks + knd.draws k }) ho hd ?_)
  rw [entry_at he, hlast]
  have hes : es.size ≤ sizeLine := by rw [sizeLine_eq]; omega
  have hn' : (ys.map (·.1)).Nodup := by
    rw [List.map_append, List.nodup_append] at hn; exact hn.1
  refine wpAny_bind (wpAny_updateDictKeys (hz := hes) (s := { s with toks := s.toks + knd.draws k }) ho hd (wpAny_pure (h _ ⟨_, _, ep + 1, Heap.get?_update_self _ ho (Obj.isFreed_of_dict (Obj.data_mapDictKeys hd _)),
      hc.mapDictKeys _, Obj.data_mapDictKeys hd _, ?_, fun x hx => knd.keeps (his x (List.mem_append_left _ hx)) ho hd (Heap.SameBut.update ..), hn'⟩ (Heap.SameBut.update ..))))
  obtain ⟨l⟩ := es
  simp only at he
  subst he
  have e : ((ys ++ [(k, b, v)]).map (entryOfKey knd)).eraseIdx ys.length = ys.map (entryOfKey knd) := by
    rw [List.map_append, List.eraseIdx_append_of_length_le (by simp)]; simp
  simpa using e
theorem meetsH_pop_last (knd : HeapKind prog w K) (d a : Addr) :
    MeetsIn prog w (Builtin.«dict.pop» ⟨[.ref d, .ref a], []⟩) (fun A R s => knd.room A.in1 ∧ ∃ k b v ys, knd.is s.heap k a ∧ s.heap.DictOfH knd d (ys ++ [(k, b, v)]) ∧ ys.length ≤ 1000 ∧
      ∀ h', h'.DictOfH knd d ys → Heap.SameBut d s.heap h' → R (.ok (.ret v)) { s with heap := h', toks := s.toks + knd.draws k }) :=
  .of_wp fun A R s ⟨hu, k, b, v, ys, hkey, hm, hsz, h⟩ => by
    unfold Builtin.«dict.pop»
    refine wpAny_bind ?_
    unfold Builtin.Dict.keyAndDefault
    refine wpAny_bind (wpAny_notOrdered_dict hm.typeIs ?_)
    show wpAny _ _ (pure (d, Value.ref a, none)) _ _ s
    refine wpAny_pure ?_
    obtain ⟨o, es, ep, ho, hc, hd, he, his, hn⟩ := id hm
    have hl : es.isEmpty = false := by
      have e := size_of_entries he
      simp only [List.length_append, List.length_cons, List.length_nil] at e
      rw [← Bool.not_eq_true, Array.isEmpty_iff_size_eq_zero]; omega
    simp only [keyPart, Option.isSome_none, Bool.false_eq_true, if_false]
    refine wpAny_bind (wpAny_dictEntries ho hd (wpAny_bind (wpAny_pure ?_)))
    simp only [hl, Bool.false_eq_true, if_false]
    refine wpAny_bind (takeOut_last hu hkey hm hsz fun h' hm' hs' => ?_)
    simp only [Option.isNone_some, Bool.false_eq_true, if_false]
    exact wpAny_bind (wpAny_letGo (wpAny_pure ⟨_, rfl, h h' hm' hs'⟩))
end
/-- the last node goes out of the numbers -/
theorem pop_nums {prog : Program} {w : World} {A : Around} {E : Value → Shared → Prop} {s : Shared} {h₀ : Heap} {L : Addr} {m : Str → Option Value} {news : List (Addr × Obj)} {rows : List Row} {r : Row} {a nd : Addr} {o : Obj} {ks : List Addr} {u : Obj → List (Addr × Obj)} {Q : Value → Shared → Prop}
    (F : Fr h₀ L s.heap m) (N : News h₀ L s.heap news) (U : UpdF nd o news u) (x : NumsX prog w o (rows ++ [r]) ks) (k : KeysAt prog w s.heap (rows ++ [r]) ks) (hn : (rows ++ [r]).Nodup) (ha : IsTupleKey (nkKind prog w) s.heap (keyOf r) a) (hu : A.units + 1 < cLine) (hlen : rows.length ≤ 1000)
    (h : ∀ v h' tk o', Fr h₀ L h' m → News h₀ L h' (u o') → NumsX prog w o' rows ks.dropLast → o'.cls = .type "dict" → Q v { s with heap := h', toks := tk }) :
    wpAny (model prog w) A (call (.builtin "dict.pop") [.ref nd, .ref a]) Q E s := by
  obtain ⟨pre, post, rfl, hg, h1, h2⟩ := U.split
  have hm := N (nd, o) (List.mem_append_right _ (.head _))
  obtain ⟨xs, hd, hk, hks, hv⟩ := x.dict hm.1 k hn
  obtain ⟨ys, y, rfl⟩ : ∃ ys y, xs = ys ++ [y] := by
    have hne : xs ≠ [] := by rintro rfl; simp at hk
    exact ⟨xs.dropLast, xs.getLast hne, (List.dropLast_concat_getLast hne).symm⟩
  obtain ⟨ky, b, v⟩ := y
  simp only [List.map_append, List.map_cons, List.map_nil] at hk hks
  have hk1 := List.append_inj' hk rfl
  obtain ⟨hky, hkr⟩ := hk1
  obtain rfl : ky = keyOf r := by simpa using hkr
  have hyl : ys.length = rows.length := by have := congrArg List.length hky; simpa using this
  refine call_meetsIn PySem.F.slot_dict_pop hd.typeIs PySem.F.entry_dict_pop (PySem.F.args_dict_pop_2 _ _) (meetsH_pop_last (tupleKind (nkKind prog w)) nd a) ⟨hu, _, b, v, ys, ha, hd, by omega, fun h' hd' hs => ?_⟩
  obtain ⟨o', ho', x'⟩ := NumsX.of_dict (rows := rows) (ks := ks.dropLast) hd' hky (by rw [← hks]; simp) (fun i q hq => hv i q (by rw [List.getElem?_append_left (get_some_lt hq)]; exact hq))
  exact h v h' _ o' (F.change hs hm.2.1 hm.2.2) (hg o' ▸ N.setIn h1 h2 hs ho') x' (by obtain ⟨_, _, _, y, _⟩ := x'; exact y.1)
theorem nums_pop_method {prog : Program} {w : World} {A : Around} {E : Value → Shared → Prop} {s : Shared} {h₀ : Heap} {L : Addr} {news : List (Addr × Obj)} {rows : List Row} {nd : Addr} {o : Obj} {ks : List Addr} {pl : Sem Bool} {Q : Value × List Value → Shared → Prop}
    (x : NumsX prog w o rows ks) (N : News h₀ L s.heap news) (hm : (nd, o) ∈ news) (h : Q (.builtin "dict.pop", [.ref nd]) s) : wpAny (model prog w) A (getMethod (.ref nd) "pop" pl) Q E s := by
  obtain ⟨_, _, _, hx, _⟩ := x
  refine getMethod_builtin (T := "dict") ⟨o, (N _ hm).1, hx.1⟩ PySem.F.plainAttrs_dict PySem.F.slot_dict_pop PySem.F.type_dict_pop (fun a e => ?_) h
  cases e
  exact ⟨o, (N _ hm).1, hx.2.1⟩
theorem KeysAt.drop {prog : Program} {w : World} {h : Heap} {rows : List Row} {r : Row} {ks : List Addr} (x : KeysAt prog w h (rows ++ [r]) ks) : KeysAt prog w h rows ks.dropLast := by
  intro i q b hq hb
  refine x i q b (by rw [List.getElem?_append_left (get_some_lt hq)]; exact hq) ?_
  rw [List.getElem?_dropLast] at hb
  split at hb
  · exact hb
  · cases hb
end Mine
namespace Mine
abbrev zs (l : List Nat) : List Int := l.map fun k : Nat => (k : Int)
/-- K: all that are noted; st: those yet to be opened; p: the one that is open now -/
structure TI (rows : List Row) (n : Nat) (K st : List Nat) (p : Option Nat) : Prop where
  nd : K.Nodup
  top : n ∈ K
  le : ∀ k ∈ K, k ≤ n
  sub : ∀ k ∈ st, k ∈ K
  done : ∀ k ∈ K, k ∈ st ∨ p = some k ∨ ∀ r, rows[k]? = some r → ∀ c ∈ r.2, c ∈ K
theorem TI.start (rows : List Row) (n : Nat) : TI rows n [n] [n] none := ⟨by simp, by simp, by simp, by simp, fun k hk => .inl hk⟩
theorem TI.bound {rows : List Row} {n : Nat} {K st : List Nat} {p : Option Nat} (x : TI rows n K st p) : K.length ≤ n + 1 := by
  have := x.nd.length_le_of_subset (l₂ := List.range (n + 1)) fun k hk => List.mem_range.mpr (Nat.lt_succ_of_le (x.le k hk))
  simpa using this
theorem TI.pop {rows : List Row} {n p : Nat} {K st : List Nat} (x : TI rows n K (st ++ [p]) none) : TI rows n K st (some p) := by
  refine ⟨x.nd, x.top, x.le, fun k hk => x.sub k (List.mem_append_left _ hk), fun k hk => ?_⟩
  rcases x.done k hk with q | q | q
  · rcases List.mem_append.mp q with q | q
    · exact .inl q
    · exact .inr (.inl (by rw [List.mem_singleton.mp q]))
  · cases q
  · exact .inr (.inr q)
theorem TI.add {rows : List Row} {n c : Nat} {K st : List Nat} {p : Option Nat} (x : TI rows n K st p) (hc : c ≤ n) (hn : c ∉ K) : TI rows n (K ++ [c]) (st ++ [c]) p := by
  refine ⟨?_, List.mem_append_left _ x.top, ?_, ?_, ?_⟩
  · rw [List.nodup_append]
    refine ⟨x.nd, by simp, ?_⟩
    intro a ha b hb e
    rw [List.mem_singleton.mp hb] at e
    exact hn (e ▸ ha)
  · intro k hk
    rcases List.mem_append.mp hk with q | q
    · exact x.le k q
    · rw [List.mem_singleton.mp q]; exact hc
  · intro k hk
    rcases List.mem_append.mp hk with q | q
    · exact List.mem_append_left _ (x.sub k q)
    · exact List.mem_append_right _ q
  · intro k hk
    rcases List.mem_append.mp hk with q | q
    · rcases x.done k q with y | y | y
      · exact .inl (List.mem_append_left _ y)
      · exact .inr (.inl y)
      · exact .inr (.inr fun r hr c hc => List.mem_append_left _ (y r hr c hc))
    · exact .inl (List.mem_append_right _ q)
theorem TI.close {rows : List Row} {n p : Nat} {r : Row} {K st : List Nat} (x : TI rows n K st (some p)) (hr : rows[p]? = some r) (h : ∀ c ∈ r.2, c ∈ K) : TI rows n K st none := by
  refine ⟨x.nd, x.top, x.le, x.sub, fun k hk => ?_⟩
  rcases x.done k hk with q | q | q
  · exact .inl q
  · obtain rfl := Option.some.inj q
    exact .inr (.inr fun r' hr' => by rw [hr] at hr'; cases hr'; exact h)
  · exact .inr (.inr q)
theorem TI.closed {rows : List Row} {n : Nat} {K : List Nat} (x : TI rows n K [] none) : ∀ k ∈ K, ∀ r, rows[k]? = some r → ∀ c ∈ r.2, c ∈ K := fun k hk => by
  rcases x.done k hk with q | q | q
  · cases q
  · cases q
  · exact q
theorem ints_unsnoc : ∀ {vs : List Value} {ns : List Int} {n : Int}, IntsAre vs (ns ++ [n]) → ∃ us t, vs = us ++ [.int n t] ∧ IntsAre us ns
  | _, [], _, h => by cases h with | cons k t r => cases r; exact ⟨[], t, rfl, .nil⟩
  | _, a :: ns, n, h => by
    cases h with
    | cons k t r =>
      obtain ⟨us, u, rfl, h'⟩ := ints_unsnoc r
      exact ⟨_ :: us, u, rfl, .cons _ _ h'⟩
theorem has_key {kvs : List (Int × Value)} {K : List Nat} (e : kvs.map (·.1) = zs K) (c : Nat) : (valueAt kvs (c : Int)).isSome = decide (c ∈ K) := by
  rw [PyProof.Rows.valueAt_isSome_eq_any]
  have h : kvs.any (fun kv => decide (kv.1 = (c : Int))) = (kvs.map (·.1)).any fun k => decide (k = (c : Int)) := by rw [List.any_map]; rfl
  rw [h, e]
  unfold zs
  rw [List.any_map]
  induction K with
  | nil => rfl
  | cons a r ih =>
    simp only [List.any_cons, Function.comp_apply] at ih ⊢
    have e2 : kvs.map (·.1) = zs (a :: r) := e
    have ih' : (r.any ((fun k => decide (k = (c : Int))) ∘ fun k : Nat => (k : Int))) = decide (c ∈ r) := by
      clear ih e e2 h
      induction r with
      | nil => rfl
      | cons b r ih => simp only [List.any_cons, Function.comp_apply, ih, List.mem_cons]; by_cases q : (b : Int) = c <;> by_cases q' : c ∈ r <;> simp [q, q'] <;> omega
    rw [ih']
    by_cases q : (a : Int) = c <;> by_cases q' : c ∈ r <;> simp [q, q', List.mem_cons] <;> omega
theorem key_none {kvs : List (Int × Value)} {K : List Nat} (e : kvs.map (·.1) = zs K) {c : Nat} (h : c ∉ K) : valueAt kvs (c : Int) = none := by
  have := has_key e c
  rw [decide_eq_false h] at this
  exact Option.not_isSome_iff_eq_none.mp (by rw [this]; exact Bool.false_ne_true)
theorem stored_key {kvs : List (Int × Value)} {K : List Nat} (e : kvs.map (·.1) = zs K) {c : Nat} (h : c ∉ K) (v : Value) : (stored kvs (c : Int) v).map (·.1) = zs (K ++ [c]) ∧ stored kvs (c : Int) v = kvs ++ [((c : Int), v)] := by
  have e2 := PyProof.Rows.stored_absent (key_none e h) v
  rw [e2]
  refine ⟨?_, rfl⟩
  simp [zs, e]
theorem value_snoc_old {kvs : List (Int × Value)} {c : Int} {k : Int} {v u : Value} (h : valueAt kvs c = some u) : valueAt (kvs ++ [(k, v)]) c = some u := by
  unfold valueAt at h ⊢
  rw [List.find?_append]
  cases e : kvs.find? fun kv => decide (kv.1 = c) with
  | none => rw [e] at h; cases h
  | some y => rw [e] at h; simpa using h
theorem value_snoc_new {kvs : List (Int × Value)} {k : Int} {v : Value} (h : valueAt kvs k = none) : valueAt (kvs ++ [(k, v)]) k = some v := by
  unfold valueAt at h ⊢
  rw [List.find?_append]
  cases e : kvs.find? fun kv => decide (kv.1 = k) with
  | some y => rw [e] at h; cases h
  | none => simp
theorem set_int {prog : Program} {w : World} {A : Around} {E : Value → Shared → Prop} {s : Shared} {h₀ : Heap} {L d : Addr} {m : Str → Option Value} {news : List (Addr × Obj)} {g : Obj → List (Addr × Obj)} {o : Obj} {kvs : List (Int × Value)} {k : Int} {t : Tok} {v : Value} {Q : Unit → Shared → Prop}
    (F : Fr h₀ L s.heap m) (N : News h₀ L s.heap news) (U : UpdF d o news g) (hd : o.IsDictOf (PySem.intKind prog w) kvs) (hz : kvs.length ≤ 1000)
    (h : ∀ h' o', Fr h₀ L h' m → News h₀ L h' (g o') → o'.IsDictOf (PySem.intKind prog w) (stored kvs k v) → Q () { s with heap := h', toks := s.toks + 1 }) : wpAny (model prog w) A (setItem (.ref d) (.int k t) v) Q E s :=
  kda_set F N U hd (intKind_is _ _ _ _) (by rw [sizeLine_eq]; omega) h
theorem ne_obj {h : Heap} {a b : Addr} {oa ob : Obj} (ha : h.get? a = some oa) (hb : h.get? b = some ob) (hc : oa ≠ ob) : a ≠ b := by
  rintro rfl; rw [ha] at hb; cases hb; exact hc rfl
theorem dict_cls {prog : Program} {w : World} {o : Obj} {kvs : List (Int × Value)} (x : o.IsDictOf (PySem.intKind prog w) kvs) : o.cls = .type "dict" := by obtain ⟨_, _, q, _⟩ := x; exact q.1
theorem all_cons {d : Addr} {p : Addr × Obj} {r : List (Addr × Obj)} (h1 : p.1 ≠ d) (h2 : ∀ q ∈ r, q.1 ≠ d) : ∀ q ∈ p :: r, q.1 ≠ d := fun q hq => by
  rcases List.mem_cons.mp hq with rfl | hq
  · exact h1
  · exact h2 q hq
theorem News.pick3 {g h : Heap} {L : Addr} {a b c d e : Addr × Obj} (N : News g L h [a, b, c, d, e]) : News g L h [b, a, e] := News.sub N fun p hp => by
  simp only [List.mem_cons, List.not_mem_nil, or_false] at hp ⊢
  rcases hp with rfl | rfl | rfl <;> simp
/-- the numbers in order -/
theorem in_order (K : List Nat) : ∃ q : List Nat, q.Perm K ∧ q.Pairwise (· ≤ ·) := by
  refine ⟨K.mergeSort (fun a b => decide (a ≤ b)), List.mergeSort_perm _ _, ?_⟩
  have := List.pairwise_mergeSort (le := fun a b : Nat => decide (a ≤ b)) (fun a b c h1 h2 => by simp at h1 h2 ⊢; omega) (fun a b => by simp; omega) K
  exact this.imp fun h => of_decide_eq_true h
theorem ahead_of {q : List Nat} (hp : q.Pairwise (· ≤ ·)) {i k c : Nat} (hk : q[i]? = some k) (hc : c ∈ q) (hlt : c < k) : c ∈ q.take i := by
  obtain ⟨j, hj⟩ := List.mem_iff_getElem?.mp hc
  have hi := get_some_lt hk
  have hjl := get_some_lt hj
  rcases Nat.lt_or_ge j i with h | h
  · exact List.mem_of_getElem? (by rw [List.getElem?_take_of_lt h]; exact hj)
  · exfalso
    rw [List.getElem?_eq_getElem hi] at hk
    rw [List.getElem?_eq_getElem hjl] at hj
    have hk' := Option.some.inj hk
    have hj' := Option.some.inj hj
    rcases Nat.lt_or_ge i j with h' | h'
    · have := List.pairwise_iff_getElem.mp hp i j hi hjl h'
      rw [hk', hj'] at this; omega
    · obtain rfl : i = j := by omega
      rw [hk'] at hj'; omega
theorem not_ahead {q : List Nat} (hn : q.Nodup) {i k : Nat} (hk : q[i]? = some k) : k ∉ q.take i := by
  intro hm
  obtain ⟨j, hj⟩ := List.mem_iff_getElem?.mp hm
  have hj2 := get_some_lt hj
  rw [List.length_take] at hj2
  rw [List.getElem?_take_of_lt (by omega)] at hj
  have := (List.getElem?_inj (by omega) hn).mp (hj.trans hk.symm)
  omega
theorem take_succ_get {α : Type} {q : List α} {i : Nat} {k : α} (hk : q[i]? = some k) : q.take (i + 1) = q.take i ++ [k] := by rw [List.take_add_one, hk]; rfl
theorem zs_perm {a b : List Nat} (h : a.Perm b) : (zs a).Perm (zs b) := h.map _
theorem zs_ord {a : List Nat} (h : a.Pairwise (· ≤ ·)) : (zs a).Pairwise (· ≤ ·) := by
  unfold zs
  rw [List.pairwise_map]
  exact h.imp fun h => by omega
theorem ints_zs {vs : List Value} {q : List Nat} (h : IntsAre vs (zs q)) {i : Nat} {v : Value} (e : vs[i]? = some v) : ∃ k t, q[i]? = some k ∧ v = .int (k : Int) t := by
  have hl := h.length
  have hi := get_some_lt e
  obtain ⟨t, e2⟩ := ints_get h i (by omega)
  rw [e2] at e
  have hiq : i < q.length := by simp [zs] at hl; omega
  refine ⟨q[i], t, List.getElem?_eq_getElem hiq, ?_⟩
  rw [← Option.some.inj e]
  congr 1
  rw [List.getD_eq_getElem?_getD]
  simp [zs, hiq]
theorem reads_map {h : Heap} {f : Nat → PyData} : ∀ {ys : List Value} {K : List Nat}, ys.length = K.length → (∀ (j : Nat) (y : Value), ys[j]? = some y → ∃ c, K[j]? = some c ∧ Reads h y (f c) []) → ReadsAll h ys (K.map f) []
  | [], [], _, _ => .nil
  | [], _ :: _, h, _ => by simp at h
  | _ :: _, [], h, _ => by simp at h
  | y :: ys, k :: K, hl, hR => by
    obtain ⟨c, e, r⟩ := hR 0 y rfl
    obtain rfl : k = c := by simpa using e
    exact .cons (as := []) (bs := []) r (reads_map (by simpa using hl) fun j z hz => hR (j + 1) z (by simpa using hz))
end Mine
namespace Mine
theorem dps_at {rows : List Row} {n : Nat} {r : Row} (hr : rows[n]? = some r) : (dps rows).getD n 0 = dpOf ((dps rows).take n) r := by
  have h := scan_get dpOf rows n r hr
  rw [List.getD_eq_getElem?_getD, show (dps rows)[n]? = _ from h]; rfl
theorem foldr_max {l : List Int} {b : Int} (hb : 0 ≤ b) (h : ∀ x ∈ l, x ≤ b) : 0 ≤ l.foldr max 0 ∧ l.foldr max 0 ≤ b := by
  induction l with
  | nil => exact ⟨Int.le_refl 0, hb⟩
  | cons x l ih =>
    have i := ih fun y hy => h y (.tail _ hy)
    have hx := h x (.head _)
    simp only [List.foldr_cons]
    omega
theorem dps_bound {rows : List Row} (W : WF rows) : ∀ n, n < rows.length → 1 ≤ (dps rows).getD n 0 ∧ (dps rows).getD n 0 ≤ (n : Int) + 1 := by
  intro n
  induction n using Nat.strongRecOn with
  | ind n ih =>
    intro hn
    obtain ⟨r, hr⟩ : ∃ r, rows[n]? = some r := ⟨_, List.getElem?_eq_getElem hn⟩
    rw [dps_at hr]
    unfold dpOf
    have := foldr_max (l := r.2.map fun k => ((dps rows).take n).getD k 0) (b := (n : Int)) (by omega) (fun x hx => by
      obtain ⟨k, hk, rfl⟩ := List.mem_map.mp hx
      have hkn := W.kid n r hr k hk
      have hi := (ih k hkn (by omega)).2
      rw [List.getD_eq_getElem?_getD, List.getElem?_take_of_lt hkn, ← List.getD_eq_getElem?_getD]
      omega)
    omega
theorem lay_tml {rows : List Row} : ∀ l : List Nat, (∀ k ∈ l, (tm rows k).canLay0 = true) → PyData.canLayAll0 (l.map (tm rows)) = true
  | [], _ => rfl
  | k :: l, h => by simp [PyData.canLayAll0, h k (.head _), lay_tml l fun x hx => h x (.tail _ hx)]
theorem dep_tml {rows : List Row} {b : Nat} : ∀ l : List Nat, (∀ k ∈ l, (tm rows k).depth ≤ b) → 1 ≤ b → PyData.depthAll (l.map (tm rows)) ≤ b
  | [], _, h1 => by simp [PyData.depthAll]
  | k :: l, h, h1 => by
    have a := h k (.head _)
    have c := dep_tml l (fun x hx => h x (.tail _ hx)) h1
    simp only [List.map_cons, PyData.depthAll]
    omega
theorem lay_tm {rows : List Row} (W : WF rows) : ∀ n, n < rows.length → (tm rows n).canLay0 = true ∧ (tm rows n).depth ≤ n + 3 := by
  intro n
  induction n using Nat.strongRecOn with
  | ind n ih =>
    intro hn
    obtain ⟨r, hr⟩ : ∃ r, rows[n]? = some r := ⟨_, List.getElem?_eq_getElem hn⟩
    have hk := W.kid n r hr
    rw [tm_eq W hr]
    have hop := ops_ok (W.ops _ (List.mem_of_getElem? hr))
    refine ⟨?_, ?_⟩
    · simp [PyData.canLay0, PyData.canLayAll0, hop, lay_tml r.2 fun k h => (ih k (hk k h) (by have := hk k h; omega)).1]
    · have := dep_tml (rows := rows) (b := n + 2) r.2 (fun k h => by have a := (ih k (hk k h) (by have := hk k h; omega)).2; have := hk k h; omega) (by omega)
      simp only [PyData.depth, PyData.depthAll]
      omega
theorem ne_terms {prog : Program} {w : World} {A : Around} {E : Value → Shared → Prop} {s : Shared} {a b : Value} {rows : List Row} {n : Nat} {Q : Value → Shared → Prop} (W : WF rows) (hn : n < rows.length) (hlen : rows.length ≤ 60)
    (ra : Reads s.heap a (tm rows n) []) (rb : Reads s.heap b (tm rows n) []) (hu : A.units + 70 < cLine) (h : Q (.bool false) s) : wpAny (model prog w) A (compareOp .NotEq a b) Q E s := by
  have l := lay_tm W n hn
  refine SeqAt.compareNe_reads ra rb l.1 l.1 (by omega) ?_
  rw [PySem.SeqAt.eqv_refl _ l.1]
  exact h
theorem noTup_cell {o : Obj} {x : Option Value} (h : o.data = .cell x) : ¬ tupO o := by
  rintro ⟨_, vs, n, hd⟩
  rw [h] at hd; cases hd
theorem three {x y z v : Value} {i : Nat} (h : [x, y, z][i]? = some v) : v = x ∨ v = y ∨ v = z := by
  match i, h with
  | 0, h => simp at h; exact .inl h.symm
  | 1, h => simp at h; exact .inr (.inl h.symm)
  | 2, h => simp at h; exact .inr (.inr h.symm)
theorem pow_room {m : Nat} (h : m ≤ 55) : 0 ≤ (2 : Int) ^ m - 1 ∧ (2 : Int) ^ m - 1 < 2 ^ 60 := by
  have h1 : (2 : Int) ^ m = ((2 ^ m : Nat) : Int) := by simp
  have h2 : 2 ^ m ≤ 2 ^ 55 := Nat.pow_le_pow_right (by decide) h
  have h3 : 0 < 2 ^ m := Nat.pow_pos (by decide)
  rw [h1]
  omega
theorem News.pick8 {g h : Heap} {L : Addr} {a b c d e f i j k l n : Addr × Obj} (N : News g L h [a, b, c, d, e, f, i, j, k, l, n]) : News g L h [a, e, f, i, j, k, l, n] := News.sub N fun p hp => by
  simp only [List.mem_cons, List.not_mem_nil, or_false] at hp ⊢
  rcases hp with rfl | rfl | rfl | rfl | rfl | rfl | rfl | rfl <;> simp
end Mine
namespace Mine

/-- the drum: a dict of the call's own, its row a list of ints -/
structure DA where
  dr : Addr
  rw : Addr
  rvs : List Value
  rns : List Int
structure DA.Ok (d : DA) : Prop where
  isI : IntsAre d.rvs d.rns
  hlen : d.rns.length ≤ 50
  lo : (d.dr == sysModules) = false
def DrumO (w : World) (d : DA) (k : Nat) (o : Obj) : Prop := ∃ t, o.IsDictOf (PySem.strKind PySem.Challenge.rw_rh0001_01.row.prog w) [(Str.ofString "row", .ref d.rw), (Str.ofString "at", .int (k : Int) t)]
theorem DrumO.cls {w : World} {d : DA} {k : Nat} {o : Obj} (x : DrumO w d k o) : o.cls = .type "dict" := by
  obtain ⟨_, _, _, q, _⟩ := x; exact q.1
def DrumAt (w : World) (h : Heap) (d : DA) (k : Nat) : Prop := ∃ o, h.get? d.dr = some o ∧ DrumO w d k o ∧ h.IsList d.rw (List.toArray d.rvs)
theorem DrumAt.openK {w : World} {h : Heap} {d : DA} {k : Nat} {G : Prop} (x : DrumAt w h d k) (f : ∀ o, h.get? d.dr = some o → DrumO w d k o → h.IsList d.rw (List.toArray d.rvs) → G) : G := by
  obtain ⟨o, a, b, c⟩ := x
  exact f o a b c
theorem DrumAt.mods {w : World} {as : List Addr} {h h' : Heap} {d : DA} {k : Nat} (x : DrumAt w h d k) (M : Mods as h h') (n1 : d.dr ∉ as) (n2 : d.rw ∉ as) : DrumAt w h' d k := by
  obtain ⟨o, e, x, ol, el, r⟩ := x
  exact ⟨o, M _ _ e n1, x, ol, M _ _ el n2, r⟩

theorem DrumAt.near {w : World} {h₀ h h' : Heap} {d : DA} {k : Nat} (x : DrumAt w h d k) (M : ∀ b o, h.get? b = some o → (h₀.get? b = none ∧ ¬ tupO o) ∨ h'.get? b = some o) (n1 : h₀.get? d.dr ≠ none) (n2 : h₀.get? d.rw ≠ none) : DrumAt w h' d k := by
  obtain ⟨o, e, x, ol, el, r⟩ := x
  exact ⟨o, (M _ _ e).elim (fun q => absurd q.1 n1) fun q => q, x, ol, (M _ _ el).elim (fun q => absurd q.1 n2) fun q => q, r⟩
theorem roll_spec (w : World) {A₀ : Around} {env : Env} {outer : List Env} {base h₀ : Heap} {L : Addr} {m mg mb : Str → Option Value} {loose : List Str} {mean : ExcName → Option Value} {s : Shared} {d : DA} {k : Nat} {many : Int} {tm : Tok}
    {Q E : Value → Shared → Prop} (B : Below A₀ base outer h₀) (F : Fr h₀ L s.heap m) (X : (Mine.hd.heap_39 w.params).In h₀) (T : Top Mine.hd.view_39 loose mean mg mb h₀) (hf : env.frame = some L) (hk : env.scope.kind = .function)
    (hd : d.Ok) (D : DrumAt w s.heap d k) (hdL : d.dr ≠ L) (hd0 : h₀.get? d.dr = none) (hk1 : k ≤ 1000) (hm : 0 < many) (hm2 : many < 2 ^ 40)
    (ret : ∀ (q : Nat) t h' tk', Fr h₀ L h' m → Mods [d.dr] s.heap h' → DrumAt w h' d (k + 1) → (q : Int) < many → Q (.int (q : Int) t) { s with heap := h', toks := tk' }) :
    wpAny (model PySem.Challenge.rw_rh0001_01.row.prog w) (AC 400 (env :: outer)) (call (.ref 182) [.ref d.dr, .int many tm]) Q E s := by
  replace ret : ∀ r t h' tk', Fr h₀ L h' m → Mods [d.dr] s.heap h' → DrumAt w h' d (k + 1) → 0 ≤ r → r < many → Q (.int r t) { s with heap := h', toks := tk' } := fun r t h' tk' a b c hr => by
    obtain ⟨q, rfl⟩ := Int.eq_ofNat_of_zero_le hr
    exact ret q t h' tk' a b c
  w_top off
  revert X; k_fill; intro X
  obtain ⟨dr, rw, rvs, rns⟩ := d
  obtain ⟨od, hgd, ⟨t, hD⟩, hrw⟩ := D
  obtain ⟨hI, hlen, lo⟩ := hd
  dsimp only at hgd hD hrw hI hlen lo hdL hd0 ret ⊢
  have N : News h₀ L s.heap [(dr, od)] := News.cons hgd hdL hd0 News.nil
  k_dflt (refine' enter (binds := [(Str.ofString "drum", .ref dr), (Str.ofString "many", .int many tm)]) B F X N T hf hk ?k6 ?k7 ?k8 ?k9 ?kB ?c2 ?c3 ?c4 ?c5 ?_; (case k6 => k_is); (case k7 => k_is); (case k8 => exact rfl); (case k9 => exact rfl); (case kB => exact rfl); (case c2 => exact rfl); (case c3 => exact rfl); (case c4 => exact rfl); (case c5 => exact rfl))
  intro LL MM g h₁ tk₁ gs dr os PQ hPQ F N B X T keep back EV AA
  have hrwg : g.IsList rw rvs.toArray := by
    obtain ⟨o, e, hc, r⟩ := hrw
    refine ⟨o, keep _ _ e ?_, hc, r⟩
    simp only [List.map_cons, List.map_nil, List.mem_singleton]
    obtain ⟨es, ep, q, _⟩ := hD
    exact ne_of_cls e hgd (by rw [hc, q.1]; decide)
  clear hgd keep back
  k_steps
  all_goals (
    (rename Fr _ _ _ _ => F'); (rename News _ _ _ _ => N'); (rename Obj.IsDictOf _ _ _ => hD')
    refine hPQ _ _ _ ?_
    refine ⟨_, _, _, F', N', fun F₂ N₂ M₂ => ?_⟩
    exact ret _ _ _ _ F₂ M₂ ⟨_, (N₂ _ (.head _)).1, ⟨_, hD'⟩, stays_list F'.keep hrwg⟩ (Int.fmod_nonneg_of_pos _ hm) (Int.fmod_lt_of_pos _ hm))
end Mine
local macro_rules | `(tactic| kn_hit) => `(tactic| first | exact Fr.tup (by k_asm) (by with_reducible assumption) | exact News.isTup (by k_asm) (by k_mem))
local macro_rules | `(tactic| kn_among) => `(tactic| exact Mine.KeysAt.tk (by with_reducible assumption) (Mine.TK.of_keep (Fr.keep (by k_asm))))
local macro_rules | `(tactic| kn_triples) => `(tactic| exact Mine.key_of_node (Mine.node_of_tup (by kn_hit) (by with_reducible assumption)))
local macro_rules | `(tactic| kn_code) => `(tactic| first | exact Mine.isListN (by k_asm) (by k_mem) | with_reducible assumption | exact Mine.ground_list (by k_asm) (by with_reducible assumption))
local macro_rules | `(tactic| k_flat) => `(tactic| exact Mine.readsAll_tk (Mine.TK.of_keep (Fr.keep (by k_asm))) (Mine.tup_rows _) (by with_reducible assumption))
local macro_rules | `(tactic| k_inst) => `(tactic| exact Mine.InstB.at (by with_reducible assumption) (by with_reducible assumption))
local macro_rules | `(tactic| walk_at "call type:tuple") => `(tactic| (k_here; (with_reducible show wpAny _ _ (call (Value.type "tuple") [Value.ref _]) _ _ _); k_dflt (refine' Mine.tuple_same ?t ?_; (case t => kn_hit); k_whole)))
local macro_rules | `(tactic| walk_at "binaryOp Add ref ref") => `(tactic| (k_here; k_dflt (first
  | (refine' Mine.add_tup_one ?F ?N ?b ?s ?l ?_; (case F => k_asm); (case N => k_asm); (case b => kn_hit); (case s => omega); (case l => with_reducible assumption); k_whole; intro D' h' F' N' l1; (try k_lt l1); (try k_sweep))
  | (refine' Mine.add_tup_nil ?F ?N ?a ?b ?s ?_; (case F => k_asm); (case N => k_asm); (case a => kn_hit); (case b => kn_hit); (case s => k_units); k_whole)
  | (refine' Mine.add_tup_cons ?F ?N ?a ?b ?s ?_; (case F => k_asm); (case N => k_asm); (case a => kn_hit); (case b => kn_hit); (case s => (simp only [List.length_cons, List.length_nil] at *; omega)); k_whole; intro D' h' F' N' l1; (try k_lt l1); (try dsimp only [List.cons_append, List.nil_append] at N'); (try k_sweep)))))
local macro_rules | `(tactic| walk_at "compareOp In ref ref") => `(tactic| (k_here; k_dflt (first
  | (refine' Mine.in_nums ?lo ?hu ?x ?ho ?k ?hn ?ha ?hr ?_; (case hr => with_reducible assumption); (case ho => exact News.get (by k_asm) (by k_mem)); (case x => with_reducible assumption); (case k => kn_among); (case hn => with_reducible assumption); (case lo => assumption); (case hu => k_units); (case ha => kn_triples); k_whole)
  | (refine' Mine.notIn_nums ?lo ?hu ?x ?ho ?k ?hn ?ha ?hr ?_; (case hr => with_reducible assumption); (case ho => exact News.get (by k_asm) (by k_mem)); (case x => with_reducible assumption); (case k => kn_among); (case hn => with_reducible assumption); (case lo => assumption); (case hu => k_units); (case ha => kn_triples); k_whole)); intro tk'; (try dsimp only)))
local macro_rules | `(tactic| walk_at "subscriptTail") => `(tactic| (k_here; (with_reducible show wpAny _ _ (subscriptTail _ _ (Value.ref _) (Value.ref _)) _ _ _); k_dflt (refine' Mine.get_nums ?hu ?x ?ho ?k ?hn ?ha ?hr ?_; (case hr => with_reducible assumption); (case ho => exact News.get (by k_asm) (by k_mem)); (case x => with_reducible assumption); (case k => kn_among); (case hn => with_reducible assumption); (case hu => k_units); (case ha => kn_triples); k_whole); intro i' t' tk' hi'; (try dsimp only)))
local macro_rules | `(tactic| walk_at "setItem ref ref") => `(tactic| (k_here; k_dflt (refine' Mine.set_numsK ?hr ?F ?N ?U ?x ?k ?hn ?ha ?hu ?hl ?hj ?_; (case hr => with_reducible assumption); (case F => k_asm); (case N => k_asm); (case U => k_updF); (case x => with_reducible assumption); (case k => kn_among); (case hn => with_reducible assumption); (case ha => kn_triples); (case hu => k_units); (case hl => omega); (case hj => omega); k_whole); intro h' tk' o' F' N' x' hc'; (try dsimp only at N'); (try k_sweep)))
local macro_rules | `(tactic| walk_at "exec For") => `(tactic| (refine Mine.halt ?_; (try dsimp only)))
local macro_rules | `(tactic| walk_at "exec For Name") => `(tactic| (refine Mine.halt ?_; (try dsimp only)))
local macro_rules | `(tactic| walk_at "subscriptTail Name Slice ref ref") => `(tactic| (k_here; k_dflt (refine' Mine.slice1_tup ?F ?N ?t ?l ?_ ?s ?g; (case F => k_asm); (case N => k_asm); (case t => kn_hit); (case l => (simp only [List.length_cons, List.length_nil] <;> omega)); (case s => with_unfolding_all rfl); (case g => intro _; with_unfolding_all rfl); k_whole); intro D' h' F' N' l1; (try k_lt l1); (try k_sweep); (try dsimp only)))
local macro_rules | `(tactic| walk_at "call builtin:len") => `(tactic| (k_here; (with_reducible show wpAny _ _ (call (Value.builtin "len") [Value.ref _]) _ _ _); k_dflt (refine' Mine.len_listN ?hl ?hn ?hz ?_; (case hl => kn_code); (case hn => first | with_reducible assumption | exact Mine.len_app1 (by with_reducible assumption)); (case hz => first | exact Mine.le_small (by with_reducible assumption) (by decide) | omega); k_whole)))
local macro_rules | `(tactic| walk_at "call builtin:list.append") => `(tactic| (k_here; (with_reducible show wpAny _ _ (call (Value.builtin _) [Value.ref _, _]) _ _ _); k_dflt (refine' Mine.append_listN ?k1 ?k2 ?k3 ?hn ?hk ?_; (case k1 => k_asm); (case k2 => k_asm); (case k3 => k_upd); (case hn => with_reducible assumption); (case hk => omega); k_whole); intro h' F' N'; (try k_sweep)))
local macro_rules | `(tactic| walk_at "compareOp NotIn ref ref") => `(tactic| (k_here; k_dflt (first
  | (refine' Mine.notIn_rows_no ?hin ?hl ?rr ?ht ?hk ?r ?ops ?hop ?hu ?_; (case hin => with_reducible assumption); (case r => with_reducible assumption); (case rr => k_flat); (case hl => exact News.get (by k_asm) (by k_mem)); (case ht => kn_hit); (case hk => kn_hit); (case ops => exact Mine.WF.ops (by with_reducible assumption)); (case hop => with_reducible assumption); (case hu => k_units); k_whole)
  | (refine' Mine.notIn_rows_yes ?hin ?hl ?rr ?ht ?hk ?r ?ops ?hop ?hu ?_; (case hin => with_reducible assumption); (case r => with_reducible assumption); (case rr => k_flat); (case hl => exact News.get (by k_asm) (by k_mem)); (case ht => kn_hit); (case hk => kn_hit); (case ops => exact Mine.WF.ops (by with_reducible assumption)); (case hop => with_reducible assumption); (case hu => k_units); k_whole))))
local macro_rules | `(tactic| walk_at "call builtin:list.index") => `(tactic| (k_here; k_dflt (refine' Mine.index_rows ?hj ?hl ?rr ?ht ?hk ?r ?W ?hlen ?hop ?hu ?_; (case hj => with_reducible assumption); (case r => with_reducible assumption); (case W => with_reducible assumption); (case rr => first | k_flat | exact Mine.readsAll_tk (Mine.Tail.tk (by with_reducible assumption) (by k_asm) (by k_asm) (fun p hp => by simp only [List.mem_cons, hp, or_true])) (Mine.tup_rows _) (by with_reducible assumption)); (case hl => exact News.get (by k_asm) (by k_mem)); (case ht => kn_hit); (case hk => kn_hit); (case hlen => omega); (case hop => with_reducible assumption); (case hu => k_units); k_whole)))
local macro_rules | `(tactic| walk_at "exec For Name Call cons nil") => `(tactic| (refine Mine.halt ?_; (try dsimp only)))
local macro_rules | `(tactic| k_all) => `(tactic| first | assumption | (refine Mine.all_cons ?a ?b; (case a => k_ne); (case b => k_all)))
local macro_rules | `(tactic| walk_at "exec") => `(tactic| ((with_reducible show wpAny _ _ (exec (Stmt.While _ _ _ _) _) _ _ _); refine Mine.halt ?_; (try dsimp only)))
local macro_rules | `(tactic| walk_at "exec While") => `(tactic| ((with_reducible show wpAny _ _ (exec (Stmt.While _ _ _ _) _) _ _ _); refine Mine.halt ?_; (try dsimp only)))
local macro_rules | `(tactic| walk_at "exec While Compare") => `(tactic| ((with_reducible show wpAny _ _ (exec (Stmt.While _ _ _ _) _) _ _ _); refine Mine.halt ?_; (try dsimp only)))
local macro_rules | `(tactic| walk_at "exec While BoolOp") => `(tactic| ((with_reducible show wpAny _ _ (exec (Stmt.While _ _ _ _) _) _ _ _); refine Mine.halt ?_; (try dsimp only)))
local macro_rules | `(tactic| walk_at "compareOp NotEq ref ref") => `(tactic| (k_here; k_dflt (first
  | (refine' Mine.ne_nil_no ?hk ?hD ?hu ?_; (case hD => kn_hit); (case hk => kn_hit); (case hu => k_units); k_whole)
  | (refine' Mine.ne_nil_yes ?hk ?r ?hD ?hu ?_; (case hD => kn_hit); (case hk => kn_hit); (case r => with_reducible assumption); (case hu => k_units); k_whole))))
local macro_rules | `(tactic| walk_at "compareOp NotEq str str") => `(tactic| (k_here; k_dflt (refine' Mine.ne_str_same ?_; k_whole)))
local macro_rules | `(tactic| walk_at "binaryOp Mod int int") => `(tactic| (k_here; k_dflt (refine' Mine.mod_known ?e ?z ?_; (case e => with_reducible assumption); (case z => rfl); k_whole)))
local macro_rules | `(tactic| walk_at "compareOp Eq ref ref") => `(tactic| (k_here; k_dflt (refine' Mine.eq_leaf ?hop ?ht ?hD ?hu ?_; (case hop => with_reducible assumption); (case ht => kn_hit); (case hD => kn_hit); (case hu => k_units); k_whole)))
local macro_rules | `(tactic| walk_at "call builtin:len") => `(tactic| (k_here; (with_reducible show wpAny _ _ (call (Value.builtin "len") [Value.ref _]) _ _ _); k_dflt (first
  | (refine' Mine.len_tupG _ ?hl ?hk ?hz ?_; (case hl => kn_hit); (case hk => with_reducible assumption); (case hz => first | exact Mine.le_small (by with_reducible assumption) (by decide) | omega); k_whole)
  | (refine' Mine.len_tupG 2 ?hl ?hk (by decide) ?_; (case hl => kn_hit); (case hk => rfl); k_whole))))
local macro_rules | `(tactic| walk_at "call builtin:list.pop") => `(tactic| (k_here; (with_reducible show wpAny _ _ (call (Value.builtin _) [Value.ref _]) _ _ _); k_dflt (refine' Mine.pop_listN ?k1 ?k2 ?k3 ?hk ?_; (case k1 => k_asm); (case k2 => k_asm); (case k3 => k_upd); (case hk => omega); k_whole); intro h' F' N'; (try k_sweep)))
local macro_rules | `(tactic| walk_at "compareOp NotIn int ref") => `(tactic| (k_here; k_dflt (first
  | (refine' kdg_notin (knd := PySem.intKind _ _) ?N ?m ?d ?lo (intKind_is _ _ _ _) true ?hb ?_; (case N => k_asm); (case m => k_mem); (case d => k_asm); (case hb => with_reducible assumption); (case lo => with_reducible assumption); k_whole)
  | (refine' kdg_notin (knd := PySem.intKind _ _) ?N ?m ?d ?lo (intKind_is _ _ _ _) false ?hb ?_; (case N => k_asm); (case m => k_mem); (case d => k_asm); (case hb => with_reducible assumption); (case lo => with_reducible assumption); k_whole)); (try dsimp only [Bool.not_true, Bool.not_false])))
local macro_rules | `(tactic| walk_at "setItem ref int") => `(tactic| (k_here; k_dflt (refine' Mine.set_int ?F ?N ?U ?d ?z ?_; (case F => k_asm); (case N => k_asm); (case U => k_updF); (case d => with_reducible assumption); (case z => omega); k_whole); intro h' o' F' N' hd'; (try dsimp only at N'); (try k_sweep)))
local macro_rules | `(tactic| walk_at "subscriptTail") => `(tactic| (k_here; (with_reducible show wpAny _ _ (subscriptTail _ _ (Value.ref _) (Value.int _ _)) _ _ _); k_dflt (refine' kda_item (knd := PySem.intKind _ _) ?N ?m ?d (intKind_is _ _ _ _) ?hl ?_; (case N => k_asm); (case m => k_mem); (case d => k_asm); (case hl => with_reducible assumption); k_whole)))
local macro_rules | `(tactic| walk_at "call builtin:sorted") => `(tactic| (refine Mine.halt ?_; (try dsimp only)))
local macro_rules | `(tactic| walk_at "call builtin:dict.pop") => `(tactic| (k_here; k_dflt (refine' Mine.pop_nums ?F ?N ?U ?x ?k ?hn ?ha ?hu ?hl ?_; (case F => k_asm); (case N => k_asm); (case U => k_updF); (case x => with_reducible assumption); (case k => kn_among); (case hn => with_reducible assumption); (case ha => exact Mine.key_of_node (Mine.reads_tk (Mine.TK.of_keep (Fr.keep (by k_asm))) (Mine.tup_node _) (by with_reducible assumption))); (case hu => k_units); (case hl => first | with_reducible assumption | omega); k_whole); intro v' h' tk' o' F' N' x' hc'; (try dsimp only at N'); (try k_sweep)))
local macro_rules | `(tactic| walk_at "getMethod ref") => `(tactic| (k_here; (with_reducible show wpAny _ _ (getMethod (Value.ref _) (Str.ofString "pop") _) _ _ _); k_dflt (refine' Mine.nums_pop_method ?x ?N ?m ?_; (case x => with_reducible assumption); (case N => k_asm); (case m => k_mem); k_whole)))
local macro_rules | `(tactic| walk_at "binaryOp Pow int int") => `(tactic| (k_here; k_dflt (refine' pow_int_small ?a ?b ?c ?_; (case a => omega); (case b => omega); (case c => decide); k_whole)))
local macro_rules | `(tactic| walk_at "compareOp NotEq int int") => `(tactic| (k_here; k_dflt (refine' Mine.ne_int_eq ?e ?_; (case e => first | rfl | omega); k_whole)))
local macro_rules | `(tactic| walk_at "call type:tuple") => `(tactic| (k_here; (with_reducible show wpAny _ _ (call (Value.type "tuple") [Value.ref _]) _ _ _); k_dflt (refine' Mine.tuple_listN ?F ?N ?m ?z ?_; (case F => k_asm); (case N => k_asm); (case m => k_mem); (case z => first | omega | (simp only [List.length_cons, List.length_nil] <;> omega)); k_whole); intro D' h' F' N' l1; (try k_lt l1); (try k_sweep)))
local macro_rules | `(tactic| walk_at "subscriptTail") => `(tactic| (k_here; (with_reducible show wpAny _ _ (subscriptTail _ _ (Value.ref _) (Value.int _ _)) _ _ _); k_dflt (first
  | (refine' Mine.item_tupE (n := 0) ?hl ?hx ?hk (by decide) ?_; (case hl => kn_hit); (case hx => rfl); (case hk => rfl); k_whole)
  | (refine' Mine.item_tupE ?hl ?hx ?hk ?hn ?_; (case hl => kn_hit); (case hx => with_reducible assumption); (case hk => first | with_reducible assumption | omega); (case hn => first | exact Mine.lt_small (by with_reducible assumption) (by with_reducible assumption) (by decide) | omega); k_whole))))
local macro_rules | `(tactic| k_lt $h:ident) => `(tactic| replace $h := allLt_of $h)
local macro_rules | `(tactic| k_ne) => `(tactic| (show (_ : Addr) ≠ _; (try dsimp only); first | with_reducible assumption | (refine Ne.symm ?_; with_reducible assumption) | exact Mine.ne_gt (by with_reducible assumption) (by k_mem) | exact Mine.ne_lt (by with_reducible assumption) (by k_mem) | exact Mine.ne_suc (by with_reducible assumption) | exact Mine.suc_ne (by with_reducible assumption)))
local macro_rules | `(tactic| walk_at "subscriptTail") => `(tactic| (k_here; (with_reducible show wpAny _ _ (subscriptTail _ _ (Value.ref _) (Value.int _ _)) _ _ _); k_dflt (refine' Mine.item_listE ?hl ?hk ?hn ?hx ?_; (case hl => kn_code); (case hx => with_reducible assumption); (case hk => rfl); (case hn => first | exact Mine.lt_small (by with_reducible assumption) (by with_reducible assumption) (by decide) | omega); k_whole)))
local macro_rules | `(tactic| walk_at "subscriptTail Name Name ref int") => `(tactic| walk_at "subscriptTail")
namespace Mine
theorem take_spec (w : World) {A₀ : Around} {env : Env} {outer : List Env} {base h₀ : Heap} {L : Addr} {m mg mb : Str → Option Value} {loose : List Str} {mean : ExcName → Option Value} {s : Shared} {b : BA} {rows : List Row} {op : Str} {kids : List Nat} {t : Tok} {kd : Addr}
    {Q E : Value → Shared → Prop} (B : Below A₀ base outer h₀) (F : Fr h₀ L s.heap m) (X : (hd.heap_39 w.params).In h₀) (T : Top hd.view_39 loose mean mg mb h₀) (hf : env.frame = some L) (hk : env.scope.kind = .function)
    (hb : b.Ok) (BK : BankAt PySem.Challenge.rw_rh0001_01.row.prog w s.heap b rows) (W : WF rows) (hlen : rows.length ≤ 100) (own : ∀ a ∈ [b.nl, b.nd, b.wl, b.dl], a ≠ L ∧ h₀.get? a = none)
    (hop : op ∈ opsAll) (hfew : kids.length ≤ 2) (hkid : ∀ k ∈ kids, k < rows.length) (hkv : Reads s.heap (.ref kd) (.tuple (kids.map pin)) [])
    (ret : ∀ (i : Nat) t h' tk', Fr h₀ L h' m → Mods [b.nl, b.nd, b.wl, b.dl] s.heap h' → BankAt PySem.Challenge.rw_rh0001_01.row.prog w h' b (addRow rows (op, kids)) → (addRow rows (op, kids))[i]? = some (op, kids) → Q (.int (i : Int) t) { s with heap := h', toks := tk' }) :
    wpAny (model PySem.Challenge.rw_rh0001_01.row.prog w) (AC 350 (env :: outer)) (call (.ref 93) [.ref b.bk, .str op t, .ref kd]) Q E s := by
  w_top off
  revert X; k_fill; intro X
  obtain ⟨BI, ⟨nvs, nn, en, rn⟩, ⟨ond, ks, ed, NX, KA⟩, ⟨wvs, wn, ew, iw⟩, ⟨dvs, dn, ee, id⟩⟩ := BK
  obtain ⟨hi1, t1, t2, t3, t4, bn, hi2⟩ := BI
  obtain ⟨kvs, hkT, hkR⟩ := tup_of_reads hkv
  have N₀ : News h₀ L s.heap [(b.nl, listOf (List.toArray nvs) nn), (b.nd, ond), (b.wl, listOf (List.toArray wvs) wn), (b.dl, listOf (List.toArray dvs) dn)] :=
    News.cons en (own _ (by simp)).1 (own _ (by simp)).2 (News.cons ed (own _ (by simp)).1 (own _ (by simp)).2 (News.cons ew (own _ (by simp)).1 (own _ (by simp)).2 (News.cons ee (own _ (by simp)).1 (own _ (by simp)).2 News.nil)))
  have hnd : ond.cls = .type "dict" := by obtain ⟨_, _, _, x, _⟩ := NX; exact x.1
  have ne1 := neN <| ne_of_cls en ed (by rw [hnd]; simp)
  have ne2 := neN <| ne_of_cls ew ed (by rw [hnd]; simp)
  have ne3 := neN <| ne_of_cls ee ed (by rw [hnd]; simp)
  obtain ⟨o1, o2, o3, o4, lo⟩ := hb
  replace o1 := neN o1
  replace o2 := neN o2
  replace o3 := neN o3
  have hwl : wvs.length = rows.length := by rw [iw.length]; exact scan_length _ _
  have hdl : dvs.length = rows.length := by rw [id.length]; exact scan_length _ _
  have hnl : nvs.length = rows.length := by
    have := readsAll_length rn; simpa using this
  k_dflt (refine' enterC (binds := [(Str.ofString "self", .ref b.bk), (Str.ofString "op", .str op t), (Str.ofString "kids", .ref kd)]) B F X N₀ T hf hk ?k6 ?k7 ?k8 ?k9 ?kB ?kC ?c2 ?c3 ?c4 ?_; (case k6 => k_is); (case k7 => k_is); (case k8 => exact rfl); (case k9 => exact rfl); (case kB => exact rfl); (case kC => exact rfl); (case c2 => exact rfl); (case c3 => exact rfl); (case c4 => exact rfl))
  have ret' : ∀ (z : Int) (i : Nat) t h' tk', z = (i : Int) → Fr h₀ L h' m → Mods [b.nl, b.nd, b.wl, b.dl] s.heap h' → BankAt PySem.Challenge.rw_rh0001_01.row.prog w h' b (addRow rows (op, kids)) → (addRow rows (op, kids))[i]? = some (op, kids) → Q (.int z t) { s with heap := h', toks := tk' } :=
    fun z i t h' tk' e => e ▸ ret i t h' tk'
  clear F B X T
  intro LL MM g h₁ tk₁ cells gs dr os PQ hPQ F N Y B X T keep back low EV AA
  have TKg : TK s.heap g := ground_tk N₀ keep (by
    intro p hp; simp only [List.mem_cons, List.not_mem_nil, or_false] at hp
    rcases hp with rfl | rfl | rfl | rfl <;> apply noTup_cls <;> simp [hnd])
  have IB : InstB g b.bk b.bd 171 _ bn := ⟨ground_of N₀ keep hi1 (by
    intro p hp; simp only [List.mem_cons, List.not_mem_nil, or_false] at hp
    rcases hp with rfl | rfl | rfl | rfl <;> refine .inr fun q => ?_ <;> have := congrArg Obj.cls q <;> simp [hnd] at this), ground_of N₀ keep hi2 (by
    intro p hp; simp only [List.mem_cons, List.not_mem_nil, or_false] at hp
    rcases hp with rfl | rfl | rfl | rfl
    · refine .inr fun q => ?_; have := congrArg Obj.cls q; simp at this
    · exact .inl o4.symm
    · refine .inr fun q => ?_; have := congrArg Obj.cls q; simp at this
    · refine .inr fun q => ?_; have := congrArg Obj.cls q; simp at this)⟩
  have KAg := KA.tk TKg
  have BIg : BankI w g b := ⟨IB.1, t1, t2, t3, t4, bn, IB.2⟩
  have hkT' : IsTup g kd kvs.toArray := by obtain ⟨o, e, hc, n, hd⟩ := hkT; exact ⟨o, TKg _ _ e ⟨hc, _, n, hd⟩, hc, n, hd⟩
  have l1 := ltN (low (b.nl, _) (.head _))
  have l2 := ltN (low (b.nd, _) (.tail _ (.head _)))
  have l3 := ltN (low (b.wl, _) (.tail _ (.tail _ (.head _))))
  have l4 := ltN (low (b.dl, _) (.tail _ (.tail _ (.tail _ (.head _)))))
  dsimp only at l1 l2 l3 l4
  have rn' := readsAll_tk TKg (tup_nodes rows) rn
  have Wn := W.nodup
  k_cells Y
  simp only [List.cons_append, List.nil_append] at N
  clear keep back low hkT KA hi1 hi2 TKg N₀ en ed ew ee hkv
  have hkn : kvs.length = kids.length := by have := readsAll_length hkR; simpa using this
  by_cases hin : (op, kids) ∈ rows
  · k_steps
    (rename Fr _ _ _ _ => F1); (rename News _ _ _ _ => N1); (rename _ = some (op, _) => hi')
    refine hPQ _ _ _ ?_
    refine back_mk F1 N1 fun F₂ N₂ M₂ => ?_
    rw [show addRow rows _ = rows from if_pos hin] at ret
    have k1 := TK.of_keep F1.keep
    exact ret _ _ _ _ F₂ M₂ ⟨⟨F1.keep _ _ BIg.1, t1, t2, t3, t4, bn, F1.keep _ _ IB.2⟩, ⟨_, _, News.get N1 (by k_mem), readsAll_tk k1 (tup_nodes rows) rn'⟩, ⟨_, _, News.get N1 (by k_mem), NX, KAg.tk k1⟩, ⟨_, _, News.get N1 (by k_mem), iw⟩, ⟨_, _, News.get N1 (by k_mem), id⟩⟩ hi'
  · k_steps
    (rename Fr _ _ _ _ => F1); (rename News _ _ _ _ => N1)
    refine use_AC (require_spec w B F1 X T rfl rfl hop fun h2 tk2 F2 M2 => ?_) rfl rfl (Nat.le_of_ble_eq_true rfl) (Nat.le_of_ble_eq_true rfl)
    have N2 := News.mods N1 M2 (fun _ _ hm => nomatch hm)
    dsimp only at F2 N2 ⊢
    clear F1 N1 M2
    k_steps
    refine for_ledger (g := g) (L := LL) rfl ?_ (fun _ => rfl)
    intro PI hPI
    k_steps
    (rename Fr _ _ _ _ => F1); (rename News _ _ _ _ => N1); (rename Addr => D1)
    refine iter_tuple rfl (News.isTup N1 (by k_mem)) fun it s₂ hIt => ?_
    refine hPI _ _ _ ?_
    refine ⟨_, _, _, _, _, JSame (Str.ofString "kid") _ _, hIt, F1, N1, fun _ _ _ _ _ j _ _ _ => j, JSame.start, ?_, ?_⟩
    · rintro i v h tk m news oI hi hP ⟨rfl, c, rfl⟩ F N hne gI hT R hRR
      obtain ⟨k, u, rfl, hki⟩ := kid_of hkR hP
      have hkl := hkid k (List.mem_of_getElem? hki)
      simp only [List.cons_append, List.nil_append] at N
      clear F1 hIt
      have kD := News.get N (a := D1) (by k_mem)
      k_steps
      refine hRR _ _ ?_
      refine' JSame.next rfl ?F ?N hne ?K
      case F => k_asm
      case N => k_asm
      case K => (rename News _ _ _ _ => N3); exact keptN kD N3 (by k_mem)
    rintro h tk m news ⟨rfl, c, rfl⟩ F N
    clear F1 hIt N1
    (try dsimp only at F N ⊢)
    k_steps
    k_dflt (refine' comp_map (g := g) (L := LL) ?a1 ?a2 ?a3 ?a4 ?a5 ?_; (case a1 => exact rfl); (case a2 => exact rfl); (case a3 => exact rfl); (case a4 => exact rfl); (case a5 => exact rfl))
    intro PI hPI
    k_steps
    (rename Fr _ _ _ _ => F1); (rename News _ _ _ _ => N1); (rename Addr => D1)
    refine iter_tuple rfl (News.isTup N1 (by k_mem)) fun it s₂ hIt => ?_
    refine hPI _ _ _ ?_
    refine ⟨_, _, _, fun i y => ∃ k t, kids[i]? = some k ∧ y = .int ((wts rows).getD k 0) t, _, _, hIt, by rw [hkn]; exact Nat.le_trans hfew (Nat.le_of_ble_eq_true rfl), F1, N1, ?_, ?_⟩
    · intro C i v h tk mC hi hP F hm N old
      obtain ⟨k, u, rfl, hki⟩ := kid_of hkR hP
      have hkl := hkid k (List.mem_of_getElem? hki)
      obtain ⟨u', hx⟩ := ints_get iw k (by rw [wts, scan_length]; exact hkl)
      clear F1 N1 hIt
      (try dsimp only at F N ⊢)
      k_steps
      exact ⟨_, _, rfl, Mods.refl _ _, _, _, hki, rfl⟩
    intro D ys h tk k F N lt old hl hR
    have hI1 := ints_map (hl.trans hkn) hR
    clear F1 hIt N1 old hl hR
    k_lt lt
    (try dsimp only at F N ⊢)
    k_steps
    k_dflt (refine' comp_map (g := g) (L := LL) ?a1 ?a2 ?a3 ?a4 ?a5 ?_; (case a1 => exact rfl); (case a2 => exact rfl); (case a3 => exact rfl); (case a4 => exact rfl); (case a5 => exact rfl))
    intro PI hPI
    k_steps
    (rename Fr _ _ _ _ => F1); (rename News _ _ _ _ => N1); (rename Addr => D1)
    refine iter_tuple rfl (News.isTup N1 (by k_mem)) fun it s₂ hIt => ?_
    refine hPI _ _ _ ?_
    refine ⟨_, _, _, fun i y => ∃ k t, kids[i]? = some k ∧ y = .int ((dps rows).getD k 0) t, _, _, hIt, by rw [hkn]; exact Nat.le_trans hfew (Nat.le_of_ble_eq_true rfl), F1, N1, ?_, ?_⟩
    · intro C i v h tk mC hi hP F hm N old
      obtain ⟨k, u, rfl, hki⟩ := kid_of hkR hP
      have hkl := hkid k (List.mem_of_getElem? hki)
      obtain ⟨u', hx⟩ := ints_get id k (by rw [dps, scan_length]; exact hkl)
      clear F1 N1 hIt
      (try dsimp only at F N ⊢)
      k_steps
      exact ⟨_, _, rfl, Mods.refl _ _, _, _, hki, rfl⟩
    intro D ys h tk k F N lt old hl hR
    have hI2 := ints_map (hl.trans hkn) hR
    clear F1 hIt N1 old hl hR hI1
    k_lt lt
    (try dsimp only at F N ⊢)
    k_steps
    (rename Fr _ _ _ _ => F1); (rename News _ _ _ _ => N1)
    have hM := max_is (l := kids.map fun k => (dps rows).getD k 0) (by assumption) (by assumption)
    refine hPQ _ _ _ ?_
    refine back_mk F1 N1 fun F₂ N₂ M₂ => ?_
    rw [show addRow rows _ = rows ++ [_] from if_neg hin] at ret'
    have k1 := TK.of_keep F1.keep
    exact ret' _ rows.length _ _ _ (by omega) F₂ M₂ (bank_add ⟨F1.keep _ _ BIg.1, t1, t2, t3, t4, bn, F1.keep _ _ IB.2⟩ (News.get N1 (by k_mem)) (readsAll_tk k1 (tup_nodes rows) rn') (node_of_tup (News.isTup N1 (by k_mem)) hkR) (News.get N1 (by k_mem)) (by with_reducible assumption) NX.len (KAg.tk k1) (News.get N1 (by k_mem)) iw rfl (News.get N1 (by k_mem)) id (by rw [hM]; rfl)) (by simp)
end Mine
namespace Mine
theorem taken_spec (w : World) {A₀ : Around} {env : Env} {outer : List Env} {base h₀ : Heap} {L : Addr} {m mg mb : Str → Option Value} {loose : List Str} {mean : ExcName → Option Value} {s : Shared} {b : BA} {rl : Addr} {rows : List Row} {op : Str} {kids : List Nat} {t : Tok} {kd : Addr}
    {Q E : Value → Shared → Prop} (B : Below A₀ base outer h₀) (F : Fr h₀ L s.heap m) (X : (hd.heap_39 w.params).In h₀) (T : Top hd.view_39 loose mean mg mb h₀) (hf : env.frame = some L) (hk : env.scope.kind = .function)
    (hb : b.Ok) (BK : BankAt PySem.Challenge.rw_rh0001_01.row.prog w s.heap b rows) (RA : RowsAt s.heap rl rows) (W : WF rows) (hlen : rows.length ≤ 90) (own : ∀ a ∈ [rl, b.nl, b.nd, b.wl, b.dl], a ≠ L ∧ h₀.get? a = none) (hr1 : rl ≠ b.nl) (hr2 : rl ≠ b.wl) (hr3 : rl ≠ b.dl)
    (hop : op ∈ opsAll) (hfew : kids.length ≤ 2) (hkid : ∀ k ∈ kids, k < rows.length) (hkv : Reads s.heap (.ref kd) (.tuple (kids.map pin)) [])
    (ret : ∀ h' tk', Fr h₀ L h' m → Mods [rl, b.nl, b.nd, b.wl, b.dl] s.heap h' → BankAt PySem.Challenge.rw_rh0001_01.row.prog w h' b (addRow rows (op, kids)) → RowsAt h' rl (addRow rows (op, kids)) → Q (.bool true) { s with heap := h', toks := tk' }) :
    wpAny (model PySem.Challenge.rw_rh0001_01.row.prog w) (AC 340 (env :: outer)) (call (.ref 189) [.ref b.bk, .ref rl, .str op t, .ref kd]) Q E s := by
  w_top off
  revert X; k_fill; intro X
  have BI := BK.inst
  refine BankAt.openK BK BI fun nvs nn ond ks wvs wn dvs dn e1 e2 e3 e4 BN => ?_
  obtain ⟨rvs, rn, er, rr⟩ := RA
  obtain ⟨kvs, hkT, hkR⟩ := tup_of_reads hkv
  have hrl : rvs.length = rows.length := by have := readsAll_length rr; simpa using this
  have hnd := BN.cls
  have N₀ := News.cons er (own rl (by simp)).1 (own rl (by simp)).2 (bank_news e1 e2 e3 e4 (fun a ha => own a (List.mem_cons_of_mem _ ha)) News.nil)
  have ne4 := neN <| ne_of_cls er e2 (by rw [hnd]; simp)
  have ne1 := neN <| ne_of_cls e1 e2 (by rw [hnd]; simp)
  have ne2 := neN <| ne_of_cls e3 e2 (by rw [hnd]; simp)
  have ne3 := neN <| ne_of_cls e4 e2 (by rw [hnd]; simp)
  obtain ⟨o1, o2, o3, o4, lo⟩ := id hb
  replace o1 := neN o1
  replace o2 := neN o2
  replace o3 := neN o3
  replace hr1 := neN hr1
  replace hr2 := neN hr2
  replace hr3 := neN hr3
  k_dflt (refine' enter (binds := [(Str.ofString "bank", .ref b.bk), (Str.ofString "rows", .ref rl), (Str.ofString "op", .str op t), (Str.ofString "kids", .ref kd)]) B F X N₀ T hf hk ?k6 ?k7 ?k8 ?k9 ?kB ?c2 ?c3 ?c4 ?c5 ?_; (case k6 => k_is); (case k7 => k_is); (case k8 => exact rfl); (case k9 => exact rfl); (case kB => exact rfl); (case c2 => exact rfl); (case c3 => exact rfl); (case c4 => exact rfl); (case c5 => exact rfl))
  clear F B X T
  intro LL MM g h₁ tk₁ gs dr os PQ hPQ F N B X T keep back EV AA
  have TKg : TK s.heap g := ground_tk N₀ keep (by
    intro p hp; simp only [List.mem_cons, List.not_mem_nil, or_false] at hp
    rcases hp with rfl | rfl | rfl | rfl | rfl <;> apply noTup_cls <;> simp [hnd])
  obtain ⟨hi1, t1, t2, t3, t4, bn, hi2⟩ := BI
  have IB : InstB g b.bk b.bd 171 _ bn := ⟨ground_of N₀ keep hi1 (by
    intro p hp; simp only [List.mem_cons, List.not_mem_nil, or_false] at hp
    rcases hp with rfl | rfl | rfl | rfl | rfl <;> refine .inr fun q => ?_ <;> have := congrArg Obj.cls q <;> simp [hnd] at this), ground_of N₀ keep hi2 (by
    intro p hp; simp only [List.mem_cons, List.not_mem_nil, or_false] at hp
    rcases hp with rfl | rfl | rfl | rfl | rfl
    · refine .inr fun q => ?_; have := congrArg Obj.cls q; simp at this
    · refine .inr fun q => ?_; have := congrArg Obj.cls q; simp at this
    · exact .inl o4.symm
    · refine .inr fun q => ?_; have := congrArg Obj.cls q; simp at this
    · refine .inr fun q => ?_; have := congrArg Obj.cls q; simp at this)⟩
  have BIg : BankI w g b := ⟨IB.1, t1, t2, t3, t4, bn, IB.2⟩
  have BNg : BankN PySem.Challenge.rw_rh0001_01.row.prog w g g b rows nvs ond ks wvs dvs := { (BN.tk TKg) with inst := BIg }
  have rrg := readsAll_tk TKg (tup_rows rows) rr
  have hkTg := IsTup.tk hkT TKg
  clear keep back rr BN hi1 hi2 N₀ e1 e2 e3 e4 er BK hkT
  have hrn : rl ∉ [b.nl, b.nd, b.wl, b.dl] := by
    simp only [List.mem_cons, List.not_mem_nil, or_false, not_or]
    exact ⟨hr1, ne4, hr2, hr3⟩
  by_cases hin : (op, kids) ∈ rows
  · k_steps
    (rename Fr _ _ _ _ => F1); (rename News _ _ _ _ => N1)
    have k1 := TK.of_keep F1.keep
    refine use_AC (take_spec w B F1 X T rfl rfl hb (BNg.at F1 k1 (News.get N1 (by k_mem)) (News.get N1 (by k_mem)) (News.get N1 (by k_mem)) (News.get N1 (by k_mem))) W (by first | exact Mine.le_small (by assumption) (by decide) | omega) (own4 (News.own N1 (by k_mem)) (News.own N1 (by k_mem)) (News.own N1 (by k_mem)) (News.own N1 (by k_mem))) hop hfew hkid (kids_reads (Fr.tup F1 hkTg) hkR) fun i t2 h2 tk2 F2 M2 BK2 hi => ?_) rfl rfl (Nat.le_of_ble_eq_true rfl) (Nat.le_of_ble_eq_true rfl)
    have W2 := W.add (r := (op, kids)) hop hfew hkid
    rw [show addRow rows (op, kids) = rows from if_pos hin] at ret hi BK2 W2
    have k2 := bank_tk M2 (News.get N1 (by k_mem)) (News.get N1 (by k_mem)) (News.get N1 (by k_mem)) (News.get N1 (by k_mem)) hnd
    refine BankAt.openK BK2 BIg fun nvs2 nn2 ond2 ks2 wvs2 wn2 dvs2 dn2 e1 e2 e3 e4 BN2 => ?_
    refine tail_newK F2 fun T2 NT TT => ?_
    have N2 := News.cons (M2 _ _ (News.get N1 (a := rl) (by k_mem)) hrn) (News.own N1 (a := rl) (by k_mem)).1 (News.own N1 (a := rl) (by k_mem)).2 (bank_news e1 e2 e3 e4 (own4 (News.own N1 (by k_mem)) (News.own N1 (by k_mem)) (News.own N1 (by k_mem)) (News.own N1 (by k_mem))) NT)
    have rr2 := readsAll_tk k2 (tup_rows _) (readsAll_tk k1 (tup_rows rows) rrg)
    dsimp only at F2 N2 ⊢
    clear F1 N1 k1 k2 M2 BK2 NT e1 e2 e3 e4
    k_steps
    (rename Fr _ _ _ _ => F3); (rename News _ _ _ _ => N3)
    refine hPQ _ _ _ ?_
    refine back_mk F3 N3 fun F₂ N₂ M₂ => ?_
    have k3 := TT.tk F3 N3 (fun p hp => by simp only [List.mem_cons, hp, or_true])
    rw [show ((i : Int) == (i : Int)) = true by simp]
    exact ret _ _ F₂ M₂ (BN2.at F3 k3 (News.get N3 (by k_mem)) (News.get N3 (by k_mem)) (News.get N3 (by k_mem)) (News.get N3 (by k_mem))) ⟨_, _, News.get N3 (by k_mem), readsAll_tk k3 (tup_rows _) rr2⟩
  · k_steps
    (rename Fr _ _ _ _ => F1); (rename News _ _ _ _ => N1)
    have k1 := TK.of_keep F1.keep
    refine use_AC (take_spec w B F1 X T rfl rfl hb (BNg.at F1 k1 (News.get N1 (by k_mem)) (News.get N1 (by k_mem)) (News.get N1 (by k_mem)) (News.get N1 (by k_mem))) W (by first | exact Mine.le_small (by assumption) (by decide) | omega) (own4 (News.own N1 (by k_mem)) (News.own N1 (by k_mem)) (News.own N1 (by k_mem)) (News.own N1 (by k_mem))) hop hfew hkid (kids_reads (Fr.tup F1 hkTg) hkR) fun i t2 h2 tk2 F2 M2 BK2 hi => ?_) rfl rfl (Nat.le_of_ble_eq_true rfl) (Nat.le_of_ble_eq_true rfl)
    have W2 := W.add (r := (op, kids)) hop hfew hkid
    rw [show addRow rows (op, kids) = (rows ++ [(op, kids)]) from if_neg hin] at ret hi BK2 W2
    have k2 := bank_tk M2 (News.get N1 (by k_mem)) (News.get N1 (by k_mem)) (News.get N1 (by k_mem)) (News.get N1 (by k_mem)) hnd
    refine BankAt.openK BK2 BIg fun nvs2 nn2 ond2 ks2 wvs2 wn2 dvs2 dn2 e1 e2 e3 e4 BN2 => ?_
    refine tail_newK F2 fun T2 NT TT => ?_
    have N2 := News.cons (M2 _ _ (News.get N1 (a := rl) (by k_mem)) hrn) (News.own N1 (a := rl) (by k_mem)).1 (News.own N1 (a := rl) (by k_mem)).2 (bank_news e1 e2 e3 e4 (own4 (News.own N1 (by k_mem)) (News.own N1 (by k_mem)) (News.own N1 (by k_mem)) (News.own N1 (by k_mem))) NT)
    have rr1 := reads_snoc (readsAll_tk k1 (tup_rows rows) rrg) (row_of_tup (News.isTup N1 (by k_mem)) (Fr.tup F1 hkTg) hkR)
    rw [show rows.map rowD ++ [rowD (op, kids)] = (rows ++ [(op, kids)]).map rowD by simp] at rr1
    have rr2 := readsAll_tk k2 (tup_rows _) rr1
    dsimp only at F2 N2 ⊢
    clear F1 N1 k1 k2 M2 BK2 NT e1 e2 e3 e4
    have hl2 : (rows ++ [(op, kids)]).length ≤ 1000 := by simp only [List.length_append, List.length_cons, List.length_nil]; omega
    k_steps
    (rename Fr _ _ _ _ => F3); (rename News _ _ _ _ => N3)
    refine hPQ _ _ _ ?_
    refine back_mk F3 N3 fun F₂ N₂ M₂ => ?_
    have k3 := TT.tk F3 N3 (fun p hp => by simp only [List.mem_cons, hp, or_true])
    rw [show ((i : Int) == (i : Int)) = true by simp]
    exact ret _ _ F₂ M₂ (BN2.at F3 k3 (News.get N3 (by k_mem)) (News.get N3 (by k_mem)) (News.get N3 (by k_mem)) (News.get N3 (by k_mem))) ⟨_, _, News.get N3 (by k_mem), readsAll_tk k3 (tup_rows _) rr2⟩
end Mine
namespace Mine
def JAre (w : World) (b : BA) (rl : Addr) (d : DA) (n0 k0 : Nat) (m₀ : Str → Option Value) (cs : List (Addr × Obj)) (i : Nat) (h : Heap) (m : Str → Option Value) (news : List (Addr × Obj)) : Prop :=
  news = cs ∧ JM2 (Str.ofString "wide") (Str.ofString "lap") m₀ m ∧ ∃ rows k, BankAt PySem.Challenge.rw_rh0001_01.row.prog w h b rows ∧ RowsAt h rl rows ∧ DrumAt w h d k ∧ WF rows ∧ n0 ≤ rows.length ∧ rows.length ≤ n0 + i ∧ k ≤ k0 + 3 * i

theorem JAre.kp {w : World} {b : BA} {rl : Addr} {d : DA} {n0 k0 : Nat} {m₀ m : Str → Option Value} {cs news : List (Addr × Obj)} {i : Nat} {I : Addr} {h h' : Heap} (j : JAre w b rl d n0 k0 m₀ cs i h m news) (k : ∀ b o, h.get? b = some o → b ≠ I ∨ tupO o → h'.get? b = some o)
    (n : ∀ a ∈ [d.dr, d.rw, rl, b.bk, b.bd, b.nl, b.nd, b.wl, b.dl], a ≠ I) : JAre w b rl d n0 k0 m₀ cs i h' m news := by
  obtain ⟨M, kt⟩ := kp_mods k
  obtain ⟨e, jm, rows, k, BK, RA, DR, r⟩ := j
  simp only [List.mem_cons, List.not_mem_nil, or_false, forall_eq_or_imp, forall_eq] at n
  obtain ⟨n1, n2, n3, n4, n5, n6, n7, n8, n9⟩ := n
  refine ⟨e, jm, rows, k, BK.mods M kt fun a ha => ?_, RA.mods M (by simpa using n3) kt, DR.mods M (by simpa using n1) (by simpa using n2), r⟩
  rw [List.mem_singleton.mp ha]
  exact ⟨n4.symm, n5.symm, n6.symm, n7.symm, n8.symm, n9.symm⟩

theorem are_spec (w : World) {A₀ : Around} {env : Env} {outer : List Env} {base h₀ : Heap} {L : Addr} {m mg mb : Str → Option Value} {loose : List Str} {mean : ExcName → Option Value} {s : Shared} {b : BA} {rl : Addr} {d : DA} {rows : List Row} {k laps : Nat} {t : Tok}
    {Q E : Value → Shared → Prop} (B : Below A₀ base outer h₀) (F : Fr h₀ L s.heap m) (X : (hd.heap_39 w.params).In h₀) (T : Top hd.view_39 loose mean mg mb h₀) (hf : env.frame = some L) (hk : env.scope.kind = .function)
    (hb : b.Ok) (hdk : d.Ok) (BK : BankAt PySem.Challenge.rw_rh0001_01.row.prog w s.heap b rows) (RA : RowsAt s.heap rl rows) (DR : DrumAt w s.heap d k) (W : WF rows) (hpos : 0 < rows.length) (hlen : rows.length + laps ≤ 90) (hlaps : laps ≤ 4) (hkk : k + 3 * laps ≤ 900)
    (own : ∀ a ∈ [rl, b.nl, b.nd, b.wl, b.dl], a ≠ L ∧ h₀.get? a = none) (hdL : d.dr ≠ L) (hd0 : h₀.get? d.dr = none) (hr1 : rl ≠ b.nl) (hr2 : rl ≠ b.wl) (hr3 : rl ≠ b.dl) (hr4 : d.dr ≠ b.nd) (hr6 : d.dr ≠ b.bd) (hr5 : d.rw ∉ [d.dr, rl, b.nl, b.nd, b.wl, b.dl])
    (ret : ∀ h' tk' rows' k', Fr h₀ L h' m → Mods [d.dr, rl, b.nl, b.nd, b.wl, b.dl] s.heap h' → BankAt PySem.Challenge.rw_rh0001_01.row.prog w h' b rows' → RowsAt h' rl rows' → DrumAt w h' d k' → WF rows' → rows.length ≤ rows'.length → rows'.length ≤ rows.length + laps → k' ≤ k + 3 * laps → Q (.bool true) { s with heap := h', toks := tk' }) :
    wpAny (model PySem.Challenge.rw_rh0001_01.row.prog w) (AC 330 (env :: outer)) (call (.ref 194) [.ref d.dr, .ref b.bk, .ref rl, .int (laps : Int) t]) Q E s := by
  w_top off
  revert X; k_fill; intro X
  have BI := BK.inst
  refine BankAt.openK BK BI fun nvs nn ond ks wvs wn dvs dn e1 e2 e3 e4 BN => ?_
  obtain ⟨rvs, rn, er, rr⟩ := RA
  obtain ⟨od, ed, DO, hrw⟩ := DR
  have hrl : rvs.length = rows.length := by have := readsAll_length rr; simpa using this
  have hnd := BN.cls
  have hod := DO.cls
  have N₀ := News.cons ed hdL hd0 (News.cons er (own rl (by simp)).1 (own rl (by simp)).2 (bank_news e1 e2 e3 e4 (fun a ha => own a (List.mem_cons_of_mem _ ha)) News.nil))
  have ne4 := neN <| ne_of_cls er e2 (by rw [hnd]; simp)
  have ne1 := neN <| ne_of_cls e1 e2 (by rw [hnd]; simp)
  have ne2 := neN <| ne_of_cls e3 e2 (by rw [hnd]; simp)
  have ne3 := neN <| ne_of_cls e4 e2 (by rw [hnd]; simp)
  have nd0 := neN <| ne_of_cls ed er (by rw [hod]; simp)
  have nd1 := neN <| ne_of_cls ed e1 (by rw [hod]; simp)
  have nd2 := neN <| ne_of_cls ed e3 (by rw [hod]; simp)
  have nd3 := neN <| ne_of_cls ed e4 (by rw [hod]; simp)
  obtain ⟨o1, o2, o3, o4, lo⟩ := id hb
  replace o1 := neN o1
  replace o2 := neN o2
  replace o3 := neN o3
  replace hr1 := neN hr1
  replace hr2 := neN hr2
  replace hr3 := neN hr3
  replace hr4 := neN hr4
  k_dflt (refine' enterC (binds := [(Str.ofString "drum", .ref d.dr), (Str.ofString "bank", .ref b.bk), (Str.ofString "rows", .ref rl), (Str.ofString "laps", .int (laps : Int) t)]) B F X N₀ T hf hk ?k6 ?k7 ?k8 ?k9 ?kB ?kC ?c2 ?c3 ?c4 ?_; (case k6 => k_is); (case k7 => k_is); (case k8 => exact rfl); (case k9 => exact rfl); (case kB => exact rfl); (case kC => exact rfl); (case c2 => exact rfl); (case c3 => exact rfl); (case c4 => exact rfl))
  clear F B X T
  intro LL MM g h₁ tk₁ cells gs dr os PQ hPQ F N Y B X T keep back low EV AA
  have TKg : TK s.heap g := ground_tk N₀ keep (by
    intro p hp; simp only [List.mem_cons, List.not_mem_nil, or_false] at hp
    rcases hp with rfl | rfl | rfl | rfl | rfl | rfl <;> apply noTup_cls <;> simp [hnd, hod])
  have hrwg : g.IsList d.rw (List.toArray d.rvs) := by
    obtain ⟨o, e, r⟩ := hrw
    exact ⟨o, keep _ _ e (by simpa using hr5), r⟩
  obtain ⟨hi1, t1, t2, t3, t4, bn, hi2⟩ := BI
  have IB : InstB g b.bk b.bd 171 _ bn := ⟨ground_of N₀ keep hi1 (by
    intro p hp; simp only [List.mem_cons, List.not_mem_nil, or_false] at hp
    rcases hp with rfl | rfl | rfl | rfl | rfl | rfl <;> refine .inr fun q => ?_ <;> have := congrArg Obj.cls q <;> simp [hnd, hod] at this), ground_of N₀ keep hi2 (by
    intro p hp; simp only [List.mem_cons, List.not_mem_nil, or_false] at hp
    rcases hp with rfl | rfl | rfl | rfl | rfl | rfl
    · exact .inl hr6
    · refine .inr fun q => ?_; have := congrArg Obj.cls q; simp at this
    · refine .inr fun q => ?_; have := congrArg Obj.cls q; simp at this
    · exact .inl o4.symm
    · refine .inr fun q => ?_; have := congrArg Obj.cls q; simp at this
    · refine .inr fun q => ?_; have := congrArg Obj.cls q; simp at this)⟩
  have BIg : BankI w g b := ⟨IB.1, t1, t2, t3, t4, bn, IB.2⟩
  have BNg : BankN PySem.Challenge.rw_rh0001_01.row.prog w g g b rows nvs ond ks wvs dvs := { (BN.tk TKg) with inst := BIg }
  have rrg := readsAll_tk TKg (tup_rows rows) rr
  have owng : ∀ a ∈ [rl, b.nl, b.nd, b.wl, b.dl], a ≠ LL ∧ g.get? a = none := own5 ((N _ (List.mem_append_right _ (.tail _ (.head _)))).2) ((N _ (List.mem_append_right _ (.tail _ (.tail _ (.head _))))).2) ((N _ (List.mem_append_right _ (.tail _ (.tail _ (.tail _ (.head _)))))).2) ((N _ (List.mem_append_right _ (.tail _ (.tail _ (.tail _ (.tail _ (.head _))))))).2) ((N _ (List.mem_append_right _ (.tail _ (.tail _ (.tail _ (.tail _ (.tail _ (.head _)))))))).2)
  have l1 := ltN (low (d.dr, _) (.head _))
  have l2 := ltN (low (rl, _) (.tail _ (.head _)))
  have l3 := ltN (low (b.nl, _) (.tail _ (.tail _ (.head _))))
  have l4 := ltN (low (b.nd, _) (.tail _ (.tail _ (.tail _ (.head _)))))
  have l5 := ltN (low (b.wl, _) (.tail _ (.tail _ (.tail _ (.tail _ (.head _))))))
  have l6 := ltN (low (b.dl, _) (.tail _ (.tail _ (.tail _ (.tail _ (.tail _ (.head _)))))))
  dsimp only at l1 l2 l3 l4 l5 l6
  have l02 := l2
  have l03 := l3
  have l04 := l4
  have l05 := l5
  have l06 := l6
  have hdr5 : d.dr ∉ [rl, b.nl, b.nd, b.wl, b.dl] := by
    simp only [List.mem_cons, List.not_mem_nil, or_false, not_or]
    exact ⟨nd0, nd1, hr4, nd2, nd3⟩
  have ownd : d.dr ≠ LL ∧ g.get? d.dr = none := (N _ (List.mem_append_right _ (.head _))).2
  clear rr hi1 hi2 e1 e2 e3 e4 er BK hrw ed
  k_cells Y
  simp only [List.cons_append, List.nil_append] at N
  k_steps
  refine for_ledger (g := g) (L := LL) rfl ?_ (fun _ => rfl)
  intro PI hPI
  k_steps
  (rename Fr _ _ _ _ => F1); (rename News _ _ _ _ => N1); (rename IsRange _ _ _ _ _ _ _ _ => hR)
  refine iter_upto rfl hR (by omega) fun it s₂ hIt => ?_
  refine hPI _ _ _ ?_
  have hI : ∀ a ∈ [d.dr, d.rw, rl, b.bk, b.bd, b.nl, b.nd, b.wl, b.dl], a ≠ _ := List.forall_mem_cons.mpr ⟨News.lt N1 (by k_mem), List.forall_mem_cons.mpr ⟨get_lt (F1.keep _ _ hrwg.choose_spec.1), List.forall_mem_cons.mpr ⟨News.lt N1 (by k_mem), List.forall_mem_cons.mpr ⟨get_lt (F1.keep _ _ BIg.1), List.forall_mem_cons.mpr ⟨get_lt (F1.keep _ _ IB.2), bank_lt N1 (by k_mem) (by k_mem) (by k_mem) (by k_mem)⟩⟩⟩⟩⟩
  have k1 := TK.of_keep F1.keep
  refine ⟨_, _, _, _, _, JAre w b rl d rows.length k _ _, hIt, F1, News.first2 N1, fun _ _ _ _ _ j _ _ kk => j.kp kk hI, ⟨rfl, JM2.start, rows, k, BNg.at F1 k1 (News.get N1 (by k_mem)) (News.get N1 (by k_mem)) (News.get N1 (by k_mem)) (News.get N1 (by k_mem)), ⟨_, _, News.get N1 (by k_mem), readsAll_tk k1 (tup_rows _) rrg⟩, ⟨od, News.get N1 (by k_mem), DO, stays_list F1.keep hrwg⟩, W, by omega, by omega, by omega⟩, ?_, ?_⟩
  · rintro i v h tk m news oI hi ⟨u, rfl⟩ ⟨rfl, ⟨c1, c2, rfl⟩, rows₁, k₁, BK1, RA1, DR1, W1, n1, n2, n3⟩ F N hne gI hT R hRR
    have hId := neN (hI d.dr (.head _))
    have hI5 : ∀ a ∈ [rl, b.nl, b.nd, b.wl, b.dl], a ≠ _ := own5 (hI rl (by simp)) (hI b.nl (by simp)) (hI b.nd (by simp)) (hI b.wl (by simp)) (hI b.dl (by simp))
    clear F1 N1 k1 hIt hR hI
    refine BankAt.openK BK1 BIg fun nvs1 nn1 ond1 ks1 wvs1 wn1 dvs1 dn1 e1 e2 e3 e4 BN1 => ?_
    refine RowsAt.openK RA1 fun rvs1 rn1 er1 rr1 => ?_
    refine DrumAt.openK DR1 fun od1 ed1 DO1 _ => ?_
    refine tail_newK F fun T1 NT1 TT1 => ?_
    have hTd := TT1.ne NT1 ed1 (noTup_cls (by rw [DO1.cls]; simp))
    have hIk := (N _ (List.mem_append_right _ (.head _))).1
    have N2 := News.cons ed1 ownd.1 ownd.2 (News.cons er1 (owng rl (by simp)).1 (owng rl (by simp)).2 (bank_news e1 e2 e3 e4 (fun a ha => owng a (List.mem_cons_of_mem _ ha)) (News.app N NT1)))
    have hrl1 : rvs1.length = rows₁.length := by have := readsAll_length rr1; simpa using this
    simp only [List.cons_append, List.nil_append] at N2
    dsimp only at F N2 ⊢
    clear N e1 e2 e3 e4 er1 ed1
    k_steps
    (rename Fr _ _ _ _ => F3); (rename News _ _ _ _ => N3)
    refine use_AC (roll_spec w B F3 X T rfl rfl hdk ⟨od1, News.get N3 (by k_mem), DO1, stays_list F3.keep hrwg⟩ ownd.1 ownd.2 (by first | exact Mine.le_small (by assumption) (by decide) | omega) (by decide) (by decide) fun q t2 h2 tk2 F4 M4 D4 hz2 => ?_) rfl rfl (Nat.le_of_ble_eq_true rfl) (Nat.le_of_ble_eq_true rfl)
    refine DrumAt.openK D4 fun od2 ed2 DO2 _ => ?_
    have N4 := news_redo N3 M4 (by k_updF) ed2
    dsimp only at F4 N4 ⊢
    clear F3 N3 M4 DO1 ed2
    have hq2 : q < 2 := by omega
    clear hz2
    k_steps
    k_dflt (refine' comp_walk ?a1 ?a2 ?a3 ?a4 ?a5 ?_; (case a1 => exact rfl); (case a2 => exact rfl); (case a3 => exact rfl); (case a4 => exact rfl); (case a5 => exact rfl))
    intro PI hPI
    k_steps
    (rename Fr _ _ _ _ => F5); (rename News _ _ _ _ => N5); (rename IsRange _ _ _ _ _ _ _ _ => hR)
    have hS : ∀ a ∈ [d.dr], g.get? a = none := fun a ha => by rw [List.mem_singleton.mp ha]; exact ownd.2
    have hsd : _ ≠ none := fun e => Option.some_ne_none _ ((News.get N5 (a := d.dr) (by k_mem)).symm.trans e)
    have hsr : _ ≠ none := fun e => Option.some_ne_none _ ((F5.keep _ _ hrwg.choose_spec.1).symm.trans e)
    have hop : Txt.item (Str.ofString "fg") (1 + (q : Int) - 1) ∈ opsAll := by
      rcases (by omega : q = 0 ∨ q = 1) with rfl | rfl <;> decide +kernel
    rw [show (1 + (q : Int)) = ((1 + q : Nat) : Int) by omega] at hR
    refine iter_upto rfl hR (by omega) fun it s₂ hIt => ?_
    refine hPI _ _ _ ?_
    refine ⟨_, _, _, [d.dr], fun i ys h => ∃ k' ks', DrumAt w h d k' ∧ k' ≤ k₁ + 1 + i ∧ ks'.length = i ∧ (∀ q ∈ ks', q < rows₁.length) ∧ ReadsAll g ys (ks'.map pin) [], hIt, by omega, (fun a ha => ⟨by rw [List.mem_singleton.mp ha]; exact ⟨_, News.get N5 (by k_mem)⟩, (fun hm => nomatch hm)⟩), ?_, ⟨k₁ + 1, [], ⟨_, News.get N5 (by k_mem), DO2, stays_list F5.keep hrwg⟩, Nat.le_refl _, rfl, (fun _ hm => nomatch hm), .nil⟩, ?_, ?_⟩
    · rintro i ys h h' ⟨k', ks', DR', r⟩ near
      exact ⟨k', ks', DR'.near near hsd hsr, r⟩
    · intro C i v ys h tk mC hC hCs hi hP hInv hns hm old
      obtain ⟨k', ks', DR', hk', hl', hq', hr'⟩ := hInv
      refine DrumAt.openK DR' fun od' ed' DO' _ => ?_
      have FC := comp_frame F5 hCs hns old hS
      have FL : Halt (Fr _ _ _ _) := comp_outer F5 old hS (fun hm => ownd.1 (List.mem_singleton.mp hm).symm)
      have hdC := neN (Nat.ne_of_lt (Nat.lt_of_lt_of_le (Heap.lt_size (News.get N5 (a := d.dr) (by k_mem))) hCs))
      have NC := News.cons ed' hdC ownd.2 (News.push (comp_keep (a := rl) N5 (by k_mem) hCs old (fun hm => nd0 (List.mem_singleton.mp hm).symm)) (News.push (comp_keep (a := LL + 1 + 1) N5 (by k_mem) hCs old (fun hm => by have := eqN (a := LL + 1 + 1) (List.mem_singleton.mp hm); omega)) (News.push (comp_keep (a := LL + 1) N5 (by k_mem) hCs old (fun hm => by have := eqN (a := LL + 1) (List.mem_singleton.mp hm); omega)) News.nil)))
      refine wpAny_pure ⟨_, _, rfl, Mods.refl _ _, ?_⟩
      rw [if_pos rfl]
      clear hIt F5 N5 hsd hsr
      dsimp only at FC NC ⊢
      k_steps
      refine use_AC (roll_spec w B (halt FL) X T rfl rfl hdk ⟨od', ed', DO', stays_list (halt FL).keep hrwg⟩ ownd.1 ownd.2 (by first | exact Mine.le_small (by assumption) (by decide) | omega) (by first | exact Mine.le_small (by assumption) (by decide) | omega) (by first | exact Mine.le_small (by assumption) (by decide) | omega) fun q t3 h3 tk3 F6 M6 D6 hr2 => ?_) rfl rfl (Nat.le_of_ble_eq_true rfl) (Nat.le_of_ble_eq_true rfl)
      refine ⟨_, _, rfl, M6, k' + 1, ks' ++ [q], D6, by omega, by simp [hl'], fun z hz => ?_, by rw [List.map_append]; exact reads_snoc hr' (.int _ _)⟩
      rcases List.mem_append.mp hz with hz | hz
      · exact hq' z hz
      · rw [List.mem_singleton.mp hz]; omega
    · intro D ys h tk kk hD hInv hDo old
      obtain ⟨k', ks', DR', hk', hl', hq', hr'⟩ := hInv
      refine DrumAt.openK DR' fun od' ed' DO' _ => ?_
      have hDn := Heap.get?_none_of_le hD
      have FL := comp_outer F5 old hS (fun hm => ownd.1 (List.mem_singleton.mp hm).symm)
      have NL := News.cons hDo (Fr.ne_new F5 hDn) (Fr.base_new F5 hDn) (news_redo N5 old (by k_updF) ed')
      dsimp only at FL NL ⊢
      clear hIt F5 N5 hsd hsr old
      have hkl : ys.length ≤ 2 := by rw [readsAll_length hr', List.length_map, hl']; omega
      k_steps
      (rename Fr _ _ _ _ => F7); (rename News _ _ _ _ => N7)
      have k3 := TT1.tk F7 N7 (fun p hp => by simp only [List.mem_cons, hp, or_true])
      refine use_AC (taken_spec w B F7 X T rfl rfl hb (BN1.at F7 k3 (News.get N7 (by k_mem)) (News.get N7 (by k_mem)) (News.get N7 (by k_mem)) (News.get N7 (by k_mem))) ⟨_, _, News.get N7 (by k_mem), readsAll_tk k3 (tup_rows _) rr1⟩ W1 (by first | exact Mine.le_small (by assumption) (by decide) | omega) owng hr1 hr2 hr3 hop (by first | exact Mine.le_small (by assumption) (by decide) | omega) hq' (kids_reads (News.isTup N7 (by k_mem)) hr') fun h8 tk8 F8 M8 BK8 RA8 => ?_) rfl rfl (Nat.le_of_ble_eq_true rfl) (Nat.le_of_ble_eq_true rfl)
      have cut5 : ∀ c, LL ≤ c → c ∉ [rl, b.nl, b.nd, b.wl, b.dl] := fun c hc hm => Nat.lt_irrefl _ (Nat.lt_of_lt_of_le (own5 (P := fun a => a < LL) l02 l03 l04 l05 l06 _ hm) hc)
      have N8 := News.push ⟨M8 _ _ (News.get N7 (a := LL + 1 + 1) (by k_mem)) (cut5 _ (Nat.le_add_right LL 2)), News.own N7 (by k_mem)⟩ (News.push ⟨M8 _ _ (News.get N7 (a := LL + 1) (by k_mem)) (cut5 _ (Nat.le_add_right LL 1)), News.own N7 (by k_mem)⟩ (News.push ⟨M8 _ _ (News.get N7 (o := oI) (by k_mem)) (fun hm => hI5 _ hm rfl), News.own N7 (by k_mem)⟩ News.nil))
      have DR8 : DrumAt w h8 d k' := ⟨od', M8 _ _ (News.get N7 (by k_mem)) hdr5, DO', stays_list F8.keep hrwg⟩
      have al := addRow_length rows₁
      dsimp only at F8 N8 ⊢
      clear F7 N7 M8 k3
      k_steps
      (rename Fr _ _ _ _ => F9); (rename News _ _ _ _ => N9)
      refine hRR _ _ ?_
      show Halt _
      refine ⟨_, _, _, _, rfl, F9, N9, hne, (fun _ hm => nomatch hm), rfl, JM2.both, _, k', BK8, RA8, DR8, W1.add hop (by dsimp only; rw [hl']; omega) hq', ?_, ?_, ?_⟩
      · exact Nat.le_trans n1 (al _).1
      · exact Nat.le_trans (al _).2 (by omega)
      · omega
  · rintro h tk m news ⟨rfl, ⟨c1, c2, rfl⟩, rows₁, k₁, BK1, RA1, DR1, W1, n1, n2, n3⟩ F N
    refine BankAt.openK BK1 BIg fun nvs1 nn1 ond1 ks1 wvs1 wn1 dvs1 dn1 e1 e2 e3 e4 BN1 => ?_
    refine RowsAt.openK RA1 fun rvs1 rn1 er1 rr1 => ?_
    refine DrumAt.openK DR1 fun od1 ed1 DO1 _ => ?_
    refine tail_newK F fun T1 NT1 TT1 => ?_
    have N2 := News.cons ed1 ownd.1 ownd.2 (News.cons er1 (owng rl (by simp)).1 (owng rl (by simp)).2 (bank_news e1 e2 e3 e4 (fun a ha => owng a (List.mem_cons_of_mem _ ha)) (News.app N NT1)))
    simp only [List.cons_append, List.nil_append] at N2
    dsimp only at F N2 ⊢
    clear N N1 F1 k1 e1 e2 e3 e4 er1 ed1
    k_steps
    (rename Fr _ _ _ _ => F3); (rename News _ _ _ _ => N3)
    refine hPQ _ _ _ ?_
    refine back_mk F3 N3 fun F₂ N₂ M₂ => ?_
    have k3 := TT1.tk F3 N3 (fun p hp => by simp only [List.mem_cons, hp, or_true])
    exact ret _ _ rows₁ k₁ F₂ M₂ (BN1.at F3 k3 (News.get N3 (by k_mem)) (News.get N3 (by k_mem)) (News.get N3 (by k_mem)) (News.get N3 (by k_mem))) ⟨_, _, News.get N3 (by k_mem), readsAll_tk k3 (tup_rows _) rr1⟩ ⟨od1, News.get N3 (by k_mem), DO1, stays_list F3.keep hrwg⟩ W1 n1 n2 n3
end Mine
namespace Mine
def JSums (ml ll : Addr) (cs : List (Addr × Obj)) (m₀ : Str → Option Value) (rows : List Row) (i : Nat) (_h : Heap) (m : Str → Option Value) (news : List (Addr × Obj)) : Prop :=
  JM2 (Str.ofString "kids") (Str.ofString "op") m₀ m ∧ ∃ mvs nm lvs nl, news = (ll, listOf (List.toArray lvs) nl) :: (ml, listOf (List.toArray mvs) nm) :: cs ∧ IntsAre mvs (wts (rows.take i)) ∧ IntsAre lvs (dps (rows.take i))
theorem sums_turn {s₁ s₄ : Shared} {g h h' : Heap} {L ml ll c1 c2 I : Addr} {o1 o2 oI : Obj} {m₀ m' : Str → Option Value} {rows : List Row} {i tk' : Nat} {news : List (Addr × Obj)} {mvs lvs : List Value} {nm nl : Nat} {src : List Addr} (hs : s₄ = { s₁ with heap := h', toks := tk' }) (F : Fr g L h' m') (N : News g L h' news)
    (h1 : (ll, listOf (List.toArray lvs) nl) ∈ news) (h2 : (ml, listOf (List.toArray mvs) nm) ∈ news) (h3 : (c1, o1) ∈ news) (h4 : (c2, o2) ∈ news) (h5 : (I, oI) ∈ news) (n1 : ll ≠ I) (n2 : ml ≠ I) (n3 : c1 ≠ I) (n4 : c2 ≠ I) (hk : ∀ b ∈ src, ∀ o, h.get? b = some o → h'.get? b = some o)
    (jm : JM2 (Str.ofString "kids") (Str.ofString "op") m₀ m') (W : IntsAre mvs (wts (rows.take (i + 1)))) (D : IntsAre lvs (dps (rows.take (i + 1)))) :
    Halt (∃ h₂ tk₂ m' news', s₄ = { s₁ with heap := h₂, toks := tk₂ } ∧ Fr g L h₂ m' ∧ News g L h₂ (news' ++ [(I, oI)]) ∧ (∀ p ∈ news', p.1 ≠ I) ∧ (∀ b ∈ src, ∀ o, h.get? b = some o → h₂.get? b = some o) ∧ JSums ml ll [(c1, o1), (c2, o2)] m₀ rows (i + 1) h₂ m' news') := by
  refine ⟨h', tk', m', (ll, listOf (List.toArray lvs) nl) :: (ml, listOf (List.toArray mvs) nm) :: [(c1, o1), (c2, o2)], hs, F, fun p hp => N p ?_, fun p hp => ?_, hk, jm, _, _, _, _, rfl, W, D⟩
  · simp only [List.cons_append, List.nil_append, List.mem_cons, List.not_mem_nil, or_false] at hp
    rcases hp with rfl | rfl | rfl | rfl | rfl <;> assumption
  · simp only [List.mem_cons, List.not_mem_nil, or_false] at hp
    rcases hp with rfl | rfl | rfl | rfl <;> assumption
theorem sums_spec (w : World) {A₀ : Around} {env : Env} {outer : List Env} {base h₀ : Heap} {L : Addr} {m mg mb : Str → Option Value} {loose : List Str} {mean : ExcName → Option Value} {s : Shared} {rl : Addr} {rows : List Row}
    {Q E : Value → Shared → Prop} (B : Below A₀ base outer h₀) (F : Fr h₀ L s.heap m) (X : (hd.heap_39 w.params).In h₀) (T : Top hd.view_39 loose mean mg mb h₀) (hf : env.frame = some L) (hk : env.scope.kind = .function)
    (RA : RowsAt s.heap rl rows) (W : WF rows) (hlen : rows.length ≤ 90)
    (ret : ∀ tp ml ll mvs nm lvs nl h' tk', Fr h₀ L h' m → Mods [] s.heap h' → News h₀ L h' [(tp, { cls := .type "tuple", data := .seq #[.ref ml, .ref ll] }), (ml, listOf (List.toArray mvs) nm), (ll, listOf (List.toArray lvs) nl)] → IntsAre mvs (wts rows) → IntsAre lvs (dps rows) → Q (.ref tp) { s with heap := h', toks := tk' }) :
    wpAny (model PySem.Challenge.rw_rh0001_01.row.prog w) (AC 400 (env :: outer)) (call (.ref 199) [.ref rl]) Q E s := by
  w_top off
  revert X; k_fill; intro X
  obtain ⟨rvs, rn, er, rr⟩ := RA
  have hrl : rvs.length = rows.length := by have := readsAll_length rr; simpa using this
  k_dflt (refine' enterC (binds := [(Str.ofString "rows", .ref rl)]) B F X (News.nil) T hf hk ?k6 ?k7 ?k8 ?k9 ?kB ?kC ?c2 ?c3 ?c4 ?_; (case k6 => k_is); (case k7 => k_is); (case k8 => exact rfl); (case k9 => exact rfl); (case kB => exact rfl); (case kC => exact rfl); (case c2 => exact rfl); (case c3 => exact rfl); (case c4 => exact rfl))
  clear F B X T
  intro LL MM g h₁ tk₁ cells gs dr os PQ hPQ F N Y B X T keep back low EV AA
  have TKg : TK s.heap g := fun a o e _ => keep a o e (fun hm => nomatch hm)
  have erg := keep _ _ er (fun hm => nomatch hm)
  have rrg := readsAll_tk TKg (tup_rows rows) rr
  clear rr er
  k_cells Y
  simp only [List.cons_append, List.nil_append] at N
  k_steps
  refine for_ledger (g := g) (L := LL) rfl ?_ (fun _ => rfl)
  intro PI hPI
  k_steps
  (rename Fr _ _ _ _ => F1); (rename News _ _ _ _ => N1)
  refine iter_list rfl ⟨_, F1.keep _ _ erg, rfl, _, rfl⟩ fun it s₂ hIt => ?_
  refine hPI _ _ _ ?_
  refine ⟨_, _, _, _, _, JSums _ _ _ _ rows, hIt, F1, News.drop1 N1, fun _ _ _ _ _ j _ _ _ => j, ⟨JM2.start, [], _, [], _, rfl, .nil, .nil⟩, ?_, ?_⟩
  · rintro i v h tk m news oI hi hP ⟨⟨c1, c2, rfl⟩, mvs, nm, lvs, nl, rfl, im, il⟩ F N hne gI hT R hRR
    obtain ⟨r, hr, hv⟩ := reads_at rrg rfl hP
    obtain ⟨a, t, kd, kvs, rfl, ha, hkd, hkR⟩ := row_parts hv
    have F0 : Halt (Fr _ _ _ _) := F
    have ne1 := neN (hne _ (.head _))
    have ne2 := neN (hne _ (.tail _ (.head _)))
    have ne3 := neN (hne _ (.tail _ (.tail _ (.head _))))
    have ne4 := neN (hne _ (.tail _ (.tail _ (.tail _ (.head _)))))
    have hil := get_some_lt hr
    have hml : mvs.length = i := by rw [im.length, wts, scan_length, List.length_take, Nat.min_eq_left (Nat.le_of_lt hil)]
    have hll : lvs.length = i := by rw [il.length, dps, scan_length, List.length_take, Nat.min_eq_left (Nat.le_of_lt hil)]
    obtain ⟨op, kids⟩ := r
    have hfew := W.few _ (List.mem_of_getElem? hr)
    have hkid := W.kid _ _ hr
    dsimp only at F N ne1 ne2 ne3 ne4 hkR hfew hkid ⊢
    simp only [List.cons_append, List.nil_append] at N
    have hkn : kvs.length = kids.length := by have := readsAll_length hkR; simpa using this
    clear F1 N1 hIt
    k_steps
    k_dflt (refine' comp_map (g := g) (L := LL) ?a1 ?a2 ?a3 ?a4 ?a5 ?_; (case a1 => exact rfl); (case a2 => exact rfl); (case a3 => exact rfl); (case a4 => exact rfl); (case a5 => exact rfl))
    intro PI hPI
    k_steps
    (rename Fr _ _ _ _ => F1); (rename News _ _ _ _ => N1)
    refine iter_tuple rfl (Fr.tup F1 hkd) fun it s₂ hIt => ?_
    refine hPI _ _ _ ?_
    refine ⟨_, _, _, fun j y => ∃ k t, kids[j]? = some k ∧ y = .int ((wts (rows.take i)).getD k 0) t, _, _, hIt, by rw [hkn]; exact Nat.le_trans hfew (Nat.le_of_ble_eq_true rfl), F1, N1, ?_, ?_⟩
    · intro C j v h tk mC hj hP F hm N old
      obtain ⟨k, u, rfl, hki⟩ := kid_of hkR hP
      have hkl := hkid k (List.mem_of_getElem? hki)
      obtain ⟨u', hx⟩ := ints_get im k (by rw [wts, scan_length, List.length_take]; exact Nat.lt_min.mpr ⟨hkl, Nat.lt_trans hkl hil⟩)
      clear F1 N1 hIt
      dsimp only at F N ⊢
      k_steps
      exact ⟨_, _, rfl, Mods.refl _ _, _, _, hki, rfl⟩
    intro D ys h tk k F N lt old hl hR
    have hI1 := ints_map (hl.trans hkn) hR
    clear F1 hIt N1 old hl hR
    k_lt lt
    dsimp only at F N ⊢
    k_steps
    k_dflt (refine' comp_map (g := g) (L := LL) ?a1 ?a2 ?a3 ?a4 ?a5 ?_; (case a1 => exact rfl); (case a2 => exact rfl); (case a3 => exact rfl); (case a4 => exact rfl); (case a5 => exact rfl))
    intro PI hPI
    k_steps
    (rename Fr _ _ _ _ => F1); (rename News _ _ _ _ => N1)
    refine iter_tuple rfl (Fr.tup F1 hkd) fun it s₂ hIt => ?_
    refine hPI _ _ _ ?_
    refine ⟨_, _, _, fun j y => ∃ k t, kids[j]? = some k ∧ y = .int ((dps (rows.take i)).getD k 0) t, _, _, hIt, by rw [hkn]; exact Nat.le_trans hfew (Nat.le_of_ble_eq_true rfl), F1, N1, ?_, ?_⟩
    · intro C j v h tk mC hj hP F hm N old
      obtain ⟨k, u, rfl, hki⟩ := kid_of hkR hP
      have hkl := hkid k (List.mem_of_getElem? hki)
      obtain ⟨u', hx⟩ := ints_get il k (by rw [dps, scan_length, List.length_take]; exact Nat.lt_min.mpr ⟨hkl, Nat.lt_trans hkl hil⟩)
      clear F1 N1 hIt
      dsimp only at F N ⊢
      k_steps
      exact ⟨_, _, rfl, Mods.refl _ _, _, _, hki, rfl⟩
    intro D ys h tk k F N lt old hl hR
    have hI2 := ints_map (hl.trans hkn) hR
    clear F1 hIt N1 old hl hR hI1
    k_lt lt
    dsimp only at F N ⊢
    k_steps
    (rename Fr _ _ _ _ => F1); (rename News _ _ _ _ => N1)
    have hM := max_is (l := kids.map fun k => (dps (rows.take i)).getD k 0) (by assumption) (by assumption)
    refine hRR _ _ ?_
    refine sums_turn rfl F1 N1 (by k_mem) (by k_mem) (by k_mem) (by k_mem) (by k_mem) ne1 ne2 ne3 ne4 (kept_ground erg (halt F0) F1) JM2.both ?_ ?_
    · rw [show wts (rows.take (i + 1)) = _ from scan_succ hr]
      exact ints_snoc_eq im rfl
    · rw [show dps (rows.take (i + 1)) = _ from scan_succ hr]
      exact ints_snoc_eq il (by rw [hM]; rfl)
  · rintro h tk m news ⟨⟨c1, c2, rfl⟩, mvs, nm, lvs, nl, rfl, im, il⟩ F N
    clear F1 N1 hIt
    k_steps
    (rename Fr _ _ _ _ => F1); (rename News _ _ _ _ => N1)
    rw [List.take_of_length_le (by omega)] at im il
    exact hPQ _ _ _ (back_mk F1 N1 fun F₂ N₂ M₂ => ret _ _ _ _ _ _ _ _ _ F₂ M₂ (News.first3 N₂) im il)
end Mine
namespace Mine
theorem spelled_spec (w : World) {base : Heap} {rl : Addr} {rows : List Row} (W : WF rows) (hlen : rows.length ≤ 90) : ∀ (n dd : Nat) {A₀ : Around} {env : Env} {outer : List Env} {h₀ : Heap} {L : Addr} {m mg mb : Str → Option Value} {loose : List Str} {mean : ExcName → Option Value} {s : Shared} {t : Tok}
    {Q E : Value → Shared → Prop} (_ : n < rows.length) (_ : dd + n ≤ 600) (B : Below A₀ base outer h₀) (F : Fr h₀ L s.heap m) (X : (hd.heap_39 w.params).In h₀) (T : Top hd.view_39 loose mean mg mb h₀) (hf : env.frame = some L) (hk : env.scope.kind = .function)
    (RA : RowsAt s.heap rl rows)
    (ret : ∀ tp h' tk', Fr h₀ L h' m → Mods [] s.heap h' → Reads h' (.ref tp) (tm rows n) [] → Q (.ref tp) { s with heap := h', toks := tk' }),
    wpAny (model PySem.Challenge.rw_rh0001_01.row.prog w) (AC dd (env :: outer)) (call (.ref 204) [.ref rl, .int (n : Int) t]) Q E s := by
  intro n
  induction n using Nat.strongRecOn with
  | ind n ih =>
  intro dd A₀ env outer h₀ L m mg mb loose mean s t Q E hn hdd B F X T hf hk RA ret
  w_top off
  revert X; k_fill; intro X
  obtain ⟨rvs, rn, er, rr⟩ := RA
  have hrl : rvs.length = rows.length := by have := readsAll_length rr; simpa using this
  k_dflt (refine' enterC (binds := [(Str.ofString "rows", .ref rl), (Str.ofString "n", .int (n : Int) t)]) B F X (News.nil) T hf hk ?k6 ?k7 ?k8 ?k9 ?kB ?kC ?c2 ?c3 ?c4 ?_; (case k6 => k_is); (case k7 => k_is); (case k8 => exact Nat.ble_eq_true_of_le (by show dd + 1 ≤ 1000; omega)); (case k9 => exact rfl); (case kB => exact rfl); (case kC => exact rfl); (case c2 => exact rfl); (case c3 => exact rfl); (case c4 => exact rfl))
  clear F B X T
  intro LL MM g h₁ tk₁ cells gs dr os PQ hPQ F N Y B X T keep back low EV AA
  have TKg : TK s.heap g := fun a o e _ => keep a o e (fun hm => nomatch hm)
  have erg := keep _ _ er (fun hm => nomatch hm)
  have rrg := readsAll_tk TKg (tup_rows rows) rr
  clear rr er
  k_cells Y
  simp only [List.cons_append, List.nil_append] at N
  obtain ⟨r, hr⟩ : ∃ r, rows[n]? = some r := ⟨_, List.getElem?_eq_getElem hn⟩
  obtain ⟨v, hx, hv⟩ := readsAll_at rrg rfl (by rw [List.getElem?_map, hr]; rfl : (rows.map rowD)[n]? = some (rowD r))
  obtain ⟨a, t1, kd, kvs, rfl, ha, hkd, hkR⟩ := row_parts hv
  obtain ⟨op, kids⟩ := r
  dsimp only at hkR ha
  have hfew := W.few _ (List.mem_of_getElem? hr)
  have hkid := W.kid _ _ hr
  dsimp only at hfew hkid
  have hkl := (ints_of_reads hkR).1
  k_steps
  k_dflt (refine' comp_walk ?a1 ?a2 ?a3 ?a4 ?a5 ?_; (case a1 => exact rfl); (case a2 => exact rfl); (case a3 => exact rfl); (case a4 => exact rfl); (case a5 => exact rfl))
  intro PI hPI
  k_steps
  (rename Fr _ _ _ _ => F1); (rename News _ _ _ _ => N1)
  refine iter_tuple rfl (Fr.tup F1 hkd) fun it s₂ hIt => ?_
  refine hPI _ _ _ ?_
  refine ⟨_, _, _, [], fun i ys h => ys.length = i ∧ ReadsAll h ys ((kids.take i).map (tm rows)) [], hIt, by omega, (fun a ha => nomatch ha), ?_, ⟨rfl, by rw [List.take_zero]; exact .nil⟩, ?_, ?_⟩
  · rintro i ys h h' ⟨e, r'⟩ near
    refine ⟨e, readsAll_tk (fun b o e t => (near b o e).elim (fun q => absurd t q.2) fun q => q) (tup_tml W _) r'⟩
  · intro C i v ys h tk mC hC hCs hi hP hInv hns hm old
    obtain ⟨k, u, rfl, hki⟩ := kid_of hkR hP
    have hkk := hkid k (List.mem_of_getElem? hki)
    have FC := comp_frame F1 hCs hns old (fun a ha => nomatch ha)
    have FL : Halt (Fr _ _ _ _) := comp_outer F1 old (fun a ha => nomatch ha) (fun hm => nomatch hm)
    have NC := News.push (comp_keep (a := LL + 1) N1 (by k_mem) hCs old (fun hm => nomatch hm)) News.nil
    refine wpAny_pure ⟨_, _, rfl, Mods.refl _ _, ?_⟩
    rw [if_pos rfl]
    clear hIt F1 N1
    dsimp only at FC NC ⊢
    k_steps
    refine use_AC (ih k hkk (dd + 1) (by omega) (by omega) B (halt FL) X T rfl rfl ⟨_, _, (halt FL).keep _ _ erg, readsAll_tk (TK.of_keep (halt FL).keep) (tup_rows _) rrg⟩ fun tp h3 tk3 F6 M6 R6 => ?_) rfl rfl (Nat.le_refl _) (by show 10 * dd + 3 ≤ 10 * (dd + 1); omega)
    refine ⟨_, _, rfl, M6, by simp [hInv.1], ?_⟩
    rw [List.take_add_one, hki, List.map_append]
    exact reads_snoc (readsAll_tk (fun b o e _ => M6 b o e (fun hm => nomatch hm)) (tup_tml W _) hInv.2) R6
  · intro D ys h tk kk hD hInv hDo old
    rw [List.take_of_length_le (by omega)] at hInv
    obtain ⟨hyl, hyr⟩ := hInv
    have hDn := Heap.get?_none_of_le hD
    have FL := comp_outer F1 old (fun a ha => nomatch ha) (fun hm => nomatch hm)
    refine tail_newK FL fun T1 NT1 TT1 => ?_
    have NL := News.cons hDo (Fr.ne_new F1 hDn) (Fr.base_new F1 hDn) (News.app (News.mods N1 old (fun _ _ hm => nomatch hm)) NT1)
    simp only [List.cons_append, List.nil_append] at NL
    dsimp only at FL NL ⊢
    clear hIt F1 N1 old
    rw [hkl] at hyl
    have tme := tm_eq W hr
    rw [tme] at ret
    have hy2 : ys.length ≤ 2 := by omega
    clear hyl
    cases ys
    all_goals (
      k_steps
      (rename Fr _ _ _ _ => F3); (rename News _ _ _ _ => N3)
      have k3 := TT1.tk F3 N3 (fun p hp => by simp only [List.mem_cons, hp, or_true])
      refine hPQ _ _ _ ?_
      exact back_mk F3 N3 fun F₂ N₂ M₂ => ret _ _ _ F₂ M₂ (tuple_reads (News.isTup N3 (by k_mem)) (readsAll_tk k3 (tup_tml W _) hyr)))
end Mine
namespace Mine
def upd6 (a b c d e f : Option Value) (m : Str → Option Value) : Str → Option Value := fun z => if z = Str.ofString "n" then a else if z = Str.ofString "term" then b else if z = Str.ofString "way" then c else if z = Str.ofString "spot" then d else if z = Str.ofString "kids" then e else if z = Str.ofString "op" then f else m z
theorem upd6_again {a b c d e f a' b' c' d' e' f' : Option Value} {m : Str → Option Value} : upd6 a b c d e f (upd6 a' b' c' d' e' f' m) = upd6 a b c d e f m := by
  funext z
  unfold upd6
  repeat' split
  all_goals rfl
theorem upd6_start {m : Str → Option Value} : m = upd6 (m (Str.ofString "n")) (m (Str.ofString "term")) (m (Str.ofString "way")) (m (Str.ofString "spot")) (m (Str.ofString "kids")) (m (Str.ofString "op")) m := by
  funext z
  unfold upd6
  repeat' split
  all_goals simp_all
theorem fr_upd6 {g h : Heap} {L : Addr} {a b c d e f a' b' c' d' e' f' : Option Value} {m : Str → Option Value} (F : Fr g L h (upd6 a b c d e f (upd6 a' b' c' d' e' f' m))) : Fr g L h (upd6 a b c d e f m) := upd6_again ▸ F
theorem way_spec (w : World) {A₀ : Around} {env : Env} {outer : List Env} {base h₀ : Heap} {L : Addr} {m mg mb : Str → Option Value} {loose : List Str} {mean : ExcName → Option Value} {s : Shared} {rl : Addr} {rows : List Row} {n : Nat} {v : Value} {way : Int} {t u : Tok}
    {Q E : Value → Shared → Prop} (B : Below A₀ base outer h₀) (F : Fr h₀ L s.heap m) (X : (hd.heap_39 w.params).In h₀) (T : Top hd.view_39 loose mean mg mb h₀) (hf : env.frame = some L) (hk : env.scope.kind = .function)
    (RA : RowsAt s.heap rl rows) (W : WF rows) (hlen : rows.length ≤ 90) (hn : n < rows.length) (hv : Reads s.heap v (tm rows n) []) (hw0 : 0 ≤ way) (hw1 : way < 2 ^ 60)
    (ret : ∀ h' tk', Fr h₀ L h' m → Mods [] s.heap h' → Q (.bool true) { s with heap := h', toks := tk' }) :
    wpAny (model PySem.Challenge.rw_rh0001_01.row.prog w) (AC 400 (env :: outer)) (call (.ref 211) [.ref rl, .int (n : Int) t, v, .int way u]) Q E s := by
  w_top off
  revert X; k_fill; intro X
  obtain ⟨rvs, rn, er, rr⟩ := RA
  have hrl : rvs.length = rows.length := by have := readsAll_length rr; simpa using this
  k_dflt (refine' enter (binds := [(Str.ofString "rows", .ref rl), (Str.ofString "n", .int (n : Int) t), (Str.ofString "term", v), (Str.ofString "way", .int way u)]) B F X (News.nil) T hf hk ?k6 ?k7 ?k8 ?k9 ?kB ?c2 ?c3 ?c4 ?c5 ?_; (case k6 => k_is); (case k7 => k_is); (case k8 => exact rfl); (case k9 => exact rfl); (case kB => exact rfl); (case c2 => exact rfl); (case c3 => exact rfl); (case c4 => exact rfl); (case c5 => exact rfl))
  clear F B X T
  intro LL MM g h₁ tk₁ gs dr os PQ hPQ F N B X T keep back EV AA
  have TKg : TK s.heap g := fun a o e _ => keep a o e (fun hm => nomatch hm)
  have erg := keep _ _ er (fun hm => nomatch hm)
  have rrg := readsAll_tk TKg (tup_rows rows) rr
  replace hv := reads_tk TKg (tup_tm W n) hv
  clear rr er
  k_steps
  have hr0 : MM (Str.ofString "rows") = some (.ref rl) := rfl
  have F' : Fr g LL h₁ (upd6 (some (.int (n : Int) t)) (some v) (some (.int way u)) (MM (Str.ofString "spot")) (MM (Str.ofString "kids")) (MM (Str.ofString "op")) MM) := by
    have e := upd6_start (m := MM)
    rw [show MM (Str.ofString "way") = some (.int way u) from rfl, show MM (Str.ofString "term") = some v from rfl, show MM (Str.ofString "n") = some (.int (n : Int) t) from rfl] at e
    rw [← e]; exact F
  refine while_walk (fun k s' => ∃ h tk way u v n t d e f, s' = ⟨h, gs, dr, tk, os⟩ ∧ k = n ∧ n < rows.length ∧ 0 ≤ way ∧ way < 2 ^ 60 ∧ Reads g v (tm rows n) [] ∧ Fr g LL h (upd6 (some (.int (n : Int) t)) (some v) (some (.int way u)) d e f MM)) n ⟨_, _, _, _, _, _, _, _, _, _, rfl, rfl, hn, hw0, hw1, hv, F'⟩ ?_
  rintro k s' ⟨h, tk, way, u, v, n, t, d, e, f, rfl, rfl, hn, hw0, hw1, hv, F⟩ R hRR
  obtain ⟨r, hr⟩ : ∃ r, rows[k]? = some r := ⟨_, List.getElem?_eq_getElem hn⟩
  obtain ⟨rv, hx, hrv⟩ := readsAll_at rrg rfl (by rw [List.getElem?_map, hr]; rfl : (rows.map rowD)[k]? = some (rowD r))
  obtain ⟨a, t1, kd, kvs, rfl, ha, hkd, hkR⟩ := row_parts hrv
  rw [tm_eq W hr] at hv
  obtain ⟨op, kids⟩ := r
  (try dsimp only at hkR ha hv)
  have hfew := W.few _ (List.mem_of_getElem? hr)
  have hkid := W.kid _ _ hr
  (try dsimp only at hfew hkid)
  unfold upd6 at F
  clear F' hr0
  have N : News g LL h [] := News.nil
  obtain ⟨ta, t2, ys, rfl, hta, hyR⟩ := tuple_parts hv
  have hyl := readsAll_length hyR
  have hop := W.ops _ (List.mem_of_getElem? hr)
  (try dsimp only at hop)
  have hkn : kvs.length = kids.length := by have := readsAll_length hkR; simpa using this
  rw [List.length_map] at hyl
  have hfd : way.fdiv 2 = way / 2 := Int.fdiv_eq_ediv_of_nonneg way (by decide)
  cases kids with
  | nil =>
    obtain rfl := List.length_eq_zero_iff.mp hkn
    obtain rfl := List.length_eq_zero_iff.mp hyl
    k_steps
    (rename Fr _ _ _ _ => F1); (rename News _ _ _ _ => N1)
    refine hPQ _ _ _ ?_
    exact back_mk F1 N1 fun F₂ N₂ M₂ => ret _ _ F₂ M₂
  | cons kid rest =>
    obtain ⟨x0, xs, rfl⟩ := List.exists_cons_of_length_pos (l := kvs) (by rw [hkn]; simp)
    have hm0 := Int.fmod_nonneg_of_pos way (show (0 : Int) < 2 by decide)
    have hm2 := Int.fmod_lt_of_pos way (show (0 : Int) < 2 by decide)
    have hyl1 : ((Value.str op t2 :: ys).length : Int) = ((kid :: rest).length : Int) + 1 := by rw [List.length_cons, hyl]; omega
    have hkn1 : ((x0 :: xs).length : Int) = ((kid :: rest).length : Int) := by rw [hkn]
    obtain ⟨j, hj, hjl⟩ : ∃ j : Nat, Int.fmod way 2 * (((kid :: rest).length : Int) - 1) = (j : Int) ∧ j < (kid :: rest).length := by
      have h1 : 0 < (kid :: rest).length := by simp
      have : (kid :: rest).length = 1 ∨ (kid :: rest).length = 2 := by omega
      obtain hq | hq : Int.fmod way 2 = 0 ∨ Int.fmod way 2 = 1 := by omega
      · exact ⟨0, by rw [hq]; simp, h1⟩
      · rcases this with e | e
        · exact ⟨0, by rw [e]; simp, h1⟩
        · exact ⟨1, by rw [hq, e]; rfl, by omega⟩
    obtain ⟨c, hc⟩ : ∃ c, (kid :: rest)[j]? = some c := ⟨_, List.getElem?_eq_getElem hjl⟩
    have hck := hkid c (List.mem_of_getElem? hc)
    obtain ⟨u1, hx1⟩ := (ints_of_reads hkR).2 j c hc
    obtain ⟨y, hy, hyr⟩ := readsAll_at hyR rfl (by rw [List.getElem?_map, hc]; rfl : ((kid :: rest).map (tm rows))[j]? = some (tm rows c))
    have hy1 : (Value.str op t2 :: ys)[j + 1]? = some y := by simpa using hy
    clear hm0 hm2 hkn hyl
    generalize hlen2 : (((kid :: rest).length : Nat) : Int) = len at hyl1 hkn1 hj
    have hl16 : len ≤ 16000 := by omega
    k_steps
    (rename Fr _ _ _ _ => F1)
    have F5 := fr_upd6 F1
    refine hRR _ _ ?_
    refine ⟨c, hck, _, _, _, _, _, c, _, _, _, _, rfl, rfl, Nat.lt_trans hck hn, ?_, ?_, hyr, F5⟩
    · rw [hfd]; omega
    · rw [hfd]; omega
end Mine
namespace Mine
theorem op_spec (w : World) {A₀ : Around} {env : Env} {outer : List Env} {base h₀ : Heap} {L : Addr} {m mg mb : Str → Option Value} {loose : List Str} {mean : ExcName → Option Value} {s : Shared} {b : BA} {rows : List Row} {n : Nat} {r : Row} {t : Tok}
    {Q E : Value → Shared → Prop} (B : Below A₀ base outer h₀) (F : Fr h₀ L s.heap m) (X : (hd.heap_39 w.params).In h₀) (T : Top hd.view_39 loose mean mg mb h₀) (hf : env.frame = some L) (hk : env.scope.kind = .function)
    (BK : BankAt PySem.Challenge.rw_rh0001_01.row.prog w s.heap b rows) (hr : rows[n]? = some r) (hlen : rows.length ≤ 90) (hfew : r.2.length ≤ 2)
    (ret : ∀ t h' tk', Fr h₀ L h' m → Mods [] s.heap h' → Q (.str r.1 t) { s with heap := h', toks := tk' }) :
    wpAny (model PySem.Challenge.rw_rh0001_01.row.prog w) (AC 400 (env :: outer)) (call (.ref 128) [.ref b.bk, .int (n : Int) t]) Q E s := by
  w_top off
  revert X; k_fill; intro X
  obtain ⟨BI, ⟨nvs, nn, en, rn⟩, _, ⟨wvs, wn, ew, iw⟩, ⟨dvs, dn, ee, id⟩⟩ := BK
  k_dflt (refine' enter (binds := [(Str.ofString "self", .ref b.bk), (Str.ofString "n", .int (n : Int) t)]) B F X (News.nil) T hf hk ?k6 ?k7 ?k8 ?k9 ?kB ?c2 ?c3 ?c4 ?c5 ?_; (case k6 => k_is); (case k7 => k_is); (case k8 => exact rfl); (case k9 => exact rfl); (case kB => exact rfl); (case c2 => exact rfl); (case c3 => exact rfl); (case c4 => exact rfl); (case c5 => exact rfl))
  clear F B X T
  intro LL MM g h₁ tk₁ gs dr os PQ hPQ F N B X T keep back EV AA
  have TKg : TK s.heap g := fun a o e _ => keep a o e (fun hm => nomatch hm)
  replace en := keep _ _ en (fun hm => nomatch hm)
  replace ew := keep _ _ ew (fun hm => nomatch hm)
  replace ee := keep _ _ ee (fun hm => nomatch hm)
  replace rn := readsAll_tk TKg (tup_nodes rows) rn
  obtain ⟨hi1, t1, t2, t3, t4, bn, hi2⟩ := BI
  have IB : InstB g b.bk b.bd 171 _ bn := ⟨keep _ _ hi1 (fun hm => nomatch hm), keep _ _ hi2 (fun hm => nomatch hm)⟩
  have hnl : nvs.length = rows.length := by have := readsAll_length rn; simpa using this
  have hwl : wvs.length = rows.length := by rw [iw.length]; exact scan_length _ _
  have hdl : dvs.length = rows.length := by rw [id.length]; exact scan_length _ _
  clear hi1 hi2
  obtain ⟨v, hx, hv⟩ := readsAll_at rn rfl (by rw [List.getElem?_map, hr]; rfl : (rows.map nodeD)[n]? = some (nodeD r))
  have hn : n < 1000 := Nat.lt_of_lt_of_le (get_some_lt hr) (by omega)
  obtain ⟨op, kids⟩ := r
  (try dsimp only at hv ret hfew)
  obtain ⟨a, t5, kvs, rfl, ha, hkR⟩ := tuple_parts hv
  have hk2 : kvs.length ≤ 2 := by rw [(ints_of_reads hkR).1]; exact hfew
  k_steps
  (rename Fr _ _ _ _ => F1); (rename News _ _ _ _ => N1)
  refine hPQ _ _ _ ?_
  exact back_mk F1 N1 fun F₂ N₂ M₂ => ret _ _ _ F₂ M₂
theorem kids_spec (w : World) {A₀ : Around} {env : Env} {outer : List Env} {base h₀ : Heap} {L : Addr} {m mg mb : Str → Option Value} {loose : List Str} {mean : ExcName → Option Value} {s : Shared} {b : BA} {rows : List Row} {n : Nat} {r : Row} {t : Tok}
    {Q E : Value → Shared → Prop} (B : Below A₀ base outer h₀) (F : Fr h₀ L s.heap m) (X : (hd.heap_39 w.params).In h₀) (T : Top hd.view_39 loose mean mg mb h₀) (hf : env.frame = some L) (hk : env.scope.kind = .function)
    (BK : BankAt PySem.Challenge.rw_rh0001_01.row.prog w s.heap b rows) (hr : rows[n]? = some r) (hlen : rows.length ≤ 90) (hfew : r.2.length ≤ 2)
    (ret : ∀ D kvs h' tk', Fr h₀ L h' m → Mods [] s.heap h' → News h₀ L h' [(D, { cls := .type "tuple", data := .seq (List.toArray kvs) })] → ReadsAll h' kvs (r.2.map pin) [] → Q (.ref D) { s with heap := h', toks := tk' }) :
    wpAny (model PySem.Challenge.rw_rh0001_01.row.prog w) (AC 400 (env :: outer)) (call (.ref 135) [.ref b.bk, .int (n : Int) t]) Q E s := by
  w_top off
  revert X; k_fill; intro X
  obtain ⟨BI, ⟨nvs, nn, en, rn⟩, _, ⟨wvs, wn, ew, iw⟩, ⟨dvs, dn, ee, id⟩⟩ := BK
  k_dflt (refine' enter (binds := [(Str.ofString "self", .ref b.bk), (Str.ofString "n", .int (n : Int) t)]) B F X (News.nil) T hf hk ?k6 ?k7 ?k8 ?k9 ?kB ?c2 ?c3 ?c4 ?c5 ?_; (case k6 => k_is); (case k7 => k_is); (case k8 => exact rfl); (case k9 => exact rfl); (case kB => exact rfl); (case c2 => exact rfl); (case c3 => exact rfl); (case c4 => exact rfl); (case c5 => exact rfl))
  clear F B X T
  intro LL MM g h₁ tk₁ gs dr os PQ hPQ F N B X T keep back EV AA
  have TKg : TK s.heap g := fun a o e _ => keep a o e (fun hm => nomatch hm)
  replace en := keep _ _ en (fun hm => nomatch hm)
  replace ew := keep _ _ ew (fun hm => nomatch hm)
  replace ee := keep _ _ ee (fun hm => nomatch hm)
  replace rn := readsAll_tk TKg (tup_nodes rows) rn
  obtain ⟨hi1, t1, t2, t3, t4, bn, hi2⟩ := BI
  have IB : InstB g b.bk b.bd 171 _ bn := ⟨keep _ _ hi1 (fun hm => nomatch hm), keep _ _ hi2 (fun hm => nomatch hm)⟩
  have hnl : nvs.length = rows.length := by have := readsAll_length rn; simpa using this
  have hwl : wvs.length = rows.length := by rw [iw.length]; exact scan_length _ _
  have hdl : dvs.length = rows.length := by rw [id.length]; exact scan_length _ _
  clear hi1 hi2
  obtain ⟨v, hx, hv⟩ := readsAll_at rn rfl (by rw [List.getElem?_map, hr]; rfl : (rows.map nodeD)[n]? = some (nodeD r))
  have hn : n < 1000 := Nat.lt_of_lt_of_le (get_some_lt hr) (by omega)
  obtain ⟨op, kids⟩ := r
  (try dsimp only at hv ret hfew)
  obtain ⟨a, t5, kvs, rfl, ha, hkR⟩ := tuple_parts hv
  have hk2 : kvs.length ≤ 2 := by rw [(ints_of_reads hkR).1]; exact hfew
  k_steps
  (rename Fr _ _ _ _ => F1); (rename News _ _ _ _ => N1)
  refine hPQ _ _ _ ?_
  exact back_mk F1 N1 fun F₂ N₂ M₂ => ret _ _ _ _ F₂ M₂ (News.sub N₂ (fun p hp => by rw [List.mem_singleton.mp hp]; k_mem)) (ints_reads_any hkR)
theorem weight_spec (w : World) {A₀ : Around} {env : Env} {outer : List Env} {base h₀ : Heap} {L : Addr} {m mg mb : Str → Option Value} {loose : List Str} {mean : ExcName → Option Value} {s : Shared} {b : BA} {rows : List Row} {n : Nat} {t : Tok}
    {Q E : Value → Shared → Prop} (B : Below A₀ base outer h₀) (F : Fr h₀ L s.heap m) (X : (hd.heap_39 w.params).In h₀) (T : Top hd.view_39 loose mean mg mb h₀) (hf : env.frame = some L) (hk : env.scope.kind = .function)
    (BK : BankAt PySem.Challenge.rw_rh0001_01.row.prog w s.heap b rows) (hn : n < rows.length) (hlen : rows.length ≤ 90)
    (ret : ∀ t h' tk', Fr h₀ L h' m → Mods [] s.heap h' → Q (.int ((wts rows).getD n 0) t) { s with heap := h', toks := tk' }) :
    wpAny (model PySem.Challenge.rw_rh0001_01.row.prog w) (AC 400 (env :: outer)) (call (.ref 154) [.ref b.bk, .int (n : Int) t]) Q E s := by
  w_top off
  revert X; k_fill; intro X
  obtain ⟨BI, ⟨nvs, nn, en, rn⟩, _, ⟨wvs, wn, ew, iw⟩, ⟨dvs, dn, ee, id⟩⟩ := BK
  k_dflt (refine' enter (binds := [(Str.ofString "self", .ref b.bk), (Str.ofString "n", .int (n : Int) t)]) B F X (News.nil) T hf hk ?k6 ?k7 ?k8 ?k9 ?kB ?c2 ?c3 ?c4 ?c5 ?_; (case k6 => k_is); (case k7 => k_is); (case k8 => exact rfl); (case k9 => exact rfl); (case kB => exact rfl); (case c2 => exact rfl); (case c3 => exact rfl); (case c4 => exact rfl); (case c5 => exact rfl))
  clear F B X T
  intro LL MM g h₁ tk₁ gs dr os PQ hPQ F N B X T keep back EV AA
  have TKg : TK s.heap g := fun a o e _ => keep a o e (fun hm => nomatch hm)
  replace en := keep _ _ en (fun hm => nomatch hm)
  replace ew := keep _ _ ew (fun hm => nomatch hm)
  replace ee := keep _ _ ee (fun hm => nomatch hm)
  replace rn := readsAll_tk TKg (tup_nodes rows) rn
  obtain ⟨hi1, t1, t2, t3, t4, bn, hi2⟩ := BI
  have IB : InstB g b.bk b.bd 171 _ bn := ⟨keep _ _ hi1 (fun hm => nomatch hm), keep _ _ hi2 (fun hm => nomatch hm)⟩
  have hnl : nvs.length = rows.length := by have := readsAll_length rn; simpa using this
  have hwl : wvs.length = rows.length := by rw [iw.length]; exact scan_length _ _
  have hdl : dvs.length = rows.length := by rw [id.length]; exact scan_length _ _
  clear hi1 hi2
  obtain ⟨t5, hx⟩ := ints_get iw n (by rw [wts, scan_length]; exact hn)
  k_steps
  (rename Fr _ _ _ _ => F1); (rename News _ _ _ _ => N1)
  refine hPQ _ _ _ ?_
  exact back_mk F1 N1 fun F₂ N₂ M₂ => ret _ _ _ F₂ M₂
theorem depth_spec (w : World) {A₀ : Around} {env : Env} {outer : List Env} {base h₀ : Heap} {L : Addr} {m mg mb : Str → Option Value} {loose : List Str} {mean : ExcName → Option Value} {s : Shared} {b : BA} {rows : List Row} {n : Nat} {t : Tok}
    {Q E : Value → Shared → Prop} (B : Below A₀ base outer h₀) (F : Fr h₀ L s.heap m) (X : (hd.heap_39 w.params).In h₀) (T : Top hd.view_39 loose mean mg mb h₀) (hf : env.frame = some L) (hk : env.scope.kind = .function)
    (BK : BankAt PySem.Challenge.rw_rh0001_01.row.prog w s.heap b rows) (hn : n < rows.length) (hlen : rows.length ≤ 90)
    (ret : ∀ t h' tk', Fr h₀ L h' m → Mods [] s.heap h' → Q (.int ((dps rows).getD n 0) t) { s with heap := h', toks := tk' }) :
    wpAny (model PySem.Challenge.rw_rh0001_01.row.prog w) (AC 400 (env :: outer)) (call (.ref 161) [.ref b.bk, .int (n : Int) t]) Q E s := by
  w_top off
  revert X; k_fill; intro X
  obtain ⟨BI, ⟨nvs, nn, en, rn⟩, _, ⟨wvs, wn, ew, iw⟩, ⟨dvs, dn, ee, id⟩⟩ := BK
  k_dflt (refine' enter (binds := [(Str.ofString "self", .ref b.bk), (Str.ofString "n", .int (n : Int) t)]) B F X (News.nil) T hf hk ?k6 ?k7 ?k8 ?k9 ?kB ?c2 ?c3 ?c4 ?c5 ?_; (case k6 => k_is); (case k7 => k_is); (case k8 => exact rfl); (case k9 => exact rfl); (case kB => exact rfl); (case c2 => exact rfl); (case c3 => exact rfl); (case c4 => exact rfl); (case c5 => exact rfl))
  clear F B X T
  intro LL MM g h₁ tk₁ gs dr os PQ hPQ F N B X T keep back EV AA
  have TKg : TK s.heap g := fun a o e _ => keep a o e (fun hm => nomatch hm)
  replace en := keep _ _ en (fun hm => nomatch hm)
  replace ew := keep _ _ ew (fun hm => nomatch hm)
  replace ee := keep _ _ ee (fun hm => nomatch hm)
  replace rn := readsAll_tk TKg (tup_nodes rows) rn
  obtain ⟨hi1, t1, t2, t3, t4, bn, hi2⟩ := BI
  have IB : InstB g b.bk b.bd 171 _ bn := ⟨keep _ _ hi1 (fun hm => nomatch hm), keep _ _ hi2 (fun hm => nomatch hm)⟩
  have hnl : nvs.length = rows.length := by have := readsAll_length rn; simpa using this
  have hwl : wvs.length = rows.length := by rw [iw.length]; exact scan_length _ _
  have hdl : dvs.length = rows.length := by rw [id.length]; exact scan_length _ _
  clear hi1 hi2
  obtain ⟨t5, hx⟩ := ints_get id n (by rw [dps, scan_length]; exact hn)
  k_steps
  (rename Fr _ _ _ _ => F1); (rename News _ _ _ _ => N1)
  refine hPQ _ _ _ ?_
  exact back_mk F1 N1 fun F₂ N₂ M₂ => ret _ _ _ F₂ M₂
theorem size_spec (w : World) {A₀ : Around} {env : Env} {outer : List Env} {base h₀ : Heap} {L : Addr} {m mg mb : Str → Option Value} {loose : List Str} {mean : ExcName → Option Value} {s : Shared} {b : BA} {rows : List Row}
    {Q E : Value → Shared → Prop} (B : Below A₀ base outer h₀) (F : Fr h₀ L s.heap m) (X : (hd.heap_39 w.params).In h₀) (T : Top hd.view_39 loose mean mg mb h₀) (hf : env.frame = some L) (hk : env.scope.kind = .function)
    (BK : BankAt PySem.Challenge.rw_rh0001_01.row.prog w s.heap b rows) (hlen : rows.length ≤ 90)
    (ret : ∀ t h' tk', Fr h₀ L h' m → Mods [] s.heap h' → Q (.int (rows.length : Int) t) { s with heap := h', toks := tk' }) :
    wpAny (model PySem.Challenge.rw_rh0001_01.row.prog w) (AC 400 (env :: outer)) (call (.ref 88) [.ref b.bk]) Q E s := by
  w_top off
  revert X; k_fill; intro X
  obtain ⟨BI, ⟨nvs, nn, en, rn⟩, _, ⟨wvs, wn, ew, iw⟩, ⟨dvs, dn, ee, id⟩⟩ := BK
  k_dflt (refine' enter (binds := [(Str.ofString "self", .ref b.bk)]) B F X (News.nil) T hf hk ?k6 ?k7 ?k8 ?k9 ?kB ?c2 ?c3 ?c4 ?c5 ?_; (case k6 => k_is); (case k7 => k_is); (case k8 => exact rfl); (case k9 => exact rfl); (case kB => exact rfl); (case c2 => exact rfl); (case c3 => exact rfl); (case c4 => exact rfl); (case c5 => exact rfl))
  clear F B X T
  intro LL MM g h₁ tk₁ gs dr os PQ hPQ F N B X T keep back EV AA
  have TKg : TK s.heap g := fun a o e _ => keep a o e (fun hm => nomatch hm)
  replace en := keep _ _ en (fun hm => nomatch hm)
  replace ew := keep _ _ ew (fun hm => nomatch hm)
  replace ee := keep _ _ ee (fun hm => nomatch hm)
  replace rn := readsAll_tk TKg (tup_nodes rows) rn
  obtain ⟨hi1, t1, t2, t3, t4, bn, hi2⟩ := BI
  have IB : InstB g b.bk b.bd 171 _ bn := ⟨keep _ _ hi1 (fun hm => nomatch hm), keep _ _ hi2 (fun hm => nomatch hm)⟩
  have hnl : nvs.length = rows.length := by have := readsAll_length rn; simpa using this
  have hwl : wvs.length = rows.length := by rw [iw.length]; exact scan_length _ _
  have hdl : dvs.length = rows.length := by rw [id.length]; exact scan_length _ _
  clear hi1 hi2
  have hlg := ground_list F en
  k_steps
  (rename Fr _ _ _ _ => F1); (rename News _ _ _ _ => N1)
  refine hPQ _ _ _ ?_
  exact back_mk F1 N1 fun F₂ N₂ M₂ => ret _ _ _ F₂ M₂
end Mine
namespace Mine
/-- the opening loop: what lies in the heap -/
def JOpen (w : World) (rows : List Row) (n bnd : Nat) (kids : List Nat) (p : Nat) (Dk l d cl : Addr) (ok oc : Obj) (m₁ : Str → Option Value) (i : Nat) (_h : Heap) (m : Str → Option Value) (news : List (Addr × Obj)) : Prop :=
  ∃ c K st svs sn o kvs, m = (fun y => if y = Str.ofString "kid" then c else m₁ y) ∧ news = [(Dk, ok), (l, listOf (List.toArray svs) sn), (d, o), (cl, oc)] ∧ o.IsDictOf (PySem.intKind PySem.Challenge.rw_rh0001_01.row.prog w) kvs ∧ kvs.map (·.1) = zs K ∧
    IntsAre svs (zs st) ∧ TI rows n K st (some p) ∧ (∀ c ∈ kids.take i, c ∈ K) ∧ 2 * (n + 1 - K.length) + st.length ≤ bnd
theorem open_turn {w : World} {rows : List Row} {n bnd p i tk' : Nat} {kids K st : List Nat} {Dk l d cl I L : Addr} {ok oc oI o : Obj} {m₁ : Str → Option Value} {s₁ s₄ : Shared} {g h h' : Heap} {c c' : Option Value} {news : List (Addr × Obj)} {svs : List Value} {sn : Nat} {kvs : List (Int × Value)}
    (hs : s₄ = { s₁ with heap := h', toks := tk' }) (F : Fr g L h' (fun y => if y = Str.ofString "kid" then c' else if y = Str.ofString "kid" then c else m₁ y)) (N : News g L h' news)
    (h1 : (Dk, ok) ∈ news) (h2 : (l, listOf (List.toArray svs) sn) ∈ news) (h3 : (d, o) ∈ news) (h4 : (cl, oc) ∈ news) (h5 : (I, oI) ∈ news) (n1 : Dk ≠ I) (n2 : l ≠ I) (n3 : d ≠ I) (n4 : cl ≠ I) (hk : h.get? Dk = some ok)
    (hd : o.IsDictOf (PySem.intKind PySem.Challenge.rw_rh0001_01.row.prog w) kvs) (hkeys : kvs.map (·.1) = zs K) (hst : IntsAre svs (zs st)) (ti : TI rows n K st (some p)) (pre : ∀ c ∈ kids.take (i + 1), c ∈ K) (hb : 2 * (n + 1 - K.length) + st.length ≤ bnd) :
    Halt (∃ h₂ tk₂ m' news', s₄ = { s₁ with heap := h₂, toks := tk₂ } ∧ Fr g L h₂ m' ∧ News g L h₂ (news' ++ [(I, oI)]) ∧ (∀ p ∈ news', p.1 ≠ I) ∧ (∀ b ∈ [Dk], ∀ o, h.get? b = some o → h₂.get? b = some o) ∧ JOpen w rows n bnd kids p Dk l d cl ok oc m₁ (i + 1) h₂ m' news') := by
  refine ⟨h', tk', _, [(Dk, ok), (l, listOf (List.toArray svs) sn), (d, o), (cl, oc)], hs, fr_again F, fun p hp => N p ?_, fun p hp => ?_, keptN hk N h1, _, K, st, svs, sn, o, kvs, rfl, rfl, hd, hkeys, hst, ti, pre, hb⟩
  · simp only [List.cons_append, List.nil_append, List.mem_cons, List.not_mem_nil, or_false] at hp
    rcases hp with rfl | rfl | rfl | rfl | rfl <;> assumption
  · simp only [List.mem_cons, List.not_mem_nil, or_false] at hp
    rcases hp with rfl | rfl | rfl | rfl <;> assumption
/-- the making loop: the terms of the numbers that are done -/
def JMade (w : World) (rows : List Row) (q : List Nat) (md sl cl : Addr) (os oc : Obj) (m₁ : Str → Option Value) (i : Nat) (h : Heap) (m : Str → Option Value) (news : List (Addr × Obj)) : Prop :=
  ∃ c o kvs, m = (fun y => if y = Str.ofString "k" then c else m₁ y) ∧ news = [(md, o), (sl, os), (cl, oc)] ∧ o.IsDictOf (PySem.intKind PySem.Challenge.rw_rh0001_01.row.prog w) kvs ∧ kvs.map (·.1) = zs (q.take i) ∧
    ∀ k ∈ q.take i, ∃ v, valueAt kvs (k : Int) = some v ∧ Reads h v (tm rows k) []
theorem made_turn {w : World} {rows : List Row} {q : List Nat} {md sl cl I L : Addr} {o os oc oI : Obj} {m₁ : Str → Option Value} {i k tk' : Nat} {s₁ s₄ : Shared} {g h h' : Heap} {c c' : Option Value} {news : List (Addr × Obj)} {kvs : List (Int × Value)} {v : Value}
    (hs : s₄ = { s₁ with heap := h', toks := tk' }) (F : Fr g L h' (fun y => if y = Str.ofString "k" then c' else if y = Str.ofString "k" then c else m₁ y)) (N : News g L h' news)
    (h1 : (md, o) ∈ news) (h2 : (sl, os) ∈ news) (h3 : (cl, oc) ∈ news) (h4 : (I, oI) ∈ news) (n1 : md ≠ I) (n2 : sl ≠ I) (n3 : cl ≠ I) (hsl : h.get? sl = some os) (W : WF rows)
    (hq : q[i]? = some k) (hqn : q.Nodup) (hkeys : kvs.map (·.1) = zs (q.take i)) (old : ∀ k ∈ q.take i, ∃ v, valueAt kvs (k : Int) = some v ∧ Reads h v (tm rows k) []) (TKh : TK h h')
    (hd : o.IsDictOf (PySem.intKind PySem.Challenge.rw_rh0001_01.row.prog w) (stored kvs (k : Int) v)) (hv : Reads h' v (tm rows k) []) :
    Halt (∃ h₂ tk₂ m' news', s₄ = { s₁ with heap := h₂, toks := tk₂ } ∧ Fr g L h₂ m' ∧ News g L h₂ (news' ++ [(I, oI)]) ∧ (∀ p ∈ news', p.1 ≠ I) ∧ (∀ b ∈ [sl], ∀ o, h.get? b = some o → h₂.get? b = some o) ∧ JMade w rows q md sl cl os oc m₁ (i + 1) h₂ m' news') := by
  have hnk := not_ahead hqn hq
  have st := stored_key hkeys hnk v
  refine ⟨h', tk', _, [(md, o), (sl, os), (cl, oc)], hs, fr_again F, fun p hp => N p ?_, fun p hp => ?_, keptN hsl N h2, _, o, _, rfl, rfl, hd, by rw [st.1, take_succ_get hq], fun x hx => ?_⟩
  · simp only [List.cons_append, List.nil_append, List.mem_cons, List.not_mem_nil, or_false] at hp
    rcases hp with rfl | rfl | rfl | rfl <;> assumption
  · simp only [List.mem_cons, List.not_mem_nil, or_false] at hp
    rcases hp with rfl | rfl | rfl <;> assumption
  · rw [st.2]
    rw [take_succ_get hq] at hx
    rcases List.mem_append.mp hx with hx | hx
    · obtain ⟨u, e, r⟩ := old x hx
      exact ⟨u, value_snoc_old e, reads_tk TKh (tup_tm W x) r⟩
    · rw [List.mem_singleton.mp hx]
      exact ⟨v, value_snoc_new (key_none hkeys hnk), hv⟩
theorem term_spec (w : World) {A₀ : Around} {env : Env} {outer : List Env} {base h₀ : Heap} {L : Addr} {m mg mb : Str → Option Value} {loose : List Str} {mean : ExcName → Option Value} {s : Shared} {b : BA} {rows : List Row} {n : Nat} {t : Tok}
    {Q E : Value → Shared → Prop} (B : Below A₀ base outer h₀) (F : Fr h₀ L s.heap m) (X : (hd.heap_39 w.params).In h₀) (T : Top hd.view_39 loose mean mg mb h₀) (hf : env.frame = some L) (hk : env.scope.kind = .function)
    (BK : BankAt PySem.Challenge.rw_rh0001_01.row.prog w s.heap b rows) (W : WF rows) (hlen : rows.length ≤ 60) (hn : n < rows.length)
    (ret : ∀ tp h' tk', Fr h₀ L h' m → Mods [] s.heap h' → Reads h' (.ref tp) (tm rows n) [] → Q (.ref tp) { s with heap := h', toks := tk' }) :
    wpAny (model PySem.Challenge.rw_rh0001_01.row.prog w) (AC 380 (env :: outer)) (call (.ref 147) [.ref b.bk, .int (n : Int) t]) Q E s := by
  w_top off
  revert X; k_fill; intro X
  k_dflt (refine' enterC (binds := [(Str.ofString "self", .ref b.bk), (Str.ofString "n", .int (n : Int) t)]) B F X (News.nil) T hf hk ?k6 ?k7 ?k8 ?k9 ?kB ?kC ?c2 ?c3 ?c4 ?_; (case k6 => k_is); (case k7 => k_is); (case k8 => exact rfl); (case k9 => exact rfl); (case kB => exact rfl); (case kC => exact rfl); (case c2 => exact rfl); (case c3 => exact rfl); (case c4 => exact rfl))
  clear F B X T
  intro LL MM g h₁ tk₁ cells gs dr os PQ hPQ F N Y B X T keep back low EV AA
  have TKg : TK s.heap g := fun a o e _ => keep a o e (fun hm => nomatch hm)
  have BKg := BK.mods (as := []) (fun b o e n => keep b o e n) TKg (fun a ha => nomatch ha)
  clear BK
  obtain ⟨hi1, t1, t2, t3, t4, bn, hi2⟩ := BKg.inst
  have IB : InstB g b.bk b.bd 171 _ bn := ⟨hi1, hi2⟩
  clear hi1 hi2
  k_cells Y
  simp only [List.cons_append, List.nil_append] at N
  k_steps
  k_dflt (refine' kdn_eval (knd := PySem.intKind _ _) ?F ?N ?b ?a ?l ?e ?n ?_; (case F => k_asm); (case N => first | k_asm | exact News.nil); (case b => exact Top.nolimit (by k_asm)); (case a => rfl); (case l => rfl); (case e => exact List.cons_ne_nil _ _); (case n => exact Nat.le_of_ble_eq_true rfl))
  intro d' h' o' F' N' l1 lo' hd'
  (try k_lt l1)
  k_steps
  (rename PyProof.V.FlatPairs _ _ _ => hf9)
  clear hf9
  (rename Fr _ _ _ _ => F1); (rename News _ _ _ _ => N1); (rename Obj.IsDictOf _ _ _ => hd1); (rename Obj.data _ = Data.cell _ => hcd)
  generalize hm₁ : (fun y => if y = Str.ofString "below" then _ else _) = m₁ at F1
  refine while_walk (fun k s' => ∃ h tk c K st svs sn o kvs, s' = ⟨h, gs, dr, tk, os⟩ ∧ Fr g LL h (fun y => if y = Str.ofString "kid" then c else m₁ y) ∧ News g LL h [(_, listOf (List.toArray svs) sn), (_, o), (LL + 1, _)] ∧
    o.IsDictOf (PySem.intKind PySem.Challenge.rw_rh0001_01.row.prog w) kvs ∧ kvs.map (·.1) = zs K ∧ IntsAre svs (zs st) ∧ TI rows n K st none ∧ 2 * (n + 1 - K.length) + st.length = k ∧ k ≤ 200) _ ⟨_, _, _, [n], [n], _, _, _, _, rfl, fr_same F1 _, News.drop1 N1, hd1, rfl, .cons _ _ .nil, TI.start rows n, rfl, by simp; omega⟩ ?_
  rintro k s' ⟨h, tk, c, K, st, svs, sn, o, kvs, rfl, F, N, hdo, hkeys, hst, ti, rfl, hk200⟩ R0 hR0
  clear F1 N1 hd1 hd'
  dsimp only at F N ⊢
  subst hm₁
  dsimp only at F
  rcases List.eq_nil_or_concat st with rfl | ⟨st', p, rfl⟩
  · cases hst
    have hcl := ti.closed
    obtain ⟨q, hqK, hqo⟩ := in_order K
    have hqn : q.Nodup := hqK.nodup_iff.mpr ti.nd
    have hql : q.length = K.length := hqK.length_eq
    have hKl := ti.bound
    have hkl : kvs.length = K.length := by have := congrArg List.length hkeys; simpa [zs] using this
    have hK0 : 0 < K.length := List.length_pos_of_mem ti.top
    k_steps
    refine for_ledger (g := g) (L := LL) rfl ?_ (fun _ => rfl)
    intro PI hPI
    k_steps
    (rename Fr _ _ _ _ => F1); (rename News _ _ _ _ => N1)
    refine sorted_dict rfl F1 N1 (by k_mem) hdo (by assumption) (by omega) (by omega) (q := zs q) (by rw [hkeys]; exact zs_perm hqK) (zs_ord hqo) fun sl h2 tk2 out sk F2 N2 l2 hout => ?_
    k_steps
    refine iter_list rfl ⟨_, News.get N2 (a := sl) (by k_mem), rfl, _, rfl⟩ fun it s₂ hIt => ?_
    refine hPI _ _ _ ?_
    (rename Obj.IsDictOf (PySem.intKind _ _) _ [] => hmd); (rename Obj.data _ = Data.cell (some _) => hcl2)
    have N3 := News.pick3 N2
    k_lt l2
    refine ⟨_, _, _, _, _, JMade w rows q _ sl _ _ _ _, hIt, fr_same F2 (Str.ofString "k"), N3, ?_, ⟨_, _, [], rfl, rfl, hmd, rfl, fun _ hm => nomatch hm⟩, ?_, ?_⟩
    · rintro i h h' m news ⟨c, o, kvs, e1, e2, e3, e4, e5⟩ _ _ k
      exact ⟨c, o, kvs, e1, e2, e3, e4, fun x hx => by obtain ⟨v, a, r⟩ := e5 x hx; exact ⟨v, a, reads_tk (kp_mods k).2 (tup_tm W x) r⟩⟩
    · clear hdo hkeys hkl N2 F2 N3 F1 N1 hmd hIt
      rintro i v h tk m news oI hi hP ⟨c, o, kvs, rfl, rfl, hdo, hkeys, hold⟩ F N hne gI hT R hRR
      obtain ⟨k, u, hq, rfl⟩ := ints_zs hout hP
      have hkK := hqK.mem_iff.mp (List.mem_of_getElem? hq)
      have hkn := ti.le k hkK
      obtain ⟨r, hr⟩ : ∃ r, rows[k]? = some r := ⟨_, List.getElem?_eq_getElem (by omega)⟩
      have hfew := W.few _ (List.mem_of_getElem? hr)
      have hkid := W.kid _ _ hr
      have hkl : kvs.length = (q.take i).length := by have := congrArg List.length hkeys; simpa [zs] using this
      rw [List.length_take] at hkl
      have hsl0 := News.get N (a := sl) (.tail _ (.head _))
      have ne1 := neN (hne _ (.head _))
      have ne2 := neN (hne _ (.tail _ (.head _)))
      have ne3 := neN (hne _ (.tail _ (.tail _ (.head _))))
      refine tail_newK F fun T1 NT1 TT1 => ?_
      have hT1 := TT1.ne NT1 (N _ (.head _)).1 (noTup_cls (by rw [dict_cls hdo]; simp))
      have N0 := News.app N NT1
      dsimp only at F N0 ne1 ne2 ne3 hsl0 hT1 ⊢
      simp only [List.cons_append, List.nil_append] at N0
      clear N NT1
      k_steps
      (rename Fr _ _ _ _ => F1); (rename News _ _ _ _ => N1)
      refine use_AC (op_spec w B F1 X T rfl rfl (BKg.mods (as := []) (fun b o e _ => F1.keep b o e) (TK.of_keep F1.keep) (fun a ha => nomatch ha)) hr (by first | exact Mine.le_small (by assumption) (by decide) | omega) hfew fun t5 h3 tk3 F3 M3 => ?_) rfl rfl (Nat.le_of_ble_eq_true rfl) (Nat.le_of_ble_eq_true rfl)
      have N3 := News.mods N1 M3 (fun _ _ hm => nomatch hm)
      have nk2 := neN (News.lt N3 (.head _))
      dsimp only at F3 N3 ⊢
      clear F1 N1 M3
      k_steps
      k_dflt (refine' comp_map (g := g) (L := LL) ?a1 ?a2 ?a3 ?a4 ?a5 ?_; (case a1 => exact rfl); (case a2 => exact rfl); (case a3 => exact rfl); (case a4 => exact rfl); (case a5 => exact rfl))
      intro PI hPI
      k_steps
      (rename Fr _ _ _ _ => F1); (rename News _ _ _ _ => N1)
      refine use_AC (kids_spec w B F1 X T rfl rfl (BKg.mods (as := []) (fun b o e _ => F1.keep b o e) (TK.of_keep F1.keep) (fun a ha => nomatch ha)) hr (by first | exact Mine.le_small (by assumption) (by decide) | omega) hfew fun Dk kvs2 h4 tk4 F4 M4 ND hkR => ?_) rfl rfl (Nat.le_of_ble_eq_true rfl) (Nat.le_of_ble_eq_true rfl)
      have N4 := News.app ND (News.mods N1 M4 (fun _ _ hm => nomatch hm))
      simp only [List.cons_append, List.nil_append] at N4
      dsimp only at F4 N4 ⊢
      clear F1 N1 M4 ND
      k_steps
      (rename Fr _ _ _ _ => F1); (rename News _ _ _ _ => N1)
      have nk1 := neN (ne_obj (News.get N1 (a := Dk) (by k_mem)) (News.get N1 (o := o) (by k_mem)) fun e => by have := congrArg Obj.cls e; simp [dict_cls hdo] at this)
      have hz : kvs.length ≤ 1000 := by omega
      refine iter_tuple rfl (News.isTup N1 (a := Dk) (by k_mem)) fun it s₂ hIt => ?_
      refine hPI _ _ _ ?_
      refine ⟨_, _, _, fun j y => ∃ c, r.2[j]? = some c ∧ Reads h y (tm rows c) [], _, _, hIt, (by rw [(ints_of_reads hkR).1]; omega), F1, N1, ?_, ?_⟩
      · intro C j v h tk mC hj hP F hm N old
        obtain ⟨k2, u2, rfl, hki⟩ := kid_of hkR hP
        obtain ⟨y, hyv, hyr⟩ := hold k2 (ahead_of hqo hq (hqK.mem_iff.mpr (hcl k hkK r hr k2 (List.mem_of_getElem? hki))) (hkid k2 (List.mem_of_getElem? hki)))
        clear F1 N1 hIt
        dsimp only at F N ⊢
        k_steps
        exact ⟨_, _, rfl, Mods.refl _ _, _, hki, hyr⟩
      intro D ys h5 tk5 k5 F N lt old hl hR
      clear F1 hIt N1 old
      have hkl2 := (ints_of_reads hkR).1
      obtain ⟨op, kids⟩ := r
      dsimp only at hkR hfew hR hkl2
      rw [hkl2] at hl
      k_lt lt
      dsimp only at F N ⊢
      have tme := tm_eq W hr
      have hyr : ReadsAll h ys (kids.map (tm rows)) [] := reads_map hl hR
      have hy2 : ys.length ≤ 2 := by omega
      clear hl hR
      cases ys
      all_goals (
        k_steps
        (rename Fr _ _ _ _ => F1); (rename News _ _ _ _ => N1); (rename Obj.IsDictOf _ _ (stored _ _ _) => hd2)
        have k3 := TT1.tk F1 N1 (fun p hp => by simp only [List.mem_cons, hp, or_true])
        refine hRR _ _ ?_
        show Halt _
        refine made_turn (s₁ := ⟨h, gs, dr, tk, os⟩) rfl F1 N1 (by k_mem) (by k_mem) (by k_mem) (by k_mem) ne1 ne2 ne3 hsl0 W hq hqn hkeys hold k3 hd2 ?_
        rw [tme]
        exact tuple_reads (News.isTup N1 (by k_mem)) (readsAll_tk k3 (tup_tml W _) hyr))
    · rintro h tk m news ⟨c, o, kvs2, rfl, rfl, hdo2, hkeys2, hold⟩ F N
      rw [List.take_of_length_le (by have := hout.length; simp [zs] at this; omega)] at hold hkeys2
      obtain ⟨v, hvl, hvr⟩ := hold n (hqK.mem_iff.mpr ti.top)
      obtain ⟨r, hr⟩ : ∃ r, rows[n]? = some r := ⟨_, List.getElem?_eq_getElem hn⟩
      have hvr2 := hvr
      rw [tm_eq W hr] at hvr2
      obtain ⟨tp, rfl⟩ := ref_of_tup hvr2
      refine tail_newK F fun T1 NT1 TT1 => ?_
      have N0 := News.app N NT1
      simp only [List.cons_append, List.nil_append] at N0
      clear N F1 N1 F2 N2 N3 hmd hdo hkeys hIt
      dsimp only at F N0 ⊢
      k_steps
      (rename Fr _ _ _ _ => F1); (rename News _ _ _ _ => N1)
      have k3 := TT1.tk F1 N1 (fun p hp => by simp only [List.mem_cons, hp, or_true])
      exact hPQ _ _ _ (back_mk F1 N1 fun F₂ N₂ M₂ => ret _ _ _ F₂ M₂ (reads_tk k3 (tup_tm W n) hvr))
  · rw [List.concat_eq_append] at hst ti hR0
    unfold zs at hst
    rw [List.map_append] at hst
    obtain ⟨us, tp, rfl, hst'⟩ := ints_unsnoc hst
    clear hst
    have hul : us.length = st'.length := by rw [hst'.length]; simp
    simp only [List.length_append, List.length_cons, List.length_nil, List.concat_eq_append] at hk200
    dsimp only at N
    have hln : (us ++ [Value.int (p : Int) tp]).length = st'.length + 1 := by simp [hul]
    have hpn : p ≤ n := ti.le p (ti.sub p (by simp))
    obtain ⟨r, hr⟩ : ∃ r, rows[p]? = some r := ⟨_, List.getElem?_eq_getElem (by omega)⟩
    have hfew := W.few _ (List.mem_of_getElem? hr)
    have hkid := W.kid _ _ hr
    k_steps
    refine for_ledger (g := g) (L := LL) rfl ?_ (fun _ => rfl)
    intro PI hPI
    k_steps
    (rename Fr _ _ _ _ => F1); (rename News _ _ _ _ => N1)
    refine use_AC (kids_spec w B F1 X T rfl rfl (BKg.mods (as := []) (fun b o e _ => F1.keep b o e) (TK.of_keep F1.keep) (fun a ha => nomatch ha)) hr (by first | exact Mine.le_small (by assumption) (by decide) | omega) hfew fun Dk kvs2 h2 tk2 F2 M2 ND hkR => ?_) rfl rfl (Nat.le_of_ble_eq_true rfl) (Nat.le_of_ble_eq_true rfl)
    have N2 := News.app ND (News.mods N1 M2 (fun _ _ hm => nomatch hm))
    simp only [List.cons_append, List.nil_append] at N2
    dsimp only at F2 N2 ⊢
    clear F1 N1 M2 ND
    k_steps
    (rename Fr _ _ _ _ => F1); (rename News _ _ _ _ => N1)
    have nk1 := neN (ne_obj (News.get N1 (a := Dk) (by k_mem)) (News.get N1 (o := listOf _ _) (by k_mem)) fun e => by have := congrArg Obj.cls e; simp at this)
    have nk2 := neN (ne_obj (News.get N1 (a := Dk) (by k_mem)) (News.get N1 (a := d') (by k_mem)) fun e => by have := congrArg Obj.cls e; simp [dict_cls hdo] at this)
    have nk3 := neN (ne_obj (News.get N1 (a := Dk) (by k_mem)) (News.get N1 (a := LL + 1) (by k_mem)) fun e => by have := congrArg Obj.data e; rw [hcd] at this; cases this)
    refine iter_tuple rfl (News.isTup N1 (by k_mem)) fun it s₂ hIt => ?_
    refine hPI _ _ _ ?_
    refine ⟨_, _, _, _, _, JOpen w rows n (2 * (n + 1 - K.length) + st'.length) r.2 p _ _ _ _ _ _ _, hIt, F1, N1, fun _ _ _ _ _ j _ _ _ => j, ⟨_, K, st', us, _, o, kvs, rfl, rfl, hdo, hkeys, hst', ti.pop, (by simp), Nat.le_refl _⟩, ?_, ?_⟩
    · clear hdo hkeys hst' ti hln hul N1 F1 hIt
      rintro i v h tk m news oI hi hP ⟨c, K, st, svs, sn, o, kvs, rfl, rfl, hdo, hkeys, hst, ti, hpre, hb⟩ F N hne gI hT R hRR
      obtain ⟨k, u, rfl, hki⟩ := kid_of hkR hP
      have hkp := hkid k (List.mem_of_getElem? hki)
      have F0 : Halt (News _ _ _ _) := N
      have ne1 := neN (hne _ (.head _))
      have ne2 := neN (hne _ (.tail _ (.head _)))
      have ne3 := neN (hne _ (.tail _ (.tail _ (.head _))))
      have ne4 := neN (hne _ (.tail _ (.tail _ (.tail _ (.head _)))))
      have hsl : svs.length = st.length := by rw [hst.length]; simp [zs]
      have hKl := ti.bound
      have hkl : kvs.length = K.length := by have := congrArg List.length hkeys; simpa [zs] using this
      dsimp only at F N ne1 ne2 ne3 ne4 ⊢
      simp only [List.cons_append, List.nil_append] at N
      have pre1 : ∀ c ∈ r.2.take (i + 1), c ∈ r.2.take i ∨ c = k := fun c hc => by
        rw [take_succ_get hki] at hc
        rcases List.mem_append.mp hc with q | q
        · exact .inl q
        · exact .inr (List.mem_singleton.mp q)
      by_cases hin : k ∈ K
      · have hv : (valueAt kvs (k : Int)).isSome = true := by rw [has_key hkeys, decide_eq_true hin]
        k_steps
        (rename Fr _ _ _ _ => F1); (rename News _ _ _ _ => N1)
        refine hRR _ _ ?_
        show Halt _
        exact open_turn (s₁ := ⟨h, gs, dr, tk, os⟩) rfl F1 N1 (by k_mem) (by k_mem) (by k_mem) (by k_mem) (by k_mem) ne1 ne2 ne3 ne4 (News.get (halt F0) (.head _)) (by assumption) hkeys hst ti (fun c hc => (pre1 c hc).elim (hpre c) fun e => e ▸ hin) hb
      · have hv : (valueAt kvs (k : Int)).isSome = false := by rw [has_key hkeys, decide_eq_false hin]
        have ti2 := ti.add (c := k) (by omega) hin
        have hKl2 := ti2.bound
        simp only [List.length_append, List.length_cons, List.length_nil] at hKl2
        k_steps
        (rename Fr _ _ _ _ => F1); (rename News _ _ _ _ => N1); (rename Obj.IsDictOf _ _ (stored _ _ _) => hd2)
        refine hRR _ _ ?_
        show Halt _
        refine open_turn (s₁ := ⟨h, gs, dr, tk, os⟩) rfl F1 N1 (by k_mem) (by k_mem) (by k_mem) (by k_mem) (by k_mem) ne1 ne2 ne3 ne4 (News.get (halt F0) (.head _)) hd2 (stored_key hkeys hin _).1 ?_ ti2 ?_ ?_
        · unfold zs
          rw [List.map_append]
          exact ints_snoc hst
        · intro c hc
          rcases pre1 c hc with q | q
          · exact List.mem_append_left _ (hpre c q)
          · rw [q]; simp
        · simp only [List.length_append, List.length_cons, List.length_nil]
          omega
    · rintro h tk m news ⟨c, K, st, svs, sn, o, kvs, rfl, rfl, hdo, hkeys, hst, ti, hpre, hb⟩ F N
      clear F1 N1 hIt
      k_steps
      (rename Fr _ _ _ _ => F1); (rename News _ _ _ _ => N1)
      rw [List.take_of_length_le (by rw [(ints_of_reads hkR).1]; exact Nat.le_refl _)] at hpre
      refine hR0 _ _ ?_
      refine ⟨_, ?_, _, _, c, K, st, svs, sn, o, kvs, rfl, F1, News.drop1 N1, hdo, hkeys, hst, ti.close hr hpre, rfl, ?_⟩
      · simp only [List.length_append, List.length_cons, List.length_nil]
        omega
      · omega
end Mine
namespace Mine
theorem reads_unsnoc {h : Heap} : ∀ {ds : List PyData} {d : PyData} {vs : List Value}, ReadsAll h vs (ds ++ [d]) [] → ∃ us v, vs = us ++ [v] ∧ ReadsAll h us ds [] ∧ Reads h v d []
  | [], d, vs, x => by
    cases vs with
    | nil => cases x
    | cons v us =>
      have y := readsAll_hd x
      have e : us = [] := by have := readsAll_length y.2; simpa using this
      subst e
      exact ⟨[], v, rfl, .nil, y.1⟩
  | e :: ds, d, vs, x => by
    cases vs with
    | nil => cases x
    | cons v us =>
      have y := readsAll_hd x
      obtain ⟨us', v', rfl, a, b⟩ := reads_unsnoc y.2
      exact ⟨v :: us', v', rfl, .cons (as := []) (bs := []) y.1 a, b⟩
theorem cut_spec (w : World) {A₀ : Around} {env : Env} {outer : List Env} {base h₀ : Heap} {L : Addr} {m mg mb : Str → Option Value} {loose : List Str} {mean : ExcName → Option Value} {s : Shared} {b : BA} {rows : List Row} {many : Nat} {t : Tok}
    {Q E : Value → Shared → Prop} (B : Below A₀ base outer h₀) (F : Fr h₀ L s.heap m) (X : (hd.heap_39 w.params).In h₀) (T : Top hd.view_39 loose mean mg mb h₀) (hf : env.frame = some L) (hk : env.scope.kind = .function)
    (hb : b.Ok) (BK : BankAt PySem.Challenge.rw_rh0001_01.row.prog w s.heap b rows) (W : WF rows) (hlen : rows.length ≤ 90) (hmany : many ≤ rows.length) (own : ∀ a ∈ [b.nl, b.nd, b.wl, b.dl], a ≠ L ∧ h₀.get? a = none)
    (ret : ∀ h' tk', Fr h₀ L h' m → Mods [b.nl, b.nd, b.wl, b.dl] s.heap h' → BankAt PySem.Challenge.rw_rh0001_01.row.prog w h' b (rows.take many) → Q .none { s with heap := h', toks := tk' }) :
    wpAny (model PySem.Challenge.rw_rh0001_01.row.prog w) (AC 350 (env :: outer)) (call (.ref 121) [.ref b.bk, .int (many : Int) t]) Q E s := by
  w_top off
  revert X; k_fill; intro X
  have BI := BK.inst
  refine BankAt.openK BK BI fun nvs nn ond ks wvs wn dvs dn e1 e2 e3 e4 BN => ?_
  have hnd := BN.cls
  have N₀ := bank_news e1 e2 e3 e4 own News.nil
  have ne1 := neN <| ne_of_cls e1 e2 (by rw [hnd]; simp)
  have ne2 := neN <| ne_of_cls e3 e2 (by rw [hnd]; simp)
  have ne3 := neN <| ne_of_cls e4 e2 (by rw [hnd]; simp)
  obtain ⟨o1, o2, o3, o4, lo⟩ := id hb
  replace o1 := neN o1
  replace o2 := neN o2
  replace o3 := neN o3
  k_dflt (refine' enter (binds := [(Str.ofString "self", .ref b.bk), (Str.ofString "many", .int (many : Int) t)]) B F X N₀ T hf hk ?k6 ?k7 ?k8 ?k9 ?kB ?c2 ?c3 ?c4 ?c5 ?_; (case k6 => k_is); (case k7 => k_is); (case k8 => exact rfl); (case k9 => exact rfl); (case kB => exact rfl); (case c2 => exact rfl); (case c3 => exact rfl); (case c4 => exact rfl); (case c5 => exact rfl))
  clear F B X T
  intro LL MM g h₁ tk₁ gs dr os PQ hPQ F N B X T keep back EV AA
  have TKg : TK s.heap g := ground_tk N₀ keep (by
    intro p hp; simp only [List.mem_cons, List.not_mem_nil, or_false] at hp
    rcases hp with rfl | rfl | rfl | rfl <;> apply noTup_cls <;> simp [hnd])
  obtain ⟨hi1, t1, t2, t3, t4, bn, hi2⟩ := BI
  have IB : InstB g b.bk b.bd 171 _ bn := ⟨ground_of N₀ keep hi1 (by
    intro p hp; simp only [List.mem_cons, List.not_mem_nil, or_false] at hp
    rcases hp with rfl | rfl | rfl | rfl <;> refine .inr fun q => ?_ <;> have := congrArg Obj.cls q <;> simp [hnd] at this), ground_of N₀ keep hi2 (by
    intro p hp; simp only [List.mem_cons, List.not_mem_nil, or_false] at hp
    rcases hp with rfl | rfl | rfl | rfl
    · refine .inr fun q => ?_; have := congrArg Obj.cls q; simp at this
    · exact .inl o4.symm
    · refine .inr fun q => ?_; have := congrArg Obj.cls q; simp at this
    · refine .inr fun q => ?_; have := congrArg Obj.cls q; simp at this)⟩
  have BIg : BankI w g b := ⟨IB.1, t1, t2, t3, t4, bn, IB.2⟩
  have BNg : BankN PySem.Challenge.rw_rh0001_01.row.prog w g g b rows nvs ond ks wvs dvs := { (BN.tk TKg) with inst := BIg }
  clear keep back BN hi1 hi2 N₀ e1 e2 e3 e4 BK
  k_steps
  refine while_walk (fun k s' => ∃ h tk k' nvs nn ond ks wvs wn dvs dn, s' = ⟨h, gs, dr, tk, os⟩ ∧ k' = k + many ∧ k' ≤ rows.length ∧ Fr g LL h MM ∧
    News g LL h [(b.nl, listOf (List.toArray nvs) nn), (b.nd, ond), (b.wl, listOf (List.toArray wvs) wn), (b.dl, listOf (List.toArray dvs) dn)] ∧ BankN PySem.Challenge.rw_rh0001_01.row.prog w g g b (rows.take k') nvs ond ks wvs dvs) (rows.length - many)
    ⟨_, _, rows.length, nvs, nn, ond, ks, wvs, wn, dvs, dn, rfl, by omega, Nat.le_refl _, F, N, by rw [List.take_length]; exact BNg⟩ ?_
  clear BNg F N hnd
  rintro k s' ⟨h, tk, k', nvs, nn, ond, ks, wvs, wn, dvs, dn, rfl, hk', hkl, F, N, BN⟩ R hR
  dsimp only at F N ⊢
  have hnl := BN.ln
  rw [List.length_take] at hnl
  cases k with
  | zero =>
    obtain rfl : k' = many := by omega
    k_steps
    (rename Fr _ _ _ _ => F1); (rename News _ _ _ _ => N1)
    refine hPQ _ _ _ ?_
    refine back_mk F1 N1 fun F₂ N₂ M₂ => ?_
    exact ret _ _ F₂ M₂ (BN.at F1 (TK.of_keep F1.keep) (News.get N1 (by k_mem)) (News.get N1 (by k_mem)) (News.get N1 (by k_mem)) (News.get N1 (by k_mem)))
  | succ k =>
    obtain ⟨k₁, rfl⟩ : ∃ k₁, k' = k₁ + 1 := ⟨k' - 1, by omega⟩
    obtain ⟨r, hr⟩ : ∃ r, rows[k₁]? = some r := ⟨_, List.getElem?_eq_getElem (by omega)⟩
    have et : rows.take (k₁ + 1) = rows.take k₁ ++ [r] := by rw [List.take_add_one, hr]; rfl
    rw [et] at BN
    obtain ⟨_, rn, nx, ka, iw, id⟩ := BN
    rw [List.map_append] at rn
    obtain ⟨us, v, rfl, rn', hnode⟩ := reads_unsnoc rn
    obtain ⟨a, rfl⟩ : ∃ a, v = .ref a := by unfold nodeD at hnode; exact ref_of_tup hnode
    rw [show wts (rows.take k₁ ++ [r]) = _ from scan_append _ _ _] at iw
    rw [show dps (rows.take k₁ ++ [r]) = _ from scan_append _ _ _] at id
    obtain ⟨ws, tw, rfl, iw'⟩ := ints_unsnoc iw
    obtain ⟨ds, td, rfl, id'⟩ := ints_unsnoc id
    have hul : us.length = k₁ := by have := readsAll_length rn'; simp at this; omega
    have hwl : ws.length = k₁ := by have := iw'.length; rw [show (scan wtOf (rows.take k₁)).length = _ from scan_length _ _, List.length_take] at this; omega
    have hdl : ds.length = k₁ := by have := id'.length; rw [show (scan dpOf (rows.take k₁)).length = _ from scan_length _ _, List.length_take] at this; omega
    have hl1 : (us ++ [Value.ref a]).length = k₁ + 1 := by simp [hul]
    have hl0 : (rows.take k₁).length ≤ 1000 := by rw [List.length_take]; omega
    have hnd := (W.take (k₁ + 1)).nodup
    rw [et] at hnd
    clear iw id rn hnl
    k_steps
    (rename Fr _ _ _ _ => F1); (rename News _ _ _ _ => N1); (rename NumsX _ _ _ (List.take _ _) _ => nx')
    refine hR _ _ ?_
    exact ⟨k, Nat.lt_succ_self k, _, _, k₁, _, _, _, _, _, _, _, _, rfl, by omega, by omega, F1, N1, BIg, rn', nx', ka.drop, iw', id'⟩
end Mine
def Mine.Passed : Prop := True
local macro_rules | `(tactic| walk_at "exec If") => `(tactic| ((with_reducible show wpAny _ _ (exec (Stmt.If (Expr.BoolOp PySem.BoolOp.And _ _) _ _ _) _) _ _ _); (fail_if_success (with_reducible rename Mine.Passed => hpass)); refine Mine.halt ?_; (try dsimp only)))
namespace Mine
/-- the asking loop: what lies in the heap -/
def JRight (w : World) (d : DA) (k : Nat) (lst ml ll tc nc rc dc : Addr) (olst om ol orr odd : Obj) (m₁ : Str → Option Value) (i : Nat) (_h : Heap) (m : Str → Option Value) (news : List (Addr × Obj)) : Prop :=
  ∃ c on ot od k', m = (fun y => if y = Str.ofString "way" then c else m₁ y) ∧ news = [(lst, olst), (ml, om), (ll, ol), (tc, ot), (nc, on), (rc, orr), (dc, odd), (d.dr, od)] ∧ (∃ x, ot.data = .cell x) ∧ (∃ x, on.data = .cell x) ∧ DrumO w d k' od ∧ k' ≤ k + 2 + i
theorem right_turn {w : World} {d : DA} {k k' i tk' : Nat} {lst ml ll tc nc rc dc I L : Addr} {olst om ol orr odd on ot od oI : Obj} {m₁ : Str → Option Value} {s₁ s₄ : Shared} {g h h' : Heap} {c c' : Option Value} {news : List (Addr × Obj)} {x y : Option Value}
    (hs : s₄ = { s₁ with heap := h', toks := tk' }) (F : Fr g L h' (fun y => if y = Str.ofString "way" then c' else if y = Str.ofString "way" then c else m₁ y)) (N : News g L h' news)
    (h1 : (lst, olst) ∈ news) (h2 : (ml, om) ∈ news) (h3 : (ll, ol) ∈ news) (h4 : (tc, ot) ∈ news) (h5 : (nc, on) ∈ news) (h6 : (rc, orr) ∈ news) (h7 : (dc, odd) ∈ news) (h8 : (d.dr, od) ∈ news) (h9 : (I, oI) ∈ news)
    (n1 : lst ≠ I) (n2 : ml ≠ I) (n3 : ll ≠ I) (n4 : tc ≠ I) (n5 : nc ≠ I) (n6 : rc ≠ I) (n7 : dc ≠ I) (n8 : d.dr ≠ I) (hl : h.get? lst = some olst) (hot : ot.data = .cell x) (hon : on.data = .cell y) (DO : DrumO w d k' od) (hk : k' ≤ k + 2 + (i + 1)) :
    Halt (∃ h₂ tk₂ m' news', s₄ = { s₁ with heap := h₂, toks := tk₂ } ∧ Fr g L h₂ m' ∧ News g L h₂ (news' ++ [(I, oI)]) ∧ (∀ p ∈ news', p.1 ≠ I) ∧ (∀ b ∈ [lst], ∀ o, h.get? b = some o → h₂.get? b = some o) ∧ JRight w d k lst ml ll tc nc rc dc olst om ol orr odd m₁ (i + 1) h₂ m' news') := by
  refine ⟨h', tk', _, [(lst, olst), (ml, om), (ll, ol), (tc, ot), (nc, on), (rc, orr), (dc, odd), (d.dr, od)], hs, fr_again F, fun p hp => N p ?_, fun p hp => ?_, keptN hl N h1, _, on, ot, od, k', rfl, rfl, ⟨_, hot⟩, ⟨_, hon⟩, DO, hk⟩
  · simp only [List.cons_append, List.nil_append, List.mem_cons, List.not_mem_nil, or_false] at hp
    rcases hp with rfl | rfl | rfl | rfl | rfl | rfl | rfl | rfl | rfl <;> assumption
  · simp only [List.mem_cons, List.not_mem_nil, or_false] at hp
    rcases hp with rfl | rfl | rfl | rfl | rfl | rfl | rfl | rfl <;> assumption
theorem joinW {α : Type} {g : Heap} {LL : Addr} {mm : Str → Option Value} {news : List (Addr × Obj)} {M : Model} {A : Around} {t : Sem α} {Q : α → Shared → Prop} {E : Value → Shared → Prop} {gs : Array GenState} {dr : Drawn} {os : OsState} {T : Prop}
    (a : (∀ h tk, Fr g LL h mm → News g LL h news → wpAny M A t Q E ⟨h, gs, dr, tk, os⟩) → T) (b : ∀ h tk, Fr g LL h mm → News g LL h news → wpAny M A t Q E ⟨h, gs, dr, tk, os⟩) : T := a b
theorem right_spec (w : World) {A₀ : Around} {env : Env} {outer : List Env} {base h₀ : Heap} {L : Addr} {m mg mb : Str → Option Value} {loose : List Str} {mean : ExcName → Option Value} {s : Shared} {d : DA} {b : BA} {rl : Addr} {rows : List Row} {k : Nat}
    {Q E : Value → Shared → Prop} (B : Below A₀ base outer h₀) (F : Fr h₀ L s.heap m) (X : (hd.heap_39 w.params).In h₀) (T : Top hd.view_39 loose mean mg mb h₀) (hf : env.frame = some L) (hk : env.scope.kind = .function)
    (hdk : d.Ok) (DR : DrumAt w s.heap d k) (ownd : d.dr ≠ L ∧ h₀.get? d.dr = none) (hk1 : k ≤ 900) (BK : BankAt PySem.Challenge.rw_rh0001_01.row.prog w s.heap b rows) (RA : RowsAt s.heap rl rows) (W : WF rows) (hlen : rows.length ≤ 50) (hpos : 0 < rows.length)
    (hr4 : d.dr ≠ b.nd) (hr6 : d.dr ≠ b.bd)
    (ret : ∀ h' tk' k', Fr h₀ L h' m → Mods [d.dr] s.heap h' → DrumAt w h' d k' → k' ≤ k + 5 → Q (.bool true) { s with heap := h', toks := tk' }) :
    wpAny (model PySem.Challenge.rw_rh0001_01.row.prog w) (AC 330 (env :: outer)) (call (.ref 216) [.ref d.dr, .ref b.bk, .ref rl]) Q E s := by
  w_top off
  revert X; k_fill; intro X
  obtain ⟨od, ed, DO, hrw⟩ := id DR
  have hdc := DO.cls
  have N₀ := News.cons ed ownd.1 ownd.2 News.nil
  k_dflt (refine' enterC (binds := [(Str.ofString "drum", .ref d.dr), (Str.ofString "bank", .ref b.bk), (Str.ofString "rows", .ref rl)]) B F X N₀ T hf hk ?k6 ?k7 ?k8 ?k9 ?kB ?kC ?c2 ?c3 ?c4 ?_; (case k6 => k_is); (case k7 => k_is); (case k8 => exact rfl); (case k9 => exact rfl); (case kB => exact rfl); (case kC => exact rfl); (case c2 => exact rfl); (case c3 => exact rfl); (case c4 => exact rfl))
  clear F B X T
  intro LL MM g h₁ tk₁ cells gs dr os PQ hPQ F N Y B X T keep back low EV AA
  have TKg : TK s.heap g := ground_tk N₀ keep (by
    intro p hp; rw [List.mem_singleton.mp hp]; exact noTup_cls (by rw [hdc]; simp))
  have keepM : Mods [d.dr] s.heap g := fun a o e n => keep a o e (by simpa using n)
  have ne_cls : ∀ {a : Addr} {o : Obj}, s.heap.get? a = some o → o.cls ≠ .type "dict" → a ≠ d.dr := fun e hc => ne_of_cls e ed (by rw [hdc]; exact hc)
  obtain ⟨hi1, t1, t2, t3, t4, bn, hi2⟩ := BK.inst
  have BKg := BK.mods keepM TKg (by
    obtain ⟨_, ⟨_, _, x1, _⟩, _, ⟨_, _, x3, _⟩, ⟨_, _, x4, _⟩⟩ := BK
    intro a ha
    rw [List.mem_singleton.mp ha]
    exact ⟨(ne_cls hi1 (by simp)).symm, hr6, (ne_cls x1 (by simp)).symm, hr4, (ne_cls x3 (by simp)).symm, (ne_cls x4 (by simp)).symm⟩)
  have IB : InstB g b.bk b.bd 171 _ bn := ⟨BKg.inst.1, keepM _ _ hi2 (by simpa using hr6.symm)⟩
  obtain ⟨rvs, rn, er, rr⟩ := RA
  have hrl : rvs.length = rows.length := by have := readsAll_length rr; simpa using this
  have erg := keepM _ _ er (by simpa using ne_cls er (by simp))
  have RAg : RowsAt g rl rows := ⟨rvs, rn, erg, readsAll_tk TKg (tup_rows rows) rr⟩
  have hrwg : g.IsList d.rw (List.toArray d.rvs) := by
    obtain ⟨o, e, hc, r⟩ := hrw
    exact ⟨o, keepM _ _ e (by simpa using ne_cls e (by rw [hc]; simp)), hc, r⟩
  have ownL := ownd
  have ownd : d.dr ≠ LL ∧ g.get? d.dr = none := (N _ (List.mem_append_right _ (.head _))).2
  clear keep back BK DR hi1 hi2 er rr ed hrw ne_cls keepM
  have l1 := ltN (low (d.dr, _) (.head _))
  dsimp only at l1
  k_cells Y
  simp only [List.cons_append, List.nil_append] at N
  (rename Obj.data _ = Data.cell (bindC _ _ _ (Str.ofString "drum")) => hc1); (rename Obj.data _ = Data.cell (bindC _ _ _ (Str.ofString "n")) => hc3); (rename Obj.data _ = Data.cell (bindC _ _ _ (Str.ofString "term")) => hc4)
  k_steps
  (rename Fr _ _ _ _ => F1); (rename News _ _ _ _ => N1)
  refine use_AC (sums_spec w B F1 X T rfl rfl (RAg.mods (as := []) (fun b o e _ => F1.keep b o e) (fun hm => nomatch hm) (TK.of_keep F1.keep)) W (by first | exact Mine.le_small (by assumption) (by decide) | omega) fun tp ml ll mvs nm lvs nl h2 tk2 F2 M2 NS im il => ?_) rfl rfl (Nat.le_of_ble_eq_true rfl) (Nat.le_of_ble_eq_true rfl)
  have N2 := News.app NS (News.mods N1 M2 (fun _ _ hm => nomatch hm))
  simp only [List.cons_append, List.nil_append] at N2
  dsimp only at F2 N2 ⊢
  clear F1 N1 M2 NS
  have im' : True ∧ IntsAre mvs (wts rows) := ⟨trivial, im⟩
  have il' : True ∧ IntsAre lvs (dps rows) := ⟨trivial, il⟩
  have hml : mvs.length = rows.length := by rw [im.length]; exact scan_length _ _
  have hll : lvs.length = rows.length := by rw [il.length]; exact scan_length _ _
  clear im il
  k_steps
  refine for_ledger (g := g) (L := LL) rfl ?_ (fun _ => rfl)
  intro PI0 hPI0
  k_steps
  k_dflt (refine' comp_walk ?a1 ?a2 ?a3 ?a4 ?a5 ?_; (case a1 => exact rfl); (case a2 => exact rfl); (case a3 => exact rfl); (case a4 => exact rfl); (case a5 => exact rfl))
  intro PI hPI
  k_steps
  (rename Fr _ _ _ _ => F5); (rename News _ _ _ _ => N5); (rename IsRange _ _ _ _ _ _ _ _ => hR)
  have hS : ∀ a ∈ [d.dr], g.get? a = none := fun a ha => by rw [List.mem_singleton.mp ha]; exact ownd.2
  have hsd : _ ≠ none := fun e => Option.some_ne_none _ ((News.get N5 (a := d.dr) (by k_mem)).symm.trans e)
  have hsr : _ ≠ none := fun e => Option.some_ne_none _ ((F5.keep _ _ hrwg.choose_spec.1).symm.trans e)
  refine iter_upto (n := 2) rfl hR (by decide) fun it s₂ hIt => ?_
  refine hPI _ _ _ ?_
  refine ⟨_, _, _, [d.dr], fun i ys h => ∃ k' ks', DrumAt w h d k' ∧ k' ≤ k + i ∧ ks'.length = i ∧ (∀ q ∈ ks', q < rows.length) ∧ ReadsAll g ys (ks'.map pin) [], hIt, by decide, (fun a ha => ⟨by rw [List.mem_singleton.mp ha]; exact ⟨_, News.get N5 (by k_mem)⟩, (fun hm => nomatch hm)⟩), ?_, ⟨k, [], ⟨_, News.get N5 (by k_mem), DO, stays_list F5.keep hrwg⟩, Nat.le_refl _, rfl, (fun _ hm => nomatch hm), .nil⟩, ?_, ?_⟩
  · rintro i ys h h' ⟨k', ks', DR', r⟩ near
    exact ⟨k', ks', DR'.near near hsd hsr, r⟩
  · intro C i v ys h tk mC hC hCs hi hP hInv hns hm old
    obtain ⟨k', ks', DR', hk', hl', hq', hr'⟩ := hInv
    refine DrumAt.openK DR' fun od' ed' DO' _ => ?_
    have FC := comp_frame F5 hCs hns old hS
    have FL : Halt (Fr _ _ _ _) := comp_outer F5 old hS (fun hm => ownd.1 (List.mem_singleton.mp hm).symm)
    have hdC := neN (Nat.ne_of_lt (Nat.lt_of_lt_of_le (Heap.lt_size (News.get N5 (a := d.dr) (by k_mem))) hCs))
    have NC := News.cons ed' hdC ownd.2 (News.push (comp_keep (a := LL + 1 + 1) N5 (by k_mem) hCs old (fun hm => by have := eqN (a := LL + 1 + 1) (List.mem_singleton.mp hm); omega)) (News.push (comp_keep (a := LL + 1) N5 (by k_mem) hCs old (fun hm => by have := eqN (a := LL + 1) (List.mem_singleton.mp hm); omega)) News.nil))
    refine wpAny_pure ⟨_, _, rfl, Mods.refl _ _, ?_⟩
    rw [if_pos rfl]
    clear hIt F5 N5 hsd hsr
    dsimp only at FC NC ⊢
    k_steps
    refine use_AC (roll_spec w B (halt FL) X T rfl rfl hdk ⟨od', ed', DO', stays_list (halt FL).keep hrwg⟩ ownd.1 ownd.2 (by first | exact Mine.le_small (by assumption) (by decide) | omega) (by first | exact Mine.le_small (by assumption) (by decide) | omega) (by first | exact Mine.le_small (by assumption) (by decide) | omega) fun q t3 h3 tk3 F6 M6 D6 hr2 => ?_) rfl rfl (Nat.le_of_ble_eq_true rfl) (Nat.le_of_ble_eq_true rfl)
    refine ⟨_, _, rfl, M6, k' + 1, ks' ++ [q], D6, by omega, by simp [hl'], fun z hz => ?_, by rw [List.map_append]; exact reads_snoc hr' (.int _ _)⟩
    rcases List.mem_append.mp hz with hz | hz
    · exact hq' z hz
    · rw [List.mem_singleton.mp hz]; omega
  · intro D ys h tk kk hD hInv hDo old
    obtain ⟨k', ks', DR', hk', hl', hq', hr'⟩ := hInv
    refine DrumAt.openK DR' fun od' ed' DO' _ => ?_
    have hDn := Heap.get?_none_of_le hD
    have FL := comp_outer F5 old hS (fun hm => ownd.1 (List.mem_singleton.mp hm).symm)
    have nq1 := neN (ne_obj (News.get N5 (a := ml) (by k_mem)) (News.get N5 (a := d.dr) (by k_mem)) fun e => by have := congrArg Obj.cls e; simp [hdc] at this)
    have nq2 := neN (ne_obj (News.get N5 (a := ll) (by k_mem)) (News.get N5 (a := d.dr) (by k_mem)) fun e => by have := congrArg Obj.cls e; simp [hdc] at this)
    have nq3 := neN (ne_obj (News.get N5 (a := tp) (by k_mem)) (News.get N5 (a := d.dr) (by k_mem)) fun e => by have := congrArg Obj.cls e; simp [hdc] at this)
    have nq4 := neN (ne_obj (News.get N5 (a := ml) (by k_mem)) (News.get N5 (a := LL + 1 + 1 + 1) (by k_mem)) fun e => by have := congrArg Obj.data e; rw [hc3] at this; cases this)
    have nq5 := neN (ne_obj (News.get N5 (a := ll) (by k_mem)) (News.get N5 (a := LL + 1 + 1 + 1) (by k_mem)) fun e => by have := congrArg Obj.data e; rw [hc3] at this; cases this)
    have nq6 := neN (ne_obj (News.get N5 (a := ml) (by k_mem)) (News.get N5 (a := LL + 1 + 1 + 1 + 1) (by k_mem)) fun e => by have := congrArg Obj.data e; rw [hc4] at this; cases this)
    have nq7 := neN (ne_obj (News.get N5 (a := ll) (by k_mem)) (News.get N5 (a := LL + 1 + 1 + 1 + 1) (by k_mem)) fun e => by have := congrArg Obj.data e; rw [hc4] at this; cases this)
    have NL := News.cons hDo (Fr.ne_new F5 hDn) (Fr.base_new F5 hDn) (news_redo N5 old (by k_updF) ed')
    dsimp only at FL NL ⊢
    clear hIt F5 N5 hsd hsr old
    obtain ⟨q0, q1, rfl⟩ := len2 hl'
    obtain ⟨u0, u1, rfl⟩ := reads2 hr'
    k_steps
    (rename Fr _ _ _ _ => F1); (rename News _ _ _ _ => N1)
    refine iter_list rfl (isListN N1 (by k_mem)) fun it s₂ hIt => ?_
    refine hPI0 _ _ _ ?_
    refine ⟨_, _, _, _, _, JRight w d k _ ml ll _ _ _ _ _ _ _ _ _ _, hIt, fr_same F1 (Str.ofString "way"), News.pick8 N1, fun _ _ _ _ _ j _ _ _ => j, ⟨_, _, _, _, k', rfl, rfl, ⟨_, hc4⟩, ⟨_, hc3⟩, DO', by omega⟩, ?_, ?_⟩
    · clear hIt N1 F1 hc3 hc4 DO'
      rintro i v h tk m news oI hi hP ⟨c, on, ot, od, k', rfl, rfl, ⟨xt, hot⟩, ⟨xn, hon⟩, DO, hk'⟩ F N hne gI hT R hRR
      obtain ⟨n, t, rfl, hn⟩ : ∃ (n : Nat) (t : Tok), v = .int (n : Int) t ∧ n < rows.length := by
        rcases three hP with rfl | rfl | rfl
        · exact ⟨rows.length - 1, _, by congr 1; omega, by omega⟩
        · exact ⟨q0, _, rfl, hq' q0 (by simp)⟩
        · exact ⟨q1, _, rfl, hq' q1 (by simp)⟩
      have hls := News.get N (.head _)
      have ne1 := neN (hne _ (.head _))
      have ne2 := neN (hne _ (.tail _ (.head _)))
      have ne3 := neN (hne _ (.tail _ (.tail _ (.head _))))
      have ne4 := neN (hne _ (.tail _ (.tail _ (.tail _ (.head _)))))
      have ne5 := neN (hne _ (.tail _ (.tail _ (.tail _ (.tail _ (.head _))))))
      have ne6 := neN (hne _ (.tail _ (.tail _ (.tail _ (.tail _ (.tail _ (.head _)))))))
      have ne7 := neN (hne _ (.tail _ (.tail _ (.tail _ (.tail _ (.tail _ (.tail _ (.head _))))))))
      have ne8 := neN (hne _ (.tail _ (.tail _ (.tail _ (.tail _ (.tail _ (.tail _ (.tail _ (.head _)))))))))
      obtain ⟨tm1, hx1⟩ := ints_get im'.2 n (by rw [wts, scan_length]; exact hn)
      obtain ⟨tm2, hx2⟩ := ints_get il'.2 n (by rw [dps, scan_length]; exact hn)
      have hdb := dps_bound W n hn
      have hi3 : i < 3 := hi
      dsimp only at F N hls ne1 ne2 ne3 ne4 ne5 ne6 ne7 ne8 ⊢
      simp only [List.cons_append, List.nil_append] at N
      k_steps
      (rename Fr _ _ _ _ => F1); (rename News _ _ _ _ => N1)
      refine use_AC (weight_spec w B F1 X T rfl rfl (BKg.mods (as := []) (fun b o e _ => F1.keep b o e) (TK.of_keep F1.keep) (fun a ha => nomatch ha)) hn (by first | exact Mine.le_small (by assumption) (by decide) | omega) fun t5 h3 tk3 F3 M3 => ?_) rfl rfl (Nat.le_of_ble_eq_true rfl) (Nat.le_of_ble_eq_true rfl)
      have N3 := News.mods N1 M3 (fun _ _ hm => nomatch hm)
      dsimp only at F3 N3 ⊢
      clear F1 N1 M3
      k_steps
      (rename Fr _ _ _ _ => F1); (rename News _ _ _ _ => N1)
      refine use_AC (depth_spec w B F1 X T rfl rfl (BKg.mods (as := []) (fun b o e _ => F1.keep b o e) (TK.of_keep F1.keep) (fun a ha => nomatch ha)) hn (by first | exact Mine.le_small (by assumption) (by decide) | omega) fun t6 h4 tk4 F4 M4 => ?_) rfl rfl (Nat.le_of_ble_eq_true rfl) (Nat.le_of_ble_eq_true rfl)
      have N4 := News.mods N1 M4 (fun _ _ hm => nomatch hm)
      dsimp only at F4 N4 ⊢
      clear F1 N1 M4
      k_steps
      (rename Fr _ _ _ _ => F1); (rename News _ _ _ _ => N1)
      refine use_AC (term_spec w B F1 X T rfl rfl (BKg.mods (as := []) (fun b o e _ => F1.keep b o e) (TK.of_keep F1.keep) (fun a ha => nomatch ha)) W (by first | exact Mine.le_small (by assumption) (by decide) | omega) hn fun tp2 h5 tk5 F5 M5 hR5 => ?_) rfl rfl (Nat.le_of_ble_eq_true rfl) (Nat.le_of_ble_eq_true rfl)
      have N5 := News.mods N1 M5 (fun _ _ hm => nomatch hm)
      refine tail_newK F5 fun T1 NT1 TT1 => ?_
      have hTd := TT1.ne NT1 (News.get N5 (a := d.dr) (by k_mem)) (noTup_cls (by rw [DO.cls]; simp))
      have hTt := TT1.ne NT1 (News.get N5 (a := LL + 1 + 1 + 1 + 1) (by k_mem)) (noTup_cell hot)
      have N5' := News.app N5 NT1
      simp only [List.cons_append, List.nil_append] at N5'
      dsimp only at F5 N5' ⊢
      clear F1 N1 M5 N5 NT1
      k_steps
      (rename Fr _ _ _ _ => F1); (rename News _ _ _ _ => N1)
      refine use_AC (roll_spec w B F1 X T rfl rfl hdk ⟨od, News.get N1 (a := d.dr) (by k_mem), DO, stays_list F1.keep hrwg⟩ ownd.1 ownd.2 (by first | exact Mine.le_small (by assumption) (by decide) | omega) (by decide) (by decide) fun wayN tw h6 tk6 F6 M6 D6 hw1 => ?_) rfl rfl (Nat.le_of_ble_eq_true rfl) (Nat.le_of_ble_eq_true rfl)
      have hw0 : (0 : Int) ≤ (wayN : Int) := Int.natCast_nonneg _
      refine DrumAt.openK D6 fun od2 ed2 DO2 _ => ?_
      have N6 := news_redo N1 M6 (by k_updF) ed2
      dsimp only at F6 N6 ⊢
      clear F1 N1 M6 ed2
      k_steps
      have hpass : Passed := trivial
      refine' joinW (fun hK => ?pa) ?pb
      case pa =>
        show wpAny _ _ _ _ _ _
        by_cases hle : (wts rows).getD n 0 ≤ 60
        · k_steps
          (rename Fr _ _ _ _ => F1); (rename News _ _ _ _ => N1)
          refine use_AC (spelled_spec w W (by first | exact Mine.le_small (by assumption) (by decide) | omega) n 380 hn (by first | exact Mine.le_small (by assumption) (by decide) | omega) B F1 X T rfl rfl (RAg.mods (as := []) (fun b o e _ => F1.keep b o e) (fun hm => nomatch hm) (TK.of_keep F1.keep)) fun tp3 h7 tk7 F7 M7 R7 => ?_) rfl rfl (Nat.le_of_ble_eq_true rfl) (Nat.le_of_ble_eq_true rfl)
          have N7 := News.mods N1 M7 (fun _ _ hm => nomatch hm)
          have k7 := TT1.tk F7 N7 (fun p hp => by simp only [List.mem_cons, hp, or_true])
          have R7' := reads_tk k7 (tup_tm W n) hR5
          dsimp only at F7 N7 R7 R7' ⊢
          clear M7 k7
          k_steps
          refine ne_terms W hn (by omega) R7' R7 (Nat.le_of_ble_eq_true rfl) ?_
          clear R7 R7'
          k_steps
          (rename Fr _ _ _ _ => F1); (rename News _ _ _ _ => N1)
          exact hK _ _ F1 N1
        · k_steps
          (rename Fr _ _ _ _ => F1); (rename News _ _ _ _ => N1)
          exact hK _ _ F1 N1
      intro h tk F N
      k_dflt (refine' comp_walk ?a1 ?a2 ?a3 ?a4 ?a5 ?_; (case a1 => exact rfl); (case a2 => exact rfl); (case a3 => exact rfl); (case a4 => exact rfl); (case a5 => exact rfl))
      intro PI hPI
      k_steps
      (rename Fr _ _ _ _ => F8); (rename News _ _ _ _ => N8)
      have k8 := TT1.tk F8 N8 (fun p hp => by simp only [List.mem_cons, hp, or_true])
      have hRt := reads_tk k8 (tup_tm W n) hR5
      have hpw := pow_room (m := ((dps rows).getD n 0).toNat) (by omega)
      refine iter_tuple rfl (News.isTup N8 (by k_mem)) fun it s₂ hIt => ?_
      refine hPI _ _ _ ?_
      refine ⟨_, _, _, [], fun i ys h => ys = [], hIt, (Nat.le_of_ble_eq_true rfl), (fun a ha => nomatch ha), fun i ys h h' a _ => a, rfl, ?_, ?_⟩
      · intro C i v ys h tk mC hC hCs hi hP hInv hns hm old
        subst hInv
        obtain ⟨x, u, rfl, hx0, hx1⟩ : ∃ (x : Int) (u : Tok), v = .int x u ∧ 0 ≤ x ∧ x < 2 ^ 60 := by
          rcases three hP with rfl | rfl | rfl
          · exact ⟨_, _, rfl, by decide, by decide⟩
          · exact ⟨_, _, rfl, hpw.1, hpw.2⟩
          · exact ⟨_, _, rfl, hw0, by omega⟩
        have FC := comp_frame F8 hCs hns old (fun a ha => nomatch ha)
        have FL : Halt (Fr _ _ _ _) := comp_outer F8 old (fun a ha => nomatch ha) (fun hm => nomatch hm)
        have NC := News.push (comp_keep (a := LL + 1 + 1) N8 (by k_mem) hCs old (fun hm => nomatch hm)) (News.push (comp_keep (a := LL + 1 + 1 + 1) N8 (by k_mem) hCs old (fun hm => nomatch hm)) (News.push (comp_keep (a := LL + 1 + 1 + 1 + 1) N8 (by k_mem) hCs old (fun hm => nomatch hm)) News.nil))
        have hRc := reads_tk (fun b o e _ => old b o e (fun hm => nomatch hm)) (tup_tm W n) hRt
        refine wpAny_tests_one ?_
        clear hIt F8 N8 k8 hRt
        dsimp only at FC NC ⊢
        k_steps
        refine use_AC (way_spec w B (halt FL) X T rfl rfl (RAg.mods (as := []) (fun b o e _ => (halt FL).keep b o e) (fun hm => nomatch hm) (TK.of_keep (halt FL).keep)) W (by first | exact Mine.le_small (by assumption) (by decide) | omega) hn hRc hx0 hx1 fun h9 tk9 F9 M9 => ?_) rfl rfl (Nat.le_of_ble_eq_true rfl) (Nat.le_of_ble_eq_true rfl)
        clear F9
        k_steps
        exact ⟨_, _, rfl, M9, rfl⟩
      · intro D ys h tk kk hD hInv hDo old
        subst hInv
        have hDn := Heap.get?_none_of_le hD
        have FL := comp_outer F8 old (fun a ha => nomatch ha) (fun hm => nomatch hm)
        have NL := News.cons hDo (Fr.ne_new F8 hDn) (Fr.base_new F8 hDn) (News.mods N8 old (fun _ _ hm => nomatch hm))
        dsimp only at FL NL ⊢
        clear hIt F8 N8 k8 hRt old
        k_steps
        (rename Fr _ _ _ _ => F1); (rename News _ _ _ _ => N1)
        refine hRR _ _ ?_
        show Halt _
        exact right_turn (s₁ := ⟨h, gs, dr, tk, os⟩) rfl F1 N1 (by k_mem) (by k_mem) (by k_mem) (by k_mem) (by k_mem) (by k_mem) (by k_mem) (by k_mem) (by k_mem) ne1 ne2 ne3 ne4 ne5 ne6 ne7 ne8 hls (by assumption) (by assumption) DO2 (by omega)
    · rintro h tk m news ⟨c, on, ot, od, k', rfl, rfl, ⟨xt, hot⟩, ⟨xn, hon⟩, DO, hk'⟩ F N
      clear N1 F1 hIt
      k_steps
      (rename Fr _ _ _ _ => F1); (rename News _ _ _ _ => N1)
      refine hPQ _ _ _ ?_
      refine back_mk F1 N1 fun F₂ N₂ M₂ => ret _ _ k' F₂ M₂ ⟨od, News.get N1 (by k_mem), DO, stays_list F1.keep hrwg⟩ ?_
      have : k' ≤ k + 2 + 3 := hk'
      omega
end Mine
namespace Mine
/-- the addresses of the law's own objects -/
abbrev lawAs (b : BA) (rl : Addr) (d : DA) : List Addr := [b.bk, b.bd, rl, d.dr, d.rw, b.nl, b.nd, b.wl, b.dl]
structure Sep (b : BA) (rl : Addr) (d : DA) : Prop where
  hb : b.Ok
  hd : d.Ok
  r1 : rl ≠ b.nl
  r2 : rl ≠ b.wl
  r3 : rl ≠ b.dl
  r4 : d.dr ≠ b.nd
  r6 : d.dr ≠ b.bd
  r5 : d.rw ∉ [d.dr, rl, b.nl, b.nd, b.wl, b.dl]
  r7 : d.dr ∉ [rl, b.nl, b.nd, b.wl, b.dl]
  r8 : d.dr ≠ b.bk
theorem law_open {w : World} {g h : Heap} {L : Addr} {m : Str → Option Value} {b : BA} {rl : Addr} {d : DA} {rows : List Row} {k : Nat} (F : Fr g L h m) (BK : BankAt PySem.Challenge.rw_rh0001_01.row.prog w h b rows) (RA : RowsAt h rl rows) (DR : DrumAt w h d k)
    (own : ∀ a ∈ lawAs b rl d, a ≠ L ∧ g.get? a = none) :
    ∀ {G : Prop}, (∀ obd rvs rn T, (∃ t1 t2 t3 t4 n, obd = dictOf [⟨PyData.keyHash w.params "nodes", .str "nodes" t1, .ref b.nl⟩, ⟨PyData.keyHash w.params "numbers", .str "numbers" t2, .ref b.nd⟩,
        ⟨PyData.keyHash w.params "weights", .str "weights" t3, .ref b.wl⟩, ⟨PyData.keyHash w.params "depths", .str "depths" t4, .ref b.dl⟩] n) → (∀ D, AllLt D T → ∀ a ∈ [d.dr, d.rw, b.nl, b.nd, b.wl, b.dl], a < D) →
      News g L h ((b.bk, instObj 171 b.bd) :: (b.bd, obd) :: (rl, listOf (List.toArray rvs) rn) :: T) → rvs.length = rows.length →
      (∀ h' m', Fr g L h' m' → News g L h' ((b.bk, instObj 171 b.bd) :: (b.bd, obd) :: (rl, listOf (List.toArray rvs) rn) :: T) →
        BankAt PySem.Challenge.rw_rh0001_01.row.prog w h' b rows ∧ RowsAt h' rl rows ∧ DrumAt w h' d k ∧ ReadsAll h' rvs (rows.map rowD) []) → G) → G := by
  obtain ⟨⟨i1, t1, t2, t3, t4, n, i2⟩, ⟨nvs, nn, en, rnn⟩, ⟨ond, ks, ed, NX, KA⟩, ⟨wvs, wn, ew, iw⟩, ⟨dvs, dn, ee, id⟩⟩ := BK
  obtain ⟨rvs, rn, er, rr⟩ := RA
  obtain ⟨od, eo, DO, orw, erw, hcw, nw, hdw⟩ := DR
  obtain ⟨T, NT, TT⟩ := tail_new F
  have o (a : Addr) (ha : a ∈ lawAs b rl d) := own a ha
  intro G kk
  refine kk _ rvs rn ((d.dr, od) :: (d.rw, orw) :: (b.nl, listOf (List.toArray nvs) nn) :: (b.nd, ond) :: (b.wl, listOf (List.toArray wvs) wn) :: (b.dl, listOf (List.toArray dvs) dn) :: T) ⟨t1, t2, t3, t4, n, rfl⟩ (fun D l a ha => ?_) ?_ (by have := readsAll_length rr; simpa using this) fun h' m' F' N' => ?_
  · simp only [List.mem_cons, List.not_mem_nil, or_false] at ha
    rcases ha with rfl | rfl | rfl | rfl | rfl | rfl
    · exact l.1
    · exact l.2.1
    · exact l.2.2.1
    · exact l.2.2.2.1
    · exact l.2.2.2.2.1
    · exact l.2.2.2.2.2.1
  · exact News.cons i1 (o _ (by k_mem)).1 (o _ (by k_mem)).2 (News.cons i2 (o _ (by k_mem)).1 (o _ (by k_mem)).2 (News.cons er (o _ (by k_mem)).1 (o _ (by k_mem)).2 (News.cons eo (o _ (by k_mem)).1 (o _ (by k_mem)).2 (News.cons erw (o _ (by k_mem)).1 (o _ (by k_mem)).2
      (News.cons en (o _ (by k_mem)).1 (o _ (by k_mem)).2 (News.cons ed (o _ (by k_mem)).1 (o _ (by k_mem)).2 (News.cons ew (o _ (by k_mem)).1 (o _ (by k_mem)).2 (News.cons ee (o _ (by k_mem)).1 (o _ (by k_mem)).2 NT))))))))
  · have kt : TK h h' := TT.tk F' N' (fun p hp => by simp only [List.mem_cons, hp, or_true])
    have gt {p : Addr × Obj} (hp : p ∈ _) := (N' p hp).1
    refine ⟨⟨⟨gt (.head _), t1, t2, t3, t4, n, gt (.tail _ (.head _))⟩, ⟨nvs, nn, gt (.tail _ (.tail _ (.tail _ (.tail _ (.tail _ (.head _)))))), readsAll_tk kt (tup_nodes _) rnn⟩, ⟨ond, ks, gt (.tail _ (.tail _ (.tail _ (.tail _ (.tail _ (.tail _ (.head _))))))), NX, KA.tk kt⟩,
      ⟨wvs, wn, gt (.tail _ (.tail _ (.tail _ (.tail _ (.tail _ (.tail _ (.tail _ (.head _)))))))), iw⟩, ⟨dvs, dn, gt (.tail _ (.tail _ (.tail _ (.tail _ (.tail _ (.tail _ (.tail _ (.tail _ (.head _))))))))), id⟩⟩,
      ⟨rvs, rn, gt (.tail _ (.tail _ (.head _))), readsAll_tk kt (tup_rows _) rr⟩, ⟨od, gt (.tail _ (.tail _ (.tail _ (.head _)))), DO, orw, gt (.tail _ (.tail _ (.tail _ (.tail _ (.head _))))), hcw, nw, hdw⟩, readsAll_tk kt (tup_rows _) rr⟩
theorem and4 {A B C D G : Prop} (h : A ∧ B ∧ C ∧ D) (k : A → B → C → D → G) : G := k h.1 h.2.1 h.2.2.1 h.2.2.2
theorem and2 {A B G : Prop} (h : A ∧ B) (k : A → B → G) : G := k h.1 h.2
theorem nums_nil {prog : Program} {w : World} {h : Heap} {nd : Addr} {o : Obj} (e : h.get? nd = some o) (x : o.IsDictOf (PySem.intKind prog w) []) : NumsAt prog w h nd [] := by
  obtain ⟨es, ep, a, b, c, d, f⟩ := x
  have hes : es.toList = [] := List.length_eq_zero_iff.mp d.length
  exact ⟨o, [], e, ⟨[], es, ep, a, b, by simpa using hes, rfl, rfl, fun i x hx => by simp at hx⟩, fun i r k hr => by simp at hr⟩
theorem law_init {w : World} {g h : Heap} {L kd tmp rl dl wl nd nl bk bd rw sl dr : Addr} {ok ot ond odr : Obj} {n1 n2 n3 n4 n5 n6 : Nat} {osl : Obj} {t1 t2 t3 t4 t5 t6 : Tok} {ys : List Value} {rns : List Int} {u : Tok}
    (N : News g L h [(kd, ok), (tmp, ot), (rl, listOf #[] n1), (dl, listOf #[] n2), (wl, listOf #[] n3), (nd, ond), (nl, listOf #[] n4), (bk, instObj 171 bd),
      (bd, dictOf [⟨PyData.keyHash w.params "nodes", .str "nodes" t1, .ref nl⟩, ⟨PyData.keyHash w.params "numbers", .str "numbers" t2, .ref nd⟩, ⟨PyData.keyHash w.params "weights", .str "weights" t3, .ref wl⟩, ⟨PyData.keyHash w.params "depths", .str "depths" t4, .ref dl⟩] n5),
      (rw, listOf (List.toArray ys) n6), (sl, osl), (dr, odr)]) (hnd : ond.IsDictOf (PySem.intKind PySem.Challenge.rw_rh0001_01.row.prog w) [])
    (hdr : odr.IsDictOf (PySem.strKind PySem.Challenge.rw_rh0001_01.row.prog w) (strPairs [(.str (Str.ofString "row") t5, .ref rw), (.str (Str.ofString "at") t6, .int 0 u)])) (hI : IntsAre ys rns) (h50 : rns.length ≤ 50) (lo : (nd == sysModules) = false) (lo2 : (dr == sysModules) = false)
    (l : tmp < kd ∧ rl < kd ∧ dl < kd ∧ wl < kd ∧ nd < kd ∧ nl < kd ∧ bk < kd ∧ bd < kd ∧ rw < kd ∧ sl < kd ∧ dr < kd)
    (l1 : dl < rl ∧ wl < rl ∧ nd < rl ∧ nl < rl ∧ bk < rl ∧ bd < rl ∧ rw < rl ∧ sl < rl ∧ dr < rl) (l2 : wl < dl ∧ nd < dl ∧ nl < dl ∧ bk < dl ∧ bd < dl ∧ rw < dl ∧ sl < dl ∧ dr < dl)
    (l3 : nd < wl ∧ nl < wl ∧ bk < wl ∧ bd < wl ∧ rw < wl ∧ sl < wl ∧ dr < wl) (l4 : nl < nd ∧ bk < nd ∧ bd < nd ∧ rw < nd ∧ sl < nd ∧ dr < nd) (l5 : bk < nl ∧ bd < nl ∧ rw < nl ∧ sl < nl ∧ dr < nl) (l6 : rw < bd ∧ sl < bd ∧ dr < bd) (l7 : sl < rw ∧ dr < rw) :
    ∃ (b : BA) (d : DA), (b.bk = bk ∧ b.bd = bd ∧ b.nl = nl ∧ b.nd = nd ∧ b.wl = wl ∧ b.dl = dl) ∧ d.dr = dr ∧ d.rw = rw ∧
    BankAt PySem.Challenge.rw_rh0001_01.row.prog w h b [] ∧ RowsAt h rl [] ∧ DrumAt w h d 0 ∧ Sep b rl d ∧ ∀ a ∈ lawAs b rl d, a ≠ L ∧ g.get? a = none := by
  have gt {p : Addr × Obj} (hp : p ∈ _) := (N p hp).1
  have ow {p : Addr × Obj} (hp : p ∈ _) := (N p hp).2
  refine ⟨⟨bk, bd, nl, nd, wl, dl⟩, ⟨dr, rw, ys, rns⟩, ⟨rfl, rfl, rfl, rfl, rfl, rfl⟩, rfl, rfl, ⟨⟨gt (p := (bk, _)) (by k_mem), t1, t2, t3, t4, n5, gt (p := (bd, _)) (by k_mem)⟩, ⟨[], n4, gt (p := (nl, _)) (by k_mem), .nil⟩, nums_nil (gt (p := (nd, _)) (by k_mem)) hnd, ⟨[], n3, gt (p := (wl, _)) (by k_mem), .nil⟩, ⟨[], n2, gt (p := (dl, _)) (by k_mem), .nil⟩⟩,
    ⟨[], n1, gt (p := (rl, _)) (by k_mem), .nil⟩, ⟨odr, gt (p := (dr, _)) (by k_mem), ⟨u, hdr⟩, _, gt (p := (rw, _)) (by k_mem), rfl, n6, rfl⟩, ?_, ?_⟩
  · have nl_ : ∀ {a b : Nat}, a < b → (a : Addr) ≠ b := fun h => Nat.ne_of_lt h
    have ng_ : ∀ {a b : Nat}, a < b → (b : Addr) ≠ a := fun h => Nat.ne_of_gt h
    refine ⟨⟨nl_ l3.2.1, nl_ l2.2.2.1, nl_ l2.1, nl_ l4.2.2.1, lo⟩, ⟨hI, h50, lo2⟩, ng_ l1.2.2.2.1, ng_ l1.2.1, ng_ l1.1, nl_ l4.2.2.2.2.2, nl_ l6.2.2, ?_, ?_, ne_of_cls (gt (p := (dr, odr)) (by k_mem)) (gt (p := (bk, instObj 171 bd)) (by k_mem)) (by obtain ⟨_, _, q, _⟩ := hdr; rw [q.1]; simp)⟩
    · simp only [List.mem_cons, List.not_mem_nil, or_false, not_or]
      exact ⟨ng_ l7.2, nl_ l1.2.2.2.2.2.2.1, nl_ l5.2.2.1, nl_ l4.2.2.2.1, nl_ l3.2.2.2.2.1, nl_ l2.2.2.2.2.2.1⟩
    · simp only [List.mem_cons, List.not_mem_nil, or_false, not_or]
      exact ⟨nl_ l1.2.2.2.2.2.2.2.2, nl_ l5.2.2.2.2, nl_ l4.2.2.2.2.2, nl_ l3.2.2.2.2.2.2, nl_ l2.2.2.2.2.2.2.2⟩
  · intro a ha
    simp only [lawAs, List.mem_cons, List.not_mem_nil, or_false] at ha
    rcases ha with rfl | rfl | rfl | rfl | rfl | rfl | rfl | rfl | rfl
    · exact ow (p := (a, instObj 171 bd)) (by k_mem)
    · exact ow (p := (a, _)) (by k_mem)
    · exact ow (p := (a, _)) (by k_mem)
    · exact ow (p := (a, _)) (by k_mem)
    · exact ow (p := (a, _)) (by k_mem)
    · exact ow (p := (a, _)) (by k_mem)
    · exact ow (p := (a, _)) (by k_mem)
    · exact ow (p := (a, _)) (by k_mem)
    · exact ow (p := (a, _)) (by k_mem)
theorem drum_noTup {w : World} {h : Heap} {d : DA} {k : Nat} (DR : DrumAt w h d k) : ∀ a ∈ [d.dr], ∀ o, h.get? a = some o → ¬ tupO o := by
  intro a ha o e
  obtain ⟨od, eo, DO, _⟩ := DR
  rw [List.mem_singleton.mp ha, eo] at e
  cases e
  exact noTup_cls (by rw [DO.cls]; simp)
theorem after_dr {w : World} {h h' : Heap} {b : BA} {rl : Addr} {d : DA} {rows : List Row} {k : Nat} (S : Sep b rl d) (BK : BankAt PySem.Challenge.rw_rh0001_01.row.prog w h b rows) (RA : RowsAt h rl rows) (DR : DrumAt w h d k) (M : Mods [d.dr] h h') :
    BankAt PySem.Challenge.rw_rh0001_01.row.prog w h' b rows ∧ RowsAt h' rl rows := by
  have kt : TK h h' := TK.of_mods M (drum_noTup DR)
  have r := S.r7
  simp only [List.mem_cons, List.not_mem_nil, or_false, not_or] at r
  refine ⟨BK.mods M kt fun a ha => ?_, RA.mods M (by simpa using Ne.symm r.1) kt⟩
  rw [List.mem_singleton.mp ha]
  exact ⟨S.r8, S.r6, r.2.1, S.r4, r.2.2.2.1, r.2.2.2.2⟩
theorem after_taken {w : World} {h h' : Heap} {b : BA} {rl : Addr} {d : DA} {k : Nat} (S : Sep b rl d) (DR : DrumAt w h d k) (M : Mods [rl, b.nl, b.nd, b.wl, b.dl] h h') : DrumAt w h' d k :=
  DR.mods M S.r7 fun hm => S.r5 (.tail _ hm)
theorem after_cut {w : World} {h h' : Heap} {b : BA} {rl : Addr} {d : DA} {rows qs : List Row} {k : Nat} (S : Sep b rl d) (BK : BankAt PySem.Challenge.rw_rh0001_01.row.prog w h b rows) (RA : RowsAt h rl qs) (DR : DrumAt w h d k) (M : Mods [b.nl, b.nd, b.wl, b.dl] h h') : RowsAt h' rl qs ∧ DrumAt w h' d k := by
  obtain ⟨_, ⟨_, _, e1, _⟩, ⟨_, _, e2, x, _⟩, ⟨_, _, e3, _⟩, ⟨_, _, e4, _⟩⟩ := BK
  have hc := (show _ from (by obtain ⟨_, _, _, y, _⟩ := x; exact y.1) : _ = Value.type "dict")
  have kt := bank_tk M e1 e2 e3 e4 hc
  obtain ⟨_, _, er, _⟩ := id RA
  refine ⟨RA.mods M ?_ kt, DR.mods M (fun hm => S.r7 (.tail _ hm)) fun hm => S.r5 (.tail _ (.tail _ hm))⟩
  simp only [List.mem_cons, List.not_mem_nil, or_false, not_or]
  exact ⟨S.r1, ne_of_cls er e2 (by rw [hc]; simp), S.r2, S.r3⟩
theorem Sep.turn {b : BA} {rl rl' : Addr} {d : DA} (S : Sep b rl d) (h1 : rl' ≠ b.nl) (h2 : rl' ≠ b.wl) (h3 : rl' ≠ b.dl) (h4 : rl' ≠ d.dr) (h5 : rl' ≠ d.rw) : Sep b rl' d := by
  have r5 := S.r5
  have r7 := S.r7
  simp only [List.mem_cons, List.not_mem_nil, or_false, not_or] at r5 r7
  refine ⟨S.hb, S.hd, h1, h2, h3, S.r4, S.r6, ?_, ?_, S.r8⟩ <;> simp only [List.mem_cons, List.not_mem_nil, or_false, not_or]
  · exact ⟨r5.1, h5.symm, r5.2.2⟩
  · exact ⟨h4.symm, r7.2⟩
theorem own_rl {b : BA} {rl : Addr} {d : DA} {P : Addr → Prop} (own : ∀ a ∈ lawAs b rl d, P a) : (∀ a ∈ [rl, b.nl, b.nd, b.wl, b.dl], P a) ∧ (∀ a ∈ [b.nl, b.nd, b.wl, b.dl], P a) ∧ P d.dr ∧ ∀ rl', P rl' → ∀ a ∈ lawAs b rl' d, P a := by
  have four : ∀ a ∈ [b.nl, b.nd, b.wl, b.dl], P a := fun a ha => own a (.tail _ (.tail _ (.tail _ (.tail _ (.tail _ ha)))))
  refine ⟨List.forall_mem_cons.mpr ⟨own _ (by k_mem), four⟩, four, own _ (by k_mem), fun rl' hp => ?_⟩
  exact List.forall_mem_cons.mpr ⟨own _ (by k_mem), List.forall_mem_cons.mpr ⟨own _ (by k_mem), List.forall_mem_cons.mpr ⟨hp, List.forall_mem_cons.mpr ⟨own _ (by k_mem), List.forall_mem_cons.mpr ⟨own _ (by k_mem), four⟩⟩⟩⟩⟩
theorem reads_take {h : Heap} {f : Row → PyData} : ∀ {rows : List Row} {vs : List Value} (q : Nat), ReadsAll h vs (rows.map f) [] → ReadsAll h (vs.take q) ((rows.take q).map f) []
  | _, _, 0, _ => by simp only [List.take_zero, List.map_nil]; exact .nil
  | [], _, q + 1, x => by cases x; simp only [List.take_nil, List.map_nil]; exact .nil
  | r :: rows, vs, q + 1, x => by
    cases vs with
    | nil => cases x
    | cons v vs =>
      have y := readsAll_hd x
      exact .cons (as := []) (bs := []) y.1 (reads_take q y.2)
section
variable {prog : Program} {w : World} {A : Around} {E : Value → Shared → Prop} {h₀ h : Heap} {L : Addr} {m : Str → Option Value} {news : List (Addr × Obj)} {Q : Value → Shared → Prop} {value slice : PySem.Expr}
theorem slice_upto {l : Addr} {vs : List Value} {q : Nat} {u : Tok} {g d tk os}
    (F : Fr h₀ L h m) (N : News h₀ L h news) (hl : h.IsList l vs.toArray) (hq : q ≤ vs.length) (hv : vs.length ≤ 1000)
    (hQ : ∀ D h', Fr h₀ L h' m → News h₀ L h' ((D, listOf (vs.take q).toArray 0) :: news) → (∀ p ∈ news, p.1 < D) → Q (.ref D) ⟨h', g, d, tk, os⟩)
    (hs : subscripted slice false (.ref l) (.ref h.objs.size) = operate [.ref h.objs.size, .ref l] (getItem (.ref l) (.ref h.objs.size)))
    (hg : ∀ r, letTemporaryGo value (.ref l) r = pure ()) :
    wpAny (model prog w) A (subscriptTail value slice (.ref l) (.ref h.objs.size)) Q E ⟨h.push { cls := .type "slice", data := .fields #[.none, .int (q : Int) u, .none] }, g, d, tk, os⟩ :=
  kmk_slice_lit (s := ⟨h, g, d, tk, os⟩) F N hl .none (.int _ _) (by rw [slicePick_upto _ _ (by simpa using hq)]) (fun D h' F' N' l1 => hQ D h' F' N' l1) hs hg (by rw [sizeLine_eq, List.size_toArray]; omega)
theorem pick_laps {s : Shared} {t : Addr} {q : Nat} {u a b c e : Tok} (ht : IsTup s.heap t (List.toArray [.int 0 a, .int 2 b, .int 28 c, .int 33 e])) (hq : q < 4) (h : ∀ (n : Nat) u, n ≤ 33 → Q (.int (n : Int) u) s)
    (hs : subscripted slice false (.ref t) (.int (q : Int) u) = operate [.ref t, .int (q : Int) u] (getItem (.ref t) (.int (q : Int) u)) := by with_unfolding_all rfl) :
    wpAny (model prog w) A (subscriptTail value slice (.ref t) (.int (q : Int) u)) Q E s := by
  have hj : seqIndex? (q : Int) ([Value.int 0 a, .int 2 b, .int 28 c, .int 33 e] : List Value).length = some q := by
    have : q = 0 ∨ q = 1 ∨ q = 2 ∨ q = 3 := by omega
    rcases this with rfl | rfl | rfl | rfl <;> rfl
  have h2 : (q : Int) < 2 ^ 63 := by omega
  have : q = 0 ∨ q = 1 ∨ q = 2 ∨ q = 3 := by omega
  rcases this with rfl | rfl | rfl | rfl
  · exact item_tupleT ht (by omega) h2 hj rfl (h 0 _ (by decide)) hs
  · exact item_tupleT ht (by omega) h2 hj rfl (h 2 _ (by decide)) hs
  · exact item_tupleT ht (by omega) h2 hj rfl (h 28 _ (by decide)) hs
  · exact item_tupleT ht (by omega) h2 hj rfl (h 33 _ (by decide)) hs
theorem eq_int_same {s : Shared} {x : Int} {t u : Tok} (h : Q (.bool true) s) : wpAny (model prog w) A (compareOp .Eq (.int x t) (.int x u)) Q E s :=
  PyProof.Rows.eq_int (by simpa using h)
end
theorem law_lt {w : World} {h : Heap} {b : BA} {rl : Addr} {d : DA} {rows : List Row} {k : Nat} (BK : BankAt PySem.Challenge.rw_rh0001_01.row.prog w h b rows) (RA : RowsAt h rl rows) (DR : DrumAt w h d k) : ∀ a ∈ lawAs b rl d, a ≠ h.objs.size := by
  obtain ⟨⟨i1, _, _, _, _, _, i2⟩, ⟨_, _, e1, _⟩, ⟨_, _, e2, _⟩, ⟨_, _, e3, _⟩, ⟨_, _, e4, _⟩⟩ := BK
  obtain ⟨_, _, er, _⟩ := RA
  obtain ⟨_, ed, _, _, ew, _⟩ := DR
  intro a ha
  simp only [lawAs, List.mem_cons, List.not_mem_nil, or_false] at ha
  rcases ha with rfl | rfl | rfl | rfl | rfl | rfl | rfl | rfl | rfl
  · exact get_lt i1
  · exact get_lt i2
  · exact get_lt er
  · exact get_lt ed
  · exact get_lt ew
  · exact get_lt e1
  · exact get_lt e2
  · exact get_lt e3
  · exact get_lt e4
def JLaw (w : World) (b : BA) (rl : Addr) (d : DA) (n0 k : Nat) (m₁ : Str → Option Value) (i : Nat) (h : Heap) (m : Str → Option Value) (news : List (Addr × Obj)) : Prop :=
  news = [] ∧ ∃ c rows, m = (fun y => if y = Str.ofString "lap" then c else m₁ y) ∧ BankAt PySem.Challenge.rw_rh0001_01.row.prog w h b rows ∧ RowsAt h rl rows ∧ DrumAt w h d k ∧ WF rows ∧ 0 < rows.length ∧ rows.length ≤ n0 + i
theorem JLaw.kp {w : World} {b : BA} {rl : Addr} {d : DA} {n0 k i : Nat} {m₁ m : Str → Option Value} {h h' : Heap} {news : List (Addr × Obj)} {I : Addr} (j : JLaw w b rl d n0 k m₁ i h m news) (kp : ∀ b o, h.get? b = some o → b ≠ I ∨ tupO o → h'.get? b = some o)
    (hI : ∀ a ∈ lawAs b rl d, a ≠ I) : JLaw w b rl d n0 k m₁ i h' m news := by
  obtain ⟨M, kt⟩ := kp_mods kp
  obtain ⟨e, c, rows, em, BK, RA, DR, r⟩ := j
  have n (a : Addr) (ha : a ∈ lawAs b rl d) : a ∉ [I] := by simpa using hI a ha
  refine ⟨e, c, rows, em, BK.mods M kt fun a ha => ?_, RA.mods M (n _ (by k_mem)) kt, DR.mods M (n _ (by k_mem)) (n _ (by k_mem)), r⟩
  rw [List.mem_singleton.mp ha]
  exact ⟨(hI _ (by k_mem)).symm, (hI _ (by k_mem)).symm, (hI _ (by k_mem)).symm, (hI _ (by k_mem)).symm, (hI _ (by k_mem)).symm, (hI _ (by k_mem)).symm⟩
theorem Sep.fresh {b : BA} {rl : Addr} {d : DA} {D : Addr} {T : List (Addr × Obj)} (S : Sep b rl d) (hT : ∀ D, AllLt D T → ∀ a ∈ [d.dr, d.rw, b.nl, b.nd, b.wl, b.dl], a < D) (l : AllLt D T) : Sep b D d :=
  S.turn (Nat.ne_of_gt (hT D l b.nl (by k_mem))) (Nat.ne_of_gt (hT D l b.wl (by k_mem))) (Nat.ne_of_gt (hT D l b.dl (by k_mem))) (Nat.ne_of_gt (hT D l d.dr (by k_mem))) (Nat.ne_of_gt (hT D l d.rw (by k_mem)))
end Mine
local macro_rules | `(tactic| walk_at "subscriptTail") => `(tactic| (k_here; (with_reducible show wpAny _ _ (subscriptTail _ _ (Value.ref _) (Value.int _ _)) _ _ _); k_dflt (refine' Mine.pick_laps ?ht ?hq ?_; (case ht => first | exact News.isTup (by k_asm) (by k_mem) | with_reducible assumption); (case hq => omega); k_whole); intro n' u' hn'))
local macro_rules | `(tactic| walk_at "subscriptTail Name Slice ref ref") => `(tactic| (k_here; (with_reducible show wpAny _ _ (subscriptTail _ (PySem.Expr.Slice none (some _) none _) (Value.ref _) (Value.ref _)) _ _ _); k_dflt (refine' Mine.slice_upto ?F ?N ?l ?q ?v ?_ ?s ?t; (case F => k_asm); (case N => k_asm); (case l => exact Mine.isListN (by k_asm) (by k_mem)); (case q => omega); (case v => omega); (case s => with_unfolding_all rfl); (case t => (intro _; with_unfolding_all rfl)); k_whole); intro D' h' F' N' l1; (try k_lt l1); (try k_sweep); (try dsimp only)))
local macro_rules | `(tactic| walk_at "compareOp Eq int int") => `(tactic| (k_here; k_dflt (with_reducible refine Mine.eq_int_same ?_)))
namespace Mine
theorem call_bare {prog : Program} {w : World} {A : Around} {E : Value → Shared → Prop} {s : Shared} {K : Frag} {L : Addr} {h₀ : Heap} {m : Str → Option Value} {f : Value} {first : List Value} {pos : Pos} {env : Env} {Q : Value → Shared → Prop}
    (F : Fr h₀ L s.heap m) (X : K.In h₀) (hk : keepIn K f = true) (h : wpAny (model prog w) A (call f (first ++ [])) Q E s) : wpAny (model prog w) A (callWith pos f first (backTo pos (starEach [] env)) []) Q E s :=
  callWith_K0 (X.keeps F.keep) hk h
theorem for_ledgerF {prog : Program} {w : World} {A : Around} {env : Env} {s : Shared} {g : Heap} {L : Addr} {m₁ : Str → Option Value} {target iter : Expr} {body : List Stmt} {pos : Pos} {Q : Flow → Shared → Prop} {E : Value → Shared → Prop}
    (_ : Fr g L s.heap m₁) (hL : env.locals = L) (h : ∀ PI : Shared → Value → Shared → Prop, (∀ s₁ it s₂, (∃ (n : Nat) (P : Nat → Value → Prop) (src : List Addr) (m₀ : Str → Option Value) (news₀ : List (Addr × Obj)) (J : Nat → Heap → (Str → Option Value) → List (Addr × Obj) → Prop),
      It prog w A n P src s₁ it s₂ ∧ Fr g L s₁.heap m₀ ∧ News g L s₁.heap news₀ ∧
      (∀ i h h' m news, J i h m news → Fr g L h m → News g L h news → (∀ b o, h.get? b = some o → b ≠ s₁.heap.objs.size ∨ tupO o → h'.get? b = some o) → J i h' m news) ∧ J 0 s₁.heap m₀ news₀ ∧
      (∀ i v h tk m news oI, i < n → P i v → J i h m news → Fr g L h m → News g L h (news ++ [(s₁.heap.objs.size, oI)]) → (∀ p ∈ news, p.1 ≠ s₁.heap.objs.size) → g.get? s₁.heap.objs.size = none → ¬ tupO oI →
        ∀ R : Flow → Shared → Prop, (∀ f s₄, (match f with
          | .ret r => Q (.ret r) s₄
          | .brk => Q .next s₄
          | _ => Halt (∃ h' tk' m' news', s₄ = { s₁ with heap := h', toks := tk' } ∧ Fr g L h' m' ∧ News g L h' (news' ++ [(s₁.heap.objs.size, oI)]) ∧ (∀ p ∈ news', p.1 ≠ s₁.heap.objs.size) ∧
              (∀ b ∈ src, ∀ o, h.get? b = some o → h'.get? b = some o) ∧ J (i + 1) h' m' news')) → R f s₄) →
        wpAny (model prog w) A (assign target env v) (fun _ s₃ => wpAny (model prog w) A (execs body env) R (fun _ _ => False) s₃) (fun _ _ => False) { s₁ with heap := h, toks := tk }) ∧
      (∀ h tk m news, J n h m news → Fr g L h m → News g L h news → Q .next { s₁ with heap := h, toks := tk })) → PI s₁ it s₂) → wpAny (model prog w) A (eval iter env) (fun xv s₁ => wpAny (model prog w) A (pyIter xv) (PI s₁) E s₁) E s)
    (hs : ∀ x, foldedSetIterable iter env x = pure x := by intro _; rfl) :
    wpAny (model prog w) A (exec (.For target iter body [] pos) env) Q E s := for_ledger hL h hs
theorem comp_mapF {prog : Program} {w : World} {A : Around} {env : Env} {s : Shared} {g : Heap} {L : Addr} {m₀ : Str → Option Value} {elt iter : Expr} {x : Str} {px : Pos} {scope : Scope} {cl : List (Str × Addr)} {pos : Pos} {Q : Value → Shared → Prop} {E : Value → Shared → Prop}
    (_ : Fr g L s.heap m₀) (hclos : closureFor scope env = pure cl) (hcell : (scope.names.all fun y => decide (y.2 ≠ .cell)) = true) (hkind : scope.kind = .function)
    (hnames : (scope.names.all fun y => decide (y.2 = .local → scope.names.lookup y.1 = some .local)) = true) (hx : scope.names.lookup x = some .local)
    (h : ∀ PI : Shared → Value → Shared → Prop, (∀ s₁ it s₂, (∃ (n : Nat) (P : Nat → Value → Prop) (src : List Addr) (R : Nat → Value → Prop) (m : Str → Option Value) (news : List (Addr × Obj)), It prog w A n P src s₁ it s₂ ∧ n ≤ 100000 ∧ Fr g L s₁.heap m ∧ News g L s₁.heap news ∧
      (∀ C i v h tk mC, i < n → P i v → Fr g C h mC → mC x = some v → News g C h news → (∀ b o, s₁.heap.get? b = some o → h.get? b = some o) →
        wpAny (model prog w) A (eval elt (compEnvC scope cl C env)) (fun y s₄ => Halt (∃ h₄ tk₄, s₄ = { s₁ with heap := h₄, toks := tk₄ } ∧ Mods [] h h₄ ∧ R i y)) (fun _ _ => False) { s₁ with heap := h, toks := tk }) ∧
      (∀ D ys h tk k, Fr g L h m → News g L h ((D, listOf (List.toArray ys) k) :: news) → (∀ p ∈ news, p.1 < D) → (∀ b o, s₁.heap.get? b = some o → h.get? b = some o) → ys.length = n → (∀ j y, ys[j]? = some y → R j y) → Q (.ref D) { s₁ with heap := h, toks := tk })) → PI s₁ it s₂) → wpAny (model prog w) A (eval iter env) (fun xv s₁ => wpAny (model prog w) A (pyIter xv) (PI s₁) E s₁) E s)
    (hs : ∀ x, foldedSetIterable iter env x = pure x := by intro _; rfl) :
    wpAny (model prog w) A (eval (.ListComp elt [⟨.Name x px, iter, [], 0⟩] scope pos) env) Q E s := comp_map hclos hcell hkind hnames hx h hs
theorem ints_all : ∀ {ys : List Value}, (∀ (j : Nat) (y : Value), ys[j]? = some y → ∃ n t, y = .int n t) → ∃ ns, IntsAre ys ns ∧ ns.length = ys.length
  | [], _ => ⟨[], .nil, rfl⟩
  | y :: ys, h => by
    obtain ⟨n, t, rfl⟩ := h 0 y rfl
    obtain ⟨ns, a, b⟩ := ints_all (ys := ys) fun j z e => h (j + 1) z (by simpa using e)
    exact ⟨n :: ns, .cons _ _ a, by simp [b]⟩
theorem ints_is {vs : List Value} {ns : List Int} (h : IntsAre vs ns) {i : Nat} {v : Value} (e : vs[i]? = some v) : ∃ n t, v = .int n t := by
  obtain ⟨t, e2⟩ := ints_get h i (by have := get_some_lt e; rw [h.length] at this; exact this)
  rw [e] at e2
  exact ⟨_, t, Option.some.inj e2⟩
theorem law_ctx {A₀ A0 : Around} {h0 h₁ : Heap} {outer : List Env} {m mg mb : Str → Option Value} {news : List (Addr × Obj)} {K : Frag} {p : Program} {loose : List Str} {mean : ExcName → Option Value} {l : Addr} {vs : Array Value} {M : Model} {q : Str} {sc : Scope} {n f : Addr} {cdv : Value} {body : List Stmt} {P : Flow → Shared → Prop} {E : Value → Shared → Prop} {s1 : Shared} {tk : Nat}
    (B : Below A₀ h0 outer h0) (F : Fr h0 n h₁ m) (N : News h0 n h₁ news) (X : K.In h0) (T : Top p loose mean mg mb h0) (hl : h0.IsList l vs)
    (k : ∀ g LL gs dr os, g = h0 → LL = n → gs = s1.gens → dr = s1.drawn → os = s1.os → Below A₀ g outer g → Fr g LL h₁ m → News g LL h₁ news → K.In g → Top p loose mean mg mb g → g.IsList l vs →
      wpAny M (A0.deeper (envOf q sc LL f cdv)) (execs body (envOf q sc LL f cdv)) P E ⟨h₁, gs, dr, tk, os⟩) :
    wpAny M (A0.deeper (envOf q sc n f cdv)) (execs body (envOf q sc n f cdv)) P E ⟨h₁, s1.gens, s1.drawn, tk, s1.os⟩ := k _ _ _ _ _ rfl rfl rfl rfl rfl B F N X T hl
theorem lt_T {D : Addr} {T : List (Addr × Obj)} {x y z : Addr × Obj} (h : AllLt D (x :: y :: z :: T)) : AllLt D T := h.2.2.2
theorem gen_both {α : Type} {M : Model} {A : Around} {t : Sem α} {Q : α → Shared → Prop} {E : Value → Shared → Prop} {s : Shared} (h : ∀ (P : α → Shared → Prop) (E' : Value → Shared → Prop), (∀ a s', Q a s' → P a s') → (∀ e s', E e s' → E' e s') → wpAny M A t P E' s) : wpAny M A t Q E s :=
  h Q E (fun _ _ x => x) fun _ _ x => x
theorem law_try : PySem.Challenge.rw_rh0001_01.Holds := Mine.hd (by
  k_go0
  (all_goals try k_fold)
  refine gen_both fun PP EE hPP hEE => ?_
  clear hEE
  rename Shared => s1
  (rename Below _ _ _ _ => K0); (rename Fr _ _ _ _ => F0); (rename News _ _ _ _ => N0); (rename Frag.In _ _ => KX); (rename Top _ _ _ _ _ _ => T0); (rename Heap.IsList _ _ _ => hL0); (rename IntsAre _ _ => hI0)
  refine law_ctx (h0 := s1.heap) (n := s1.heap.objs.size) (s1 := s1) (K0 : Below callerA s1.heap [] s1.heap) F0 N0 KX T0 hL0 fun g LL gs dr0 os0 hG hn hgs hdr hos K1 F1 N1 X1 T1 hL1 => ?_
  clear K0 F0 N0 KX T0 hL0
  k_steps
  k_dflt (refine' comp_mapF ?a0 ?a1 ?a2 ?a3 ?a4 ?a5 ?_; (case a0 => k_asm); (case a1 => exact rfl); (case a2 => exact rfl); (case a3 => exact rfl); (case a4 => exact rfl); (case a5 => exact rfl))
  intro PI hPI
  k_steps
  (rename Fr _ _ _ _ => F1); (rename News _ _ _ _ => N1); (rename IntsAre _ (List.take _ _) => hI)
  refine iter_list rfl (isListN N1 (by k_mem)) fun it s₂ hIt => ?_
  refine hPI _ _ _ ?_
  refine ⟨_, _, _, fun j y => ∃ n t, y = .int n t, _, _, hIt, (by rw [hI.length]; exact Nat.le_trans (List.length_take_le 50 _) (by decide)), F1, N1, ?_, ?_⟩
  · intro C j v h tk mC hj hP F hm N old
    obtain ⟨n, t, rfl⟩ := ints_is hI hP
    clear F1 N1 hIt
    dsimp only at F N ⊢
    k_steps
    exact ⟨_, _, rfl, Mods.refl _ _, _, _, rfl⟩
  intro D ys h tk k F N lt old hl hR
  obtain ⟨rns, hrI, hrl⟩ := ints_all hR
  have hr50 : rns.length ≤ 50 := by rw [hrl, hl, hI.length]; exact List.length_take_le 50 _
  clear F1 N1 hIt old hR hI
  k_lt lt
  dsimp only at F N ⊢
  k_steps
  (rename Fr _ _ _ _ => F1); (rename News _ _ _ _ => N1)
  simp only [AllLt, and_true] at *
  obtain ⟨b, d, ⟨rfl, rfl, rfl, rfl, rfl, rfl⟩, rfl, rfl, BK, RA, DR, S, own⟩ := law_init N1 (by assumption) (by assumption) hrI hr50 (by assumption) (by assumption) (by assumption) (by assumption) (by assumption) (by assumption) (by assumption) (by assumption) (by assumption) (by assumption)
  refine use_AC (taken_spec _ (by k_asm) F1 (by k_asm) (by k_asm) rfl rfl S.hb BK RA WF.nil (by decide) (fun a ha => own a (by simp only [lawAs, List.mem_cons, List.not_mem_nil, or_false] at ha ⊢; rcases ha with rfl | rfl | rfl | rfl | rfl <;> simp)) S.r1 S.r2 S.r3 (op := Str.ofString "a") (kids := []) (by decide +kernel) (by decide) (fun _ hm => nomatch hm) (kids_reads (kids := []) (h' := h) (News.isTup N1 (by k_mem)) .nil) fun h2 tk2 F2 M2 BK2 RA2 => ?_) rfl rfl (Nat.le_of_ble_eq_true rfl) (Nat.le_of_ble_eq_true rfl)
  have DR2 := after_taken S DR M2
  obtain ⟨rows1, W1, n1, n2, hr1⟩ : ∃ q, WF q ∧ 0 < q.length ∧ q.length ≤ 1 ∧ addRow [] (Str.ofString "a", []) = q := ⟨_, WF.nil.add (r := (Str.ofString "a", [])) (by decide +kernel) (by decide) (fun _ hm => nomatch hm), by decide +kernel, by decide +kernel, rfl⟩
  rw [hr1] at BK2 RA2
  clear hr1 F1 N1 BK RA DR M2
  refine law_open F2 BK2 RA2 DR2 own fun obd rvs rn T1 hobd hTm NL hrl KEEP => ?_
  dsimp only at F2 NL ⊢
  k_steps
  (rename Fr _ _ _ _ => F1); (rename News _ _ _ _ => N1)
  refine and4 (KEEP _ _ F1 (News.sub N1 (fun p hp => by first | exact hp | exact .tail _ hp | exact .tail _ (.tail _ hp) | exact .tail _ (.tail _ (.tail _ hp)) | exact .tail _ (.tail _ (.tail _ (.tail _ hp)))))) fun BK RA DR RR => ?_
  refine use_AC (taken_spec _ (by k_asm) F1 (by k_asm) (by k_asm) rfl rfl S.hb BK RA W1 (by first | exact Mine.le_small (by assumption) (by decide) | omega) (own_rl own).1 S.r1 S.r2 S.r3 (op := Str.ofString "b") (kids := []) (by decide +kernel) (by decide) (fun _ hm => nomatch hm) (kids_reads (kids := []) (h' := h) (News.isTup N1 (by k_mem)) .nil) fun h3 tk3 F3 M3 BK3 RA3 => ?_) rfl rfl (Nat.le_of_ble_eq_true rfl) (Nat.le_of_ble_eq_true rfl)
  have DR3 := after_taken S DR M3
  have al := addRow_length rows1 (Str.ofString "b", [])
  have W2 := W1.add (r := (Str.ofString "b", [])) (by decide +kernel) (by decide) (fun _ hm => nomatch hm)
  generalize addRow rows1 (Str.ofString "b", []) = rows2 at BK3 RA3 al W2
  have b2 : rows2.length ≤ 2 := by omega
  have p2 : 0 < rows2.length := by omega
  clear al n1 n2
  clear F1 N1 BK RA DR RR KEEP hrl M3 BK2 RA2 DR2
  refine law_open F3 BK3 RA3 DR3 own fun obd rvs rn T1 hobd hTm NL hrl KEEP => ?_
  dsimp only at F3 NL ⊢
  k_steps
  (rename Fr _ _ _ _ => F1); (rename News _ _ _ _ => N1)
  refine and4 (KEEP _ _ F1 (News.sub N1 (fun p hp => by first | exact hp | exact .tail _ hp | exact .tail _ (.tail _ hp) | exact .tail _ (.tail _ (.tail _ hp)) | exact .tail _ (.tail _ (.tail _ (.tail _ hp)))))) fun BK RA DR RR => ?_
  refine use_AC (roll_spec _ (by k_asm) F1 (by k_asm) (by k_asm) rfl rfl S.hd DR (own_rl own).2.2.1.1 (own_rl own).2.2.1.2 (by first | exact Mine.le_small (by assumption) (by decide) | omega) (by first | decide | omega) (by first | decide | omega) fun q4 tr4 h4 tk4 F4 M4 DR4 hq4 => ?_) rfl rfl (Nat.le_of_ble_eq_true rfl) (Nat.le_of_ble_eq_true rfl)
  refine and2 (after_dr S BK RA DR M4) fun BK4 RA4 => ?_
  clear F1 N1 BK RA DR RR KEEP hrl M4 BK3 RA3 DR3
  refine law_open F4 BK4 RA4 DR4 own fun obd rvs rn T1 hobd hTm NL hrl KEEP => ?_
  dsimp only at F4 NL ⊢
  k_steps
  (rename Fr _ _ _ _ => F1); (rename News _ _ _ _ => N1)
  refine and4 (KEEP _ _ F1 (News.sub N1 (fun p hp => by first | exact hp | exact .tail _ hp | exact .tail _ (.tail _ hp) | exact .tail _ (.tail _ (.tail _ hp)) | exact .tail _ (.tail _ (.tail _ (.tail _ hp)))))) fun BK RA DR RR => ?_
  rw [show (1 + (q4 : Int)) = ((1 + q4 : Nat) : Int) by omega]
  refine use_AC (are_spec _ (by k_asm) F1 (by k_asm) (by k_asm) rfl rfl S.hb S.hd BK RA DR W2 (by first | exact Mine.le_small (by assumption) (by decide) | omega) (by first | exact Mine.le_small (by assumption) (by decide) | omega) (by first | exact Mine.le_small (by assumption) (by decide) | omega) (by first | exact Mine.le_small (by assumption) (by decide) | omega) (own_rl own).1 (own_rl own).2.2.1.1 (own_rl own).2.2.1.2 S.r1 S.r2 S.r3 S.r4 S.r6 S.r5 fun h5 tk5 rows3 k3 F5 M5 BK5 RA5 DR5 W3 g1 g2 g3 => ?_) rfl rfl (Nat.le_of_ble_eq_true rfl) (Nat.le_of_ble_eq_true rfl)
  have b3 : rows3.length ≤ 6 := by clear g1 g3; omega
  have p3 : 0 < rows3.length := Nat.lt_of_lt_of_le p2 g1
  have c3 : k3 ≤ 13 := by clear g1 g2; omega
  clear g1 g2 g3 b2 p2 hq4
  clear F1 N1 BK RA DR RR KEEP hrl M5 BK4 RA4 DR4
  refine law_open F5 BK5 RA5 DR5 own fun obd rvs rn T1 hobd hTm NL hrl KEEP => ?_
  dsimp only at F5 NL ⊢
  k_steps
  refine for_ledgerF (by k_asm) rfl ?_ (fun _ => rfl)
  intro PI hPI
  k_steps
  (rename Fr _ _ _ _ => F1); (rename News _ _ _ _ => N1)
  refine and4 (KEEP _ _ F1 (News.sub N1 (fun p hp => by first | exact hp | exact .tail _ hp | exact .tail _ (.tail _ hp) | exact .tail _ (.tail _ (.tail _ hp)) | exact .tail _ (.tail _ (.tail _ (.tail _ hp)))))) fun BK RA DR RR => ?_
  have hT4 : IsTup _ _ (List.toArray [Value.int 0 _, Value.int 2 _, Value.int 28 _, Value.int 33 _]) := News.isTup N1 (by k_mem)
  refine use_AC (roll_spec _ (by k_asm) F1 (by k_asm) (by k_asm) rfl rfl S.hd DR (own_rl own).2.2.1.1 (own_rl own).2.2.1.2 (by first | exact Mine.le_small (by assumption) (by decide) | omega) (by first | decide | omega) (by first | decide | omega) fun q6 tr6 h6 tk6 F6 M6 DR6 hq6 => ?_) rfl rfl (Nat.le_of_ble_eq_true rfl) (Nat.le_of_ble_eq_true rfl)
  refine and2 (after_dr S BK RA DR M6) fun BK6 RA6 => ?_
  replace hT4 := IsTup.tk hT4 (TK.of_mods M6 (drum_noTup DR))
  clear F1 N1 BK RA DR RR KEEP hrl M6 BK5 RA5 DR5
  refine law_open F6 BK6 RA6 DR6 own fun obd rvs rn T1 hobd hTm NL hrl KEEP => ?_
  dsimp only at F6 NL ⊢
  k_steps
  (rename Fr _ _ _ _ => F1); (rename News _ _ _ _ => N1)
  refine and4 (KEEP _ _ F1 (News.sub N1 (fun p hp => by first | exact hp | exact .tail _ hp | exact .tail _ (.tail _ hp) | exact .tail _ (.tail _ (.tail _ hp)) | exact .tail _ (.tail _ (.tail _ (.tail _ hp)))))) fun BK RA DR RR => ?_
  (rename IsRange _ _ _ _ _ _ _ _ => hR)
  have hI := law_lt BK RA DR
  refine iter_upto rfl hR (by omega) fun it s₂ hIt => ?_
  refine hPI _ _ _ ?_
  refine ⟨_, _, _, _, _, JLaw _ b _ d rows3.length (k3 + 1) _, hIt, fr_same F1 (Str.ofString "lap"), News.nil, fun i h h' m news j _ _ kp => j.kp kp hI, ⟨rfl, _, rows3, rfl, BK, RA, DR, W3, by omega, Nat.le_refl _⟩, ?_, ?_⟩
  · clear F1 N1 BK RA DR RR KEEP hrl BK6 RA6 DR6 hIt
    rintro i v h tk m news oI hi hP ⟨rfl, c, rows4, rfl, BK0, RA0, DR0, W4, hp4, hl4⟩ F N hne gI hT R hRR
    refine law_open F BK0 RA0 DR0 own fun obd rvs rn T1 hobd hTm NL hrl KEEP => ?_
    dsimp only at F NL ⊢
    have NI := News.push (N _ (.head _)) NL
    clear N NL
    dsimp only at F NI hI ⊢
    k_steps
    (rename Fr _ _ _ _ => F1); (rename News _ _ _ _ => N1)
    refine and4 (KEEP _ _ F1 (News.sub N1 (fun p hp => by first | exact hp | exact .tail _ hp | exact .tail _ (.tail _ hp) | exact .tail _ (.tail _ (.tail _ hp)) | exact .tail _ (.tail _ (.tail _ (.tail _ hp)))))) fun BK RA DR RR => ?_
    rw [show ((rows4.length : Int) - 1) = ((rows4.length - 1 : Nat) : Int) by omega] at N1
    refine use_AC (taken_spec _ (by k_asm) F1 (by k_asm) (by k_asm) rfl rfl S.hb BK RA W4 (by first | exact Mine.le_small (by assumption) (by decide) | omega) (own_rl own).1 S.r1 S.r2 S.r3 (op := Str.ofString "g") (kids := [rows4.length - 1, rows4.length - 1]) (by decide +kernel) (Nat.le_of_ble_eq_true rfl) (fun z hz => by simp only [List.mem_cons, List.not_mem_nil, or_false] at hz; omega) (kids_reads (kids := [rows4.length - 1, rows4.length - 1]) (h' := h) (News.isTup N1 (by k_mem)) (.cons (as := []) (bs := []) (.int _ _) (.cons (as := []) (bs := []) (.int _ _) .nil))) fun h7 tk7 F7 M7 BK7 RA7 => ?_) rfl rfl (Nat.le_of_ble_eq_true rfl) (Nat.le_of_ble_eq_true rfl)
    have DR7 := after_taken S DR M7
    have N7 := News.push ⟨M7 _ _ (News.get N1 (o := oI) (by k_mem)) (fun hm => (own_rl hI).1 _ hm rfl), News.own N1 (o := oI) (by k_mem)⟩ News.nil
    have al4 := addRow_length rows4 (Str.ofString "g", [rows4.length - 1, rows4.length - 1])
    have W5 := W4.add (r := (Str.ofString "g", [rows4.length - 1, rows4.length - 1])) (by dsimp only; decide +kernel) (Nat.le_of_ble_eq_true rfl) (fun z hz => by simp only [List.mem_cons, List.not_mem_nil, or_false] at hz; omega)
    dsimp only at F7 N7 ⊢
    clear F1 N1 M7
    k_steps
    (rename Fr _ _ _ _ => F8); (rename News _ _ _ _ => N8)
    refine hRR _ _ ?_
    show Halt _
    exact ⟨_, _, _, [], rfl, fr_again F8, N8, (fun _ hm => nomatch hm), (fun _ hm => nomatch hm), rfl, _, _, rfl, BK7, RA7, DR7, W5, by omega, by omega⟩
  rintro h8 tk8 m8 news8 ⟨rfl, c8, rows4, rfl, BK8, RA8, DR8, W4, hp4, hl4⟩ F8 N8
  have b4 : rows4.length ≤ 39 := by omega
  clear hl4 b3 p3
  clear F1 N1 BK RA DR RR KEEP hrl BK6 RA6 DR6 hIt N8
  refine law_open F8 BK8 RA8 DR8 own fun obd rvs rn T1 hobd hTm NL hrl KEEP => ?_
  dsimp only at F8 NL ⊢
  k_steps
  (rename Fr _ _ _ _ => F1); (rename News _ _ _ _ => N1)
  refine and4 (KEEP _ _ F1 (News.sub N1 (fun p hp => by first | exact hp | exact .tail _ hp | exact .tail _ (.tail _ hp) | exact .tail _ (.tail _ (.tail _ hp)) | exact .tail _ (.tail _ (.tail _ (.tail _ hp)))))) fun BK RA DR RR => ?_
  refine use_AC (right_spec _ (by k_asm) F1 (by k_asm) (by k_asm) rfl rfl S.hd DR (own_rl own).2.2.1 (by first | exact Mine.le_small (by assumption) (by decide) | omega) BK RA W4 (by first | exact Mine.le_small (by assumption) (by decide) | omega) (by first | exact Mine.le_small (by assumption) (by decide) | omega) S.r4 S.r6 fun h9 tk9 k9 F9 M9 DR9 g9 => ?_) rfl rfl (Nat.le_of_ble_eq_true rfl) (Nat.le_of_ble_eq_true rfl)
  have c9 : k9 ≤ 20 := by omega
  clear g9 c3
  refine and2 (after_dr S BK RA DR M9) fun BK9 RA9 => ?_
  clear F1 N1 BK RA DR RR KEEP hrl M9 BK8 RA8 DR8
  refine law_open F9 BK9 RA9 DR9 own fun obd rvs rn T1 hobd hTm NL hrl KEEP => ?_
  dsimp only at F9 NL ⊢
  k_steps
  (rename Fr _ _ _ _ => F1); (rename News _ _ _ _ => N1)
  refine and4 (KEEP _ _ F1 (News.sub N1 (fun p hp => by first | exact hp | exact .tail _ hp | exact .tail _ (.tail _ hp) | exact .tail _ (.tail _ (.tail _ hp)) | exact .tail _ (.tail _ (.tail _ (.tail _ hp)))))) fun BK RA DR RR => ?_
  refine use_AC (roll_spec _ (by k_asm) F1 (by k_asm) (by k_asm) rfl rfl S.hd DR (own_rl own).2.2.1.1 (own_rl own).2.2.1.2 (by first | exact Mine.le_small (by assumption) (by decide) | omega) (by first | decide | omega) (by first | decide | omega) fun q10 tr10 h10 tk10 F10 M10 DR10 hq10 => ?_) rfl rfl (Nat.le_of_ble_eq_true rfl) (Nat.le_of_ble_eq_true rfl)
  refine and2 (after_dr S BK RA DR M10) fun BK10 RA10 => ?_
  clear F1 N1 BK RA DR RR KEEP hrl M10 BK9 RA9 DR9
  refine law_open F10 BK10 RA10 DR10 own fun obd rvs rn T1 hobd hTm NL hrl KEEP => ?_
  obtain ⟨t1, t2, t3, t4, n, rfl⟩ := hobd
  dsimp only at F10 NL ⊢
  have htk : (rvs.take q10).length = q10 := by rw [List.length_take]; omega
  k_steps
  (rename Fr _ _ _ _ => F1); (rename News _ _ _ _ => N1)
  refine and4 (KEEP _ _ F1 (News.sub N1 (fun p hp => by first | exact hp | exact .tail _ hp | exact .tail _ (.tail _ hp) | exact .tail _ (.tail _ (.tail _ hp)) | exact .tail _ (.tail _ (.tail _ (.tail _ hp)))))) fun BK RA DR RR => ?_
  have RAn := (⟨_, _, News.get N1 (o := listOf (List.toArray (rvs.take q10)) 0) (by k_mem), reads_take q10 RR⟩ : RowsAt _ _ (rows4.take q10))
  have S2 := S.fresh hTm (lt_T (by assumption))
  have own2 := (own_rl own).2.2.2 _ (News.own N1 (o := listOf (List.toArray (rvs.take q10)) 0) (by k_mem))
  refine use_AC (cut_spec _ (by k_asm) F1 (by k_asm) (by k_asm) rfl rfl S2.hb BK W4 (by first | exact Mine.le_small (by assumption) (by decide) | omega) (many := q10) (by first | exact Mine.le_small (by assumption) (by decide) | omega) (own_rl own2).2.1 fun h11 tk11 F11 M11 BK11 => ?_) rfl rfl (Nat.le_of_ble_eq_true rfl) (Nat.le_of_ble_eq_true rfl)
  refine and2 (after_cut S2 BK RAn DR M11) fun RA11 DR11 => ?_
  clear F1 N1 BK RA DR RR KEEP hrl M11 BK10 RA10 DR10 RAn
  have W6 := W4.take q10
  have l6 : (rows4.take q10).length ≤ 39 := by rw [List.length_take]; omega
  generalize rows4.take q10 = rows6 at BK11 RA11 W6 l6
  clear htk hq10 b4 hp4
  refine law_open F11 BK11 RA11 DR11 own2 fun obd rvs rn T1 hobd hTm NL hrl KEEP => ?_
  dsimp only at F11 NL ⊢
  k_steps
  (rename Fr _ _ _ _ => F1); (rename News _ _ _ _ => N1)
  refine and4 (KEEP _ _ F1 (News.sub N1 (fun p hp => by first | exact hp | exact .tail _ hp | exact .tail _ (.tail _ hp) | exact .tail _ (.tail _ (.tail _ hp)) | exact .tail _ (.tail _ (.tail _ (.tail _ hp)))))) fun BK RA DR RR => ?_
  refine use_AC (taken_spec _ (by k_asm) F1 (by k_asm) (by k_asm) rfl rfl S2.hb BK RA W6 (by first | exact Mine.le_small (by assumption) (by decide) | omega) (own_rl own2).1 S2.r1 S2.r2 S2.r3 (op := Str.ofString "c") (kids := []) (by decide +kernel) (by decide) (fun _ hm => nomatch hm) (kids_reads (kids := []) (h' := h) (News.isTup N1 (by k_mem)) .nil) fun h12 tk12 F12 M12 BK12 RA12 => ?_) rfl rfl (Nat.le_of_ble_eq_true rfl) (Nat.le_of_ble_eq_true rfl)
  have DR12 := after_taken S2 DR M12
  have al6 := addRow_length rows6 (Str.ofString "c", [])
  have p6 := addRow_pos rows6 (Str.ofString "c", [])
  have W7 := W6.add (r := (Str.ofString "c", [])) (by decide +kernel) (by decide) (fun _ hm => nomatch hm)
  generalize addRow rows6 (Str.ofString "c", []) = rows7 at BK12 RA12 al6 W7 p6
  have b7 : rows7.length ≤ 40 := by omega
  clear al6 l6
  clear F1 N1 BK RA DR RR KEEP hrl M12 BK11 RA11 DR11
  refine law_open F12 BK12 RA12 DR12 own2 fun obd rvs rn T1 hobd hTm NL hrl KEEP => ?_
  dsimp only at F12 NL ⊢
  k_steps
  (rename Fr _ _ _ _ => F1); (rename News _ _ _ _ => N1)
  refine and4 (KEEP _ _ F1 (News.sub N1 (fun p hp => by first | exact hp | exact .tail _ hp | exact .tail _ (.tail _ hp) | exact .tail _ (.tail _ (.tail _ hp)) | exact .tail _ (.tail _ (.tail _ (.tail _ hp)))))) fun BK RA DR RR => ?_
  refine use_AC (roll_spec _ (by k_asm) F1 (by k_asm) (by k_asm) rfl rfl S2.hd DR (own_rl own2).2.2.1.1 (own_rl own2).2.2.1.2 (by first | exact Mine.le_small (by assumption) (by decide) | omega) (by first | decide | omega) (by first | decide | omega) fun q13 tr13 h13 tk13 F13 M13 DR13 hq13 => ?_) rfl rfl (Nat.le_of_ble_eq_true rfl) (Nat.le_of_ble_eq_true rfl)
  refine and2 (after_dr S2 BK RA DR M13) fun BK13 RA13 => ?_
  clear F1 N1 BK RA DR RR KEEP hrl M13 BK12 RA12 DR12
  refine law_open F13 BK13 RA13 DR13 own2 fun obd rvs rn T1 hobd hTm NL hrl KEEP => ?_
  dsimp only at F13 NL ⊢
  k_steps
  (rename Fr _ _ _ _ => F1); (rename News _ _ _ _ => N1)
  refine and4 (KEEP _ _ F1 (News.sub N1 (fun p hp => by first | exact hp | exact .tail _ hp | exact .tail _ (.tail _ hp) | exact .tail _ (.tail _ (.tail _ hp)) | exact .tail _ (.tail _ (.tail _ (.tail _ hp)))))) fun BK RA DR RR => ?_
  rw [show (1 + (q13 : Int)) = ((1 + q13 : Nat) : Int) by omega]
  refine use_AC (are_spec _ (by k_asm) F1 (by k_asm) (by k_asm) rfl rfl S2.hb S2.hd BK RA DR W7 (by first | exact Mine.le_small (by assumption) (by decide) | omega) (by first | exact Mine.le_small (by assumption) (by decide) | omega) (by first | exact Mine.le_small (by assumption) (by decide) | omega) (by first | exact Mine.le_small (by assumption) (by decide) | omega) (own_rl own2).1 (own_rl own2).2.2.1.1 (own_rl own2).2.2.1.2 S2.r1 S2.r2 S2.r3 S2.r4 S2.r6 S2.r5 fun h14 tk14 rows8 k14 F14 M14 BK14 RA14 DR14 W8 u1 u2 u3 => ?_) rfl rfl (Nat.le_of_ble_eq_true rfl) (Nat.le_of_ble_eq_true rfl)
  have b8 : rows8.length ≤ 43 := by clear u1 u3; omega
  have p8 : 0 < rows8.length := Nat.lt_of_lt_of_le p6 u1
  have c14 : k14 ≤ 40 := by clear u1 u2; omega
  clear u1 u2 u3 b7 p6 hq13 c9
  clear F1 N1 BK RA DR RR KEEP hrl M14 BK13 RA13 DR13
  refine law_open F14 BK14 RA14 DR14 own2 fun obd rvs rn T1 hobd hTm NL hrl KEEP => ?_
  obtain ⟨t1, t2, t3, t4, n, rfl⟩ := hobd
  dsimp only at F14 NL ⊢
  iterate 12 (first | (k_unfold; (try dsimp only)) | (k_end; wrow_close) | walk1 | (dsimp only; walk1))
  dsimp only
  refine' Mine.call_bare ?zzF ?zzX ?zzk ?_
  case zzF => k_asm
  case zzX => k_asm
  case zzk => k_is
  k_steps
  (rename Fr _ _ _ _ => F1); (rename News _ _ _ _ => N1)
  refine and4 (KEEP _ _ F1 (News.sub N1 (fun p hp => by first | exact hp | exact .tail _ hp | exact .tail _ (.tail _ hp) | exact .tail _ (.tail _ (.tail _ hp)) | exact .tail _ (.tail _ (.tail _ (.tail _ hp)))))) fun BK RA DR RR => ?_
  refine use_AC (size_spec _ (by k_asm) F1 (by k_asm) (by k_asm) rfl rfl BK (by first | exact Mine.le_small (by assumption) (by decide) | omega) fun t15 h15 tk15 F15 M15 => ?_) rfl rfl (Nat.le_of_ble_eq_true rfl) (Nat.le_of_ble_eq_true rfl)
  have N15 := News.mods N1 M15 (fun _ _ hm => nomatch hm)
  clear F1 N1 BK RA DR RR M15
  dsimp only at F15 N15 ⊢
  k_steps
  (rename Fr _ _ _ _ => F1); (rename News _ _ _ _ => N1)
  refine and4 (KEEP _ _ F1 (News.sub N1 (fun p hp => by first | exact hp | exact .tail _ hp | exact .tail _ (.tail _ hp) | exact .tail _ (.tail _ (.tail _ hp)) | exact .tail _ (.tail _ (.tail _ (.tail _ hp)))))) fun BK RA DR RR => ?_
  refine use_AC (right_spec _ (by k_asm) F1 (by k_asm) (by k_asm) rfl rfl S2.hd DR (own_rl own2).2.2.1 (by first | exact Mine.le_small (by assumption) (by decide) | omega) BK RA W8 (by first | exact Mine.le_small (by assumption) (by decide) | omega) (by first | exact Mine.le_small (by assumption) (by decide) | omega) S2.r4 S2.r6 fun h16 tk16 k16 F16 M16 DR16 g16 => ?_) rfl rfl (Nat.le_of_ble_eq_true rfl) (Nat.le_of_ble_eq_true rfl)
  have N16 := (show ∀ {g h : Heap} {L : Addr} {m : Str → Option Value}, Fr g L h m → News g L h [] from fun _ => News.nil) F16
  clear F1 N1 BK RA DR RR M16
  dsimp only at F16 N16 ⊢
  k_steps
  refine hPP _ _ ?_
  subst hgs hdr hos hn hG
  k_steps)
end Mine
theorem PySem.Challenge.cw_rh0001_01_holds : PySem.Challenge.rw_rh0001_01.Holds :=
  Mine.law_try
