import PyProof.Rows.All
import Wide.All
import OpenK.AllK
import Wide.FinOn
import PySem.Challenge.RW_nz0270_01
set_option Elab.async false
open PySem PySem.W PyProof.Rows
section
open PySem PySem.W PyProof.Rows
set_option maxRecDepth 100000
set_option maxHeartbeats 8000000
namespace Mine
open_top hd for PySem.Challenge.rw_nz0270_01
end Mine
end

section
open PySem PySem.W PyProof.Rows
set_option maxRecDepth 100000
set_option maxHeartbeats 8000000
namespace Mine

noncomputable abbrev loose : List PySem.Str := looseW hd.view_39 [Str.ofString "line_spans"]

noncomputable def Spec (k : Nat) (f : Addr) (vs : List Value) (pre : Heap → Prop) (post : Heap → Heap → Value → Prop) : Prop :=
  ∀ (w : World) (mean : ExcName → Option Value) (mg mb : PySem.Str → Option Value) (dp un : Nat) (gd : Option (List Code)) (outer : List Env) (base : Heap) (s : Shared) (R : Result → Shared → Prop),
    Below { handled := none, depth := dp, frames := some outer, guards := gd, units := un } base outer s.heap → (hd.heap_39 w.params).In s.heap → Top hd.view_39 loose mean mg mb s.heap → pre s.heap → dp + k < recursionLimit → un + 20 * k < cLine →
    (∀ v h' tk', s.heap.StaysIn h' → post s.heap h' v → R (.ok (.ret v)) { s with heap := h', toks := tk' }) →
    codeAny (model PySem.Challenge.rw_nz0270_01.prog w) { handled := none, depth := dp, frames := some outer, guards := gd, units := un } (.call (.ref f) ⟨vs, []⟩) R s

/-- a def of the program, called: its body is walked over the whole heap as it stands -/
theorem enter {w : World} {mean : ExcName → Option Value} {mg mb : PySem.Str → Option Value} {dp un : Nat} {gd : Option (List Code)} {outer : List Env} {base : Heap} {s : Shared} {R : Result → Shared → Prop} {p : Program} {loose : List PySem.Str} {K : Frag}
    {name qual : PySem.Str} {params : Arguments} {body : List Stmt} {scope : Scope} {dV kV doc pm cdv ct oc : Value} {an od : Option Addr} {osl : Array (Option Value)} {f : Addr} {args : Args} {binds : List (PySem.Str × Value)}
    (B : Below { handled := none, depth := dp, frames := some outer, guards := gd, units := un } base outer s.heap) (X : K.In s.heap) (T : Top p loose mean mg mb s.heap) (hr : dp < recursionLimit)
    (ho : K.lookup f = some ⟨oc, od, .func (fnOf name qual params body scope dV kV doc pm an cdv ct), osl⟩) (hcd : codeIn K cdv qual = true)
    (hbind : BindsTo s (fnOf name qual params body scope dV kV doc pm an cdv ct) args binds) (hloc : ∀ y ∈ binds, scope.names.lookup y.1 = some .local)
    (hcell : ∀ x ∈ scope.names, x.2 ≠ .cell) (hco : scope.isCoroutine = false) (hgen : scope.isGenerator = false) (hk : scope.kind = .function)
    (h : ∀ h₁ tk₁, Fr s.heap s.heap.objs.size h₁ (fun y => binds.reverse.lookup y) → News s.heap s.heap.objs.size h₁ [] →
      wpAny (model PySem.Challenge.rw_nz0270_01.prog w) { handled := none, depth := dp + 1, frames := some (envOf qual scope s.heap.objs.size f cdv :: outer), guards := gd, units := un + 3 } (execs body (envOf qual scope s.heap.objs.size f cdv))
        (fun fl s' => R (.ok (.ret (match fl with | .ret v => v | _ => .none))) s') (fun _ _ => False) { s with heap := h₁, toks := tk₁ }) :
    codeAny (model PySem.Challenge.rw_nz0270_01.prog w) { handled := none, depth := dp, frames := some outer, guards := gd, units := un } (.call (.ref f) args) R s := by
  refine codeAny_call_def (fd := fnOf name qual params body scope dV kV doc pm an cdv ct) (body := body) (binds := binds) hr (X _ _ ho) rfl T.nolimit (codeRec_of X hcd) rfl hbind hcell hloc (fun h₁ hns hk₁ => wpAny_noRaise ?_) hco hgen hk
  exact h h₁ _ ⟨hns, hk₁, Nat.le_refl _⟩ (fun _ hp => nomatch hp)

/-- a def with cells, called -/
theorem enterC {w : World} {mean : ExcName → Option Value} {mg mb : PySem.Str → Option Value} {dp un : Nat} {gd : Option (List Code)} {outer : List Env} {base : Heap} {s : Shared} {R : Result → Shared → Prop} {p : Program} {loose : List PySem.Str} {K : Frag}
    {name qual : PySem.Str} {params : Arguments} {body : List Stmt} {scope : Scope} {dV kV doc pm cdv ct oc : Value} {an od : Option Addr} {osl : Array (Option Value)} {f : Addr} {args : Args} {binds : List (PySem.Str × Value)}
    (B : Below { handled := none, depth := dp, frames := some outer, guards := gd, units := un } base outer s.heap) (X : K.In s.heap) (T : Top p loose mean mg mb s.heap) (hr : dp < recursionLimit)
    (ho : K.lookup f = some ⟨oc, od, .func (fnOf name qual params body scope dV kV doc pm an cdv ct), osl⟩) (hcd : codeIn K cdv qual = true)
    (hbind : BindsTo s (fnOf name qual params body scope dV kV doc pm an cdv ct) args binds) (hkind : (binds.all fun y => scope.names.lookup y.1 == some .local || scope.names.lookup y.1 == some .cell) = true)
    (hnd : ((cellsFrom 0 scope.names []).map (·.1)).Nodup) (hco : scope.isCoroutine = false) (hgen : scope.isGenerator = false) (hk : scope.kind = .function)
    (h : ∀ h₁ tk₁ cells, Fr s.heap s.heap.objs.size h₁ (bindL (envOfC qual scope s.heap.objs.size f cdv).kindOf binds fun _ => none) → News s.heap s.heap.objs.size h₁ cells →
      CellsAre (bindC (envOfC qual scope s.heap.objs.size f cdv).kindOf binds fun _ => none) (cellsFrom (s.heap.objs.size + 1) scope.names []) cells →
      wpAny (model PySem.Challenge.rw_nz0270_01.prog w) { handled := none, depth := dp + 1, frames := some (envOfC qual scope s.heap.objs.size f cdv :: outer), guards := gd, units := un + 3 } (execs body (envOfC qual scope s.heap.objs.size f cdv))
        (fun fl s' => R (.ok (.ret (match fl with | .ret v => v | _ => .none))) s') (fun _ _ => False) { s with heap := h₁, toks := tk₁ }) :
    codeAny (model PySem.Challenge.rw_nz0270_01.prog w) { handled := none, depth := dp, frames := some outer, guards := gd, units := un } (.call (.ref f) args) R s := by
  refine codeAny_call_function hr (X _ _ ho) rfl hco hgen rfl (codeRec_of X hcd) (hbind _ _ _ _ ?_)
  refine wpAny_newFunctionEnv_cells hk (kindsX hkind _) fun env' he s' x => ?_
  subst he
  refine ⟨T.nolimit.keeps x.toInCall.keep, codeAny_func (wpAny_noRaise ?_)⟩
  obtain ⟨h₁, tk, rfl, _⟩ := x.done
  have hk₁ := x.toInCall.keep
  obtain ⟨cells, NC, Y⟩ := Cl.news (h₀ := s.heap) (Nat.le_refl _) fun n c hm => ⟨x.cell n c (lookup_of_mem_nodup (cellsFrom_names scope.names 0 (s.heap.objs.size + 1) [] [] rfl ▸ hnd) hm), x.above n c hm⟩
  exact h h₁ tk cells ⟨x.toInCall.ns, hk₁, Nat.le_refl _⟩ NC Y

/-- all that stood stands -/
def Stay (h h' : Heap) : Prop := ∀ b o, h.get? b = some o → h'.get? b = some o
/-- a call of a def by what it is known to give -/
theorem call_spec {k : Nat} {f : Addr} {vs : List Value} {pre : Heap → Prop} {post : Heap → Heap → Value → Prop} (C : Spec k f vs pre post)
    {w : World} {mean : ExcName → Option Value} {mg mb : PySem.Str → Option Value} {dp un : Nat} {gd : Option (List Code)} {outer : List Env} {base h₀ : Heap} {L : Addr} {m : PySem.Str → Option Value} {news : List (Addr × Obj)} {env : Env} {s : Shared} {Q E : Value → Shared → Prop}
    (B : Below { handled := none, depth := dp, frames := some outer, guards := gd, units := un } base outer h₀) (X : (hd.heap_39 w.params).In h₀) (T : Top hd.view_39 loose mean mg mb h₀)
    (F : Fr h₀ L s.heap m) (N : News h₀ L s.heap news) (hf : env.frame = some L) (hk : env.scope.kind = .function) (hr : dp + (k + 1) < recursionLimit) (hu : un + (20 * k + 3) < cLine) (hp : pre s.heap)
    (h : ∀ v h' tk', Fr h₀ L h' m → News h₀ L h' news → Stay s.heap h' → post s.heap h' v → Q v { s with heap := h', toks := tk' }) :
    wpAny (model PySem.Challenge.rw_nz0270_01.prog w) { handled := none, depth := dp + 1, frames := some (env :: outer), guards := gd, units := un + 3 } (call (.ref f) vs) Q E s := by
  refine wpAny_call ?_
  have B₁ := pushX B F hf hk
  exact C w mean mg mb (dp + 1) (un + 3) gd (env :: outer) base s _ B₁ (X.keeps F.keep) (T.keeps F.keep) hp (by omega) (by omega) fun v h' tk' st hpost => h v h' tk' (F.keeps st) (N.grown st) st hpost
end Mine
end

section
open PySem PySem.W PyProof.Rows
set_option maxRecDepth 100000
set_option maxHeartbeats 4000000
set_option linter.unusedVariables false
namespace Mine
open PySem.Builtin
namespace FB
theorem slot_find : Slot "bytes" "find" "bytes.find" :=
  .of (owner := "bytes") (n := "find") (by rw [typeLookup_type, builtinLookup_eq_fast]; kernel_rfl) (by decide +kernel) (by decide +kernel) (by decide +kernel)
    (by first | exact .inl (by decide +kernel) | exact .inr (by decide +kernel)) (by rw [isSubtype_type]; kernel_rfl)
theorem type_find : typeOf (.builtin "bytes.find") = pure (.type "method_descriptor") := by show builtinType _ = _; rw [builtinType_eq_fast]; kernel_rfl
theorem entry_find : entryFor table "bytes.find" = some Builtin.«bytes.find» := entryFor_of_tree (by kernel_rfl)
theorem args_find (a b c d : Value) : argsOk "bytes.find" ⟨[a, b, c, d], []⟩ := by
  unfold argsOk; rw [signature?_of (id := "bytes.find") (n := ['d', 'n', 'i', 'f']) (o := ['s', 'e', 't', 'y', 'b']) (by kernel_rfl) PySem.W.FB.owner_bytes]; kernel_rfl
theorem slot_rstrip : Slot "bytes" "rstrip" "bytes.rstrip" :=
  .of (owner := "bytes") (n := "rstrip") (by rw [typeLookup_type, builtinLookup_eq_fast]; kernel_rfl) (by decide +kernel) (by decide +kernel) (by decide +kernel)
    (by first | exact .inl (by decide +kernel) | exact .inr (by decide +kernel)) (by rw [isSubtype_type]; kernel_rfl)
theorem type_rstrip : typeOf (.builtin "bytes.rstrip") = pure (.type "method_descriptor") := by show builtinType _ = _; rw [builtinType_eq_fast]; kernel_rfl
theorem entry_rstrip : entryFor table "bytes.rstrip" = some Builtin.«bytes.rstrip» := entryFor_of_tree (by kernel_rfl)
theorem args_rstrip (a b : Value) : argsOk "bytes.rstrip" ⟨[a, b], []⟩ := by
  unfold argsOk; rw [signature?_of (id := "bytes.rstrip") (n := ['p', 'i', 'r', 't', 's', 'r']) (o := ['s', 'e', 't', 'y', 'b']) (by kernel_rfl) PySem.W.FB.owner_bytes]; kernel_rfl
theorem slot_join : Slot "bytes" "join" "bytes.join" :=
  .of (owner := "bytes") (n := "join") (by rw [typeLookup_type, builtinLookup_eq_fast]; kernel_rfl) (by decide +kernel) (by decide +kernel) (by decide +kernel)
    (by first | exact .inl (by decide +kernel) | exact .inr (by decide +kernel)) (by rw [isSubtype_type]; kernel_rfl)
theorem type_join : typeOf (.builtin "bytes.join") = pure (.type "method_descriptor") := by show builtinType _ = _; rw [builtinType_eq_fast]; kernel_rfl
theorem entry_join : entryFor table "bytes.join" = some Builtin.«bytes.join» := entryFor_of_tree (by kernel_rfl)
theorem args_join (a b : Value) : argsOk "bytes.join" ⟨[a, b], []⟩ := by
  unfold argsOk; rw [signature?_of (id := "bytes.join") (n := ['n', 'i', 'o', 'j']) (o := ['s', 'e', 't', 'y', 'b']) (by kernel_rfl) PySem.W.FB.owner_bytes]; kernel_rfl
end FB

section
variable {M : Model} {A : Around} {E : Value → Shared → Prop} {s : Shared} {b : Array UInt8} {t : Tok} {pl : Sem Bool} {Q : Value × List Value → Shared → Prop}
theorem method_find (h : Q (.builtin "bytes.find", [.bytes b t]) s) : wpAny M A (getMethod (.bytes b t) "find" pl) Q E s := by
  with_reducible exact KBd.method_of (.bytes b t) (typeIs_bytes _ _ _) FB.slot_find FB.type_find KBd.noRef h
theorem method_rstrip (h : Q (.builtin "bytes.rstrip", [.bytes b t]) s) : wpAny M A (getMethod (.bytes b t) "rstrip" pl) Q E s := by
  with_reducible exact KBd.method_of (.bytes b t) (typeIs_bytes _ _ _) FB.slot_rstrip FB.type_rstrip KBd.noRef h
theorem method_join (h : Q (.builtin "bytes.join", [.bytes b t]) s) : wpAny M A (getMethod (.bytes b t) "join" pl) Q E s := by
  with_reducible exact KBd.method_of (.bytes b t) (typeIs_bytes _ _ _) FB.slot_join FB.type_join KBd.noRef h
end

/-- where the sign c stands first in l, as bytes.find tells it from place i to place j -/
def findFrom (l : List UInt8) (c : UInt8) (i j : Nat) : Int :=
  match ((l.take j).drop i).findIdx? (· == c) with
  | some k => (i + k : Nat)
  | none => -1

theorem range_findIdx (c : UInt8) : ∀ r : List UInt8, ((List.range r.length).find? fun k => r[k]? == some c) = r.findIdx? (· == c)
  | [] => rfl
  | x :: r => by
    rw [List.length_cons, List.range_succ_eq_map, List.find?_cons, List.findIdx?_cons]
    by_cases hx : x = c
    · subst hx
      simp
    · have h1 : ((x :: r)[0]? == some c) = false := by simp [hx]
      have h2 : (x == c) = false := by simp [hx]
      rw [h1, h2, List.find?_map]
      simp only [Bool.false_eq_true, if_false]
      have h3 : ((fun k => (x :: r)[k]? == some c) ∘ Nat.succ) = fun k => r[k]? == some c := by
        funext k
        simp
      rw [h3, range_findIdx c r]
theorem extract_one (l : List UInt8) (c : UInt8) (k : Nat) : (l.toArray.extract k (k + 1) == #[c]) = (l[k]? == some c) := by
  have e : l.toArray.extract k (k + 1) = (l[k]?.toList).toArray := by
    rw [List.extract_toArray, List.extract_eq_take_drop, Nat.add_sub_cancel_left]
    congr 1
    rw [List.take_one, List.head?_drop]
  rw [e]
  cases l[k]? with
  | none => rfl
  | some x =>
    show (#[x] == #[c]) = (some x == some c)
    by_cases h : x = c <;> simp [h]
theorem find_congr {α : Type} {p q : α → Bool} : ∀ {l : List α}, (∀ x ∈ l, p x = q x) → l.find? p = l.find? q
  | [], _ => rfl
  | x :: l, h => by
    rw [List.find?_cons, List.find?_cons, h x (.head _), find_congr fun y hy => h y (.tail _ hy)]
theorem find_one (l : List UInt8) (c : UInt8) (i j : Nat) (hi : i ≤ j) (hj : j ≤ l.length) :
    (match Bytes.find? l.toArray #[c] i j with | some k => (k : Int) | none => -1) = findFrom l c i j := by
  unfold Bytes.find? findFrom
  have e1 : j + 1 - (i + (#[c] : Array UInt8).size) = j - i := by show j + 1 - (i + 1) = j - i; omega
  have hlen : ((l.take j).drop i).length = j - i := by simp; omega
  rw [e1, List.find?_map]
  have key : ((List.range (j - i)).find? ((fun k => l.toArray.extract k (k + (#[c] : Array UInt8).size) == #[c]) ∘ fun x => x + i)) = ((l.take j).drop i).findIdx? (· == c) := by
    rw [← range_findIdx c, hlen]
    refine find_congr fun k hk => ?_
    have hk' : k < j - i := List.mem_range.mp hk
    show (l.toArray.extract (k + i) (k + i + 1) == #[c]) = _
    rw [extract_one, List.getElem?_drop, List.getElem?_take_of_lt (by omega), Nat.add_comm]
  rw [key]
  cases ((l.take j).drop i).findIdx? (· == c) with
  | none => rfl
  | some k =>
    show (((k + i : Nat)) : Int) = ((i + k : Nat) : Int)
    rw [Nat.add_comm]

section
variable {prog : Program} {w : World} {A : Around} {E : Value → Shared → Prop} {s : Shared} {l : List UInt8} {c : UInt8} {t u : Tok}
theorem bound_int {M : Model} {i : Int} {u : Tok} {Q : Option Int → Shared → Prop} (h : Q (some i) s) : wpAny M A (Bytes.bound? (some (.int i u))) Q E s := by
  show wpAny M A (specialOf (.int i u) "__index__" >>= fun r => _) Q E s
  refine wpAny_bind (wpAny_specialOf (T := "int") (typeIs_int _ _ _) F.slot_int_index.lookup ?_)
  refine wpAny_ite (KBy.ite_no (show ¬ (Option.isNone (some _) = true) from Bool.false_ne_true) ?_)
  exact wpAny_bind (wpAny_of_eq rfl (wpAny_pure h))
theorem meets_find (i j : Nat) {ui uj : Tok} (hi : i ≤ j) (hj : j ≤ l.length) :
    Meets («bytes.find» ⟨[.bytes l.toArray t, .bytes #[c] u, .int i ui, .int j uj], []⟩) (fun _ R s => ∀ t' k, R (.ok (.ret (.int (findFrom l c i j) t'))) { s with toks := k }) := by
  refine .of_wp fun prog w A R s h => ?_
  show wpAny _ _ (Bytes.searchM .bytes "find" false false _) _ _ s
  unfold Bytes.searchM
  refine wpAny_bind ?_
  unfold Bytes.searchArgs
  refine wpAny_bind (wpAny_of_eq (a := (.bytes l.toArray t, [.bytes #[c] u, .int i ui, .int j uj])) rfl ?_)
  refine wpAny_bind (bound_int ?_)
  refine wpAny_bind (bound_int ?_)
  refine wpAny_bind (wpAny_of_eq KBy.buffer_eq ?_)
  refine wpAny_bind (wpAny_pure ?_)
  refine wpAny_bind (wpAny_of_eq (a := l.toArray) rfl ?_)
  have hw : Bytes.window l.toArray.size (some (i : Int)) (some (j : Int)) = ((i : Int), (j : Int)) := by
    unfold Bytes.window
    have h1 : ¬ ((i : Int) < 0) := by omega
    have h2 : ¬ ((j : Int) < 0) := by omega
    have h3 : min ((l.toArray.size : Nat) : Int) (j : Int) = (j : Int) := by rw [List.size_toArray]; omega
    simp only [Option.getD_some, if_neg h1, if_neg h2, h3]
  show wpAny _ _ (match Bytes.window l.toArray.size (some (i : Int)) (some (j : Int)) with
    | (lo, hi) => pure (l.toArray, #[c], if hi - lo < (#[c] : Array UInt8).size then none else some (lo.toNat, hi.toNat))) _ _ _
  rw [hw]
  refine wpAny_pure ?_
  dsimp only
  rw [Int.toNat_natCast, Int.toNat_natCast]
  have e0 : (((#[c] : Array UInt8).size : Nat) : Int) = 1 := rfl
  rw [e0]
  have fin : ∀ v : Int, v = findFrom l c i j → wpAny (model prog w) A.in1 (retInt v) (fun fin s' => ∃ v, fin = Fin.done (Flow.ret v) ∧ R (Except.ok (Flow.ret v)) s') (fun e s' => R (Except.error e) s') s := by
    rintro v rfl
    exact wpAny_bind (wpAny_mkInt (wpAny_pure ⟨_, rfl, h _ _⟩))
  by_cases hij : (j : Int) - (i : Int) < 1
  · rw [if_pos hij]
    refine wpAny_bind (wpAny_rule ?_)
    refine fin _ ?_
    have e : i = j := by omega
    subst e
    unfold findFrom
    have e2 : (l.take i).drop i = [] := List.drop_eq_nil_of_le (by simp; omega)
    rw [e2]; rfl
  · rw [if_neg hij]
    have e := find_one l c i j hi hj
    dsimp only [Option.bind, Bool.false_eq_true, if_false]
    revert e
    cases hf : Bytes.find? l.toArray #[c] i j with
    | none => intro e; exact wpAny_bind (wpAny_rule (fin _ e))
    | some k => intro e; exact fin _ e
theorem call_find (i j : Nat) {ui uj : Tok} {Q : Value → Shared → Prop} (hi : i ≤ j) (hj : j ≤ l.length) (h : ∀ t' k, Q (.int (findFrom l c i j) t') { s with toks := k }) :
    wpAny (model prog w) A (call (.builtin "bytes.find") [.bytes l.toArray t, .bytes #[c] u, .int i ui, .int j uj]) Q E s :=
  call_meets FB.slot_find (typeIs_bytes _ _ _) FB.entry_find (FB.args_find _ _ _ _) (meets_find i j hi hj) h

theorem findFrom_in (l : List UInt8) (c : UInt8) (i j : Nat) (hj : j ≤ l.length) : findFrom l c i j = -1 ∨ ((i : Int) ≤ findFrom l c i j ∧ findFrom l c i j < j) := by
  unfold findFrom
  cases h : ((l.take j).drop i).findIdx? (· == c) with
  | none => exact .inl rfl
  | some k =>
    have hk : k < ((l.take j).drop i).length := by
      have := List.findIdx?_eq_some_iff_findIdx_eq.mp h
      exact this.1
    rw [List.length_drop, List.length_take] at hk
    right
    dsimp only
    omega
theorem call_find2 (i j : Nat) {ui uj : Tok} {Q : Value → Shared → Prop} (hi : i ≤ j) (hj : j ≤ l.length) (h : ∀ v t' k, v = findFrom l c i j → (v = -1 ∨ ((i : Int) ≤ v ∧ v < j)) → Q (.int v t') { s with toks := k }) :
    wpAny (model prog w) A (call (.builtin "bytes.find") [.bytes l.toArray t, .bytes #[c] u, .int i ui, .int j uj]) Q E s :=
  call_find i j hi hj fun t' k => h _ t' k rfl (findFrom_in l c i j hj)

/-- the list without its blank end -/
def stripR (drop : UInt8 → Bool) (l : List UInt8) : List UInt8 := (l.reverse.dropWhile drop).reverse
theorem stripR_length (drop : UInt8 → Bool) (l : List UInt8) : (stripR drop l).length ≤ l.length := by
  unfold stripR
  rw [List.length_reverse]
  exact Nat.le_trans (List.dropWhile_sublist _).length_le (by rw [List.length_reverse]; exact Nat.le_refl _)
theorem stripR_same {drop : UInt8 → Bool} {l : List UInt8} (h : (stripR drop l).length = l.length) : stripR drop l = l := by
  unfold stripR at h ⊢
  rw [List.length_reverse] at h
  have := (List.dropWhile_sublist drop (l := l.reverse)).eq_of_length (by rw [h, List.length_reverse])
  rw [this, List.reverse_reverse]
theorem meets_rstrip {ds : List UInt8} (hl : l.length ≤ 16777216) :
    Meets («bytes.rstrip» ⟨[.bytes l.toArray t, .bytes ds.toArray u], []⟩) (fun _ R s => ∀ t' k, R (.ok (.ret (.bytes (stripR ds.contains l).toArray t'))) { s with toks := k }) := by
  refine .of_wp fun prog w A R s h => ?_
  show wpAny _ _ (Bytes.stripM .bytes "rstrip" false true _) _ _ s
  unfold Bytes.stripM
  refine wpAny_bind (wpAny_of_eq (a := (.bytes l.toArray t, [.bytes ds.toArray u])) rfl ?_)
  refine wpAny_bind ?_
  unfold Bytes.bytesLike
  refine wpAny_bind ?_
  refine wpAny_of_eq KBy.buffer_eq ?_
  refine wpAny_pure ?_
  refine wpAny_bind (wpAny_pure ?_)
  refine wpAny_bind (wpAny_of_eq (a := l.toArray) rfl ?_)
  have e0 : ds.toArray.contains = ds.contains := by funext x; simp
  rw [e0]
  show wpAny _ _ (if ((stripR ds.contains l).length == l.toArray.size) = true then _ else _) _ _ s
  by_cases hk : (stripR ds.contains l).length = l.length
  · rw [if_pos (by simp [hk])]
    refine wpAny_bind (wpAny_rule ?_)
    show wpAny _ _ (Bytes.Kind.same .bytes _ >>= _) _ _ s
    unfold Bytes.Kind.same
    refine wpAny_bind ?_
    show wpAny _ _ (typeOf (.bytes l.toArray t) >>= _) _ _ s
    refine wpAny_bind (wpAny_typeOf (typeIs_bytes s _ t) ?_)
    refine wpAny_pure ?_
    refine wpAny_pure ⟨_, rfl, ?_⟩
    rw [← stripR_same hk]
    rw [stripR_same hk]
    have := h t s.toks
    rw [stripR_same hk] at this
    exact this
  · rw [if_neg (by simp [hk])]
    have hz := stripR_length ds.contains l
    refine wpAny_bind (wpAny_mkBytes (wpAny_pure ⟨_, rfl, h _ _⟩) ?_)
    rw [List.size_toArray, sizeLine_eq]
    exact Nat.le_trans hz hl
theorem call_rstrip {ds : List UInt8} {Q : Value → Shared → Prop} (hl : l.length ≤ 16777216) (h : ∀ t' k, Q (.bytes (stripR ds.contains l).toArray t') { s with toks := k }) :
    wpAny (model prog w) A (call (.builtin "bytes.rstrip") [.bytes l.toArray t, .bytes ds.toArray u]) Q E s :=
  call_meets FB.slot_rstrip (typeIs_bytes _ _ _) FB.entry_rstrip (FB.args_rstrip _ _) (meets_rstrip hl) h
end
end Mine
end

section
open PySem PySem.W PyProof.Rows
set_option maxRecDepth 100000
set_option maxHeartbeats 4000000
set_option linter.unusedVariables false
namespace Mine
open PySem.Builtin

/-- a list of bytes values -/
inductive BytesAre : List Value → List (List UInt8) → Prop
  | nil : BytesAre [] []
  | cons (b : List UInt8) (t : Tok) {vs bs} : BytesAre vs bs → BytesAre (.bytes b.toArray t :: vs) (b :: bs)

theorem BytesAre.len {vs : List Value} {bs : List (List UInt8)} (h : BytesAre vs bs) : vs.length = bs.length := by
  induction h with
  | nil => rfl
  | cons b t r ih => rw [List.length_cons, List.length_cons, ih]
theorem BytesAre.all {vs : List Value} {bs : List (List UInt8)} (h : BytesAre vs bs) : ∀ v ∈ vs, ∃ b t, v = .bytes b t := by
  induction h with
  | nil => intro v hv; cases hv
  | cons b t r ih =>
    intro v hv
    rcases List.mem_cons.mp hv with rfl | hv
    · exact ⟨_, _, rfl⟩
    · exact ih v hv
theorem BytesAre.get {vs : List Value} {bs : List (List UInt8)} (h : BytesAre vs bs) : ∀ i, i < vs.length → ∃ b t, vs[i]? = some (.bytes b.toArray t) ∧ bs[i]? = some b := by
  induction h with
  | nil => intro i hi; cases hi
  | cons b t r ih =>
    intro i hi
    cases i with
    | zero => exact ⟨b, t, rfl, rfl⟩
    | succ i => exact ih i (Nat.lt_of_succ_lt_succ hi)
section
variable {prog : Program} {w : World} {A : Around} {E : Value → Shared → Prop} {s : Shared}
theorem takeQuiet {id : String} {b : Array UInt8} {t : Tok} {Q : Option (Array UInt8 × Option Value) → Shared → Prop} {M : Model} (h : Q (some (b, none)) s) : wpAny M A (Bytes.takeBufferQuiet? id (.bytes b t) 0) Q E s := by
  unfold Bytes.takeBufferQuiet?
  refine wpAny_bind (wpAny_attempt ?_)
  unfold Bytes.takeBuffer?
  rw [KBy.special_eq KBy.look_buffer]
  refine wpAny_bind (wpAny_pure ?_)
  show wpAny M A (Bytes.slotIsOwn (.bytes b t) "__buffer__" >>= fun r => _) _ _ s
  rw [KBy.own_buffer]
  refine wpAny_bind (wpAny_pure ?_)
  show wpAny M A ((pure (some (Value.builtin "bytes.__buffer__")) : Sem (Option Value)) >>= fun r => _) _ _ s
  refine wpAny_bind (wpAny_pure ?_)
  show wpAny M A (Bytes.buffer? id (.bytes b t) (0 == Bytes.fullReadOnly) >>= fun r => _) _ _ s
  have e0 : ((0 : Int) == Bytes.fullReadOnly) = false := by decide
  rw [e0]
  refine wpAny_bind (wpAny_of_eq KBy.buffer_eq ?_)
  exact wpAny_pure (wpAny_pure h)
theorem wp_have {α β : Type} {M : Model} {Q : β → Shared → Prop} (J : α → Sem β) (F : (α → Sem β) → Sem β) {u : α} (h1 : ∀ j, wpAny M A (j u) Q E s → wpAny M A (F j) Q E s) (h2 : wpAny M A (J u) Q E s) : wpAny M A (F J) Q E s := h1 J h2
theorem join_loop {M : Model} {vs : List Value} {bs : List (List UInt8)} (hb : BytesAre vs bs) {f : Nat → Array (Array UInt8) × List (Value × Option Value) → Sem (ForInStep (Array (Array UInt8) × List (Value × Option Value)))} {Q : Array (Array UInt8) × List (Value × Option Value) → Shared → Prop}
    (hf : ∀ (i : Nat) (parts : Array (Array UInt8)) (taken : List (Value × Option Value)) (R : ForInStep (Array (Array UInt8) × List (Value × Option Value)) → Shared → Prop) (b : List UInt8) (t : Tok), vs[i]? = some (.bytes b.toArray t) → (taken.any fun x => x.1.onHeap) = false → R (.yield (parts.push b.toArray, taken ++ [(.bytes b.toArray t, none)])) s → wpAny M A (f i (parts, taken)) R E s)
    (hQ : Q ((bs.map List.toArray).toArray, vs.map fun v => (v, none)) s) : wpAny M A (forIn [:vs.toArray.size] (#[], []) f) Q E s := by
  have hget := BytesAre.get hb
  have hlen := BytesAre.len hb
  rw [KPc.range_list]
  refine wpAny_forIn_list _ (fun rest st s' => s' = s ∧ ∃ i, i ≤ vs.length ∧ rest = List.range' i (vs.length - i) ∧ st.1 = ((bs.take i).map List.toArray).toArray ∧ st.2 = (vs.take i).map fun v => (v, none)) _ ?_ ?_ _ _ ⟨rfl, 0, Nat.zero_le _, by simp, rfl, rfl⟩
  · rintro i rest ⟨parts, taken⟩ s' ⟨rfl, j, hj, hr, h1, h2⟩
    obtain ⟨hji, hrest, hij⟩ : j < vs.length ∧ rest = List.range' (j + 1) (vs.length - (j + 1)) ∧ i = j := by
      obtain ⟨n, hn⟩ : ∃ n, vs.length - j = n + 1 := by
        cases hq : vs.length - j with
        | zero => rw [hq] at hr; cases hr
        | succ n => exact ⟨n, rfl⟩
      rw [hn, List.range'_succ] at hr
      injection hr with a b
      refine ⟨by omega, ?_, a⟩
      rw [b]; congr 1; omega
    subst hij
    dsimp only at h1 h2
    subst h1 h2
    obtain ⟨b, t, hv, hbv⟩ := hget i hji
    refine hf i _ _ _ b t hv ?_ ?_
    · rw [List.any_eq_false]
      intro x hx
      obtain ⟨v, hv', rfl⟩ := List.mem_map.mp hx
      obtain ⟨b', t', rfl⟩ := BytesAre.all hb v (List.mem_of_mem_take hv')
      exact Bool.false_ne_true
    · refine ⟨rfl, i + 1, hji, hrest, ?_, ?_⟩
      · rw [List.take_add_one, hbv]; simp
      · rw [List.take_add_one, hv]; simp
  · rintro ⟨parts, taken⟩ s' ⟨rfl, i, hi, hr, h1, h2⟩
    have hi' : i = vs.length := by
      have := congrArg List.length hr
      simp at this
      omega
    subst hi'
    dsimp only at h1 h2
    subst h1 h2
    rw [List.take_length, hlen, List.take_length]
    exact hQ
theorem joined_nil : ∀ (bs : List (List UInt8)), Bytes.joined #[] (bs.map List.toArray) = bs.flatten.toArray := by
  intro bs
  unfold Bytes.joined
  have key : ∀ (bs : List (List UInt8)) (k : Nat) (acc : List UInt8), ((bs.map List.toArray).zipIdx k).foldl (fun out (p, i) => (if i > 0 then out ++ (#[] : Array UInt8) else out) ++ p) acc.toArray = (acc ++ bs.flatten).toArray := by
    intro bs
    induction bs with
    | nil => intro k acc; simp
    | cons b bs ih =>
      intro k acc
      rw [List.map_cons, List.zipIdx_cons, List.foldl_cons]
      have e : (if k > 0 then acc.toArray ++ (#[] : Array UInt8) else acc.toArray) ++ b.toArray = (acc ++ b).toArray := by
        split <;> simp
      show ((bs.map List.toArray).zipIdx (k + 1)).foldl _ ((if k > 0 then acc.toArray ++ (#[] : Array UInt8) else acc.toArray) ++ b.toArray) = _
      rw [e, ih]
      simp
  have := key bs 0 []
  simpa using this
theorem joinLetGo_plain {M : Model} {keep : List Value} {Q : Unit → Shared → Prop} : ∀ (vs : List Value), Q () s → wpAny M A (Bytes.joinLetGo (vs.map fun v => (v, none)) keep) Q E s
  | [], h => wpAny_pure h
  | v :: vs, h => by
    rw [List.map_cons, Bytes.joinLetGo]
    · exact wpAny_bind (wpAny_letGo (joinLetGo_plain vs h))
    · intro x hx
      cases hx
theorem foldl_sizes : ∀ (bs : List (List UInt8)) (k : Nat), ((bs.map List.toArray).foldl (fun (x1 : Nat) (x2 : Array UInt8) => x1 + x2.size) k) = k + bs.flatten.length
  | [], k => by simp
  | b :: bs, k => by
    rw [List.map_cons, List.foldl_cons, foldl_sizes bs, List.flatten_cons, List.length_append, List.size_toArray]
    omega
theorem meets_join {l : Addr} {vs : List Value} {bs : List (List UInt8)} {t : Tok} (hb : BytesAre vs bs) (hz : bs.flatten.length ≤ 16777216) :
    Meets («bytes.join» ⟨[.bytes #[] t, .ref l], []⟩) (fun _ R s => s.heap.IsList l vs.toArray ∧ ∀ t' k, R (.ok (.ret (.bytes bs.flatten.toArray t'))) { s with toks := k }) := by
  refine .of_wp fun prog w A R s hS => ?_
  obtain ⟨hl, h⟩ := hS
  show wpAny _ _ (Bytes.joinM .bytes _) _ _ s
  unfold Bytes.joinM
  refine wpAny_bind (wpAny_of_eq (a := (.bytes #[] t, .ref l)) rfl ?_)
  show wpAny _ _ (Bytes.joinItems (.ref l) >>= fun x => _) _ _ s
  unfold Bytes.joinItems
  refine wpAny_bind ?_
  refine wpAny_bind ?_
  refine wpAny_typeOf hl.typeIs ?_
  refine wpAny_pure ?_
  obtain ⟨o, ho, hc, n₀, hd⟩ := hl
  refine wpAny_bind (wpAny_seqItems ho hd ?_)
  have hcase : (∃ x, vs = [x]) ∨ vs = [] ∨ ∃ x y r, vs = x :: y :: r := by
    match vs with
    | [] => exact .inr (.inl rfl)
    | [x] => exact .inl ⟨x, rfl⟩
    | x :: y :: r => exact .inr (.inr ⟨x, y, r, rfl⟩)
  dsimp only
  rw [if_pos (by rfl)]
  rcases hcase with ⟨x, e⟩ | hcase
  · subst e
    cases hb with
    | cons b t' r =>
      cases r
      refine wpAny_bind (wpAny_typeOf (typeIs_bytes s _ _) ?_)
      rw [if_pos (by rfl)]
      refine wpAny_bind (wpAny_rule ?_)
      refine wpAny_pure ⟨_, rfl, ?_⟩
      have := h t' s.toks
      rw [List.flatten_cons, List.flatten_nil, List.append_nil] at this
      exact this
  · rcases hcase with e | ⟨x, y, r, e⟩ <;> subst e
    all_goals
      refine wpAny_bind (join_loop hb (fun i parts taken Q b t hv hn hq => ?_) ?_)
      · refine wpAny_bind (wpAny_seqItems ho hd ?_)
        dsimp only
        have e0 : (Bytes.Kind.bytes == Bytes.Kind.bytearray) = false := rfl
        rw [e0, hn]
        rw [if_neg (by decide)]
        have e1 : ∀ (us : List Value), us[i]? = some (.bytes b.toArray t) → us.toArray.getD i Value.none = .bytes b.toArray t := by
          intro us hu
          rw [Array.getD_eq_getD_getElem?]
          simp [hu]
        rw [e1 _ hv]
        refine wpAny_bind (wpAny_holding (takeQuiet ?_))
        dsimp only
        refine wpAny_bind (wpAny_seqItems ho hd ?_)
        dsimp only
        rw [if_neg (by simp)]
        exact wpAny_pure hq
      · refine wpAny_bind (wpAny_of_eq (a := #[]) rfl ?_)
        dsimp only
        rw [if_neg (by
          rw [List.foldl_toArray, foldl_sizes]
          show ¬ (Bytes.tooLong _ = true)
          rw [KBy.tooLong_not (by simpa using hz)]
          decide), joined_nil]
        refine wpAny_bind (wpAny_mkBytes ?_ (by rw [List.size_toArray, sizeLine_eq]; exact hz))
        refine wpAny_bind (wpAny_holding (wpAny_point ?_))
        refine wpAny_bind (joinLetGo_plain _ ?_)
        exact wpAny_pure ⟨_, rfl, h _ _⟩
theorem call_join {l : Addr} {vs : List Value} {bs : List (List UInt8)} {t : Tok} {Q : Value → Shared → Prop} (hb : BytesAre vs bs) (hl : s.heap.IsList l vs.toArray) (hz : bs.flatten.length ≤ 16777216) (h : ∀ t' k, Q (.bytes bs.flatten.toArray t') { s with toks := k }) :
    wpAny (model prog w) A (call (.builtin "bytes.join") [.bytes #[] t, .ref l]) Q E s :=
  call_meets FB.slot_join (typeIs_bytes _ _ _) FB.entry_join (FB.args_join _ _) (meets_join hb hz) ⟨hl, h⟩
end
end Mine
end

section
open PySem PySem.W PyProof.Rows
set_option maxRecDepth 100000
set_option maxHeartbeats 4000000
set_option linter.unusedVariables false
namespace Mine
open PySem.Builtin
/-- a plain cut of a list by two Python places -/
def cut (l : List UInt8) (lo hi : Option Int) : List UInt8 := (l.drop (lo.elim 0 (clipAt l.length))).take (hi.elim l.length (clipAt l.length) - lo.elim 0 (clipAt l.length))
theorem cut_length (l : List UInt8) (lo hi : Option Int) : (cut l lo hi).length ≤ l.length := by
  unfold cut
  rw [List.length_take, List.length_drop]
  omega
theorem picked_cut (l : List UInt8) (lo hi : Option Int) : KBy.picked l.toArray lo hi = (cut l lo hi).toArray := by
  rw [KBc.picked_eq]; rfl
section
variable {prog : Program} {w : World} {A : Around} {E : Value → Shared → Prop} {s : Shared} {b c : List UInt8} {t u : Tok} {Q : Value → Shared → Prop}
theorem add_L (hsz : b.length + c.length ≤ 16777216) (h : ∀ t' k, Q (.bytes (b ++ c).toArray t') { s with toks := k }) : wpAny (model prog w) A (binaryOp .Add (.bytes b.toArray t) (.bytes c.toArray u)) Q E s := by
  refine KBy.add_bytes (by rw [List.size_toArray, List.size_toArray]; exact hsz) fun t' k => ?_
  rw [List.append_toArray]
  exact h t' k
theorem len_L (hfit : b.length ≤ 1099511627776) (h : ∀ t' k, Q (.int (b.length : Int) t') { s with toks := k }) : wpAny (model prog w) A (call (.builtin "len") [.bytes b.toArray t]) Q E s := by
  refine len_bytes (by rw [List.size_toArray]; exact hfit) ?_
  rw [List.size_toArray]
  exact h _ _
theorem eq_L (h : Q (.bool (b == c)) s) : wpAny (model prog w) A (compareOp .Eq (.bytes b.toArray t) (.bytes c.toArray u)) Q E s := eq_bytes h
theorem ne_L (h : Q (.bool (b != c)) s) : wpAny (model prog w) A (compareOp .NotEq (.bytes b.toArray t) (.bytes c.toArray u)) Q E s := ne_bytes h
theorem slice_L {value slice : PySem.Expr} {h₀ : Heap} {L : Addr} {m : PySem.Str → Option Value} {news : List (Addr × Obj)} {lv uv : Value} {lo hi : Option Int}
    (hF : Fr h₀ L s.heap m) (hN : News h₀ L s.heap news) (hl : IsPart lv lo) (hu : IsPart uv hi) (hz : b.length ≤ 16777216)
    (h : ∀ h' t' k, Fr h₀ L h' m → News h₀ L h' news → (cut b lo hi).length ≤ b.length → Q (.bytes (cut b lo hi).toArray t') { s with heap := h', toks := k })
    (hs : subscripted slice false (.bytes b.toArray t) (.ref s.heap.objs.size) = operate [.ref s.heap.objs.size, .bytes b.toArray t] (getItem (.bytes b.toArray t) (.ref s.heap.objs.size)) := by with_unfolding_all rfl)
    (ht : ∀ r, letTemporaryGo value (.bytes b.toArray t) r = pure () := by intro _; with_unfolding_all rfl) :
    wpAny (model prog w) A (subscriptTail value slice (.bytes b.toArray t) (.ref s.heap.objs.size)) Q E { s with heap := s.heap.push { cls := .type "slice", data := .fields #[lv, uv, .none] } } := by
  refine KBc.slice_K hF hN rfl hl hu (by rw [KBw.ints_length, List.size_toArray]; exact hz) (fun h' t' k F' N' _ => ?_) hs ht
  rw [picked_cut]
  exact h h' t' k F' N' (cut_length _ _ _)
end
/-- the walk stands here: what follows is typed by hand -/
def Stop (P : Prop) : Prop := P
theorem Stop.of {P : Prop} (h : Stop P) : P := h
section
variable {M : Model} {A : Around} {E : Value → Shared → Prop} {s : Shared} {L : Addr} {h₀ : Heap} {m : PySem.Str → Option Value} {news : List (Addr × Obj)}
theorem newTuple_L {vs : List Value} {Q : Value → Shared → Prop} (F : Fr h₀ L s.heap m) (N : News h₀ L s.heap news)
    (h : ∀ a h', Fr h₀ L h' m → News h₀ L h' ((a, { cls := .type "tuple", data := .seq vs.toArray 0 }) :: news) → (∀ p ∈ news, p.1 < a) → Q (.ref a) { s with heap := h' }) (hsz : vs.length ≤ sizeLine) :
    wpAny M A (newTuple vs) Q E s := newTuple_N F N (fun h' F' N' => h _ h' F' N' fun p hp => Heap.lt_size (N p hp).1) hsz
end
/-- the ledger bears a list of tuples of ints -/
inductive TupsIn (led : List (Addr × Obj)) : List Value → List (List Int) → Prop
  | nil : TupsIn led [] []
  | cons {a : Addr} {n : Nat} {its : List Value} {x : List Int} {vs : List Value} {xs : List (List Int)} : (a, ({ cls := .type "tuple", data := .seq its.toArray n } : Obj)) ∈ led → IntsAre its x → TupsIn led vs xs → TupsIn led (.ref a :: vs) (x :: xs)
def trip (x : Nat × Nat × Nat) : List Int := [(x.1 : Int), (x.2.1 : Int), (x.2.2 : Int)]

theorem TupsIn.mono {led led' : List (Addr × Obj)} {vs : List Value} {xs : List (List Int)} (h : TupsIn led vs xs) (hs : ∀ p ∈ led, p ∈ led') : TupsIn led' vs xs := by
  induction h with
  | nil => exact .nil
  | cons hm hi _ ih => exact .cons (hs _ hm) hi ih
theorem TupsIn.snoc {led : List (Addr × Obj)} {a : Addr} {n : Nat} {its : List Value} {x : List Int} {vs : List Value} {xs : List (List Int)} (h : TupsIn led vs xs) (hm : (a, ({ cls := .type "tuple", data := .seq its.toArray n } : Obj)) ∈ led) (hi : IntsAre its x) : TupsIn led (vs ++ [.ref a]) (xs ++ [x]) := by
  induction h with
  | nil => exact .cons hm hi .nil
  | cons hm' hi' _ ih => exact .cons hm' hi' ih
theorem TupsIn.length {led : List (Addr × Obj)} {vs : List Value} {xs : List (List Int)} (h : TupsIn led vs xs) : vs.length = xs.length := by
  induction h with
  | nil => rfl
  | cons _ _ _ ih => rw [List.length_cons, List.length_cons, ih]
theorem TupsIn.get {led : List (Addr × Obj)} {vs : List Value} {xs : List (List Int)} (h : TupsIn led vs xs) : ∀ v ∈ vs, ∃ a n its x, v = .ref a ∧ (a, ({ cls := .type "tuple", data := .seq (its : List Value).toArray n } : Obj)) ∈ led ∧ IntsAre its x ∧ x ∈ xs := by
  induction h with
  | nil => intro v hv; cases hv
  | cons hm hi _ ih =>
    intro v hv
    rcases List.mem_cons.mp hv with rfl | hv
    · exact ⟨_, _, _, _, rfl, hm, hi, .head _⟩
    · obtain ⟨a, n, its, x, e, h1, h2, h3⟩ := ih v hv
      exact ⟨a, n, its, x, e, h1, h2, .tail _ h3⟩
/-- a new list of the tuples xs comes back -/
def GivesTups (xs : List (List Int)) (h h' : Heap) (v : Value) : Prop :=
  ∃ a n vs led, v = .ref a ∧ (∀ q ∈ led, h'.get? q.1 = some q.2 ∧ h.get? q.1 = none) ∧ (a, listOf vs.toArray n) ∈ led ∧ TupsIn led vs xs
theorem fr_named {h₀ h : Heap} {L : Addr} {m : PySem.Str → Option Value} (ps : List (PySem.Str × Value)) (F : Fr h₀ L h m) (hp : ∀ p ∈ ps, m p.1 = some p.2) : Fr h₀ L h (kstB m ps) := by
  have e : kstB m ps = m := by
    funext z
    exact kstB_eq hp fun _ => rfl
  rw [e]
  exact F
end Mine
end

section
open PySem PySem.W PyProof.Rows PySem.Calls
set_option maxRecDepth 100000
set_option maxHeartbeats 4000000
set_option linter.unusedVariables false
namespace Mine
abbrev testsOf (prog : Program) (w : World) (A : Around) (ifs : List Expr) (cenv : Env) : Sem Bool :=
  forIn ifs true fun c r => if r = true then do let ok ← isTrue c cenv (eval c cenv); pure (ForInStep.yield ok) else pure (ForInStep.yield r)
section
variable {prog : Program} {w : World} {A : Around} {E : Value → Shared → Prop} {R : Result → Shared → Prop} {s : Shared} {env : Env}
theorem compLoop_T {elt target iter : Expr} {ifs : List Expr} {scope : Scope} {pos : Pos} {it acc : Value} {env : Env} (I : Nat → Shared → Prop)
    (turn : ∀ n s, I n s → wpAny (model prog w) A (pyNext it) (fun r s₁ => match r with
      | none => R (.ok .next) s₁
      | some v => wpAny (model prog w) A (letOwnedTupleGo target it v) (fun _ s₁' => wpAny (model prog w) A (assign target env v) (fun _ s₂ =>
          wpAny (model prog w) A (testsOf prog w A ifs env) (fun ok s₃ => if ok = true then wpAny (model prog w) A (eval elt env) (fun x s₄ =>
              wpAny (model prog w) A (call (.builtin "list.append") [acc, x]) (fun _ s₅ => ∃ m, m < n ∧ I m s₅) (notedBy (model prog w) A env fun e s' => R (.error e) s') s₄) (notedBy (model prog w) A env fun e s' => R (.error e) s') s₃
            else ∃ m, m < n ∧ I m s₃) (notedBy (model prog w) A env fun e s' => R (.error e) s') s₂)
          (notedBy (model prog w) A env fun e s' => R (.error e) s') s₁') (notedBy (model prog w) A env fun e s' => R (.error e) s') s₁) (notedBy (model prog w) A env fun e s' => R (.error e) s') s)
    (n : Nat) (h : I n s) : codeAny (model prog w) A (.compLoop (.ListComp elt [⟨target, iter, ifs, 0⟩] scope pos) 0 it acc env) R s := by
  refine codeAny_loop rfl I (fun n s hI => ?_) n h
  show wpAny _ A ((compTurn (.ListComp elt [⟨target, iter, ifs, 0⟩] scope pos) 0 it acc env).onRaise (fun x => do noteFrame x env; theTreesLotGoes x)) _ _ s
  refine wpAny_noted ?_
  rw [compTurn_list]
  refine wpAny_bind (wpAny_standAt (wpAny_bind (wpAny_mono (turn n s hI) (fun r s₁ h₁ => ?_) fun _ _ h' => h')))
  cases r with
  | none => exact wpAny_pure h₁
  | some v =>
    refine wpAny_bind (wpAny_mono h₁ (fun _ s₁' h₁' => ?_) fun _ _ h' => h')
    refine wpAny_bind (wpAny_mono h₁' (fun _ s₂ h₂ => wpAny_bind (wpAny_mono h₂ (fun ok s₃ h₃ => ?_) fun _ _ h' => h')) fun _ _ h' => h')
    cases ok with
    | false => exact wpAny_pure ⟨rfl, h₃⟩
    | true =>
      exact wpAny_bind (wpAny_bind (wpAny_mono h₃ (fun x s₄ h₄ => wpAny_bind (wpAny_mono h₄ (fun _ s₅ h₅ => wpAny_pure (wpAny_pure ⟨rfl, h₅⟩)) fun _ _ h' => h')) fun _ _ h' => h'))

/-- what a step of a turn leaves: the base, the turn's names, the iterator, the list that grows -/
def TurnEnd (h₁ : Heap) (C I D : Addr) (oI oD : Obj) (G : (PySem.Str → Option Value) → Prop) (s₂ s₃ : Shared) : Prop :=
  ∃ h' tk m', s₃ = { s₂ with heap := h', toks := tk } ∧ Fr h₁ C h' m' ∧ G m' ∧ News h₁ C h' [(I, oI), (D, oD)]

/-- one turn of a comprehension -/
structure Quiet (prog : Program) (w : World) (A : Around) (cenvAt : Addr → Env) (target : Expr) (ifs : List Expr) (elt : Expr) (I : Addr) (P : Nat → Value → Prop) (St : Nat → Heap → Prop) (h₁ : Heap)
    (G : Value → (PySem.Str → Option Value) → Prop) (p : Value → Bool) (F : Value → Value → Prop) : Prop where
  own : ∀ i v (s₂ : Shared) (Q : Unit → Shared → Prop) E', P i v → St (i + 1) s₂.heap → Q () s₂ → wpAny (model prog w) A (letOwnedTupleGo target (.ref I) v) Q E' s₂
  bind : ∀ C i v (s₂ : Shared) m₂ (Q : Unit → Shared → Prop) E', P i v → h₁.objs.size ≤ C → s₂.heap.Ns C m₂ → Stay h₁ s₂.heap →
    (∀ h' tk m', h'.Ns C m' → G v m' → (∀ b o, b ≠ C → s₂.heap.get? b = some o → h'.get? b = some o) → Q () { s₂ with heap := h', toks := tk }) →
    wpAny (model prog w) A (assign target (cenvAt C) v) Q E' s₂
  tests : ∀ C D oI oD i v (s₂ : Shared) m₂ E', P i v → Fr h₁ C s₂.heap m₂ → G v m₂ → News h₁ C s₂.heap [(I, oI), (D, oD)] → @Ne Nat I D →
    wpAny (model prog w) A (testsOf prog w A ifs (cenvAt C)) (fun ok s₃ => ok = p v ∧ TurnEnd h₁ C I D oI oD (G v) s₂ s₃) E' s₂
  elt : ∀ C D oI oD i v (s₂ : Shared) m₂ E', P i v → p v = true → Fr h₁ C s₂.heap m₂ → G v m₂ → News h₁ C s₂.heap [(I, oI), (D, oD)] → @Ne Nat I D →
    wpAny (model prog w) A (eval elt (cenvAt C)) (fun y s₃ => F v y ∧ TurnEnd h₁ C I D oI oD (G v) s₂ s₃) E' s₂

theorem loop_T {elt target iter : Expr} {ifs : List Expr} {scope : Scope} {pos : Pos} {I D C : Addr} {fp : List Addr} {n : Nat} {P : Nat → Value → Prop} {St : Nat → Heap → Prop} {cenvAt : Addr → Env} {m : PySem.Str → Option Value} {h₁ : Heap}
    {G : Value → (PySem.Str → Option Value) → Prop} {p : Value → Bool} {F : Value → Value → Prop} (W : Walks prog w A I fp [I] n P St) (q : Quiet prog w A cenvAt target ifs elt I P St h₁ G p F)
    (hIo : ∀ i h, St i h → ∃ o, h.get? I = some o) (hSt : ∀ i h h' o, St i h → h.get? I = some o → h'.get? I = some o → Stay h₁ h' → St i h')
    (hI : h₁.objs.size ≤ I) (hD : h₁.objs.size ≤ D) (hCC : h₁.objs.size ≤ C) (hDI : D ≠ I) (hDC : D ≠ C) (hIC : I ≠ C)
    (hold : Stay h₁ s.heap) (hst : St 0 s.heap) (hacc : s.heap.PlainList D #[]) (hn : s.heap.Ns C m)
    (hR : ∀ h' tk m' ys (vs : List Value), h'.Ns C m' → h'.PlainList D ys → vs.length = n → (∀ j v, vs[j]? = some v → P j v) → Paired F (vs.filter p) ys.toList → Stay h₁ h' → R (.ok .next) { s with heap := h', toks := tk })
    (hsz : n ≤ sizeLine) :
    codeAny (model prog w) A (.compLoop (.ListComp elt [⟨target, iter, ifs, 0⟩] scope pos) 0 (.ref I) (.ref D) (cenvAt C)) R s := by
  have low : ∀ b o, h₁.get? b = some o → b ≠ I ∧ b ≠ D ∧ b ≠ C := fun b o e =>
    ⟨Nat.ne_of_lt (Nat.lt_of_lt_of_le (Heap.lt_size e) hI), Nat.ne_of_lt (Nat.lt_of_lt_of_le (Heap.lt_size e) hD), Nat.ne_of_lt (Nat.lt_of_lt_of_le (Heap.lt_size e) hCC)⟩
  have out : ∀ a, h₁.objs.size ≤ a → h₁.get? a = none := fun a ha => by
    cases e : h₁.get? a with
    | none => rfl
    | some o' => exact absurd (Heap.lt_size e) (Nat.not_lt.mpr ha)
  refine compLoop_T
    (fun k s' => ∃ h' tk m' ys, ∃ vs : List Value, s' = { s with heap := h', toks := tk } ∧ St vs.length h' ∧ h'.PlainList D ys ∧ h'.Ns C m' ∧ (∀ j v, vs[j]? = some v → P j v) ∧
      Paired F (vs.filter p) ys.toList ∧ vs.length ≤ n ∧ k = n + 1 - vs.length ∧ Stay h₁ h') ?_ (n + 1)
    ⟨s.heap, s.toks, m, #[], [], rfl, hst, hacc, hn, by simp, by simpa using Paired.nil, Nat.zero_le _, rfl, hold⟩
  rintro k s' ⟨H, tk, m', ys, vs, rfl, hst', hacc', hn', hP, hF, hi, rfl, hk⟩
  by_cases hlt : vs.length < n
  · refine W.item vs.length _ _ _ hlt hst' fun v h₂ tk₂ hPv hst₂ hk₂ => ?_
    have k2 : ∀ b o, b ≠ I → H.get? b = some o → h₂.get? b = some o := fun b o hb e => hk₂ b o (by simpa using hb) e
    have stay2 : Stay h₁ h₂ := fun b o e => k2 b o (low b o e).1 (hk b o e)
    refine q.own vs.length v _ _ _ hPv hst₂ ?_
    refine q.bind C vs.length v _ m' _ _ hPv hCC (hn'.at' fun o e => k2 C o (Ne.symm hIC) e) stay2 fun h₃ tk₃ m₃ hn₃ hG hk₃ => ?_
    have stay3 : Stay h₁ h₃ := fun b o e => hk₃ b o (low b o e).2.2 (stay2 b o e)
    obtain ⟨oI, hoI⟩ := hIo _ _ hst₂
    have hoI₃ : h₃.get? I = some oI := hk₃ I oI hIC hoI
    have hst₃ : St (vs.length + 1) h₃ := hSt _ _ _ _ hst₂ hoI hoI₃ stay3
    obtain ⟨nD, hoD⟩ := id hacc'
    have hoD₃ := hk₃ D _ hDC (k2 D _ hDI hoD)
    have F₃ : Fr h₁ C h₃ m₃ := ⟨hn₃, stay3, hCC⟩
    have N₃ : News h₁ C h₃ [(I, oI), (D, { cls := .type "list", data := .seq ys nD })] := fun x hx => by
      rcases List.mem_cons.mp hx with rfl | hx
      · exact ⟨hoI₃, hIC, out _ hI⟩
      · rcases List.mem_cons.mp hx with rfl | hx
        · exact ⟨hoD₃, hDC, out _ hD⟩
        · cases hx
    refine wpAny_mono (q.tests C D oI _ vs.length v _ m₃ _ hPv F₃ hG N₃ (Ne.symm hDI)) (fun ok s₃ h₃' => ?_) fun _ _ e => e
    obtain ⟨rfl, h₄, tk₄, m₄, rfl, F₄, hG₄, N₄⟩ := h₃'
    have hst₄ : St (vs.length + 1) h₄ := hSt _ _ _ _ hst₃ hoI₃ (N₄ _ (.head _)).1 F₄.keep
    have hP' : ∀ j u, (vs ++ [v])[j]? = some u → P j u := fun j u hj => by
      rcases Nat.lt_trichotomy j vs.length with h | h | h
      · exact hP j u (by rwa [List.getElem?_append_left h] at hj)
      · subst h; simp at hj; subst hj; exact hPv
      · have hnone : (vs ++ [v])[j]? = none := List.getElem?_eq_none (by rw [List.length_append, List.length_singleton]; omega)
        rw [hnone] at hj; cases hj
    cases hpv : p v with
    | false =>
      simp only [Bool.false_eq_true, if_false]
      refine ⟨n + 1 - (vs.length + 1), by omega, h₄, tk₄, m₄, ys, vs ++ [v], rfl, by simpa using hst₄, ⟨nD, (N₄ _ (.tail _ (.head _))).1⟩, F₄.ns, hP', ?_, (by rw [List.length_append, List.length_singleton]; exact hlt), (by rw [List.length_append, List.length_singleton]), F₄.keep⟩
      rw [List.filter_append]; simpa [hpv] using hF
    | true =>
      simp only [if_true]
      refine wpAny_mono (q.elt C D oI _ vs.length v _ m₄ _ hPv hpv F₄ hG₄ N₄ (Ne.symm hDI)) (fun y s₄ h₄' => ?_) fun _ _ e => e
      obtain ⟨hFy, h₅, tk₅, m₅, rfl, F₅, hG₅, N₅⟩ := h₄'
      have hst₅ : St (vs.length + 1) h₅ := hSt _ _ _ _ hst₄ (N₄ _ (.head _)).1 (N₅ _ (.head _)).1 F₅.keep
      have hys : ys.size ≤ sizeLine := by
        have e1 := hF.length
        have e2 : (vs.filter p).length ≤ vs.length := List.length_filter_le _ _
        have e4 : ys.toList.length = ys.size := by simp
        omega
      refine wpAny_list_append_plain (hsz := hys) ⟨nD, (N₅ _ (.tail _ (.head _))).1⟩ fun h₆ hl₆ hs₆ => ?_
      have stay6 : Stay h₁ h₆ := fun b o e => hs₆.extBut b o (low b o e).2.1 (F₅.keep b o e)
      refine ⟨n + 1 - (vs.length + 1), by omega, h₆, tk₅, m₅, ys.push y, vs ++ [v], rfl, ?_, hl₆, F₅.ns.sameBut hs₆ (Ne.symm hDC), hP', ?_, (by rw [List.length_append, List.length_singleton]; exact hlt), (by rw [List.length_append, List.length_singleton]), stay6⟩
      · have := hSt _ _ h₆ _ hst₅ (N₅ _ (.head _)).1 (hs₆.extBut _ _ (Ne.symm hDI) (N₅ _ (.head _)).1) stay6
        simpa using this
      · rw [List.filter_append]; simpa [hpv] using Paired.snoc hF hFy
  · have hin : vs.length = n := by omega
    refine W.done _ _ _ (hin ▸ hst') fun h₂ tk₂ hk₂ => ?_
    have k2 : ∀ b o, b ≠ I → H.get? b = some o → h₂.get? b = some o := fun b o hb e => hk₂ b o (by simpa using hb) e
    exact hR h₂ tk₂ m' ys vs (hn'.at' fun o e => k2 C o (Ne.symm hIC) e) (hacc'.at fun o e => k2 D o hDI e) hin hP hF fun b o e => k2 b o (low b o e).1 (hk b o e)

/-- a list comprehension of one clause -/
theorem ListComp_Q {elt target iter : Expr} {ifs : List Expr} {scope : Scope} {cl : List (PySem.Str × Addr)} {pos : Pos} {Q : Value → Shared → Prop}
    (hclos : closureFor scope env = pure cl) (hcell : ∀ y ∈ scope.names, y.2 ≠ .cell) (hkind : scope.kind = .function)
    (hnames : ∀ y ∈ scope.names, y.2 = .local → scope.names.lookup y.1 = some .local)
    (h : wpAny (model prog w) A (eval iter env) (fun xv s₁ => wpAny (model prog w) A (pyIter xv) (fun it s₂ => ∃ I fp n P St G p F, it = .ref I ∧ Walks prog w A I fp [I] n P St ∧ n ≤ sizeLine ∧ St 0 s₂.heap ∧ (∀ b ∈ fp, b < s₂.heap.objs.size) ∧ s₁.heap.objs.size ≤ I ∧ Stay s₁.heap s₂.heap ∧
      (∀ i h, St i h → ∃ o, h.get? I = some o) ∧ (∀ i h h' o, St i h → h.get? I = some o → h'.get? I = some o → Stay s₁.heap h' → St i h') ∧
      Quiet prog w A (fun C => compEnvC scope cl C env) target ifs elt I P St s₁.heap G p F ∧
      (∀ D n' h' tk (ys vs : List Value), s₁.heap.get? D = none → h'.get? D = some (listOf ys.toArray n') → vs.length = n → (∀ j v, vs[j]? = some v → P j v) → Paired F (vs.filter p) ys → Stay s₁.heap h' → Q (.ref D) { s₂ with heap := h', toks := tk })) E s₁) E s)
    (hs : ∀ x, foldedSetIterable iter env x = pure x := by intro _; rfl) :
    wpAny (model prog w) A (eval (.ListComp elt [⟨target, iter, ifs, 0⟩] scope pos) env) Q E s := by
  rw [eval_ListComp]
  refine wpAny_comprehension_free (use := none) rfl hs hclos hkind hnames (wpAny_mono h (fun xv s₁ h₁ => wpAny_mono h₁ (fun it s₂ h₂ => ?_) fun _ _ e => e) fun _ _ e => e)
  obtain ⟨I, fp, n, P, St, G, p, F, rfl, W, hsz, hst, hfp, hI, hup, hIo, hSt, q, hQ⟩ := h₂
  refine wpAny_newObj_type (hd := by size_fits) (wpAny_newFunctionEnv hcell (by intro y hy; simp at hy) (fun h₁ hns₁ hsb₁ => ?_) hkind)
  dsimp only at hns₁ hsb₁ ⊢
  have hIf : I < s₂.heap.objs.size := hfp I (W.sub I (by simp))
  have hle : s₁.heap.objs.size ≤ s₂.heap.objs.size := Nat.le_of_lt (Nat.lt_of_le_of_lt hI hIf)
  generalize hH2 : s₂.heap.push { cls := .type "list", dict := none, data := .seq ([] : List Value).toArray } = H2 at hns₁ hsb₁ ⊢
  have hC : H2.objs.size = s₂.heap.objs.size + 1 := by rw [← hH2, Heap.size_push]
  have hDC : s₂.heap.objs.size ≠ H2.objs.size := by rw [hC]; exact Nat.ne_of_lt (Nat.lt_succ_self _)
  have below : ∀ b, b < s₂.heap.objs.size → b ≠ H2.objs.size ∧ b ≠ s₂.heap.objs.size := fun b hb => ⟨by rw [hC]; exact Nat.ne_of_lt (Nat.lt_succ_of_lt hb), Nat.ne_of_lt hb⟩
  have old2 : ∀ b o, s₂.heap.get? b = some o → h₁.get? b = some o := fun b o e => hsb₁.extBut b o (below b (Heap.lt_size e)).1 (Heap.get?_push_of_some _ (hH2 ▸ Heap.get?_push_of_some _ e))
  have old : Stay s₁.heap h₁ := fun b o e => old2 b o (hup b o e)
  have hacc : h₁.PlainList s₂.heap.objs.size #[] := ⟨_, hsb₁.extBut _ _ hDC (Heap.get?_push_of_some _ (hH2 ▸ Heap.get?_push_size _ rfl))⟩
  have hst₁ : St 0 h₁ := W.frame _ _ _ hst fun b _ o e => old2 b o e
  have hnew : ∀ a, s₁.heap.objs.size ≤ a → s₁.heap.get? a = none := fun a ha => by
    cases e : s₁.heap.get? a with
    | none => rfl
    | some o' => exact absurd (Heap.lt_size e) (Nat.not_lt.mpr ha)
  have lC : s₁.heap.objs.size ≤ H2.objs.size := by rw [hC]; exact Nat.le_succ_of_le hle
  have loop : ∀ s₃ : Shared, s₃ = { s₂ with heap := h₁, toks := s₂.toks + ([] : List (PySem.Str × Value)).length } →
      codeAny (model prog w) A (.compLoop (.ListComp elt [⟨target, iter, ifs, 0⟩] scope pos) 0 (.ref I) (.ref s₂.heap.objs.size) (compEnvC scope cl H2.objs.size env))
        (compPost (model prog w) A E none Q (.ref s₂.heap.objs.size) H2.objs.size) s₃ := by
    rintro s₃ rfl
    refine loop_T (C := H2.objs.size) W q hIo hSt hI hle lC (Ne.symm (below I hIf).2) hDC (below I hIf).1 old hst₁ hacc hns₁ (fun h' tk m' ys vs hn ha hlen hP hF hk => ?_) hsz
    refine ⟨m', hn, fun h'' hs'' => ?_⟩
    obtain ⟨n', ha⟩ := ha
    refine hQ _ n' h'' tk ys.toList vs (hnew _ hle) (hs''.extBut _ _ hDC (by rw [ha])) hlen hP hF fun b o e => hs''.extBut b o ?_ (hk b o e)
    exact Nat.ne_of_lt (Nat.lt_of_lt_of_le (Heap.lt_size e) lC)
  exact codeAny_compStart_list (loop _ rfl) (W.self 0 _ _ _ hst₁ (loop _ rfl))
end
end Mine
end

section
open PySem PySem.W PyProof.Rows PySem.Calls
set_option maxRecDepth 100000
set_option maxHeartbeats 4000000
set_option linter.unusedVariables false
namespace Mine
/-- the names ns are bound to the ints x -/
def Binds : List PySem.Str → List Int → (PySem.Str → Option Value) → Prop
  | [], [], _ => True
  | n :: ns, i :: is, m => (∃ t, m n = some (.int i t)) ∧ Binds ns is m
  | _, _, _ => False
theorem ints3 {its : List Value} {x : List Int} (hi : IntsAre its x) (hx : x.length = 3) : ∃ i₁ t₁ i₂ t₂ i₃ t₃, its = [.int i₁ t₁, .int i₂ t₂, .int i₃ t₃] ∧ x = [i₁, i₂, i₃] := by
  rcases hi with _ | ⟨i₁, t₁, r⟩
  · simp at hx
  · rcases r with _ | ⟨i₂, t₂, r⟩
    · simp at hx
    · rcases r with _ | ⟨i₃, t₃, r⟩
      · simp at hx
      · rcases r with _ | ⟨i₄, t₄, r⟩
        · exact ⟨_, _, _, _, _, _, rfl, rfl⟩
        · simp at hx
theorem ints2 {its : List Value} {x : List Int} (hi : IntsAre its x) (hx : x.length = 2) : ∃ i₁ t₁ i₂ t₂, its = [.int i₁ t₁, .int i₂ t₂] ∧ x = [i₁, i₂] := by
  rcases hi with _ | ⟨i₁, t₁, r⟩
  · simp at hx
  · rcases r with _ | ⟨i₂, t₂, r⟩
    · simp at hx
    · rcases r with _ | ⟨i₃, t₃, r⟩
      · exact ⟨_, _, _, _, rfl, rfl⟩
      · simp at hx
section
variable {prog : Program} {w : World} {A : Around} {E : Value → Shared → Prop} {s : Shared} {env : Env} {scope : Scope} {cl : List (PySem.Str × Addr)}
theorem bind3 {a b c : PySem.Str} {pa pb pc tp : Pos} {x1} (hh : A.handled = none) (hkind : scope.kind = .function) (ha : scope.names.lookup a = some .local) (hb : scope.names.lookup b = some .local) (hc : scope.names.lookup c = some .local)
    (hab : a ≠ b) (hac : a ≠ c) (hbc : b ≠ c) (C t : Addr) (its : List Value) (x : List Int) (s₂ : Shared) (m₂ : PySem.Str → Option Value) (Q : Unit → Shared → Prop) (E' : Value → Shared → Prop)
    (ht : IsTup s₂.heap t its.toArray) (hi : IntsAre its x) (hx : x.length = 3) (hn : s₂.heap.Ns C m₂)
    (h : ∀ h' tk m', h'.Ns C m' → Binds [a, b, c] x m' → (∀ z o, z ≠ C → s₂.heap.get? z = some o → h'.get? z = some o) → Q () { s₂ with heap := h', toks := tk }) :
    wpAny (model prog w) A (assign (.Tuple [.Name a pa, .Name b pb, .Name c pc] x1 tp) (compEnvC scope cl C env) (.ref t)) Q E' s₂ := by
  obtain ⟨i₁, t₁, i₂, t₂, i₃, t₃, rfl, rfl⟩ := ints3 hi hx
  refine assign_Tuple_tuple hh ht rfl rfl fun h₅ he => ?_
  have he' : ∀ b o, s₂.heap.get? b = some o → h₅.get? b = some o := fun b o e => he b o (Nat.ne_of_lt (Heap.lt_size e)) e
  have hp : ((compEnvC scope cl C env).scope.kind == .class || ((compEnvC scope cl C env).scope.kind == .module && (compEnvC scope cl C env).locals != (compEnvC scope cl C env).globals)) = false := by simp [compEnvC, relabel, hkind]
  refine assignInOrder_cons (wpAny_assign_Name (wpAny_storeName_local (lookup_relabel_local ha) (hn.keeps he') (fun h₁ hn₁ hs₁ => ?_) hp))
  refine assignInOrder_cons (wpAny_assign_Name (wpAny_storeName_local (lookup_relabel_local hb) hn₁ (fun h₂ hn₂ hs₂ => ?_) hp))
  refine assignInOrder_cons (wpAny_assign_Name (wpAny_storeName_local (lookup_relabel_local hc) hn₂ (fun h₃ hn₃ hs₃ => ?_) hp))
  refine assignInOrder_nil ?_
  refine h h₃ _ _ hn₃ ⟨⟨t₁, ?_⟩, ⟨t₂, ?_⟩, ⟨t₃, ?_⟩, trivial⟩ fun z o hz e => hs₃.extBut z o hz (hs₂.extBut z o hz (hs₁.extBut z o hz (he' z o e)))
  · simp [hab, hac]
  · simp [hbc]
  · simp
theorem bind2 {a b : PySem.Str} {pa pb tp : Pos} {x1} (hh : A.handled = none) (hkind : scope.kind = .function) (ha : scope.names.lookup a = some .local) (hb : scope.names.lookup b = some .local)
    (hab : a ≠ b) (C t : Addr) (its : List Value) (x : List Int) (s₂ : Shared) (m₂ : PySem.Str → Option Value) (Q : Unit → Shared → Prop) (E' : Value → Shared → Prop)
    (ht : IsTup s₂.heap t its.toArray) (hi : IntsAre its x) (hx : x.length = 2) (hn : s₂.heap.Ns C m₂)
    (h : ∀ h' tk m', h'.Ns C m' → Binds [a, b] x m' → (∀ z o, z ≠ C → s₂.heap.get? z = some o → h'.get? z = some o) → Q () { s₂ with heap := h', toks := tk }) :
    wpAny (model prog w) A (assign (.Tuple [.Name a pa, .Name b pb] x1 tp) (compEnvC scope cl C env) (.ref t)) Q E' s₂ := by
  obtain ⟨i₁, t₁, i₂, t₂, rfl, rfl⟩ := ints2 hi hx
  refine assign_Tuple_tuple hh ht rfl rfl fun h₅ he => ?_
  have he' : ∀ b o, s₂.heap.get? b = some o → h₅.get? b = some o := fun b o e => he b o (Nat.ne_of_lt (Heap.lt_size e)) e
  have hp : ((compEnvC scope cl C env).scope.kind == .class || ((compEnvC scope cl C env).scope.kind == .module && (compEnvC scope cl C env).locals != (compEnvC scope cl C env).globals)) = false := by simp [compEnvC, relabel, hkind]
  refine assignInOrder_cons (wpAny_assign_Name (wpAny_storeName_local (lookup_relabel_local ha) (hn.keeps he') (fun h₁ hn₁ hs₁ => ?_) hp))
  refine assignInOrder_cons (wpAny_assign_Name (wpAny_storeName_local (lookup_relabel_local hb) hn₁ (fun h₂ hn₂ hs₂ => ?_) hp))
  refine assignInOrder_nil ?_
  refine h h₂ _ _ hn₂ ⟨⟨t₁, ?_⟩, ⟨t₂, ?_⟩, trivial⟩ fun z o hz e => hs₂.extBut z o hz (hs₁.extBut z o hz (he' z o e))
  · simp [hab]
  · simp

theorem paired_data {led : List (Addr × Obj)} {h : Heap} {us : List Value} {xs : List (List Int)} {F : List Int → Value → Prop} {tst : List Int → Bool} (p : Value → Bool)
    (hp : ∀ a n its x, h.get? a = some ({ cls := .type "tuple", data := .seq (its : List Value).toArray n } : Obj) → IntsAre its x → p (.ref a) = tst x) (hl : ∀ q ∈ led, h.get? q.1 = some q.2) (ht : TupsIn led us xs) :
    ∀ ys, Paired (fun v y => ∃ a n its x, v = .ref a ∧ h.get? a = some ({ cls := .type "tuple", data := .seq (its : List Value).toArray n } : Obj) ∧ IntsAre its x ∧ F x y) (us.filter p) ys → Paired F (xs.filter tst) ys := by
  induction ht with
  | nil => intro ys hy; cases hy; exact .nil
  | @cons a n its x vs xs hm hi hr ih =>
    intro ys hy
    have e := hp a n its x (hl _ hm) hi
    rw [List.filter_cons, e] at hy
    rw [List.filter_cons]
    cases ht : tst x with
    | false =>
      rw [ht] at hy
      exact ih ys hy
    | true =>
      rw [ht] at hy
      cases hy with
      | cons hf hy' =>
        obtain ⟨a', n', its', x', e1, e2, e3, e4⟩ := hf
        cases e1
        rw [hl _ hm] at e2
        have hx : x = x' := by
          have e5 : its = its' := by
            injection e2 with e2
            injection e2 with _ _ e2
            injection e2 with e2 _
            injection e2
          subst e5
          have l1 := hi.length
          have key : ∀ {vs : List Value} {a b : List Int}, IntsAre vs a → IntsAre vs b → a = b := by
            intro vs a b h1
            induction h1 generalizing b with
            | nil => intro h2; cases h2; rfl
            | cons n t _ ih => intro h2; cases h2 with | cons _ _ h2 => rw [ih h2]
          exact key hi e3
        rw [hx]
        exact .cons e4 (ih _ hy')
open Classical in
/-- a comprehension over a list of tuples of ints, with a test -/
theorem ListComp_ints {elt iter : Expr} {elts : List Expr} {x1} {tp : Pos} {ifs : List Expr} {pos : Pos} (ns : List PySem.Str) {Q : Value → Shared → Prop} (hh : A.handled = none)
    (hclos : closureFor scope env = pure cl) (hcell : ∀ y ∈ scope.names, y.2 ≠ .cell) (hkind : scope.kind = .function)
    (hnames : ∀ y ∈ scope.names, y.2 = .local → scope.names.lookup y.1 = some .local)
    (hbind : ∀ (C t : Addr) (its : List Value) (x : List Int) (s₂ : Shared) (m₂ : PySem.Str → Option Value) (Q : Unit → Shared → Prop) (E' : Value → Shared → Prop),
      IsTup s₂.heap t its.toArray → IntsAre its x → x.length = ns.length → s₂.heap.Ns C m₂ →
      (∀ h' tk m', h'.Ns C m' → Binds ns x m' → (∀ z o, z ≠ C → s₂.heap.get? z = some o → h'.get? z = some o) → Q () { s₂ with heap := h', toks := tk }) →
      wpAny (model prog w) A (assign (.Tuple elts x1 tp) (compEnvC scope cl C env) (.ref t)) Q E' s₂)
    (h : wpAny (model prog w) A (eval iter env) (fun xv s₁ => Stop <| ∃ a n us led xs, ∃ (tst : List Int → Bool) (F : List Int → Value → Prop), xv = .ref a ∧ (∀ q ∈ led, s₁.heap.get? q.1 = some q.2) ∧ (a, listOf us.toArray n) ∈ led ∧ TupsIn led us xs ∧ us.length ≤ sizeLine ∧ (∀ x ∈ xs, x.length = ns.length) ∧
      (∀ C I D oI oD x (s₂ : Shared) m₂ E', x ∈ xs → Fr s₁.heap C s₂.heap m₂ → Binds ns x m₂ → News s₁.heap C s₂.heap [(I, oI), (D, oD)] → @Ne Nat I D → wpAny (model prog w) A (testsOf prog w A ifs (compEnvC scope cl C env)) (fun ok s₃ => Stop (ok = tst x ∧ TurnEnd s₁.heap C I D oI oD (Binds ns x) s₂ s₃)) E' s₂) ∧
      (∀ C I D oI oD x (s₂ : Shared) m₂ E', x ∈ xs → tst x = true → Fr s₁.heap C s₂.heap m₂ → Binds ns x m₂ → News s₁.heap C s₂.heap [(I, oI), (D, oD)] → @Ne Nat I D → wpAny (model prog w) A (eval elt (compEnvC scope cl C env)) (fun y s₃ => Stop (F x y ∧ TurnEnd s₁.heap C I D oI oD (Binds ns x) s₂ s₃)) E' s₂) ∧
      (∀ D n' h' tk (ys : List Value), s₁.heap.get? D = none → h'.get? D = some (listOf ys.toArray n') → Paired F (xs.filter tst) ys → Stay s₁.heap h' → Q (.ref D) { s₁ with heap := h', toks := tk })) E s)
    (hs : ∀ x, foldedSetIterable iter env x = pure x := by intro _; rfl) :
    wpAny (model prog w) A (eval (.ListComp elt [⟨.Tuple elts x1 tp, iter, ifs, 0⟩] scope pos) env) Q E s := by
  refine ListComp_Q hclos hcell hkind hnames (wpAny_mono h (fun xv s₁ h₁ => ?_) fun _ _ e => e) hs
  obtain ⟨a, n, us, led, xs, tst, F, rfl, hl, hm, ht, hsz, hlen, htests, helt, hQ⟩ := h₁
  have hla : s₁.heap.IsList a us.toArray := ⟨_, hl _ hm, rfl, n, rfl⟩
  have hlt : a < s₁.heap.objs.size := Heap.lt_size (hl _ hm)
  refine wpAny_pyIter_list hla ?_
  let tupAt (v : Value) (x : List Int) : Prop := ∃ a n its, v = .ref a ∧ s₁.heap.get? a = some ({ cls := .type "tuple", data := .seq (its : List Value).toArray n } : Obj) ∧ IntsAre its x
  have uniq : ∀ {vs : List Value} {a b : List Int}, IntsAre vs a → IntsAre vs b → a = b := by
    intro vs a b h1
    induction h1 generalizing b with
    | nil => intro h2; cases h2; rfl
    | cons n t _ ih => intro h2; cases h2 with | cons _ _ h2 => rw [ih h2]
  have tup1 : ∀ v x y, tupAt v x → tupAt v y → x = y := by
    rintro v x y ⟨a, n, its, rfl, e1, e2⟩ ⟨a', n', its', e, e3, e4⟩
    cases e
    rw [e1] at e3
    have e5 : its = its' := by
      injection e3 with e3
      injection e3 with _ _ e3
      injection e3 with e3 _
      injection e3
    subst e5
    exact uniq e2 e4
  let p (v : Value) : Bool := decide (∃ x, tupAt v x ∧ tst x = true)
  have hp : ∀ v x, tupAt v x → p v = tst x := by
    intro v x hx
    show decide _ = _
    cases hq : tst x with
    | true => exact decide_eq_true ⟨x, hx, hq⟩
    | false =>
      refine decide_eq_false ?_
      rintro ⟨y, hy, hty⟩
      rw [tup1 v x y hx hy, hty] at hq
      cases hq
  have ofMem : ∀ (i : Nat) (v : Value), us.toArray[i]? = some v → ∃ x, tupAt v x ∧ x ∈ xs := by
    intro i v hv
    obtain ⟨a, n, its, x, e, h1, h2, h3⟩ := ht.get v (List.mem_of_getElem? (by simpa using hv))
    exact ⟨x, ⟨a, n, its, e, hl _ h1, h2⟩, h3⟩
  have hh' : A.handled = none := hh
  refine ⟨s₁.heap.objs.size, [s₁.heap.objs.size, a], us.toArray.size, _, _, fun v m => ∃ x, tupAt v x ∧ x ∈ xs ∧ Binds ns x m, p,
    fun v y => ∃ a n its x, v = .ref a ∧ s₁.heap.get? a = some ({ cls := .type "tuple", data := .seq (its : List Value).toArray n } : Obj) ∧ IntsAre its x ∧ F x y, rfl, Walks.list hh' _ a (Nat.ne_of_lt hlt) us.toArray, by rw [List.size_toArray]; exact hsz,
    ⟨⟨_, Heap.get?_push_size _ rfl, rfl, rfl⟩, hla.push _⟩, ?_, Nat.le_refl _, fun b o e => Heap.get?_push_of_some _ e, ?_, ?_, ⟨?_, ?_, ?_, ?_⟩, ?_⟩
  · intro b hb
    show b < (s₁.heap.push _).objs.size
    rw [Heap.size_push]
    rcases List.mem_cons.mp hb with rfl | hb
    · exact Nat.lt_succ_self _
    · rw [List.mem_singleton.mp hb]; exact Nat.lt_succ_of_lt hlt
  · rintro i h ⟨⟨o, e, _⟩, _⟩; exact ⟨o, e⟩
  · rintro i h h' o ⟨⟨o', e', r⟩, _⟩ e1 e2 st
    rw [e1] at e'
    cases e'
    exact ⟨⟨o, e2, r⟩, _, st _ _ (hl _ hm), rfl, n, rfl⟩
  · intro i v s₂ Q' E' hv hst' hq
    obtain ⟨x, ⟨a, n, its, rfl, _⟩, _⟩ := ofMem i v hv
    exact wpAny_letOwnedTupleGo_listiter hst'.1 hq
  · intro C i v s₂ m₂ Q' E' hv hC hn hst hQ'
    obtain ⟨x, ⟨a, n, its, rfl, e1, e2⟩, hx⟩ := ofMem i v hv
    exact hbind C a its x s₂ m₂ Q' E' ⟨_, hst _ _ e1, rfl, n, rfl⟩ e2 (hlen x hx) hn fun h' tk m' hn' hb hk => hQ' h' tk m' hn' ⟨x, ⟨a, n, its, rfl, e1, e2⟩, hx, hb⟩ hk
  · rintro C D oI oD i v s₂ m₂ E' hv F₂ ⟨x, hx, hxs, hb⟩ N₂ hne
    rw [hp v x hx]
    refine wpAny_mono (htests C _ D oI oD x s₂ m₂ E' hxs F₂ hb N₂ hne) (fun ok s₃ h₃ => ?_) fun _ _ e => e
    obtain ⟨e, h', tk, m', rfl, F', hb', N'⟩ := h₃
    exact ⟨e, h', tk, m', rfl, F', ⟨x, hx, hxs, hb'⟩, N'⟩
  · rintro C D oI oD i v s₂ m₂ E' hv hpv F₂ ⟨x, hx, hxs, hb⟩ N₂ hne
    rw [hp v x hx] at hpv
    refine wpAny_mono (helt C _ D oI oD x s₂ m₂ E' hxs hpv F₂ hb N₂ hne) (fun y s₃ h₃ => ?_) fun _ _ e => e
    obtain ⟨e, h', tk, m', rfl, F', hb', N'⟩ := h₃
    obtain ⟨a, n, its, rfl, e1, e2⟩ := id hx
    exact ⟨⟨a, n, its, x, rfl, e1, e2, e⟩, h', tk, m', rfl, F', ⟨x, hx, hxs, hb'⟩, N'⟩
  · intro D n' h' tk ys vs hD hget hlen hP hF hst
    have e : vs = us := by
      refine List.ext_getElem? fun i => ?_
      cases hv : vs[i]? with
      | some v => have := hP i v hv; simpa using this.symm
      | none =>
        have h1 : vs.length ≤ i := by simpa using hv
        have h2 : us.length ≤ i := by rw [hlen] at h1; simpa using h1
        simp [h2]
    rw [e] at hF
    exact hQ D n' h' tk ys hD hget (paired_data p (fun a n its x e1 e2 => hp _ x ⟨a, n, its, rfl, e1, e2⟩) hl ht _ hF) hst

/-- a test of bytes -/
def bytesP (tst : List UInt8 → Bool) : Value → Bool
  | .bytes b _ => tst b.toList
  | _ => false
theorem bytesP_at (tst : List UInt8 → Bool) (b : List UInt8) (t : Tok) : bytesP tst (.bytes b.toArray t) = tst b := rfl
/-- a comprehension over a list of bytes, with a test -/
theorem ListComp_bytes {elt iter : Expr} {x : PySem.Str} {px : Pos} {ifs : List Expr} {pos : Pos} {Q : Value → Shared → Prop} (hh : A.handled = none)
    (hclos : closureFor scope env = pure cl) (hcell : ∀ y ∈ scope.names, y.2 ≠ .cell) (hkind : scope.kind = .function)
    (hnames : ∀ y ∈ scope.names, y.2 = .local → scope.names.lookup y.1 = some .local) (hx : scope.names.lookup x = some .local)
    (h : wpAny (model prog w) A (eval iter env) (fun xv s₁ => Stop <| ∃ a us bs, ∃ (tst : List UInt8 → Bool) (F : List UInt8 → Value → Prop), xv = .ref a ∧ s₁.heap.IsList a us.toArray ∧ BytesAre us bs ∧ us.length ≤ sizeLine ∧
      (∀ C I D oI oD b t (s₂ : Shared) m₂ E', b ∈ bs → Fr s₁.heap C s₂.heap m₂ → m₂ x = some (.bytes b.toArray t) → News s₁.heap C s₂.heap [(I, oI), (D, oD)] → @Ne Nat I D → wpAny (model prog w) A (testsOf prog w A ifs (compEnvC scope cl C env)) (fun ok s₃ => Stop (ok = tst b ∧ TurnEnd s₁.heap C I D oI oD (fun m => m x = some (.bytes b.toArray t)) s₂ s₃)) E' s₂) ∧
      (∀ C I D oI oD b t (s₂ : Shared) m₂ E', b ∈ bs → tst b = true → Fr s₁.heap C s₂.heap m₂ → m₂ x = some (.bytes b.toArray t) → News s₁.heap C s₂.heap [(I, oI), (D, oD)] → @Ne Nat I D → wpAny (model prog w) A (eval elt (compEnvC scope cl C env)) (fun y s₃ => Stop (F b y ∧ TurnEnd s₁.heap C I D oI oD (fun m => m x = some (.bytes b.toArray t)) s₂ s₃)) E' s₂) ∧
      (∀ D n' h' tk (ys : List Value), s₁.heap.get? D = none → h'.get? D = some (listOf ys.toArray n') → Paired F (bs.filter tst) ys → Stay s₁.heap h' → Q (.ref D) { s₁ with heap := h', toks := tk })) E s)
    (hs : ∀ x, foldedSetIterable iter env x = pure x := by intro _; rfl) :
    wpAny (model prog w) A (eval (.ListComp elt [⟨.Name x px, iter, ifs, 0⟩] scope pos) env) Q E s := by
  refine ListComp_Q hclos hcell hkind hnames (wpAny_mono h (fun xv s₁ h₁ => ?_) fun _ _ e => e) hs
  obtain ⟨a, us, bs, tst, F, rfl, hla, hb, hsz, htests, helt, hQ⟩ := h₁
  obtain ⟨oa, ha, r⟩ := id hla
  have hlt : a < s₁.heap.objs.size := Heap.lt_size ha
  refine wpAny_pyIter_list hla ?_
  have ofMem : ∀ (i : Nat) (v : Value), us.toArray[i]? = some v → ∃ (b : List UInt8) (t : Tok), v = Value.bytes b.toArray t ∧ b ∈ bs := by
    intro i v hv
    have hi : i < us.length := by
      have := (Array.getElem?_eq_some_iff.mp hv).1
      simpa using this
    obtain ⟨b, t, e, e'⟩ := hb.get i hi
    refine ⟨b, t, ?_, List.mem_of_getElem? e'⟩
    have : us[i]? = some v := by simpa using hv
    rw [e] at this; cases this; rfl
  refine ⟨s₁.heap.objs.size, [s₁.heap.objs.size, a], us.toArray.size, _, _, fun v m => (∃ (b : List UInt8) (t : Tok), v = Value.bytes b.toArray t ∧ b ∈ bs) ∧ m x = some v, bytesP tst,
    fun v y => ∃ (b : List UInt8) (t : Tok), v = Value.bytes b.toArray t ∧ F b y, rfl, Walks.list hh _ a (Nat.ne_of_lt hlt) us.toArray, by rw [List.size_toArray]; exact hsz,
    ⟨⟨_, Heap.get?_push_size _ rfl, rfl, rfl⟩, hla.push _⟩, ?_, Nat.le_refl _, fun b o e => Heap.get?_push_of_some _ e, ?_, ?_, ⟨?_, ?_, ?_, ?_⟩, ?_⟩
  · intro b hb
    show b < (s₁.heap.push _).objs.size
    rw [Heap.size_push]
    rcases List.mem_cons.mp hb with rfl | hb
    · exact Nat.lt_succ_self _
    · rw [List.mem_singleton.mp hb]; exact Nat.lt_succ_of_lt hlt
  · rintro i h ⟨⟨o, e, _⟩, _⟩; exact ⟨o, e⟩
  · rintro i h h' o ⟨⟨o', e', r'⟩, _⟩ e1 e2 st
    rw [e1] at e'
    cases e'
    exact ⟨⟨o, e2, r'⟩, oa, st _ _ ha, r⟩
  · intro i v s₂ Q' E' hv hst' hq
    exact wpAny_pure hq
  · intro C i v s₂ m₂ Q' E' hv hC hn hst hQ'
    refine wpAny_assign_Name (wpAny_storeName_local (lookup_relabel_local hx) hn (fun h₂ hn₂ hs₂ => ?_) (by simp [compEnvC, relabel, hkind]))
    exact hQ' h₂ _ _ hn₂ ⟨ofMem i v hv, by simp⟩ fun b o hb e => hs₂.extBut b o hb e
  · rintro C D oI oD i v s₂ m₂ E' hv F₂ ⟨⟨b, t, rfl, hbm⟩, hm⟩ N₂ hne
    rw [bytesP_at]
    refine wpAny_mono (htests C _ D oI oD b t s₂ m₂ E' hbm F₂ hm N₂ hne) (fun ok s₃ h₃ => ?_) fun _ _ e => e
    obtain ⟨e, h', tk, m', rfl, F', hb', N'⟩ := h₃
    exact ⟨e, h', tk, m', rfl, F', ⟨⟨b, t, rfl, hbm⟩, hb'⟩, N'⟩
  · rintro C D oI oD i v s₂ m₂ E' hv hpv F₂ ⟨⟨b, t, rfl, hbm⟩, hm⟩ N₂ hne
    rw [bytesP_at] at hpv
    refine wpAny_mono (helt C _ D oI oD b t s₂ m₂ E' hbm hpv F₂ hm N₂ hne) (fun y s₃ h₃ => ?_) fun _ _ e => e
    obtain ⟨e, h', tk, m', rfl, F', hb', N'⟩ := h₃
    exact ⟨⟨b, t, rfl, e⟩, h', tk, m', rfl, F', ⟨⟨b, t, rfl, hbm⟩, hb'⟩, N'⟩
  · intro D n' h' tk ys vs hD hget hlen hP hF hst
    have e : vs = us := by
      refine List.ext_getElem? fun i => ?_
      cases hv : vs[i]? with
      | some v => have := hP i v hv; simpa using this.symm
      | none =>
        have h1 : vs.length ≤ i := by simpa using hv
        have h2 : us.length ≤ i := by rw [hlen] at h1; simpa using h1
        simp [h2]
    rw [e] at hF
    refine hQ D n' h' tk ys hD hget ?_ hst
    clear hget hst hlen hP e hQ htests helt hsz hla ofMem
    clear ha r hlt
    induction hb generalizing ys with
    | nil => cases hF; exact .nil
    | @cons b t vs' bs' hr ih =>
      rw [List.filter_cons, bytesP_at] at hF
      rw [List.filter_cons]
      cases ht : tst b with
      | false =>
        rw [ht] at hF
        exact ih ys hF
      | true =>
        rw [ht] at hF
        cases hF with
        | cons hf hy' =>
          obtain ⟨b', t', e1, e2⟩ := hf
          have e3 : b = b' := by
            injection e1 with e1
            simpa using e1
          subst e3
          exact .cons e2 (ih _ hy')
end

section
variable {M : Model} {A : Around} {E : Value → Shared → Prop} {s : Shared} {K : Frag} {h₀ : Heap} {C : Addr} {m mg mb : PySem.Str → Option Value} {cl : List (PySem.Str × Addr)} {p : Program} {loose : List PySem.Str} {scope : Scope} {env : Env}
  {x : PySem.Str} {pos : Pos} {v : Value} {Q : Value → Shared → Prop}
theorem nameB_L (F : Fr h₀ C s.heap m) (hv : m x = some v) (h : Q v s) (hk : (compEnvC scope cl C env).scope.kind = .function) (hx : (compEnvC scope cl C env).kindOf x = some .local) (hd : (x == ("__debug__" : PySem.Str)) = false) :
    wpAny M A (eval (.Name x pos) (compEnvC scope cl C env)) Q E s := wpAny_Name (wpAny_loadName_local hk hx F.ns hv h) hd
theorem nameB_K (F : Fr h₀ C s.heap m) (X : K.In h₀) (T : TopRead p loose mg mb h₀) (e : nsIn K mainGlobals x = some (some v)) (h : Q v s) (hg : env.globals = mainGlobals) (hk : (compEnvC scope cl C env).scope.kind = .function) (hx : (compEnvC scope cl C env).kindOf x = some .globalImplicit) (hd : (x == ("__debug__" : PySem.Str)) = false) :
    wpAny M A (eval (.Name x pos) (compEnvC scope cl C env)) Q E s :=
  Name_function_global hk hx (loadGlobal_global (env := compEnvC scope cl C env) (by show s.heap.Ns env.globals mg; rw [hg]; exact T.g.keeps F.keep) (mg_of X T.g e) h) hd
theorem nameB_B (F : Fr h₀ C s.heap m) (X : K.In h₀) (T : TopRead p loose mg mb h₀) (e : nsIn K mainGlobals x = some none) (hv : bootBuiltins x = some v) (hn : x ≠ "__name__") (h : Q v s) (hg : env.globals = mainGlobals) (hb : env.builtins = builtinsNs)
    (hk : (compEnvC scope cl C env).scope.kind = .function) (hx : (compEnvC scope cl C env).kindOf x = some .globalImplicit) (hd : (x == ("__debug__" : PySem.Str)) = false) :
    wpAny M A (eval (.Name x pos) (compEnvC scope cl C env)) Q E s :=
  Name_function_global hk hx (loadGlobal_builtin (env := compEnvC scope cl C env) (by show s.heap.Ns env.globals mg; rw [hg]; exact T.g.keeps F.keep) (mg_none_of X T.g e) (by show s.heap.Ns env.builtins mb; rw [hb]; exact T.b.keeps F.keep) ((T.builtins x hn).trans hv) h) hd
theorem nameB_C {c : Addr} {o : Obj} (F : Fr h₀ C s.heap m) (hc : cl.lookup x = some c) (ho : h₀.get? c = some o) (hd : o.data = .cell (some v)) (h : Q v s)
    (hk : (compEnvC scope cl C env).scope.kind = .function) (hx : (compEnvC scope cl C env).kindOf x = some .cell) (hb : (x == ("__debug__" : PySem.Str)) = false) :
    wpAny M A (eval (.Name x pos) (compEnvC scope cl C env)) Q E s := wpAny_Name (wpAny_loadName_cell hk hx hc ⟨o, F.keep _ _ ho, hd⟩ h) hb
end
end Mine
end

section
open PySem PySem.W PyProof.Rows PySem.Calls
set_option maxRecDepth 100000
set_option maxHeartbeats 4000000
set_option linter.unusedVariables false
namespace Mine
/-- the octets of an ASCII text -/
def octs (x : PySem.Str) : List UInt8 := x.cps.toList.map fun c => c.toUInt8
section
variable {prog : Program} {w : World} {A : Around} {E : Value → Shared → Prop} {s : Shared} {env : Env} {scope : Scope} {cl : List (PySem.Str × Addr)}
/-- a comprehension over an ASCII text -/
theorem ListComp_str {elt iter : Expr} {y : PySem.Str} {py : Pos} {pos : Pos} {Q : Value → Shared → Prop} (hh : A.handled = none)
    (hclos : closureFor scope env = pure cl) (hcell : ∀ y ∈ scope.names, y.2 ≠ .cell) (hkind : scope.kind = .function)
    (hnames : ∀ y ∈ scope.names, y.2 = .local → scope.names.lookup y.1 = some .local) (hy : scope.names.lookup y = some .local)
    (h : wpAny (model prog w) A (eval iter env) (fun xv s₁ => Stop <| ∃ x t, ∃ (F : Nat → Value → Prop), xv = .str x t ∧ x.cps.all (· < 128) = true ∧ x.cps.size ≤ sizeLine ∧
      (∀ C I D oI oD c u (s₂ : Shared) m₂ E', c ∈ x.cps.toList → Fr s₁.heap C s₂.heap m₂ → m₂ y = some (.str ⟨#[c]⟩ u) → News s₁.heap C s₂.heap [(I, oI), (D, oD)] → @Ne Nat I D → wpAny (model prog w) A (eval elt (compEnvC scope cl C env)) (fun z s₃ => Stop (F c z ∧ TurnEnd s₁.heap C I D oI oD (fun m => m y = some (.str ⟨#[c]⟩ u)) s₂ s₃)) E' s₂) ∧
      (∀ D n' h' tk (ys : List Value), s₁.heap.get? D = none → h'.get? D = some (listOf ys.toArray n') → Paired F x.cps.toList ys → Stay s₁.heap h' → Q (.ref D) { s₁ with heap := h', toks := tk })) E s)
    (hs : ∀ x, foldedSetIterable iter env x = pure x := by intro _; rfl) :
    wpAny (model prog w) A (eval (.ListComp elt [⟨.Name y py, iter, [], 0⟩] scope pos) env) Q E s := by
  refine ListComp_Q hclos hcell hkind hnames (wpAny_mono h (fun xv s₁ h₁ => ?_) fun _ _ e => e) hs
  obtain ⟨x, t, F, rfl, ha, hsz, helt, hQ⟩ := h₁
  refine wpAny_pyIter_ascii ha ?_
  refine ⟨s₁.heap.objs.size, [s₁.heap.objs.size], x.cps.size, _, _, fun v m => (∃ c u, v = Value.str ⟨#[c]⟩ u ∧ c ∈ x.cps.toList) ∧ m y = some v, (fun _ => true),
    fun v z => ∃ c u, v = Value.str ⟨#[c]⟩ u ∧ F c z, rfl, Walks.strAscii hh _ x t, hsz,
    ⟨_, Heap.get?_push_size _ rfl, rfl, rfl⟩, ?_, Nat.le_refl _, fun b o e => Heap.get?_push_of_some _ e, ?_, ?_, ⟨?_, ?_, ?_, ?_⟩, ?_⟩
  · intro b hb
    show b < (s₁.heap.push _).objs.size
    rw [Heap.size_push, List.mem_singleton.mp hb]
    exact Nat.lt_succ_self _
  · rintro i h ⟨o, e, _⟩; exact ⟨o, e⟩
  · rintro i h h' o ⟨o', e', r'⟩ e1 e2 st
    rw [e1] at e'
    cases e'
    exact ⟨o, e2, r'⟩
  · intro i v s₂ Q' E' hv hst' hq
    exact wpAny_pure hq
  · intro C i v s₂ m₂ Q' E' hv hC hn hst hQ'
    refine wpAny_assign_Name (wpAny_storeName_local (lookup_relabel_local hy) hn (fun h₂ hn₂ hs₂ => ?_) (by simp [compEnvC, relabel, hkind]))
    obtain ⟨c, u, hc, rfl⟩ := hv
    exact hQ' h₂ _ _ hn₂ ⟨⟨c, u, rfl, by rw [Array.mem_toList_iff]; exact Array.mem_of_getElem? hc⟩, by simp⟩ fun b o hb e => hs₂.extBut b o hb e
  · rintro C D oI oD i v s₂ m₂ E' hv F₂ hG N₂ hne
    refine wpAny_tests_nil ⟨rfl, s₂.heap, s₂.toks, m₂, rfl, F₂, hG, N₂⟩
  · rintro C D oI oD i v s₂ m₂ E' hv hpv F₂ ⟨⟨c, u, rfl, hc⟩, hm⟩ N₂ hne
    refine wpAny_mono (helt C _ D oI oD c u s₂ m₂ E' hc F₂ hm N₂ hne) (fun z s₃ h₃ => ?_) fun _ _ e => e
    obtain ⟨e, h', tk, m', rfl, F', hb', N'⟩ := h₃
    exact ⟨⟨c, u, rfl, e⟩, h', tk, m', rfl, F', ⟨⟨c, u, rfl, hc⟩, hb'⟩, N'⟩
  · intro D n' h' tk ys vs hD hget hlen hP hF hst
    refine hQ D n' h' tk ys hD hget ?_ hst
    rw [List.filter_eq_self.mpr (fun _ _ => rfl)] at hF
    have hP' : ∀ (j : Nat) (v : Value), vs[j]? = some v → ∃ c u, x.cps.toList[j]? = some c ∧ v = Value.str ⟨#[c]⟩ u := fun j v hj => by
      obtain ⟨c, u, h1, h2⟩ := hP j v hj
      exact ⟨c, u, by simpa using h1, h2⟩
    have hlen' : vs.length = x.cps.toList.length := by simpa using hlen
    clear hP hlen hget hst hQ helt hsz ha
    generalize x.cps.toList = cs at hP' hlen'
    clear h hD
    induction hF generalizing cs with
    | nil =>
      have : cs = [] := List.length_eq_zero_iff.mp hlen'.symm
      subst this
      exact .nil
    | @cons v z vs ys hf hr ih =>
      cases cs with
      | nil => cases hlen'
      | cons c cs =>
        obtain ⟨c', u, h1, h2⟩ := hP' 0 v rfl
        cases h1
        obtain ⟨c', u', h3, h4⟩ := hf
        rw [h2] at h3
        have h5 : c = c' := by
          injection h3 with h3
          injection h3 with h3
          injection h3 with h3
          injection h3
        subst h5
        exact .cons h4 (ih cs (fun j v hj => hP' (j + 1) v hj) (Nat.succ.inj hlen'))
theorem paired_ords : ∀ {cs : List Nat} {ys : List Value}, Paired (fun (c : Nat) y => ∃ t, y = Value.int (c : Int) t) cs ys → IntsAre ys (cs.map fun (c : Nat) => (c : Int))
  | _, _, .nil => .nil
  | _, _, .cons h r => by
    obtain ⟨t, rfl⟩ := h
    exact .cons _ t (paired_ords r)
/-- bytes of the codes of an ASCII text -/
theorem bytes_L {h₀ : Heap} {L : Addr} {m : PySem.Str → Option Value} {news : List (Addr × Obj)} {l : Addr} {vs : List Value} {n : Nat} {x : PySem.Str} {Q : Value → Shared → Prop} (F : Fr h₀ L s.heap m) (N : News h₀ L s.heap news) (hl : (l, listOf vs.toArray n) ∈ news) (hi : IntsAre vs (x.cps.toList.map fun (c : Nat) => (c : Int)))
    (ha : x.cps.all (· < 128) = true) (hz : x.cps.size ≤ 50) (hh : A.handled = none)
    (h : ∀ h' t k, Fr h₀ L h' m → News h₀ L h' news → (octs x).length ≤ 50 → Q (.bytes (octs x).toArray t) { s with heap := h', toks := k }) : wpAny (model prog w) A (call (.type "bytes") [.ref l]) Q E s := by
  refine bytes_K F N ⟨_, (N _ hl).1, rfl, n, rfl⟩ hi ?_ ?_ hh fun h' t k F' N' _ => ?_
  · intro i hi'
    obtain ⟨c, hc, rfl⟩ := List.mem_map.mp hi'
    have h128 : c < 128 := by
      have := Array.all_eq_true.mp ha
      obtain ⟨i, hi, e⟩ := Array.mem_iff_getElem.mp (Array.mem_toList_iff.mp hc)
      have := this i hi
      rw [e] at this
      simpa using this
    omega
  · rw [hi.length, List.length_map, sizeLine_eq]
    have : x.cps.toList.length = x.cps.size := by simp
    omega
  · have e : (x.cps.toList.map fun (c : Nat) => (c : Int)).map (fun n => n.toNat.toUInt8) = octs x := by
      rw [List.map_map]
      rfl
    rw [e]
    exact h h' t k F' N' (by unfold octs; rw [List.length_map]; simpa using hz)
end
/-- a call out of a comprehension's turn -/
theorem call_specB {k : Nat} {f : Addr} {vs : List Value} {pre : Heap → Prop} {post : Heap → Heap → Value → Prop} (C : Spec k f vs pre post)
    {w : World} {mean : ExcName → Option Value} {mg mb : PySem.Str → Option Value} {dp un : Nat} {gd : Option (List Code)} {outer : List Env} {base h₀ h₁ : Heap} {L Cm : Addr} {m m₂ : PySem.Str → Option Value} {news : List (Addr × Obj)} {env : Env} {s : Shared} {Q E : Value → Shared → Prop}
    (B : Below { handled := none, depth := dp, frames := some outer, guards := gd, units := un } base outer h₀) (X : (hd.heap_39 w.params).In h₀) (T : Top hd.view_39 loose mean mg mb h₀)
    (F : Fr h₀ L h₁ m) (F₂ : Fr h₁ Cm s.heap m₂) (N₂ : News h₁ Cm s.heap news) (hf : env.frame = some L) (hk : env.scope.kind = .function) (hr : dp + (k + 1) < recursionLimit) (hu : un + (20 * k + 3) < cLine) (hp : pre s.heap)
    (h : ∀ v h' tk', Fr h₁ Cm h' m₂ → News h₁ Cm h' news → Stay s.heap h' → post s.heap h' v → Q v { s with heap := h', toks := tk' }) :
    wpAny (model PySem.Challenge.rw_nz0270_01.prog w) { handled := none, depth := dp + 1, frames := some (env :: outer), guards := gd, units := un + 3 } (call (.ref f) vs) Q E s :=
  call_spec C B X T (F.keeps F₂.keep) (fun _ hp => nomatch hp : News h₀ L s.heap []) hf hk hr hu hp fun v h' tk' _ _ st hpost => h v h' tk' (F₂.keeps st) (N₂.grown st) st hpost
end Mine
end

section
open PySem.Calls
namespace Mine
local macro_rules | `(tactic| kby_size) => `(tactic| (first | omega | ((simp only [List.length_append, List.length_cons, List.length_nil] at *); omega)))
local macro_rules | `(tactic| walk_at "binaryOp Add bytes bytes") => `(tactic| (k_here; (with_reducible show wpAny _ _ (binaryOp Operator.Add (Value.bytes (List.toArray _) _) (Value.bytes (List.toArray _) _)) _ _ _); (refine add_L (by kby_size) ?_); intro _ _))
local macro_rules | `(tactic| walk_at "call builtin:len") => `(tactic| (k_here; (with_reducible show wpAny _ _ (call (Value.builtin "len") [Value.bytes (List.toArray _) _]) _ _ _); (refine len_L (by kby_size) ?_); intro _ _))
local macro_rules | `(tactic| walk_at "compareOp Eq bytes bytes") => `(tactic| (k_here; (with_reducible show wpAny _ _ (compareOp _ (Value.bytes (List.toArray _) _) (Value.bytes (List.toArray _) _)) _ _ _); (refine eq_L ?_)))
local macro_rules | `(tactic| walk_at "compareOp NotEq bytes bytes") => `(tactic| (k_here; (with_reducible show wpAny _ _ (compareOp _ (Value.bytes (List.toArray _) _) (Value.bytes (List.toArray _) _)) _ _ _); (refine ne_L ?_)))
local macro_rules | `(tactic| walk_at "subscriptTail") => `(tactic| (k_here; (with_reducible show wpAny _ _ (subscriptTail _ (Expr.Slice _ _ none _) (Value.bytes (List.toArray _) _) (Value.ref _)) _ _ _); (with_reducible rename Fr _ _ _ _ => F'); (with_reducible rename News _ _ _ _ => N'); (refine slice_L (s := ⟨_, _, _, _, _⟩) F' N' (by constructor) (by constructor) (by kby_size) ?_); intro _ _ _ _ _ _))
local macro_rules | `(tactic| walk_at "getMethod bytes") => `(tactic| (k_here; first | (with_reducible refine method_find ?_) | (with_reducible refine method_rstrip ?_) | (with_reducible refine method_join ?_)))
local macro_rules | `(tactic| walk_at "call builtin:bytes.rstrip") => `(tactic| (k_here; (with_reducible show wpAny _ _ (call (Value.builtin "bytes.rstrip") [Value.bytes (List.toArray _) _, Value.bytes (List.toArray _) _]) _ _ _); (refine call_rstrip (by kby_size) ?_); intro _ _))
local macro_rules | `(tactic| walk_at "exec While Compare") => `(tactic| (k_here; refine Stop.of ?_))
local macro_rules | `(tactic| walk_at "exec While Constant") => `(tactic| (k_here; refine Stop.of ?_))
local macro_rules | `(tactic| k_all) => `(tactic| assumption)
local macro_rules | `(tactic| walk_at "newTuple") => `(tactic| (k_here; k_dflt (refine' newTuple_L ?F ?N ?_ ?z; (case F => k_asm); (case N => k_asm); (case z => decide)); intro D' h' F' N' l1; (try k_lt l1); (try k_sweep)))
local macro_rules | `(tactic| walk_at "call builtin:list.append") => `(tactic| (k_here; (with_reducible show wpAny _ _ (call (Value.builtin _) [Value.ref _, _]) _ _ _); k_dflt (refine' append_K ?k1 ?k2 ?k3 ?_ ?z; (case k1 => k_asm); (case k2 => k_asm); (case k3 => k_upd); (case z => (rw [sizeLine_eq, List.size_toArray]; omega)); k_whole); intro h' F' N'; (try k_sweep)))
local macro_rules | `(tactic| walk_at "call builtin:bytes.find") => `(tactic| (k_here; (with_reducible show wpAny _ _ (call (Value.builtin "bytes.find") [Value.bytes (List.toArray _) _, Value.bytes _ _, Value.int _ _, Value.int _ _]) _ _ _); (refine call_find2 _ _ ?hi ?hj ?_; (case hi => omega); (case hj => omega)); intro _ _ _ _ _))
local macro_rules | `(tactic| walk_at "eval ListComp") => `(tactic| (k_here; refine Stop.of ?_))
local macro_rules | `(tactic| walk_at "compareOp Eq ref ref") => `(tactic| (k_here; refine Stop.of ?_))
local macro_rules | `(tactic| walk_at "compareOp NotEq ref ref") => `(tactic| (k_here; refine Stop.of ?_))
section
open PySem PySem.W PyProof.Rows
set_option maxRecDepth 100000
set_option maxHeartbeats 8000000
set_option linter.unusedVariables false
/-- boundary_way, on lists: 0 no boundary's line, 1 a next one, 2 the last one -/
def way (line bnd : List UInt8) : PySem.Str :=
  if (cut line none (some ((45 :: 45 :: bnd).length : Int)) != [45, 45] ++ bnd) = true then Str.ofString ""
  else if (stripR ([32, 9] : List UInt8).contains (cut line (some ((45 :: 45 :: bnd).length : Int)) none) == []) = true then Str.ofString "next"
  else if (stripR ([32, 9] : List UInt8).contains (cut line (some ((45 :: 45 :: bnd).length : Int)) none) == [45, 45]) = true then Str.ofString "last" else Str.ofString ""
theorem way_spec (line bnd : List UInt8) (t1 t2 : Tok) (hl : line.length ≤ 10000) (hb : bnd.length ≤ 100) :
    Spec 5 44 [.bytes line.toArray t1, .bytes bnd.toArray t2] (fun _ => True) (fun h h' v => ∃ t, v = .str (way line bnd) t) := by
  unfold Spec
  k_fill
  w_top off
  intro w mean mg mb dp un gd outer base s R B X T hp hd hu hret
  refine enter (binds := [(Str.ofString "line", .bytes line.toArray t1), (Str.ofString "boundary", .bytes bnd.toArray t2)]) B X T (by omega) (by k_is) (by k_is) (BindsTo.of_eq rfl) (locs rfl) (by decide) rfl rfl rfl ?_
  intro h₁ tk₁ F N
  (try k_fold)
  k_steps
  all_goals ((try dsimp only); (try k_unfold); refine hret _ _ _ (Fr.keep (by assumption)) ⟨_, congrArg (fun x => Value.str x _) ?_⟩; unfold way; simp_all)
end

section
open PySem PySem.W PyProof.Rows
set_option maxRecDepth 100000
set_option maxHeartbeats 8000000
set_option linter.unusedVariables false
/-- the lines of l from place p on: where each begins, where its text ends, where the next one begins -/
def spans (l : List UInt8) (p : Nat) : List (Nat × Nat × Nat) :=
  if h : p < l.length then
    match (l.drop p).findIdx? (· == 10) with
    | none => [(p, l.length, l.length)]
    | some k => (p, if 0 < k ∧ l[p + k - 1]? = some 13 then p + k - 1 else p + k, p + k + 1) :: spans l (p + k + 1)
  else []
termination_by l.length - p

def SpJ (l : List UInt8) (lf : Addr) (td : Tok) (n : Nat) (m : PySem.Str → Option Value) (nx : List (Addr × Obj)) : Prop :=
  ∃ (p : Nat) (tb te : Tok) (be : Int) (vs : List Value) (k : Nat) (tups : List (Addr × Obj)) (dn : List (Nat × Nat × Nat)),
    n = l.length - p ∧ p ≤ l.length ∧ nx = (lf, listOf vs.toArray k) :: tups ∧ (∀ q ∈ tups, q.1 ≠ lf) ∧ TupsIn tups vs (dn.map trip) ∧ dn ++ spans l p = spans l 0 ∧ vs.length ≤ p ∧
    be = (l.length : Int) ∧ m (Str.ofString "data") = some (.bytes l.toArray td) ∧ m (Str.ofString "behind") = some (.int be te) ∧ m (Str.ofString "begin") = some (.int (p : Int) tb) ∧ m (Str.ofString "found") = some (.ref lf)

theorem spans_stop {l : List UInt8} {p : Nat} (h : ¬ (p : Int) < (l.length : Int)) : spans l p = [] := by
  rw [spans, dif_neg (by omega)]
theorem drop_take_all (l : List UInt8) (p : Nat) : (l.take l.length).drop p = l.drop p := by rw [List.take_length]
theorem spans_last {l : List UInt8} {p : Nat} {v : Int} (h : (p : Int) < (l.length : Int)) (hv : v = findFrom l 10 p l.length) (hn : v < 0) : spans l p = [(p, l.length, l.length)] := by
  rw [spans, dif_pos (by omega)]
  unfold findFrom at hv
  rw [drop_take_all] at hv
  cases hk : (l.drop p).findIdx? (· == 10) with
  | none => rfl
  | some k =>
    rw [hk] at hv
    dsimp only at hv
    omega
theorem getD_13 {l : List UInt8} {i : Nat} (hi : i < l.length) : (((l.getD i 0).toNat : Nat) : Int) = 13 ↔ l[i]? = some 13 := by
  rw [List.getD_eq_getElem?_getD, List.getElem?_eq_getElem hi, Option.getD_some]
  constructor
  · intro h
    have h' : l[i].toNat = 13 := by omega
    have : l[i] = 13 := by
      apply UInt8.toNat.inj
      rw [h']; rfl
    rw [this]
  · intro h
    injection h with h
    rw [h]; rfl
theorem spans_next {l : List UInt8} {p : Nat} {v b : Int} (h : (p : Int) < (l.length : Int)) (hv : v = findFrom l 10 p l.length) (hn : ¬ v < 0)
    (hb : ((p : Int) < v ∧ (((l.getD (v - 1).toNat 0).toNat : Nat) : Int) = 13 ∧ b = v - 1) ∨ ((¬ (p : Int) < v ∨ (((l.getD (v - 1).toNat 0).toNat : Nat) : Int) ≠ 13) ∧ b = v)) :
    ∃ b' p' : Nat, b = (b' : Int) ∧ v + 1 = (p' : Int) ∧ p < p' ∧ p' ≤ l.length ∧ spans l p = (p, b', p') :: spans l p' := by
  have hin := findFrom_in l 10 p l.length (Nat.le_refl _)
  rw [← hv] at hin
  rw [spans, dif_pos (by omega)]
  unfold findFrom at hv
  rw [drop_take_all] at hv
  cases hk : (l.drop p).findIdx? (· == 10) with
  | none =>
    rw [hk] at hv
    dsimp only at hv
    omega
  | some k =>
    rw [hk] at hv
    dsimp only at hv
    have hvk : v = ((p + k : Nat) : Int) := hv
    have hlt : p + k < l.length := by omega
    refine ⟨b.toNat, p + k + 1, ?_, by omega, by omega, by omega, ?_⟩
    · omega
    · dsimp only
      have e2 : (v - 1).toNat = p + k - 1 := by omega
      rw [e2] at hb
      have e3 : (if 0 < k ∧ l[p + k - 1]? = some 13 then p + k - 1 else p + k) = b.toNat := by
        have h13 := getD_13 (l := l) (i := p + k - 1) (by omega)
        rcases hb with ⟨h1, h2, h3⟩ | ⟨h1, h3⟩
        · rw [if_pos ⟨by omega, h13.mp h2⟩]; omega
        · rw [if_neg ?_]
          · omega
          · rintro ⟨h4, h5⟩
            rcases h1 with h1 | h1
            · omega
            · exact h1 (h13.mpr h5)
      rw [e3]
theorem sp_done {l : List UInt8} {p k : Nat} {vs : List Value} {tups : List (Addr × Obj)} {dn : List (Nat × Nat × Nat)} {lf L : Addr} {h₀ h' : Heap}
    (N : News h₀ L h' ((lf, listOf vs.toArray k) :: tups)) (ht : TupsIn tups vs (dn.map trip)) (hsp : dn ++ spans l p = spans l 0) (hp : ¬ (p : Int) < (l.length : Int)) : GivesTups ((spans l 0).map trip) h₀ h' (.ref lf) := by
  rw [spans_stop hp, List.append_nil] at hsp
  rw [← hsp]
  exact ⟨lf, k, vs, _, rfl, fun q hq => ⟨(N q hq).1, (N q hq).2.2⟩, .head _, ht.mono fun q hq => .tail _ hq⟩
theorem sp_ret {l : List UInt8} {p k : Nat} {v : Int} {vs : List Value} {tups : List (Addr × Obj)} {dn : List (Nat × Nat × Nat)} {lf D L : Addr} {h₀ h' : Heap} {t1 t2 t3 : Tok}
    (N : News h₀ L h' ((D, { cls := .type "tuple", data := .seq #[.int (p : Int) t1, .int (l.length : Int) t2, .int (l.length : Int) t3] }) :: (lf, listOf (vs.toArray.push (.ref D)) (k + 1)) :: tups)) (ht : TupsIn tups vs (dn.map trip))
    (hsp : dn ++ spans l p = spans l 0) (hp : (p : Int) < (l.length : Int)) (hv : v = findFrom l 10 p l.length) (hn : v < 0) : GivesTups ((spans l 0).map trip) h₀ h' (.ref lf) := by
  rw [spans_last hp hv hn] at hsp
  rw [List.push_toArray] at N
  refine ⟨lf, k + 1, _, _, rfl, fun q hq => ⟨(N q hq).1, (N q hq).2.2⟩, .tail _ (.head _), ?_⟩
  rw [← hsp, List.map_append]
  exact (ht.mono fun q hq => .tail _ (.tail _ hq)).snoc (.head _) (.cons _ _ (.cons _ _ (.cons _ _ .nil)))
theorem sp_step {l : List UInt8} {p k tk₀ : Nat} {v b c : Int} {vs : List Value} {tups : List (Addr × Obj)} {dn : List (Nat × Nat × Nat)} {lf D L : Addr} {h₀ h' : Heap} {t1 t2 t3 td : Tok} {m₂ : PySem.Str → Option Value} {s : Shared}
    (F : Fr h₀ L h' m₂) (N : News h₀ L h' ((D, { cls := .type "tuple", data := .seq #[.int (p : Int) t1, .int b t2, .int c t3] }) :: (lf, listOf (vs.toArray.push (.ref D)) (k + 1)) :: tups)) (ht : TupsIn tups vs (dn.map trip))
    (hlt : @LT.lt Nat _ lf D ∧ AllLt D tups) (hne : ∀ q ∈ tups, q.1 ≠ lf)
    (hsp : dn ++ spans l p = spans l 0) (hvs : vs.length ≤ p) (hp : (p : Int) < (l.length : Int)) (hv : v = findFrom l 10 p l.length) (hn : ¬ v < 0) (hc : c = v + 1)
    (hb : ((p : Int) < v ∧ (((l.getD (v - 1).toNat 0).toNat : Nat) : Int) = 13 ∧ b = v - 1) ∨ ((¬ (p : Int) < v ∨ (((l.getD (v - 1).toNat 0).toNat : Nat) : Int) ≠ 13) ∧ b = v))
    (e1 : m₂ (Str.ofString "data") = some (.bytes l.toArray td)) (e2 : ∃ te, m₂ (Str.ofString "behind") = some (.int (l.length : Int) te)) (e3 : ∃ tb, m₂ (Str.ofString "begin") = some (.int (v + 1) tb)) (e4 : m₂ (Str.ofString "found") = some (.ref lf)) :
    ∃ h'' tk m₃ news₂ n', ({ s with heap := h', toks := tk₀ } : Shared) = { s with heap := h'', toks := tk } ∧ Fr h₀ L h'' m₃ ∧ News h₀ L h'' news₂ ∧ n' < l.length - p ∧ SpJ l lf td n' m₃ news₂ := by
  obtain ⟨b', p', rfl, hp', h1, h2, h3⟩ := spans_next hp hv hn hb
  obtain ⟨te, e2⟩ := e2
  obtain ⟨tb, e3⟩ := e3
  subst hc
  rw [hp'] at N e3
  rw [List.push_toArray] at N
  have fin : ∀ o : Obj, o = { cls := .type "tuple", data := .seq #[.int (p : Int) t1, .int (b' : Int) t2, .int (p' : Int) t3] 0 } → News h₀ L h' ((D, o) :: (lf, listOf (vs ++ [Value.ref D]).toArray (k + 1)) :: tups) →
      ∃ h'' tk m₃ news₂ n', ({ s with heap := h', toks := tk₀ } : Shared) = { s with heap := h'', toks := tk } ∧ Fr h₀ L h'' m₃ ∧ News h₀ L h'' news₂ ∧ n' < l.length - p ∧ SpJ l lf td n' m₃ news₂ := by
    rintro o ho N
    refine ⟨h', tk₀, m₂, (lf, listOf (vs ++ [Value.ref D]).toArray (k + 1)) :: (D, o) :: tups, l.length - p', rfl, F, fun q hq => N q ?_, by omega, p', tb, te, (l.length : Int), vs ++ [Value.ref D], k + 1, (D, o) :: tups, dn ++ [(p, b', p')], rfl, h2, rfl, ?_, ?_, ?_, ?_, rfl, e1, e2, e3, e4⟩
    · rcases List.mem_cons.mp hq with rfl | hq
      · exact .tail _ (.head _)
      · rcases List.mem_cons.mp hq with rfl | hq
        · exact .head _
        · exact .tail _ (.tail _ hq)
    · intro q hq
      rcases List.mem_cons.mp hq with rfl | hq
      · exact Nat.ne_of_gt hlt.1
      · exact hne q hq
    · rw [List.map_append]
      exact (ht.mono fun q hq => .tail _ hq).snoc (by rw [ho]; exact .head _) (.cons _ _ (.cons _ _ (.cons _ _ .nil)))
    · rw [List.append_assoc, ← hsp, h3]; rfl
    · rw [List.length_append, List.length_singleton]; omega
  exact fin _ rfl N
theorem While_sp {prog : Program} {w : World} {A : Around} {Q : Flow → Shared → Prop} {s : Shared} {env : Env} {h₀ : Heap} {L lf : Addr} {test : Expr} {body : List Stmt} {pos : Pos} {m : PySem.Str → Option Value} (l : List UInt8) (td : Tok)
    (F : Fr h₀ L s.heap m) (N : News h₀ L s.heap [(lf, listOf #[] 0)]) (hJ : SpJ l lf td l.length m [(lf, listOf #[] 0)])
    (turn : ∀ n m₁ news₁ h₁ tk₁, Fr h₀ L h₁ m₁ → News h₀ L h₁ news₁ → SpJ l lf td n m₁ news₁ →
      wpAny (model prog w) A (isTrue test env (eval test env)) (fun b s₂ =>
        if b = true then wpAny (model prog w) A (execs body env) (WhileStep2 h₀ L s (SpJ l lf td) Q n) (fun _ _ => False) s₂ else Q .next s₂) (fun _ _ => False) { s with heap := h₁, toks := tk₁ }) :
    wpAny (model prog w) A (exec (.While test body [] pos) env) Q (fun _ _ => False) s := While_inv2 (SpJ l lf td) F N hJ turn PassesOwn.never

theorem spans_body (l : List UInt8) (e : Int) (ta td te : Tok) (hl : l.length ≤ 10000) (he : e < 0 ∨ e = l.length) {vs : List Value}
    (hvs : vs = [.bytes l.toArray td, .int 0 ta, .int e te] ∨ (vs = [.bytes l.toArray td] ∧ ta = 193 ∧ e = -1 ∧ te = 195)) :
    Spec 5 22 vs (fun _ => True) (GivesTups ((spans l 0).map trip)) := by
  unfold Spec
  k_fill
  w_top off
  intro w mean mg mb dp un gd outer base s R B X T hp hd hu hret
  refine enter (binds := [(Str.ofString "data", .bytes l.toArray td), (Str.ofString "at", .int 0 ta), (Str.ofString "end", .int e te)]) B X T (by omega) (by k_is) (by k_is) (by rcases hvs with rfl | ⟨rfl, rfl, rfl, rfl⟩ <;> exact binds_K X rfl (by k_is) rfl rfl rfl) (locs rfl) (by decide) rfl rfl rfl ?_
  intro h₁ tk₁ F N
  (try k_fold)
  k_steps
  all_goals (
    unfold Stop
    rename Fr _ _ _ _ => F'
    rename News _ _ _ _ => N'
    refine While_sp l td F' N' ⟨0, _, _, _, [], 0, [], [], rfl, Nat.zero_le _, rfl, (fun _ h => nomatch h), .nil, rfl, Nat.le_refl _, (by first | rfl | (split <;> omega)), rfl, rfl, rfl, rfl⟩ ?_
    clear F' N'
    rintro n m₁ nx h tk F₁ N₁ ⟨p, tb, te', be, vs, k, tups, dn, rfl, hp', rfl, hne, htups, hsp, hvs, rfl, e1, e2, e3, e4⟩
    have F₂ := fr_named [(Str.ofString "data", _), (Str.ofString "behind", _), (Str.ofString "begin", _), (Str.ofString "found", _)] F₁ (by
      intro q hq
      simp only [List.mem_cons, List.not_mem_nil, or_false] at hq
      rcases hq with rfl | rfl | rfl | rfl <;> assumption)
    dsimp only [kstB] at F₂
    clear F₁
    (try k_fold)
    k_steps)
  all_goals (try dsimp only [WhileStep2])
  all_goals (try k_unfold)
  all_goals (try dsimp only)
  all_goals first
    | exact hret _ _ _ (Fr.keep (by assumption)) (sp_done (by assumption) (by assumption) (by assumption) (by assumption))
    | exact hret _ _ _ (Fr.keep (by assumption)) (sp_ret (by assumption) (by assumption) (by assumption) (by assumption) (by assumption) (by assumption))
    | exact sp_step (by assumption) (by assumption) (by assumption) (by assumption) (by assumption) (by assumption) (by assumption) (by assumption) (by assumption) (by assumption) rfl (.inl ⟨by assumption, by assumption, rfl⟩) rfl ⟨_, rfl⟩ ⟨_, rfl⟩ rfl
    | exact sp_step (by assumption) (by assumption) (by assumption) (by assumption) (by assumption) (by assumption) (by assumption) (by assumption) (by assumption) (by assumption) rfl (.inr ⟨.inr (by assumption), rfl⟩) rfl ⟨_, rfl⟩ ⟨_, rfl⟩ rfl
    | exact sp_step (by assumption) (by assumption) (by assumption) (by assumption) (by assumption) (by assumption) (by assumption) (by assumption) (by assumption) (by assumption) rfl (.inr ⟨.inl (by assumption), rfl⟩) rfl ⟨_, rfl⟩ ⟨_, rfl⟩ rfl
theorem spans_spec (l : List UInt8) (ta td te : Tok) (hl : l.length ≤ 10000) : Spec 5 22 [.bytes l.toArray td, .int 0 ta, .int (l.length : Int) te] (fun _ => True) (GivesTups ((spans l 0).map trip)) :=
  spans_body l _ ta td te hl (.inr rfl) (.inl rfl)
theorem spans_spec1 (l : List UInt8) (td : Tok) (hl : l.length ≤ 10000) : Spec 5 22 [.bytes l.toArray td] (fun _ => True) (GivesTups ((spans l 0).map trip)) :=
  spans_body l (-1) 193 td 195 hl (.inl (by decide)) (.inr ⟨rfl, rfl, rfl, rfl⟩)
end

section
open PySem PySem.W PyProof.Rows PySem.Calls
set_option maxRecDepth 100000
set_option maxHeartbeats 4000000
set_option linter.unusedVariables false
theorem spans_length (l : List UInt8) (p : Nat) : (spans l p).length ≤ l.length - p := by
  induction hn : l.length - p using Nat.strongRecOn generalizing p with
  | ind n ih =>
    rw [spans]
    split
    · rename_i h
      split
      · rw [List.length_singleton]; omega
      · rename_i k hk
        have := ih (l.length - (p + k + 1)) (by omega) (p + k + 1) rfl
        rw [List.length_cons]; omega
    · exact Nat.zero_le _
theorem news_add {h₀ h h' : Heap} {L D : Addr} {m : PySem.Str → Option Value} {o : Obj} {news : List (Addr × Obj)} (F : Fr h₀ L h m) (N : News h₀ L h news) (st : Stay h h') (hD : h.get? D = none) (ho : h'.get? D = some o) : News h₀ L h' ((D, o) :: news) := fun p hp => by
  rcases List.mem_cons.mp hp with rfl | hp
  · refine ⟨ho, fun e => ?_, ?_⟩
    · have e' : D = L := e
      obtain ⟨o', _, _, ho', _⟩ := F.ns
      rw [← e', hD] at ho'; cases ho'
    · cases q : h₀.get? D with
      | none => rfl
      | some o' => have := F.keep _ _ q; rw [hD] at this; cases this
  · exact ⟨st _ _ (N p hp).1, (N p hp).2⟩
theorem is_list_of {h₀ h : Heap} {L a : Addr} {its : Array Value} {n : Nat} {news : List (Addr × Obj)} (N : News h₀ L h news) (hm : (a, listOf its n) ∈ news) : h.IsList a its := ⟨_, (N _ hm).1, rfl, n, rfl⟩
/-- a call of a def that gives a new list of tuples -/
theorem call_tups {k : Nat} {f : Addr} {vs : List Value} {pre : Heap → Prop} {xs : List (List Int)} (C : Spec k f vs pre (GivesTups xs))
    {w : World} {mean : ExcName → Option Value} {mg mb : PySem.Str → Option Value} {dp un : Nat} {gd : Option (List Code)} {outer : List Env} {base h₀ : Heap} {L : Addr} {m : PySem.Str → Option Value} {news : List (Addr × Obj)} {env : Env} {s : Shared} {Q E : Value → Shared → Prop}
    (B : Below { handled := none, depth := dp, frames := some outer, guards := gd, units := un } base outer h₀) (X : (hd.heap_39 w.params).In h₀) (T : Top hd.view_39 loose mean mg mb h₀)
    (F : Fr h₀ L s.heap m) (N : News h₀ L s.heap news) (hf : env.frame = some L) (hk : env.scope.kind = .function) (hr : dp + (k + 1) < recursionLimit) (hu : un + (20 * k + 3) < cLine) (hp : pre s.heap)
    (h : ∀ a n us led h' tk', Fr h₀ L h' m → News h₀ L h' (led ++ news) → Stay s.heap h' → (a, listOf us.toArray n) ∈ led → TupsIn led us xs → (∀ p ∈ led, ∀ q ∈ news, q.1 ≠ p.1) → Q (.ref a) { s with heap := h', toks := tk' }) :
    wpAny (model PySem.Challenge.rw_nz0270_01.prog w) { handled := none, depth := dp + 1, frames := some (env :: outer), guards := gd, units := un + 3 } (call (.ref f) vs) Q E s := by
  refine call_spec C B X T F N hf hk hr hu hp fun v h' tk' F' N' st hpost => ?_
  obtain ⟨a, n, us, led, rfl, hl, hm, ht⟩ := hpost
  have none₀ : ∀ p ∈ led, h₀.get? p.1 = none ∧ p.1 ≠ L := fun p hp => by
    refine ⟨?_, fun e => ?_⟩
    · cases q : h₀.get? p.1 with
      | none => rfl
      | some o => have := F.keep _ _ q; rw [(hl p hp).2] at this; cases this
    · obtain ⟨o, _, _, ho, _⟩ := F.ns
      rw [← e, (hl p hp).2] at ho; cases ho
  refine h a n us led h' tk' F' (fun p hp => ?_) st hm ht fun p hp q hq e => ?_
  · rcases List.mem_append.mp hp with hp | hp
    · exact ⟨(hl p hp).1, (none₀ p hp).2, (none₀ p hp).1⟩
    · exact N' p hp
  · have := (N q hq).1
    rw [e, (hl p hp).2] at this; cases this
end

section
open PySem PySem.W PyProof.Rows PySem.Calls
set_option maxRecDepth 100000
set_option maxHeartbeats 8000000
set_option linter.unusedVariables false
local macro_rules | `(tactic| walk_at "call ref") => `(tactic| (k_here; (with_reducible show wpAny _ _ (call (Value.ref _) [Value.bytes (List.toArray _) _]) _ _ _); k_dflt (refine' call_tups (spans_spec1 _ _ ?hz) ?B ?X ?T ?F ?N ?hf ?hk ?hr ?hu ?hp ?_; (case B => assumption); (case X => assumption); (case T => assumption); (case F => k_asm); (case N => k_asm); (case hf => exact rfl); (case hk => exact rfl); (case hr => omega); (case hu => omega); (case hp => trivial); (case hz => omega)); intro a' n' us' led' h' tk' F' N' st' hm' ht' hne'))
local macro_rules | `(tactic| walk_at "eval Name") => `(tactic| (k_here; (with_reducible show wpAny _ _ (eval (Expr.Name _ _) (compEnvC _ _ _ _)) _ _ _); k_dflt (first
  | (refine' nameB_L ?F ?hv ?_ ?hk ?hx ?hd; (case hx => exact rfl); (case F => k_asm); (case hv => exact rfl); (case hk => exact rfl); (case hd => decide); k_whole)
  | (refine' nameB_C ?F ?hc ?ho ?hdt ?_ ?hk ?hx ?hb; (case hx => exact rfl); (case hc => exact rfl); (case F => k_asm); (case ho => assumption); (case hdt => assumption); (case hk => exact rfl); (case hb => decide); k_whole)
  | (refine' nameB_K ?F ?X ?T ?e ?_ ?hg ?hk ?hx ?hd; (case hx => exact rfl); (case F => k_asm); (case X => k_asm); (case T => k_asm); (case e => k_is); (case hg => exact rfl); (case hk => exact rfl); (case hd => decide); k_whole)
  | (refine' nameB_B ?F ?X ?T ?e ?hv ?hn ?_ ?hg ?hb ?hk ?hx ?hd; (case hx => exact rfl); (case F => k_asm); (case X => k_asm); (case T => k_asm); (case e => k_is); (case hv => boot_by_name); (case hn => decide); (case hg => exact rfl); (case hb => exact rfl); (case hk => exact rfl); (case hd => decide); k_whole))))
/-- does a line begin here with the mark -/
def beginsAt (l mk : List UInt8) (x : List Int) : Bool := cut l (some (x.headD 0)) (some (x.headD 0 + (mk.length : Int))) == mk
/-- does one of the lines begin with the mark -/
def begins (l mk : List UInt8) : Bool := !(((spans l 0).map trip).filter (beginsAt l mk)).isEmpty
theorem paired_ones : ∀ {zs : List α} {ys : List Value}, Paired (fun (_ : α) y => ∃ t, y = Value.int 1 t) zs ys → IntsAre ys (zs.map fun _ => (1 : Int))
  | _, _, .nil => .nil
  | _, _, .cons h r => by
    obtain ⟨t, rfl⟩ := h
    exact .cons 1 t (paired_ones r)
theorem ones_nil {zs : List α} : (!decide (zs.map (fun _ => (1 : Int)) = [])) = (!zs.isEmpty) := by
  cases zs <;> simp
theorem begins_spec (l mk : List UInt8) (t1 t2 : Tok) (hl : l.length ≤ 10000) (hm : mk.length ≤ 100) :
    Spec 10 27 [.bytes l.toArray t1, .bytes mk.toArray t2] (fun _ => True) (fun h h' v => v = .bool (begins l mk)) := by
  unfold Spec
  k_fill
  w_top off
  intro w mean mg mb dp un gd outer base s R B X T hp hd hu hret
  refine enterC (binds := [(Str.ofString "octets", .bytes l.toArray t1), (Str.ofString "mark", .bytes mk.toArray t2)]) B X T (by omega) (by k_is) (by k_is) (BindsTo.of_eq rfl) rfl (by decide +kernel) rfl rfl rfl ?_
  intro h₁ tk₁ cells F N Y
  obtain ⟨o1, o2, hcs, d1, d2⟩ := CellsAre.two Y
  subst hcs
  replace d1 : o1.data = .cell (some (.bytes mk.toArray t2)) := d1
  replace d2 : o2.data = .cell (some (.bytes l.toArray t1)) := d2
  clear Y
  (try dsimp only)
  (try k_fold)
  k_steps
  unfold Stop
  refine' ListComp_ints [Str.ofString "first", Str.ofString "last", Str.ofString "behind"] rfl ?c1 ?c2 ?c3 ?c4
    ?c5 ?_
  case c1 => with_unfolding_all rfl
  case c2 => decide
  case c3 => rfl
  case c4 => decide
  case c5 =>
    intro C t its x s₂ m₂ Q' E' ht hi hx hn h
    refine bind3 ?_ ?_ ?_ ?_ ?_ ?_ ?_ ?_ C t its x s₂ m₂ Q' E' ht hi hx hn h
    · rfl
    · rfl
    · rfl
    · rfl
    · rfl
    · decide
    · decide
    · decide
  (try k_fold)
  k_steps
  rename Fr _ _ _ _ => F'
  rename News _ _ _ _ => N'
  rename TupsIn _ _ _ => ht'
  rename Stay _ _ => st'
  rename (_, W.listOf _ _) ∈ _ => hm'
  have X' := X.keeps F'.keep
  have T' := T.keeps F'.keep
  have g1 := (N' (_, o1) (List.mem_append_right _ (.head _))).1
  have g2 := (N' (_, o2) (List.mem_append_right _ (.tail _ (.head _)))).1
  refine ⟨_, _, _, _, _, beginsAt l mk, fun x y => ∃ t, y = .int 1 t, rfl, fun q hq => (N' q (List.mem_append_left _ hq)).1, hm', ht', ?_, ?_, ?_, ?_, ?_⟩
  · rw [ht'.length, List.length_map, sizeLine_eq]
    have := spans_length l 0
    omega
  · intro x hx
    obtain ⟨y, hy, rfl⟩ := List.mem_map.mp hx
    rfl
  · intro C I D oI oD x s₂ m₂ E' hx F₂ hb N₂ hne
    obtain ⟨y, hy, rfl⟩ := List.mem_map.mp hx
    obtain ⟨⟨u1, e1⟩, ⟨u2, e2⟩, ⟨u3, e3⟩, _⟩ := hb
    have F₃ := fr_named [(Str.ofString "first", _), (Str.ofString "last", _), (Str.ofString "behind", _)] F₂ (by
      intro q hq
      simp only [List.mem_cons, List.not_mem_nil, or_false] at hq
      rcases hq with rfl | rfl | rfl <;> assumption)
    dsimp only [kstB] at F₃
    clear F₂
    obtain ⟨sh, sg, sd, sk, so⟩ := s₂
    refine wpAny_tests_one ?_
    (try k_fold)
    k_steps
    all_goals exact ⟨rfl, _, _, _, rfl, by assumption, ⟨⟨_, rfl⟩, ⟨_, rfl⟩, ⟨_, rfl⟩, trivial⟩, by assumption⟩
  · intro C I D oI oD x s₂ m₂ E' hx hp F₂ hb N₂ hne
    obtain ⟨sh, sg, sd, sk, so⟩ := s₂
    refine wpAny_Constant_int ?_
    exact ⟨⟨_, rfl⟩, _, _, _, rfl, F₂, hb, N₂⟩
  · intro D n' h₂ tk₂ ys hD hget hF hst
    have F₂ := F'.keeps hst
    have N₂ := news_add F' N' hst hD hget
    clear F' N'
    (try k_unfold)
    (try dsimp only)
    k_steps
    unfold Stop
    rename Fr _ _ _ _ => F₃
    rename News _ _ _ _ => N₃
    refine ne_intsK (ns := _) (ms := []) (is_list_of N₃ (.tail _ (.head _))) (paired_ones hF) (is_list_of N₃ (.head _)) .nil ?_ ?_
    · show un + 3 + 64 < cLine
      omega
    · rw [ones_nil]
      exact hret _ _ _ F₃.keep rfl
end

section
open PySem PySem.W PyProof.Rows PySem.Calls
set_option maxRecDepth 100000
set_option maxHeartbeats 8000000
set_option linter.unusedVariables false
local macro_rules | `(tactic| walk_at "eval Name") => `(tactic| (k_here; (with_reducible show wpAny _ _ (eval (Expr.Name _ _) (compEnvC _ _ _ _)) _ _ _); k_dflt (first
  | (refine' nameB_L ?F ?hv ?_ ?hk ?hx ?hd; (case hx => exact rfl); (case F => k_asm); (case hv => exact rfl); (case hk => exact rfl); (case hd => decide); k_whole)
  | (refine' nameB_C ?F ?hc ?ho ?hdt ?_ ?hk ?hx ?hb; (case hx => exact rfl); (case hc => exact rfl); (case F => k_asm); (case ho => assumption); (case hdt => assumption); (case hk => exact rfl); (case hb => decide); k_whole)
  | (refine' nameB_K ?F ?X ?T ?e ?_ ?hg ?hk ?hx ?hd; (case hx => exact rfl); (case F => k_asm); (case X => k_asm); (case T => k_asm); (case e => k_is); (case hg => exact rfl); (case hk => exact rfl); (case hd => decide); k_whole)
  | (refine' nameB_B ?F ?X ?T ?e ?hv ?hn ?_ ?hg ?hb ?hk ?hx ?hd; (case hx => exact rfl); (case F => k_asm); (case X => k_asm); (case T => k_asm); (case e => k_is); (case hv => boot_by_name); (case hn => decide); (case hg => exact rfl); (case hb => exact rfl); (case hk => exact rfl); (case hd => decide); k_whole))))
local macro_rules | `(tactic| walk_at "call type:bytes") => `(tactic| (k_here; (with_reducible show wpAny _ _ (call (Value.type "bytes") [Value.ref _]) _ _ _); k_dflt (refine' bytes_L ?F ?N ?l ?i ?a ?z ?h ?_; (case F => k_asm); (case N => k_asm); (case i => assumption); (case l => k_mem); (case a => first | assumption | decide +kernel); (case z => first | assumption | decide +kernel); (case h => exact rfl); k_whole); intro _ _ _ _ _ _))
local macro_rules | `(tactic| walk_at "call ref") => `(tactic| (k_here; (with_reducible show wpAny _ _ (call (Value.ref _) [Value.bytes (List.toArray _) _, Value.bytes (List.toArray _) _]) _ _ _); k_dflt (refine' call_specB (begins_spec _ _ _ _ ?hz ?hz2) ?B ?X ?T ?F ?F2 ?N ?hf ?hk ?hr ?hu ?hp ?_; (case B => assumption); (case X => assumption); (case T => assumption); (case F2 => k_asm); (case F => assumption); (case N => k_asm); (case hf => exact rfl); (case hk => exact rfl); (case hr => omega); (case hu => omega); (case hp => trivial); (case hz => kby_size); (case hz2 => kby_size)); intro v' h' tk' F' N' st' hv'; subst hv'))
/-- the boundary of number n -/
def bound : Nat → PySem.Str
  | 0 => Str.ofString "=_part0"
  | 1 => Str.ofString "=_part1"
  | _ => Str.ofString "=_part2"
/-- the mark of number n -/
def markOf (n : Nat) : List UInt8 := [45, 45] ++ octs (bound n)
def BfJ (lb : Addr) (us : List Value) (bs : List (List UInt8)) (lc : Addr) (n : Nat) (m : PySem.Str → Option Value) (nx : List (Addr × Obj)) : Prop :=
  ∃ (i : Nat) (t : Tok) (o : Obj) (v : Option Value), n = 2 - i ∧ i ≤ 2 ∧ nx = [(lc, o)] ∧ o.data = .cell v ∧ m (Str.ofString "number") = some (.int (i : Int) t) ∧ m (Str.ofString "bodies") = some (.ref lb)
theorem While_bf {prog : Program} {w : World} {A : Around} {Q : Flow → Shared → Prop} {s : Shared} {env : Env} {h₀ : Heap} {L lc : Addr} {test : Expr} {body : List Stmt} {pos : Pos} {m : PySem.Str → Option Value} {o : Obj} (lb : Addr) (us : List Value) (bs : List (List UInt8))
    (F : Fr h₀ L s.heap m) (N : News h₀ L s.heap [(lc, o)]) (hJ : BfJ lb us bs lc 2 m [(lc, o)])
    (turn : ∀ n m₁ news₁ h₁ tk₁, Fr h₀ L h₁ m₁ → News h₀ L h₁ news₁ → BfJ lb us bs lc n m₁ news₁ →
      wpAny (model prog w) A (isTrue test env (eval test env)) (fun b s₂ =>
        if b = true then wpAny (model prog w) A (execs body env) (WhileStep2 h₀ L s (BfJ lb us bs lc) Q n) (fun _ _ => False) s₂ else Q .next s₂) (fun _ _ => False) { s with heap := h₁, toks := tk₁ }) :
    wpAny (model prog w) A (exec (.While test body [] pos) env) Q (fun _ _ => False) s := While_inv2 (BfJ lb us bs lc) F N hJ turn PassesOwn.never
theorem begins_no50 {b : List UInt8} (h : (50 : UInt8) ∉ b) : begins b (markOf 2) = false := by
  unfold begins
  have e : ((spans b 0).map trip).filter (beginsAt b (markOf 2)) = [] := by
    rw [List.filter_eq_nil_iff]
    intro x hx hc
    unfold beginsAt at hc
    have hc' := eq_of_beq hc
    have h2 : (50 : UInt8) ∈ markOf 2 := by decide +kernel
    rw [← hc'] at h2
    unfold cut at h2
    exact h (List.mem_of_mem_drop (List.mem_of_mem_take h2))
  rw [e]; rfl
theorem bf_all {bs : List (List UInt8)} {j : Nat} (h : decide (List.map (fun _ => (1 : Int)) (bs.filter fun b => begins b (markOf j)) = []) = true) : ∀ b ∈ bs, begins b (markOf j) = false := by
  have h' := of_decide_eq_true h
  rw [List.map_eq_nil_iff, List.filter_eq_nil_iff] at h'
  intro b hb
  exact eq_false_of_ne_true (h' b hb)
theorem bf_some {bs : List (List UInt8)} {j : Nat} (h : decide (List.map (fun _ => (1 : Int)) (bs.filter fun b => begins b (markOf j)) = []) = false) (h50 : ∀ b ∈ bs, (50 : UInt8) ∉ b) : j ≠ 2 := by
  rintro rfl
  refine of_decide_eq_false h ?_
  rw [List.map_eq_nil_iff, List.filter_eq_nil_iff]
  intro b hb hc
  rw [begins_no50 (h50 b hb)] at hc
  cases hc
theorem bfor_spec (lb : Addr) (us : List Value) (bs : List (List UInt8)) (hb : BytesAre us bs) (hlen : bs.length ≤ 100) (hsz : ∀ b ∈ bs, b.length ≤ 1000) (h50 : ∀ b ∈ bs, (50 : UInt8) ∉ b) :
    Spec 20 32 [.ref lb] (fun h => h.IsList lb us.toArray) (fun h h' v => ∃ n t, n ≤ 2 ∧ v = .str (bound n) t ∧ ∀ b ∈ bs, begins b (markOf n) = false) := by
  unfold Spec
  k_fill
  w_top off
  intro w mean mg mb dp un gd outer base s R B X T hp hd hu hret
  refine enterC (binds := [(Str.ofString "bodies", .ref lb)]) B X T (by omega) (by k_is) (by k_is) (BindsTo.of_eq rfl) rfl (by decide +kernel) rfl rfl rfl ?_
  intro h₁ tk₁ cells F N Y
  obtain ⟨o1, hcs, d1⟩ := CellsAre.one Y
  subst hcs
  replace d1 : o1.data = .cell none := d1
  clear Y
  (try dsimp only)
  (try k_fold)
  k_steps
  unfold Stop
  rename Fr _ _ _ _ => F'
  rename News _ _ _ _ => N'
  refine While_bf lb us bs F' N' ⟨0, _, _, _, rfl, by omega, rfl, d1, rfl, rfl⟩ ?_
  clear F' N'
  rintro n m₁ nx h tk F₁ N₁ ⟨i, t, o, v, rfl, hi, rfl, ho, e1, e2⟩
  have F₂ := fr_named [(Str.ofString "number", _), (Str.ofString "bodies", _)] F₁ (by
      intro q hq
      simp only [List.mem_cons, List.not_mem_nil, or_false] at hq
      rcases hq with rfl | rfl <;> assumption)
  dsimp only [kstB] at F₂
  clear F₁
  obtain ⟨j, hj⟩ : ∃ j, j = i := ⟨i, rfl⟩
  obtain rfl | rfl | rfl : i = 0 ∨ i = 1 ∨ i = 2 := by omega
  all_goals (try k_fold)
  all_goals k_steps
  all_goals (
    unfold Stop
    refine' ListComp_str rfl ?_ ?_ ?_ ?_ ?_ ?_
    any_goals (first | (with_unfolding_all rfl; done) | (decide; done)))
  all_goals (try k_fold)
  all_goals k_steps
  all_goals (
    rename Fr _ _ _ _ => F'
    rename News _ _ _ _ => N'
    refine ⟨_, _, fun c y => ∃ t, y = .int (c : Int) t, rfl, by decide +kernel, by decide, ?_, ?_⟩
    · intro C I D oI oD c u s₂ m₂ E' hc F₂ hm N₂ hne
      have X' := X.keeps F'.keep
      have T' := T.keeps F'.keep
      have F₃ := fr_named [(Str.ofString "sign", _)] F₂ (by
         intro q hq
         simp only [List.mem_cons, List.not_mem_nil, or_false] at hq
         rcases hq with rfl
         assumption)
      dsimp only [kstB] at F₃
      clear F₂
      obtain ⟨sh, sg, sd, sk, so⟩ := s₂
      (try k_fold)
      k_steps
      all_goals exact ⟨⟨_, rfl⟩, _, _, _, rfl, by assumption, rfl, by assumption⟩
    intro D n' h₂ tk₂ ys hD hget hF hst
    have F₂ := F'.keeps hst
    have N₂ := news_add F' N' hst hD hget
    have hi' := paired_ords hF
    clear F' N' hF
    (try k_unfold)
    (try dsimp only)
    (try k_fold)
    k_steps)
  all_goals (
    unfold Stop
    refine' ListComp_bytes rfl ?_ ?_ ?_ ?_ ?_ ?_
    any_goals (first | (with_unfolding_all rfl; done) | (decide; done)))
  all_goals (try k_fold)
  all_goals k_steps
  all_goals (
    rename Fr _ _ _ _ => F'
    rename News _ _ _ _ => N'
    have X' := X.keeps F'.keep
    have T' := T.keeps F'.keep
    have hlb : Heap.IsList _ lb us.toArray := stays_list F'.keep hp
    have g1 := (N' (s.heap.objs.size + 1, _) (by first | exact .head _ | exact .tail _ (.head _))).1)
  all_goals (
    refine ⟨lb, us, bs, fun b => begins b (markOf j), fun b y => ∃ t, y = .int 1 t, rfl, hlb, hb, by rw [hb.len, sizeLine_eq]; omega, ?_, ?_, ?_⟩
    · intro C I D oI oD b t s₂ m₂ E' hbm F₂ hm N₂ hne
      have F₃ := fr_named [(Str.ofString "body", _)] F₂ (by
         intro q hq
         simp only [List.mem_cons, List.not_mem_nil, or_false] at hq
         rcases hq with rfl
         assumption)
      dsimp only [kstB] at F₃
      clear F₂
      have hbl := hsz b hbm
      obtain ⟨sh, sg, sd, sk, so⟩ := s₂
      refine wpAny_tests_one ?_
      (try k_fold)
      k_steps
      all_goals exact ⟨by subst hj; rfl, _, _, _, rfl, by assumption, rfl, by assumption⟩
    · intro C I D oI oD b t s₂ m₂ E' hbm hp F₂ hm N₂ hne
      obtain ⟨sh, sg, sd, sk, so⟩ := s₂
      refine wpAny_Constant_int ?_
      exact ⟨⟨_, rfl⟩, _, _, _, rfl, F₂, hm, N₂⟩
    · intro D n' h₂ tk₂ ys hD hget hF hst
      have F₂ := F'.keeps hst
      have N₂ := news_add F' N' hst hD hget
      clear F' N'
      (try k_unfold)
      (try dsimp only)
      (try k_fold)
      k_steps
      unfold Stop
      rename Fr _ _ _ _ => F₃
      rename News _ _ _ _ => N₃
      refine eq_intsK (ns := _) (ms := []) (is_list_of N₃ (.tail _ (.head _))) (paired_ones hF) (is_list_of N₃ (.head _)) .nil ?_ ?_
      · show un + 3 + 64 < cLine
        omega
      (try k_unfold)
      (try dsimp only)
      (try k_fold)
      k_steps
      all_goals (try dsimp only [WhileStep2])
      all_goals (try k_unfold)
      all_goals (try dsimp only [WhileStep2])
      · exact hret _ _ _ (Fr.keep (by assumption)) ⟨j, _, by omega, by subst hj; rfl, bf_all (by assumption)⟩
      · have h2 : j ≠ 2 := bf_some (by assumption) h50
        rename News _ _ _ _ => N₄
        refine ⟨_, _, _, [(_, _)], 2 - (j + 1), rfl, by assumption, fun q hq => N₄ q ?_, by omega, j + 1, _, _, _, rfl, by omega, rfl, by assumption, by subst hj; rfl, rfl⟩
        rcases List.mem_singleton.mp hq with rfl
        first | exact .tail _ (.tail _ (.head _)) | exact .tail _ (.head _) | exact .tail _ (.tail _ (.tail _ (.head _)))
        done)
end

section
open PySem PySem.W PyProof.Rows PySem.Calls
set_option maxRecDepth 100000
set_option maxHeartbeats 8000000
set_option linter.unusedVariables false
local macro_rules | `(tactic| walk_at "eval Name") => `(tactic| (k_here; (with_reducible show wpAny _ _ (eval (Expr.Name _ _) (compEnvC _ _ _ _)) _ _ _); k_dflt (first
  | (refine' nameB_L ?F ?hv ?_ ?hk ?hx ?hd; (case hx => exact rfl); (case F => k_asm); (case hv => exact rfl); (case hk => exact rfl); (case hd => decide); k_whole)
  | (refine' nameB_C ?F ?hc ?ho ?hdt ?_ ?hk ?hx ?hb; (case hx => exact rfl); (case hc => exact rfl); (case F => k_asm); (case ho => assumption); (case hdt => assumption); (case hk => exact rfl); (case hb => decide); k_whole)
  | (refine' nameB_K ?F ?X ?T ?e ?_ ?hg ?hk ?hx ?hd; (case hx => exact rfl); (case F => k_asm); (case X => k_asm); (case T => k_asm); (case e => k_is); (case hg => exact rfl); (case hk => exact rfl); (case hd => decide); k_whole)
  | (refine' nameB_B ?F ?X ?T ?e ?hv ?hn ?_ ?hg ?hb ?hk ?hx ?hd; (case hx => exact rfl); (case F => k_asm); (case X => k_asm); (case T => k_asm); (case e => k_is); (case hv => boot_by_name); (case hn => decide); (case hg => exact rfl); (case hb => exact rfl); (case hk => exact rfl); (case hd => decide); k_whole))))
local macro_rules | `(tactic| walk_at "call type:bytes") => `(tactic| (k_here; (with_reducible show wpAny _ _ (call (Value.type "bytes") [Value.ref _]) _ _ _); k_dflt (refine' bytes_L ?F ?N ?l ?i ?a ?z ?h ?_; (case F => k_asm); (case N => k_asm); (case i => assumption); (case l => k_mem); (case a => first | assumption | decide +kernel); (case z => first | assumption | decide +kernel); (case h => exact rfl); k_whole); intro _ _ _ _ _ _))
local macro_rules | `(tactic| walk_at "call ref") => `(tactic| (k_here; (with_reducible show wpAny _ _ (call (Value.ref _) [Value.bytes (List.toArray _) _, Value.bytes (List.toArray _) _]) _ _ _); k_dflt (refine' call_specB (begins_spec _ _ _ _ ?hz ?hz2) ?B ?X ?T ?F ?F2 ?N ?hf ?hk ?hr ?hu ?hp ?_; (case B => assumption); (case X => assumption); (case T => assumption); (case F2 => k_asm); (case F => assumption); (case N => k_asm); (case hf => exact rfl); (case hk => exact rfl); (case hr => omega); (case hu => omega); (case hp => trivial); (case hz => kby_size); (case hz2 => kby_size)); intro v' h' tk' F' N' st' hv'; subst hv'))
local macro_rules | `(tactic| walk_at "call builtin:bytes.join") => `(tactic| (k_here; (with_reducible show wpAny _ _ (call (Value.builtin "bytes.join") [Value.bytes _ _, Value.ref _]) _ _ _); (refine call_join (by assumption) (is_list_of (by assumption) (by k_mem)) (by omega) ?_); intro _ _))
/-- bodies joined by a mark -/
def joined (mk : List UInt8) (bs : List (List UInt8)) : List UInt8 := (bs.map fun b => mk ++ [13, 10] ++ b ++ [13, 10]).flatten ++ mk ++ [45, 45] ++ [13, 10]
theorem paired_bytes {f : List UInt8 → List UInt8} : ∀ {bs : List (List UInt8)} {ys : List Value}, Paired (fun b y => ∃ t, y = Value.bytes (f b).toArray t) bs ys → BytesAre ys (bs.map f)
  | _, _, .nil => .nil
  | _, _, .cons h r => by
    obtain ⟨t, rfl⟩ := h
    exact .cons _ t (paired_bytes r)
theorem flatten_le {f : List UInt8 → List UInt8} {k : Nat} : ∀ {bs : List (List UInt8)}, (∀ b ∈ bs, (f b).length ≤ k) → (bs.map f).flatten.length ≤ bs.length * k
  | [], _ => by simp
  | b :: bs, h => by
    have h1 := h b (.head _)
    have h2 := flatten_le (f := f) (k := k) (bs := bs) fun c hc => h c (.tail _ hc)
    rw [List.map_cons, List.flatten_cons, List.length_append, List.length_cons, Nat.succ_mul]
    omega
theorem octs_length (x : PySem.Str) : (octs x).length = x.cps.size := by unfold octs; rw [List.length_map]; simp
theorem joined_spec (lb : Addr) (us : List Value) (bs : List (List UInt8)) (x : PySem.Str) (tx : Tok) (hb : BytesAre us bs) (hlen : bs.length ≤ 100) (hsz : ∀ b ∈ bs, b.length ≤ 1000) (hx : x.cps.all (· < 128) = true) (hxz : x.cps.size ≤ 50) :
    Spec 10 37 [.ref lb, .str x tx] (fun h => h.IsList lb us.toArray) (fun h h' v => ∃ t, v = .bytes (joined ([45, 45] ++ octs x) bs).toArray t) := by
  unfold Spec
  k_fill
  w_top off
  intro w mean mg mb dp un gd outer base s R B X T hp hd hu hret
  refine enterC (binds := [(Str.ofString "bodies", .ref lb), (Str.ofString "boundary", .str x tx)]) B X T (by omega) (by k_is) (by k_is) (BindsTo.of_eq rfl) rfl (by decide +kernel) rfl rfl rfl ?_
  intro h₁ tk₁ cells F N Y
  obtain ⟨o1, hcs, d1⟩ := CellsAre.one Y
  subst hcs
  replace d1 : o1.data = .cell none := d1
  clear Y
  (try dsimp only)
  (try k_fold)
  k_steps
  unfold Stop
  refine' ListComp_str rfl ?_ ?_ ?_ ?_ ?_ ?_
  any_goals (first | (with_unfolding_all rfl; done) | (decide; done))
  (try k_fold)
  k_steps
  rename Fr _ _ _ _ => F'
  rename News _ _ _ _ => N'
  refine ⟨_, _, fun c y => ∃ t, y = .int (c : Int) t, rfl, hx, by rw [sizeLine_eq]; omega, ?_, ?_⟩
  · intro C I D oI oD c u s₂ m₂ E' hc F₂ hm N₂ hne
    have X' := X.keeps F'.keep
    have T' := T.keeps F'.keep
    have F₃ := fr_named [(Str.ofString "sign", _)] F₂ (by
       intro q hq
       simp only [List.mem_cons, List.not_mem_nil, or_false] at hq
       rcases hq with rfl
       assumption)
    dsimp only [kstB] at F₃
    clear F₂
    obtain ⟨sh, sg, sd, sk, so⟩ := s₂
    (try k_fold)
    k_steps
    all_goals exact ⟨⟨_, rfl⟩, _, _, _, rfl, by assumption, rfl, by assumption⟩
  intro D n' h₂ tk₂ ys hD hget hF hst
  have F₂ := F'.keeps hst
  have N₂ := news_add F' N' hst hD hget
  have hi' := paired_ords hF
  clear F' N' hF
  (try k_unfold)
  (try dsimp only)
  (try k_fold)
  k_steps
  unfold Stop
  refine' ListComp_bytes rfl ?_ ?_ ?_ ?_ ?_ ?_
  any_goals (first | (with_unfolding_all rfl; done) | (decide; done))
  (try k_fold)
  k_steps
  rename Fr _ _ _ _ => F'
  rename News _ _ _ _ => N'
  have X' := X.keeps F'.keep
  have T' := T.keeps F'.keep
  have hlb : Heap.IsList _ lb us.toArray := stays_list F'.keep hp
  have g1 := (N' (s.heap.objs.size + 1, _) (by first | exact .head _ | exact .tail _ (.head _))).1
  refine ⟨lb, us, bs, fun _ => true, fun b y => ∃ t, y = .bytes (([45, 45] ++ octs x) ++ [13, 10] ++ b ++ [13, 10]).toArray t, rfl, hlb, hb, by rw [hb.len, sizeLine_eq]; omega, ?_, ?_, ?_⟩
  · intro C I D oI oD b t s₂ m₂ E' hbm F₂ hm N₂ hne
    refine wpAny_tests_nil ⟨rfl, s₂.heap, s₂.toks, m₂, rfl, F₂, hm, N₂⟩
  · intro C I D oI oD b t s₂ m₂ E' hbm hp F₂ hm N₂ hne
    have F₃ := fr_named [(Str.ofString "body", _)] F₂ (by
         intro q hq
         simp only [List.mem_cons, List.not_mem_nil, or_false] at hq
         rcases hq with rfl
         assumption)
    dsimp only [kstB] at F₃
    clear F₂
    have hbl := hsz b hbm
    obtain ⟨sh, sg, sd, sk, so⟩ := s₂
    (try k_fold)
    k_steps
    all_goals exact ⟨⟨_, rfl⟩, _, _, _, rfl, by assumption, rfl, by assumption⟩
  intro D n' h₂ tk₂ ys hD hget hF hst
  have F₂ := F'.keeps hst
  have N₂ := news_add F' N' hst hD hget
  clear F' N'
  have hft : bs.filter (fun _ => true) = bs := List.filter_eq_self.mpr fun _ _ => rfl
  rw [hft] at hF
  have hys := paired_bytes hF
  have hox := octs_length x
  have hfl : (bs.map fun b => ([45, 45] ++ octs x) ++ [13, 10] ++ b ++ [13, 10]).flatten.length ≤ 200000 := by
    refine Nat.le_trans (flatten_le (k := 1100) fun b hb' => ?_) ?_
    · have := hsz b hb'
      simp only [List.length_append, List.length_cons, List.length_nil]
      omega
    · omega
  clear hF
  (try k_unfold)
  (try dsimp only)
  (try k_fold)
  k_steps
  all_goals ((try k_unfold); (try dsimp only); (try k_unfold); (try dsimp only))
  exact hret _ _ _ (Fr.keep (by assumption)) ⟨_, rfl⟩
end

section
open PySem PySem.W PyProof.Rows PySem.Calls
set_option maxRecDepth 100000
set_option maxHeartbeats 4000000
set_option linter.unusedVariables false
theorem TupsIn.at {led : List (Addr × Obj)} {vs : List Value} {xs : List (List Int)} (h : TupsIn led vs xs) : ∀ (i : Nat) (v : Value), vs[i]? = some v → ∃ x a n its, xs[i]? = some x ∧ v = .ref a ∧ (a, ({ cls := .type "tuple", data := .seq (its : List Value).toArray n } : Obj)) ∈ led ∧ IntsAre its x := by
  induction h with
  | nil => intro i v hv; simp at hv
  | @cons a n its x vs xs hm hi _ ih =>
    intro i v hv
    cases i with
    | zero => simp at hv; subst hv; exact ⟨_, _, _, _, rfl, rfl, hm, hi⟩
    | succ i =>
      obtain ⟨x, a, n, its, h0, h1, h2, h3⟩ := ih i v (by simpa using hv)
      exact ⟨x, a, n, its, by simpa using h0, h1, h2, h3⟩
section
variable {prog : Program} {w : World} {A : Around} {s : Shared} {env : Env} {h₀ : Heap}
theorem bindE3 {a b c : PySem.Str} {pa pb pc tp : Pos} {x1} (hh : A.handled = none) (ha : env.kindOf a = some .local) (hb : env.kindOf b = some .local) (hc : env.kindOf c = some .local)
    (hp : (env.scope.kind == .class || (env.scope.kind == .module && env.locals != env.globals)) = false) (hab : a ≠ b) (hac : a ≠ c) (hbc : b ≠ c)
    (t : Addr) (its : List Value) (x : List Int) (s₂ : Shared) (m₂ : PySem.Str → Option Value) (Q : Unit → Shared → Prop) (E' : Value → Shared → Prop)
    (ht : IsTup s₂.heap t its.toArray) (hi : IntsAre its x) (hx : x.length = 3) (hn : s₂.heap.Ns env.locals m₂)
    (h : ∀ h' tk m', h'.Ns env.locals m' → Binds [a, b, c] x m' → (∀ z, z ≠ a → z ≠ b → z ≠ c → m' z = m₂ z) → (∀ z o, z ≠ env.locals → s₂.heap.get? z = some o → h'.get? z = some o) → Q () { s₂ with heap := h', toks := tk }) :
    wpAny (model prog w) A (assign (.Tuple [.Name a pa, .Name b pb, .Name c pc] x1 tp) env (.ref t)) Q E' s₂ := by
  obtain ⟨i₁, t₁, i₂, t₂, i₃, t₃, rfl, rfl⟩ := ints3 hi hx
  refine assign_Tuple_tuple hh ht rfl rfl fun h₅ he => ?_
  have he' : ∀ b o, s₂.heap.get? b = some o → h₅.get? b = some o := fun b o e => he b o (Nat.ne_of_lt (Heap.lt_size e)) e
  refine assignInOrder_cons (wpAny_assign_Name (wpAny_storeName_local ha (hn.keeps he') (fun h₁ hn₁ hs₁ => ?_) hp))
  refine assignInOrder_cons (wpAny_assign_Name (wpAny_storeName_local hb hn₁ (fun h₂ hn₂ hs₂ => ?_) hp))
  refine assignInOrder_cons (wpAny_assign_Name (wpAny_storeName_local hc hn₂ (fun h₃ hn₃ hs₃ => ?_) hp))
  refine assignInOrder_nil ?_
  refine h h₃ _ _ hn₃ ⟨⟨t₁, ?_⟩, ⟨t₂, ?_⟩, ⟨t₃, ?_⟩, trivial⟩ ?_ fun z o hz e => hs₃.extBut z o hz (hs₂.extBut z o hz (hs₁.extBut z o hz (he' z o e)))
  · simp [hab, hac]
  · simp [hbc]
  · simp
  · intro z h1 h2 h3
    simp [h1, h2, h3]

/-- how a turn of a for-loop ends -/
def ForEnd (h₀ : Heap) (L I : Addr) (oI : Obj) (led : List (Addr × Obj)) (s : Shared) (Jn : (PySem.Str → Option Value) → List (Addr × Obj) → Prop) (Q : Flow → Shared → Prop) : Flow → Shared → Prop
  | .next, s₃ => ∃ h' tk m' news', s₃ = { s with heap := h', toks := tk } ∧ Fr h₀ L h' m' ∧ News h₀ L h' (news' ++ (I, oI) :: led) ∧ (∀ q ∈ news', q.1 ≠ I) ∧ Jn m' news'
  | .cont, s₃ => ∃ h' tk m' news', s₃ = { s with heap := h', toks := tk } ∧ Fr h₀ L h' m' ∧ News h₀ L h' (news' ++ (I, oI) :: led) ∧ (∀ q ∈ news', q.1 ≠ I) ∧ Jn m' news'
  | .brk, s₃ => Q .next s₃
  | .ret v, s₃ => Q (.ret v) s₃

theorem For_T3 {a b c : PySem.Str} {pa pb pc tp pos : Pos} {x1} {iter : Expr} {body : List Stmt} {Q : Flow → Shared → Prop} (hh : A.handled = none)
    (ha : env.kindOf a = some .local) (hb : env.kindOf b = some .local) (hc : env.kindOf c = some .local)
    (hp : (env.scope.kind == .class || (env.scope.kind == .module && env.locals != env.globals)) = false) (hab : a ≠ b) (hac : a ≠ c) (hbc : b ≠ c)
    (h : wpAny (model prog w) A (eval iter env) (fun xv s₁ => Stop <| ∃ l n us led xs m news, ∃ (J : List (List Int) → (PySem.Str → Option Value) → List (Addr × Obj) → Prop), xv = .ref l ∧ Fr h₀ env.locals s₁.heap m ∧ News h₀ env.locals s₁.heap (news ++ led) ∧
      (l, listOf us.toArray n) ∈ led ∧ TupsIn led us xs ∧ us.length ≤ sizeLine ∧ (∀ x ∈ xs, x.length = 3) ∧ J xs m news ∧
      (∀ I oI x rest m₁ m₂ news₁ h tk, (∀ q ∈ led, q.1 < I) → (∀ q ∈ news, q.1 < I) → x.length = 3 → (∀ q ∈ news₁, q.1 ≠ I) → J (x :: rest) m₁ news₁ → Binds [a, b, c] x m₂ → (∀ z, z ≠ a → z ≠ b → z ≠ c → m₂ z = m₁ z) →
        Fr h₀ env.locals h m₂ → News h₀ env.locals h (news₁ ++ (I, oI) :: led) →
        wpAny (model prog w) A (execs body env) (ForEnd h₀ env.locals I oI led s₁ (J rest) Q) (fun _ _ => False) { s₁ with heap := h, toks := tk }) ∧
      (∀ m₁ news₁ h tk, J [] m₁ news₁ → Fr h₀ env.locals h m₁ → News h₀ env.locals h (news₁ ++ led) → Q .next { s₁ with heap := h, toks := tk })) (fun _ _ => False) s)
    (hs : ∀ x, foldedSetIterable iter env x = pure x := by intro _; rfl) :
    wpAny (model prog w) A (exec (.For (.Tuple [.Name a pa, .Name b pb, .Name c pc] x1 tp) iter body [] pos) env) Q (fun _ _ => False) s := by
  refine wpAny_For (wpAny_mono h (fun xv s₁ h₁ => ?_) fun _ _ e => e) hs
  obtain ⟨l, n, us, led, xs, m, news, J, rfl, F, N, hl, ht, hsz, hlen, hJ, turn, hQ⟩ := h₁
  have hla : s₁.heap.IsList l us.toArray := ⟨_, (N _ (List.mem_append_right _ hl)).1, rfl, n, rfl⟩
  have hlt : l < s₁.heap.objs.size := Heap.lt_size (N _ (List.mem_append_right _ hl)).1
  refine wpAny_pyIter_list hla ?_
  have W := Walks.list (prog := prog) (w := w) (A := A) hh s₁.heap.objs.size l (Nat.ne_of_lt hlt) us.toArray
  have hnI : h₀.get? s₁.heap.objs.size = none := by
    cases e : h₀.get? s₁.heap.objs.size with
    | none => rfl
    | some o => exact absurd (Heap.lt_size (F.keep _ _ e)) (Nat.lt_irrefl _)
  have hIL : s₁.heap.objs.size ≠ env.locals := Nat.ne_of_gt F.ns.lt
  have ltI : ∀ q ∈ led, q.1 < s₁.heap.objs.size := fun q hq => Heap.lt_size (N q (List.mem_append_right _ hq)).1
  have ltN : ∀ q ∈ news, q.1 < s₁.heap.objs.size := fun q hq => Heap.lt_size (N q (List.mem_append_left _ hq)).1
  generalize hIe : s₁.heap.objs.size = I at *
  have hlI : l ≠ I := Nat.ne_of_lt hlt
  refine codeAny_forLoop_any
    (fun k s' => ∃ h' tk m' news' oI i, s' = { s₁ with heap := h', toks := tk } ∧ h'.get? I = some oI ∧ h'.IsListIter I l i ∧ Fr h₀ env.locals h' m' ∧ News h₀ env.locals h' (news' ++ led) ∧ (∀ q ∈ news', q.1 ≠ I) ∧ J (xs.drop i) m' news' ∧ i ≤ us.length ∧ k = us.length + 1 - i) ?_ (us.length + 1)
    ?_
  · rintro k s' ⟨H, tk, m', news', oI, i, rfl, hoI, hit, F', N', hnI', hJ', hi, rfl⟩
    have hla' : H.IsList l us.toArray := ⟨_, (N' _ (List.mem_append_right _ hl)).1, rfl, n, rfl⟩
    have up : ∀ H' : Heap, (∀ b o, b ∉ [I] → H.get? b = some o → H'.get? b = some o) → Fr h₀ env.locals H' m' ∧ News h₀ env.locals H' (news' ++ led) := fun H' hk => by
      have hk' : ∀ b o, b ≠ I → H.get? b = some o → H'.get? b = some o := fun b o hb e => hk b o (by simpa using hb) e
      refine ⟨⟨F'.ns.at' fun o e => hk' _ o hIL.symm e, fun b o e => hk' b o (fun e' => by rw [e', hnI] at e; cases e) (F'.keep b o e), F'.above⟩, fun q hq => ⟨hk' _ _ ?_ (N' q hq).1, (N' q hq).2⟩⟩
      rcases List.mem_append.mp hq with hq | hq
      · exact hnI' q hq
      · exact Nat.ne_of_lt (ltI q hq)
    by_cases hlt' : i < us.length
    · refine W.item i _ _ _ (by simpa using hlt') ⟨hit, hla'⟩ fun v h₂ tk₂ hPv hst₂ hk₂ => ?_
      obtain ⟨F₂, N₂⟩ := up h₂ hk₂
      obtain ⟨x, rest, hdrop, a₀, n₀, its, rfl, hmem, hits⟩ : ∃ x rest, xs.drop i = x :: rest ∧ ∃ a n its, v = .ref a ∧ (a, ({ cls := .type "tuple", data := .seq (its : List Value).toArray n } : Obj)) ∈ led ∧ IntsAre its x := by
        have := ht.at i v (by simpa using hPv)
        obtain ⟨x, a, n, its, hx, h1, h2, h3⟩ := this
        refine ⟨x, xs.drop (i + 1), ?_, a, n, its, h1, h2, h3⟩
        obtain ⟨hlt2, hx⟩ := List.getElem?_eq_some_iff.mp hx
        rw [← hx, List.drop_eq_getElem_cons hlt2]
      have hxm : x ∈ xs := List.mem_of_mem_drop (i := i) (by rw [hdrop]; exact .head _)
      refine wpAny_letOwnedTupleGo_listiter hst₂.1 ?_
      refine bindE3 hh ha hb hc hp hab hac hbc a₀ its x _ m' _ _ ⟨_, (N₂ _ (List.mem_append_right _ hmem)).1, rfl, n₀, rfl⟩ hits (hlen x hxm) F₂.ns fun h₃ tk₃ m₃ hn₃ hB hm₃ hk₃ => ?_
      have F₃ : Fr h₀ env.locals h₃ m₃ := ⟨hn₃, fun b o e => hk₃ b o (fun e' => by
        have := F.keep b o e
        have h1 := F.ns.lt
        have h2 := Heap.lt_size e
        rw [e'] at h2
        exact absurd h2 (Nat.not_lt.mpr F.above)) (F₂.keep b o e), F₂.above⟩
      obtain ⟨oI', hoI', _⟩ := id hst₂.1
      have hoI₃ := hk₃ I oI' hIL hoI'
      have hoI₂ := hoI'
      have N₃ : News h₀ env.locals h₃ (news' ++ (I, oI') :: led) := fun q hq => by
        rcases List.mem_append.mp hq with hq | hq
        · have := N₂ q (List.mem_append_left _ hq)
          exact ⟨hk₃ _ _ this.2.1 this.1, this.2⟩
        · rcases List.mem_cons.mp hq with rfl | hq
          · exact ⟨hoI₃, hIL, hnI⟩
          · have := N₂ q (List.mem_append_right _ hq)
            exact ⟨hk₃ _ _ this.2.1 this.1, this.2⟩
      have fin : ∀ h₄ tk₄ m₄ news₄, Fr h₀ env.locals h₄ m₄ → News h₀ env.locals h₄ (news₄ ++ (I, oI') :: led) → (∀ q ∈ news₄, q.1 ≠ I) → J rest m₄ news₄ → ∃ m_1, m_1 < us.length + 1 - i ∧ ∃ h' tk m' news' oI i, ({ s₁ with heap := h₄, toks := tk₄ } : Shared) = { s₁ with heap := h', toks := tk } ∧ h'.get? I = some oI ∧ h'.IsListIter I l i ∧ Fr h₀ env.locals h' m' ∧ News h₀ env.locals h' (news' ++ led) ∧ (∀ q ∈ news', q.1 ≠ I) ∧ J (xs.drop i) m' news' ∧ i ≤ us.length ∧ m_1 = us.length + 1 - i := by
        intro h₄ tk₄ m₄ news₄ F₄ N₄ hnI₄ hJ₄
        refine ⟨us.length + 1 - (i + 1), by omega, h₄, tk₄, m₄, news₄, oI', i + 1, rfl, (N₄ _ (List.mem_append_right _ (.head _))).1, ?_, F₄, ?_, hnI₄, ?_, hlt', rfl⟩
        · obtain ⟨o, e, r⟩ := hst₂.1
          rw [hoI'] at e
          cases e
          exact ⟨_, (N₄ _ (List.mem_append_right _ (.head _))).1, r⟩
        · intro q hq
          rcases List.mem_append.mp hq with hq | hq
          · exact N₄ q (List.mem_append_left _ hq)
          · exact N₄ q (List.mem_append_right _ (.tail _ hq))
        · rw [← List.tail_drop, hdrop]
          exact hJ₄
      refine wpAny_noRaise (wpAny_mono (turn I oI' x rest m' m₃ news' h₃ tk₃ ltI ltN (hlen x hxm) hnI' (hdrop ▸ hJ') hB hm₃ F₃ N₃) (fun f s₃ h₄ => ?_) fun _ _ e => e)
      cases f with
      | next => obtain ⟨h₄, tk₄, m₄, news₄, rfl, F₄, N₄, hn₄, hJ₄⟩ := h₄; exact fin _ _ _ _ F₄ N₄ hn₄ hJ₄
      | cont => obtain ⟨h₄, tk₄, m₄, news₄, rfl, F₄, N₄, hn₄, hJ₄⟩ := h₄; exact fin _ _ _ _ F₄ N₄ hn₄ hJ₄
      | brk => exact h₄
      | ret v => exact h₄
    · have hin : i = us.length := by omega
      refine W.done _ _ _ ⟨by simpa [hin] using hit, hla'⟩ fun h₂ tk₂ hk₂ => wpAny_execs_nil ?_
      obtain ⟨F₂, N₂⟩ := up h₂ hk₂
      have : xs.drop i = [] := List.drop_eq_nil_of_le (by rw [← ht.length]; omega)
      exact hQ m' news' h₂ tk₂ (this ▸ hJ') F₂ N₂
  · have hp' : ∀ (h' : Heap) (o : Obj), (s₁.heap.push o) = h' → o.isFreed = false → h'.get? I = some o := fun h' o e hf => by rw [← e, ← hIe]; exact Heap.get?_push_size _ hf
    refine ⟨_, _, m, news, _, 0, rfl, hp' _ _ rfl rfl, ⟨_, hp' _ _ rfl rfl, rfl, rfl⟩, F.push _, fun q hq => ⟨Heap.get?_push_of_some _ (N q hq).1, (N q hq).2⟩, fun q hq => Nat.ne_of_lt (ltN q hq), hJ, Nat.zero_le _, rfl⟩
end
end

section
open PySem PySem.W PyProof.Rows PySem.Calls
set_option maxRecDepth 100000
set_option maxHeartbeats 8000000
set_option linter.unusedVariables false
local macro_rules | `(tactic| walk_at "exec For") => `(tactic| (k_here; refine Stop.of ?_))
local macro_rules | `(tactic| walk_at "exec For Tuple Call cons nil") => `(tactic| (k_here; refine Stop.of ?_))
local macro_rules | `(tactic| walk_at "call ref") => `(tactic| (k_here; first
  | ((with_reducible show wpAny _ _ (call (Value.ref _) [Value.bytes (List.toArray _) _, Value.int 0 _, Value.int _ _]) _ _ _); k_dflt (refine' call_tups (spans_spec _ _ _ _ ?hz) ?B ?X ?T ?F ?N ?hf ?hk ?hr ?hu ?hp ?_; (case B => assumption); (case X => assumption); (case T => assumption); (case F => k_asm); (case N => k_asm); (case hf => exact rfl); (case hk => exact rfl); (case hr => omega); (case hu => omega); (case hp => trivial); (case hz => omega)); intro a' n' us' led' h' tk' F' N' st' hm' ht' hne')
  | ((with_reducible show wpAny _ _ (call (Value.ref _) [Value.bytes (List.toArray _) _, Value.bytes (List.toArray _) _]) _ _ _); k_dflt (refine' call_spec (way_spec _ _ _ _ ?hz ?hz2) ?B ?X ?T ?F ?N ?hf ?hk ?hr ?hu ?hp ?_; (case B => assumption); (case X => assumption); (case T => assumption); (case F => k_asm); (case N => k_asm); (case hf => exact rfl); (case hk => exact rfl); (case hr => omega); (case hu => omega); (case hp => trivial); (case hz => kby_size); (case hz2 => kby_size)); intro v' h' tk' F' N' st' hv'; (obtain ⟨tw', hv'⟩ := hv'); subst hv')))
/-- part_spans, over the lines that are left -/
def partsGo (l bnd : List UInt8) (e : Int) : List (List Int) → List (List Int) → Int → Int → List (List Int)
  | [f, la, be] :: xs, found, begun, before =>
    if way (cut l (some f) (some la)) bnd = Str.ofString "" then partsGo l bnd e xs found begun la
    else if way (cut l (some f) (some la)) bnd = Str.ofString "last" then (if 0 ≤ begun then found ++ [[begun, max begun before]] else found)
    else partsGo l bnd e xs (if 0 ≤ begun then found ++ [[begun, max begun before]] else found) be la
  | _, found, begun, _ => if 0 ≤ begun then found ++ [[begun, e]] else found
def parts (l bnd : List UInt8) : List (List Int) := partsGo l bnd l.length ((spans l 0).map trip) [] (-1) 0

def PsJ (l bnd : List UInt8) (lf : Addr) (rest : List (List Int)) (m : PySem.Str → Option Value) (news : List (Addr × Obj)) : Prop :=
  ∃ vs k tups found begun before tb te td tbd tn, news = (lf, listOf (vs : List Value).toArray k) :: tups ∧ (∀ q ∈ tups, q.1 ≠ lf) ∧ TupsIn tups vs found ∧ vs.length + rest.length ≤ 10000 ∧ partsGo l bnd l.length rest found begun before = parts l bnd ∧
    m (Str.ofString "data") = some (.bytes l.toArray td) ∧ m (Str.ofString "boundary") = some (.bytes bnd.toArray tbd) ∧ m (Str.ofString "end") = some (.int (l.length : Int) tn) ∧
    m (Str.ofString "found") = some (.ref lf) ∧ m (Str.ofString "begun") = some (.int begun tb) ∧ m (Str.ofString "before") = some (.int before te)

theorem For_ps {prog : Program} {w : World} {A : Around} {Q : Flow → Shared → Prop} {s : Shared} {env : Env} {h₀ : Heap} {a b c : PySem.Str} {pa pb pc tp pos : Pos} {x1} {iter : Expr} {body : List Stmt} (hh : A.handled = none)
    (ha : env.kindOf a = some .local) (hb : env.kindOf b = some .local) (hc : env.kindOf c = some .local)
    (hp : (env.scope.kind == .class || (env.scope.kind == .module && env.locals != env.globals)) = false) (hab : a ≠ b) (hac : a ≠ c) (hbc : b ≠ c) (l bnd : List UInt8)
    (h : wpAny (model prog w) A (eval iter env) (fun xv s₁ => Stop <| ∃ l' n us led m news lf, xv = .ref l' ∧ Fr h₀ env.locals s₁.heap m ∧ News h₀ env.locals s₁.heap (news ++ led) ∧
      (l', listOf us.toArray n) ∈ led ∧ TupsIn led us ((spans l 0).map trip) ∧ us.length ≤ sizeLine ∧ PsJ l bnd lf ((spans l 0).map trip) m news ∧ (lf, listOf #[] 0) ∈ news ∧ (∀ q ∈ led, q.1 ≠ lf) ∧
      (∀ I oI x rest m₁ m₂ news₁ h tk, I ≠ lf → (∀ q ∈ led, q.1 < I) → x.length = 3 → (∀ q ∈ news₁, q.1 ≠ I) → PsJ l bnd lf (x :: rest) m₁ news₁ → Binds [a, b, c] x m₂ → (∀ z, z ≠ a → z ≠ b → z ≠ c → m₂ z = m₁ z) →
        Fr h₀ env.locals h m₂ → News h₀ env.locals h (news₁ ++ (I, oI) :: led) →
        wpAny (model prog w) A (execs body env) (ForEnd h₀ env.locals I oI led s₁ (PsJ l bnd lf rest) Q) (fun _ _ => False) { s₁ with heap := h, toks := tk }) ∧
      (∀ m₁ news₁ h tk, PsJ l bnd lf [] m₁ news₁ → Fr h₀ env.locals h m₁ → News h₀ env.locals h (news₁ ++ led) → Q .next { s₁ with heap := h, toks := tk })) (fun _ _ => False) s)
    (hs : ∀ x, foldedSetIterable iter env x = pure x := by intro _; rfl) :
    wpAny (model prog w) A (exec (.For (.Tuple [.Name a pa, .Name b pb, .Name c pc] x1 tp) iter body [] pos) env) Q (fun _ _ => False) s := by
  refine For_T3 (h₀ := h₀) hh ha hb hc hp hab hac hbc (wpAny_mono h (fun xv s₁ h₁ => ?_) fun _ _ e => e) hs
  obtain ⟨l', n, us, led, m, news, lf, rfl, F, N, hl, ht, hsz, hJ, hm, hne, turn, hQ⟩ := h₁
  refine ⟨l', n, us, led, _, m, news, PsJ l bnd lf, rfl, F, N, hl, ht, hsz, ?_, hJ, fun I oI x rest m₁ m₂ news₁ h tk h1 h2 => turn I oI x rest m₁ m₂ news₁ h tk (Nat.ne_of_gt (h2 _ hm)) h1, hQ⟩
  intro x hx
  obtain ⟨y, _, rfl⟩ := List.mem_map.mp hx
  rfl

theorem ps_give {l bnd : List UInt8} {h₀ h' : Heap} {L lf : Addr} {vs : List Value} {k : Nat} {tups more RR : List (Addr × Obj)} {found : List (List Int)} (N : News h₀ L h' ((lf, listOf vs.toArray k) :: RR)) (hR : tups ++ more = RR) (ht : TupsIn tups vs found) (e : found = parts l bnd) : GivesTups (parts l bnd) h₀ h' (.ref lf) := by
  subst hR
  exact ⟨lf, k, vs, _, rfl, fun q hq => ⟨(N q hq).1, (N q hq).2.2⟩, .head _, e ▸ ht.mono fun q hq => .tail _ (List.mem_append_left _ hq)⟩
theorem ps_give2 {l bnd : List UInt8} {h₀ h' : Heap} {L lf D : Addr} {vs : List Value} {k : Nat} {tups more RR : List (Addr × Obj)} {found : List (List Int)} {begun mx : Int} {t1 t2 : Tok}
    (N : News h₀ L h' ((D, { cls := .type "tuple", data := .seq #[.int begun t1, .int mx t2] }) :: (lf, listOf (vs.toArray.push (.ref D)) (k + 1)) :: RR)) (hR : tups ++ more = RR) (ht : TupsIn tups vs found) (e : found ++ [[begun, mx]] = parts l bnd) : GivesTups (parts l bnd) h₀ h' (.ref lf) := by
  subst hR
  rw [List.push_toArray] at N
  refine ⟨lf, k + 1, vs ++ [.ref D], _, rfl, fun q hq => ⟨(N q hq).1, (N q hq).2.2⟩, .tail _ (.head _), ?_⟩
  rw [← e]
  exact (ht.mono fun q hq => .tail _ (.tail _ (List.mem_append_left _ hq))).snoc (.head _) (.cons _ _ (.cons _ _ .nil))
theorem ps_next {l bnd : List UInt8} {h₀ h' : Heap} {L lf I : Addr} {oI : Obj} {s : Shared} {tk : Nat} {Q : Flow → Shared → Prop} {m : PySem.Str → Option Value} {x : List Int} {rest : List (List Int)} {vs : List Value} {k : Nat} {tups led RR : List (Addr × Obj)} {found : List (List Int)} {begun before : Int} {tb te td tbd tn : Tok}
    (F : Fr h₀ L h' m) (N : News h₀ L h' ((lf, listOf vs.toArray k) :: RR)) (hR : tups ++ (I, oI) :: led = RR) (ht : TupsIn tups vs found) (hne : ∀ q ∈ tups, q.1 ≠ lf) (hnI : ∀ q ∈ (lf, listOf vs.toArray k) :: tups, q.1 ≠ I) (hvs : vs.length + (x :: rest).length ≤ 10000)
    (e : partsGo l bnd l.length rest found begun before = parts l bnd)
    (e1 : m (Str.ofString "data") = some (.bytes l.toArray td)) (e2 : m (Str.ofString "boundary") = some (.bytes bnd.toArray tbd)) (e3 : m (Str.ofString "end") = some (.int (l.length : Int) tn))
    (e4 : m (Str.ofString "found") = some (.ref lf)) (e5 : m (Str.ofString "begun") = some (.int begun tb)) (e6 : m (Str.ofString "before") = some (.int before te)) :
    ForEnd h₀ L I oI led s (PsJ l bnd lf rest) Q .next { s with heap := h', toks := tk } := by
  subst hR
  refine ⟨h', tk, m, (lf, listOf vs.toArray k) :: tups, rfl, F, N, hnI, vs, k, tups, found, begun, before, tb, te, td, tbd, tn, rfl, hne, ht, ?_, e, e1, e2, e3, e4, e5, e6⟩
  rw [List.length_cons] at hvs
  omega
theorem ps_next2 {l bnd : List UInt8} {h₀ h' : Heap} {L lf I D : Addr} {oI : Obj} {s : Shared} {tk : Nat} {Q : Flow → Shared → Prop} {m : PySem.Str → Option Value} {x : List Int} {rest : List (List Int)} {vs : List Value} {k : Nat} {tups led RR : List (Addr × Obj)} {found : List (List Int)} {begun before bg mx : Int} {t1 t2 tb te td tbd tn : Tok}
    (F : Fr h₀ L h' m) (N : News h₀ L h' ((D, { cls := .type "tuple", data := .seq #[.int bg t1, .int mx t2] }) :: (lf, listOf (vs.toArray.push (.ref D)) (k + 1)) :: RR)) (hR : tups ++ (I, oI) :: led = RR) (hlt : @LT.lt Nat _ lf D ∧ AllLt D RR) (ht : TupsIn tups vs found) (hne : ∀ q ∈ tups, q.1 ≠ lf) (hnI : ∀ q ∈ (lf, listOf vs.toArray k) :: tups, q.1 ≠ I) (hvs : vs.length + (x :: rest).length ≤ 10000)
    (e : partsGo l bnd l.length rest (found ++ [[bg, mx]]) begun before = parts l bnd)
    (e1 : m (Str.ofString "data") = some (.bytes l.toArray td)) (e2 : m (Str.ofString "boundary") = some (.bytes bnd.toArray tbd)) (e3 : m (Str.ofString "end") = some (.int (l.length : Int) tn))
    (e4 : m (Str.ofString "found") = some (.ref lf)) (e5 : m (Str.ofString "begun") = some (.int begun tb)) (e6 : m (Str.ofString "before") = some (.int before te)) :
    ForEnd h₀ L I oI led s (PsJ l bnd lf rest) Q .next { s with heap := h', toks := tk } := by
  subst hR
  rw [List.push_toArray] at N
  have hID : @LT.lt Nat _ I D := kst_ltOf hlt.2 _ (List.mem_append_right _ (.head _))
  have fin : ∀ o : Obj, o = { cls := .type "tuple", data := .seq #[.int bg t1, .int mx t2] } → News h₀ L h' ((D, o) :: (lf, listOf (vs ++ [Value.ref D]).toArray (k + 1)) :: (tups ++ (I, oI) :: led)) → ForEnd h₀ L I oI led s (PsJ l bnd lf rest) Q .next { s with heap := h', toks := tk } := by
    rintro o ho N
    refine ⟨h', tk, m, (lf, listOf (vs ++ [Value.ref D]).toArray (k + 1)) :: (D, o) :: tups, rfl, F, fun q hq => N q ?_, ?_, vs ++ [.ref D], k + 1, (D, o) :: tups, found ++ [[bg, mx]], begun, before, tb, te, td, tbd, tn, rfl, ?_, ?_, ?_, e, e1, e2, e3, e4, e5, e6⟩
    · rcases List.mem_cons.mp hq with rfl | hq
      · exact .tail _ (.head _)
      · rcases List.mem_cons.mp hq with rfl | hq
        · exact .head _
        · exact .tail _ (.tail _ hq)
    · intro q hq
      rcases List.mem_cons.mp hq with rfl | hq
      · exact hnI (lf, listOf vs.toArray k) (.head _)
      · rcases List.mem_cons.mp hq with rfl | hq
        · exact Nat.ne_of_gt hID
        · exact hnI _ (.tail _ hq)
    · intro q hq
      rcases List.mem_cons.mp hq with rfl | hq
      · exact Nat.ne_of_gt hlt.1
      · exact hne q hq
    · exact (ht.mono fun q hq => .tail _ hq).snoc (by rw [ho]; exact .head _) (.cons _ _ (.cons _ _ .nil))
    · rw [List.length_append, List.length_singleton]
      rw [List.length_cons] at hvs
      omega
  exact fin _ rfl N
theorem max_if (a b : Int) : (if b > a then b else a) = max a b := by
  rw [Int.max_def]
  split <;> split <;> omega
section
variable {l bnd : List UInt8} {e f la be begun before : Int} {rest found : List (List Int)} {T : List (List Int)} (h : partsGo l bnd e ([f, la, be] :: rest) found begun before = T)
include h
theorem pg_skip (h1 : (way (cut l (some f) (some la)) bnd != Str.ofString "") = false) : partsGo l bnd e rest found begun la = T := by
  rw [partsGo, if_pos (by simpa using h1)] at h
  exact h
theorem pg_last (h1 : (way (cut l (some f) (some la)) bnd != Str.ofString "") = true) (h2 : (way (cut l (some f) (some la)) bnd == Str.ofString "last") = true) (h3 : ¬ 0 ≤ begun) : found = T := by
  rw [partsGo, if_neg (by simpa using h1), if_pos (by simpa using h2), if_neg h3] at h
  exact h
theorem pg_lastA (h1 : (way (cut l (some f) (some la)) bnd != Str.ofString "") = true) (h2 : (way (cut l (some f) (some la)) bnd == Str.ofString "last") = true) (h3 : 0 ≤ begun) : found ++ [[begun, if before > begun then before else begun]] = T := by
  rw [partsGo, if_neg (by simpa using h1), if_pos (by simpa using h2), if_pos h3] at h
  rw [max_if]
  exact h
theorem pg_next (h1 : (way (cut l (some f) (some la)) bnd != Str.ofString "") = true) (h2 : (way (cut l (some f) (some la)) bnd == Str.ofString "last") = false) (h3 : ¬ 0 ≤ begun) : partsGo l bnd e rest found be la = T := by
  rw [partsGo, if_neg (by simpa using h1), if_neg (by simpa using h2), if_neg h3] at h
  exact h
theorem pg_nextA (h1 : (way (cut l (some f) (some la)) bnd != Str.ofString "") = true) (h2 : (way (cut l (some f) (some la)) bnd == Str.ofString "last") = false) (h3 : 0 ≤ begun) : partsGo l bnd e rest (found ++ [[begun, if before > begun then before else begun]]) be la = T := by
  rw [partsGo, if_neg (by simpa using h1), if_neg (by simpa using h2), if_pos h3] at h
  rw [max_if]
  exact h
end

theorem parts_spec (l bnd : List UInt8) (ta td te tb : Tok) (hl : l.length ≤ 10000) (hb : bnd.length ≤ 100) :
    Spec 10 51 [.bytes l.toArray td, .int 0 ta, .int (l.length : Int) te, .bytes bnd.toArray tb] (fun _ => True) (GivesTups (parts l bnd)) := by
  unfold Spec
  k_fill
  w_top off
  intro w mean mg mb dp un gd outer base s R B X T hp hd hu hret
  refine enter (binds := [(Str.ofString "data", .bytes l.toArray td), (Str.ofString "at", .int 0 ta), (Str.ofString "end", .int (l.length : Int) te), (Str.ofString "boundary", .bytes bnd.toArray tb)]) B X T (by omega) (by k_is) (by k_is) (BindsTo.of_eq rfl) (locs rfl) (by decide) rfl rfl rfl ?_
  intro h₁ tk₁ F N
  (try k_fold)
  k_steps
  unfold Stop
  refine' For_ps (h₀ := s.heap) (l := l) (bnd := bnd) rfl ?_ ?_ ?_ ?_ ?_ ?_ ?_ ?_
  any_goals (first | (with_unfolding_all rfl; done) | (decide; done))
  (try k_fold)
  k_steps
  rename Fr _ _ _ _ => F'
  rename News _ _ _ _ => N'
  rename TupsIn _ _ _ => ht'
  rename (_, _) ∈ _ => hm'
  rename ∀ p ∈ _, ∀ q ∈ _, _ => hne'
  unfold Stop
  have hus := ht'.length
  rw [List.length_map] at hus
  have hsl := spans_length l 0
  refine ⟨_, _, _, _, _, [(_, listOf #[] 0)], _, rfl, F', fun q hq => N' q ?_, hm', ht', by rw [sizeLine_eq]; omega, ⟨[], 0, [], [], -1, 0, _, _, _, _, _, rfl, (fun _ h => nomatch h), .nil, by rw [List.length_map, List.length_nil]; omega, rfl, rfl, rfl, rfl, rfl, rfl, rfl⟩, .head _, fun q hq e => hne' q hq _ (.head _) e.symm, ?_, ?_⟩
  · rcases List.mem_append.mp hq with hq | hq
    · exact List.mem_append_right _ hq
    · exact List.mem_append_left _ hq
  · clear N' F'
    rintro I oI x rest m₁ m₂ news₁ h tk hIlf hIled hx hnI ⟨vs, k, tups, found, begun, before, tb', te', td', tbd, tn, rfl, hne, htups, hvs, hgo, e1, e2, e3, e4, e5, e6⟩ hB hm F₁ N₁
    obtain ⟨f, tf, la, tla, be, tbe, rfl, ef, ela, ebe⟩ : ∃ f tf la tla be tbe, x = [f, la, be] ∧ m₂ (Str.ofString "first") = some (.int f tf) ∧ m₂ (Str.ofString "last") = some (.int la tla) ∧ m₂ (Str.ofString "behind") = some (.int be tbe) := by
      match x, hx, hB with
      | [f, la, be], _, ⟨⟨tf, h1⟩, ⟨tla, h2⟩, ⟨tbe, h3⟩, _⟩ => exact ⟨f, tf, la, tla, be, tbe, rfl, h1, h2, h3⟩
    have hR : ∀ q ∈ tups ++ (I, oI) :: _, q.1 ≠ _ := fun q hq => by
      rcases List.mem_append.mp hq with hq | hq
      · exact hne q hq
      · rcases List.mem_cons.mp hq with rfl | hq
        · exact hIlf
        · exact fun e => hne' q hq _ (.head _) e.symm
    rw [List.cons_append] at N₁
    have N₂ := N₁
    generalize hRe : tups ++ (I, oI) :: _ = RR at N₂ hR
    have F₂ := fr_named [(Str.ofString "data", _), (Str.ofString "boundary", _), (Str.ofString "found", _), (Str.ofString "end", _), (Str.ofString "begun", _), (Str.ofString "before", _), (Str.ofString "first", _), (Str.ofString "last", _), (Str.ofString "behind", _)] F₁ (by
      intro q hq
      simp only [List.mem_cons, List.not_mem_nil, or_false] at hq
      rcases hq with rfl | rfl | rfl | rfl | rfl | rfl | rfl | rfl | rfl
      · exact (hm (Str.ofString "data") (by decide) (by decide) (by decide)).trans e1
      · exact (hm (Str.ofString "boundary") (by decide) (by decide) (by decide)).trans e2
      · exact (hm (Str.ofString "found") (by decide) (by decide) (by decide)).trans e4
      · exact (hm (Str.ofString "end") (by decide) (by decide) (by decide)).trans e3
      · exact (hm (Str.ofString "begun") (by decide) (by decide) (by decide)).trans e5
      · exact (hm (Str.ofString "before") (by decide) (by decide) (by decide)).trans e6
      · exact ef
      · exact ela
      · exact ebe)
    dsimp only [kstB] at F₂
    clear F₁ N₁
    have hcut := cut_length l (some f) (some la)
    (try k_fold)
    k_steps
    all_goals ((try k_unfold); (try dsimp only))
    all_goals first
      | exact hret _ _ _ (Fr.keep (by assumption)) (ps_give (by assumption) hRe htups (pg_last hgo (by assumption) (by assumption) (by assumption)))
      | exact hret _ _ _ (Fr.keep (by assumption)) (ps_give2 (by assumption) hRe htups (pg_lastA hgo (by assumption) (by assumption) (by assumption)))
      | exact ps_next (by assumption) (by assumption) hRe htups hne hnI hvs (pg_skip hgo (by assumption)) rfl rfl rfl rfl rfl rfl
      | exact ps_next (by assumption) (by assumption) hRe htups hne hnI hvs (pg_next hgo (by assumption) (by assumption) (by assumption)) rfl rfl rfl rfl rfl rfl
      | exact ps_next2 (by assumption) (by assumption) hRe (by assumption) htups hne hnI hvs (pg_nextA hgo (by assumption) (by assumption) (by assumption)) rfl rfl rfl rfl rfl rfl
  · clear N' F'
    rintro m₁ news₁ h tk ⟨vs, k, tups, found, begun, before, tb', te', td', tbd, tn, rfl, hne, htups, hvs, hgo, e1, e2, e3, e4, e5, e6⟩ F₁ N₁
    have hR : ∀ q ∈ tups ++ _, q.1 ≠ _ := fun q hq => by
      rcases List.mem_append.mp hq with hq | hq
      · exact hne q hq
      · exact fun e => hne' q hq _ (.head _) e.symm
    rw [List.cons_append] at N₁
    have N₂ := N₁
    generalize hRe : tups ++ _ = RR at N₂ hR
    have F₂ := fr_named [(Str.ofString "found", _), (Str.ofString "end", _), (Str.ofString "begun", _)] F₁ (by
      intro q hq
      simp only [List.mem_cons, List.not_mem_nil, or_false] at hq
      rcases hq with rfl | rfl | rfl <;> assumption)
    dsimp only [kstB] at F₂
    clear F₁ N₁
    have hvs' : vs.length ≤ 10000 := hvs
    (try k_fold)
    k_steps
    all_goals ((try k_unfold); (try dsimp only))
    all_goals first
      | exact hret _ _ _ (Fr.keep (by assumption)) (ps_give (by assumption) hRe htups ((if_neg (by assumption)).symm.trans hgo))
      | exact hret _ _ _ (Fr.keep (by assumption)) (ps_give2 (by assumption) hRe htups ((if_pos (by assumption)).symm.trans hgo))
end

section
open PySem PySem.W PyProof.Rows
set_option maxRecDepth 100000
set_option maxHeartbeats 8000000
set_option linter.unusedVariables false
/-- a def of the program, called over a heap of which a part may change -/
theorem enterM {w : World} {mean : ExcName → Option Value} {mg mb : PySem.Str → Option Value} {dp un : Nat} {gd : Option (List Code)} {outer : List Env} {base g : Heap} {s : Shared} {R : Result → Shared → Prop} {p : Program} {loose : List PySem.Str} {K : Frag} {news : List (Addr × Obj)}
    {name qual : PySem.Str} {params : Arguments} {body : List Stmt} {scope : Scope} {dV kV doc pm cdv ct oc : Value} {an od : Option Addr} {osl : Array (Option Value)} {f : Addr} {args : Args} {binds : List (PySem.Str × Value)}
    (B : Below { handled := none, depth := dp, frames := some outer, guards := gd, units := un } base outer g) (X : K.In g) (T : Top p loose mean mg mb g) (hr : dp < recursionLimit) (gs : g.StaysIn s.heap) (hle : g.objs.size ≤ s.heap.objs.size)
    (N : ∀ p ∈ news, s.heap.get? p.1 = some p.2 ∧ g.get? p.1 = none)
    (ho : K.lookup f = some ⟨oc, od, .func (fnOf name qual params body scope dV kV doc pm an cdv ct), osl⟩) (hcd : codeIn K cdv qual = true)
    (hbind : BindsTo s (fnOf name qual params body scope dV kV doc pm an cdv ct) args binds) (hloc : ∀ y ∈ binds, scope.names.lookup y.1 = some .local)
    (hcell : ∀ x ∈ scope.names, x.2 ≠ .cell) (hco : scope.isCoroutine = false) (hgen : scope.isGenerator = false) (hk : scope.kind = .function)
    (h : ∀ h₁, Fr g s.heap.objs.size h₁ (fun y => binds.reverse.lookup y) → News g s.heap.objs.size h₁ news → (s.heap.StaysIn h₁) →
      wpAny (model PySem.Challenge.rw_nz0270_01.prog w) { handled := none, depth := dp + 1, frames := some (envOf qual scope s.heap.objs.size f cdv :: outer), guards := gd, units := un + 3 } (execs body (envOf qual scope s.heap.objs.size f cdv))
        (fun fl s' => R (.ok (.ret (match fl with | .ret v => v | _ => .none))) s') (fun _ _ => False) { s with heap := h₁, toks := s.toks + binds.length }) :
    codeAny (model PySem.Challenge.rw_nz0270_01.prog w) { handled := none, depth := dp, frames := some outer, guards := gd, units := un } (.call (.ref f) args) R s := by
  refine codeAny_call_def (fd := fnOf name qual params body scope dV kV doc pm an cdv ct) (body := body) (binds := binds) hr ((X.keeps gs) _ _ ho) rfl (T.keeps gs).nolimit (codeRec_of (X.keeps gs) hcd) rfl hbind hcell hloc (fun h₁ hns hk₁ => wpAny_noRaise ?_) hco hgen hk
  exact h h₁ ⟨hns, fun b o e => hk₁ b o (gs b o e), hle⟩ (fun q hq => ⟨hk₁ _ _ (N q hq).1, Nat.ne_of_lt (Heap.lt_size (N q hq).1), (N q hq).2⟩) hk₁

theorem draw_spec (tp c : Addr) (cs : List Value) (xs : List Int) (at' lim : Int) (ta tl : Tok) (n : Nat) (hi : IntsAre cs xs) (hx : 0 < xs.length) (hx2 : xs.length ≤ 63) (ha : 0 ≤ at') (ha2 : at' ≤ 1000) (hl : 0 < lim) :
    ∀ (w : World) (mean : ExcName → Option Value) (mg mb : PySem.Str → Option Value) (dp un : Nat) (gd : Option (List Code)) (outer : List Env) (base g : Heap) (s : Shared) (R : Result → Shared → Prop)
    (B : Below { handled := none, depth := dp, frames := some outer, guards := gd, units := un } base outer g) (X : (hd.heap_39 w.params).In g) (T : Top hd.view_39 loose mean mg mb g)
    (gs : g.StaysIn s.heap) (hle : g.objs.size ≤ s.heap.objs.size) (htp : s.heap.get? tp = some (listOf #[.ref c, .int at' ta] n)) (htg : g.get? tp = none) (hc : g.IsList c cs.toArray)
    (hd : dp + 5 < recursionLimit) (hu : un + 100 < cLine)
    (hret : ∀ v t h' tk', 0 ≤ v → v < lim → g.StaysIn h' → h'.get? tp = some (listOf #[.ref c, .int (at' + 1) (s.toks + 7)] n) → R (.ok (.ret (.int v t))) { s with heap := h', toks := tk' }),
    codeAny (model PySem.Challenge.rw_nz0270_01.prog w) { handled := none, depth := dp, frames := some outer, guards := gd, units := un } (.call (.ref 59) ⟨[.ref tp, .int lim tl], []⟩) R s := by
  k_fill
  w_top off
  intro w mean mg mb dp un gd outer base g s R B X T gs hle htp htg hc hd hu hret
  refine enterM (news := [(tp, listOf #[.ref c, .int at' ta] n)]) (binds := [(Str.ofString "tape", .ref tp), (Str.ofString "limit", .int lim tl)]) B X T (by omega) gs hle (fun p hp => by rw [List.mem_singleton.mp hp]; exact ⟨htp, htg⟩) (by k_is) (by k_is) (BindsTo.of_eq rfl) (locs rfl) (by decide) rfl rfl rfl ?_
  intro h₁ F N st
  generalize hT : s.toks + List.length _ = tk₁
  (try k_fold)
  k_steps
  all_goals ((try k_unfold); (try dsimp only))
  rename Fr _ _ _ _ => F'
  rename News _ _ _ _ => N'
  subst hT
  exact hret _ _ _ _ (Int.fmod_nonneg_of_pos _ hl) (Int.fmod_lt_of_pos _ hl) F'.keep (N' _ (.head _)).1
end

section
open PySem PySem.W PyProof.Rows PySem.Calls
set_option maxRecDepth 100000
set_option maxHeartbeats 4000000
set_option linter.unusedVariables false
open PySem.SeqAt
theorem EqAt_bytes {A : Around} {s : Shared} (b : Array UInt8) (t u : Tok) : EqAt A s (.bytes b t) (.bytes b u) true := fun prog w E Q hq => by
  unfold eqBool
  refine wpAny_holding ?_
  refine wpAny_ite_split (fun hab => ?_) (fun hab => ?_)
  · exact wpAny_bind (wpAny_rule (wpAny_pure hq))
  · refine wpAny_bind ?_
    have h := eq_bytes (prog := prog) (w := w) (A := A) (E := E) (s := s) (b := b) (c := b) (t := t) (u := u) (Q := fun v s' => wpAny (model prog w) A (truthOfDropped v) Q E s') (by rw [beq_self_eq_true]; exact wpAny_truthy_bool hq)
    exact h
theorem BytesAre.eqAt {A : Around} {s : Shared} {us vs : List Value} {bs : List (List UInt8)} (h : BytesAre us bs) (h' : BytesAre vs bs) : ∀ j (h1 : j < us.length) (h2 : j < vs.length), EqAt A s us[j] vs[j] true := by
  induction h generalizing vs with
  | nil => intro j h1; cases h1
  | cons b t _ ih =>
    cases h' with
    | cons _ t' h' =>
      intro j h1 h2
      cases j with
      | zero => exact EqAt_bytes _ _ _
      | succ j => exact ih h' j (Nat.lt_of_succ_lt_succ h1) (Nat.lt_of_succ_lt_succ h2)
theorem ne_bytesL {prog : Program} {w : World} {A : Around} {E : Value → Shared → Prop} {s : Shared} {l b : Addr} {us vs : List Value} {bs : List (List UInt8)} {Q : Value → Shared → Prop} (hl : s.heap.IsList l us.toArray) (hi : BytesAre us bs) (hb : s.heap.IsList b vs.toArray) (hi' : BytesAre vs bs) (hu : A.units < cLine)
    (h : Q (.bool false) s) : wpAny (model prog w) A (compareOp .NotEq (.ref l) (.ref b)) Q E s := by
  have h2 := RcNeAt.lists (A := A) (s := s) (e := fun _ => true) hl hb (by rw [List.size_toArray, List.size_toArray, hi.len, hi'.len]) hu (fun j h1 h2 => by
    have h1' : j < us.length := by simpa using h1
    have h2' : j < vs.length := by simpa using h2
    have := hi.eqAt (A := A.in1) (s := s) hi' j h1' h2'
    simpa using this)
  exact h2 prog w E Q (by rw [show (List.range us.toArray.size).all (fun _ => true) = true from List.all_eq_true.mpr fun _ _ => rfl]; exact h)
end

section
open PySem PySem.W PyProof.Rows PySem.Calls
set_option maxRecDepth 100000
set_option maxHeartbeats 4000000
set_option linter.unusedVariables false
theorem call_draw {tp c : Addr} {cs : List Value} {xs : List Int} {at' lim : Int} {ta tl : Tok} {n nc : Nat}
    {w : World} {mean : ExcName → Option Value} {mg mb : PySem.Str → Option Value} {dp un : Nat} {gd : Option (List Code)} {outer : List Env} {base h₀ : Heap} {L : Addr} {m : PySem.Str → Option Value} {news news' : List (Addr × Obj)} {env : Env} {s : Shared} {Q E : Value → Shared → Prop}
    (B : Below { handled := none, depth := dp, frames := some outer, guards := gd, units := un } base outer h₀) (X : (hd.heap_39 w.params).In h₀) (T : Top hd.view_39 loose mean mg mb h₀)
    (F : Fr h₀ L s.heap m) (N : News h₀ L s.heap news) (U : Upd tp (listOf #[.ref c, .int at' ta] n) (listOf #[.ref c, .int (at' + 1) (s.toks + 7)] n) news news') (hcm : (c, listOf cs.toArray nc) ∈ news) (hct : c ≠ tp)
    (hi : IntsAre cs xs) (hx : 0 < xs.length) (hx2 : xs.length ≤ 63) (ha : 0 ≤ at') (ha2 : at' ≤ 1000) (hl : 0 < lim)
    (hf : env.frame = some L) (hk : env.scope.kind = .function) (hr : dp + 6 < recursionLimit) (hu : un + 103 < cLine)
    (h : ∀ v t h' tk', 0 ≤ v → v < lim → Fr h₀ L h' m → News h₀ L h' news' → Q (.int v t) { s with heap := h', toks := tk' }) :
    wpAny (model PySem.Challenge.rw_nz0270_01.prog w) { handled := none, depth := dp + 1, frames := some (env :: outer), guards := gd, units := un + 3 } (call (.ref 59) [.ref tp, .int lim tl]) Q E s := by
  obtain ⟨pre, post, rfl, rfl, h1, h2⟩ := U.split
  have ztp := N (tp, _) (List.mem_append_right _ (.head _))
  have zc := N _ hcm
  have gs : (s.heap.hide tp).StaysIn s.heap := fun b o e => Heap.of_hide e
  have off : ∀ b o, b ≠ tp → s.heap.get? b = some o → (s.heap.hide tp).get? b = some o := fun b o hb e => (Heap.hide_ne _ hb).trans e
  have htg : (s.heap.hide tp).get? tp = none := Heap.hide_self _ _
  have Fg : Fr h₀ L (s.heap.hide tp) m := ⟨F.ns.at' fun o e => off L o (fun e' => ztp.2.1 e'.symm) e, fun b o e => off b o (fun e' => by rw [e', ztp.2.2] at e; cases e) (F.keep b o e), F.above⟩
  refine wpAny_call ?_
  refine draw_spec tp c cs xs at' lim ta tl n hi hx hx2 ha ha2 hl w mean mg mb (dp + 1) (un + 3) gd (env :: outer) base (s.heap.hide tp) s _ (pushX B Fg hf hk) (X.keeps Fg.keep) (T.keeps Fg.keep) gs (Nat.le_of_eq (Heap.hide_size _ _)) ztp.1 htg ⟨_, off _ _ hct zc.1, rfl, nc, rfl⟩ (by omega) (by omega) fun v t h' tk' hv hv2 st hnew => ?_
  refine h v t h' tk' hv hv2 (Fg.keeps st) fun p hp => ?_
  rcases List.mem_append.mp hp with hp | hp
  · have z := N p (List.mem_append_left _ hp)
    exact ⟨st _ _ (off _ _ (h1 p hp) z.1), z.2⟩
  · rcases List.mem_cons.mp hp with rfl | hp
    · exact ⟨hnew, ztp.2⟩
    · have z := N p (List.mem_append_right _ (.tail _ hp))
      exact ⟨st _ _ (off _ _ (h2 p hp) z.1), z.2⟩

section
variable {prog : Program} {w : World} {A : Around} {s : Shared} {env : Env} {h₀ : Heap}
/-- how a turn of a for-loop over a range ends -/
def RangeEnd (h₀ : Heap) (L I : Addr) (it : Obj) (s : Shared) (Jn : (PySem.Str → Option Value) → List (Addr × Obj) → Prop) (s₃ : Shared) : Prop :=
  ∃ h' tk m' news', s₃ = { s with heap := h', toks := tk } ∧ Fr h₀ L h' m' ∧ News h₀ L h' ((I, it) :: news') ∧ (∀ q ∈ news', q.1 ≠ I) ∧ Jn m' news'
theorem For_range {x : PySem.Str} {px pos : Pos} {iter : Expr} {body : List Stmt} {Q : Flow → Shared → Prop} (hh : A.handled = none) {m₀ : PySem.Str → Option Value} (F₀ : Fr h₀ env.locals s.heap m₀)
    (hx : env.kindOf x = some .local) (hp : (env.scope.kind == .class || (env.scope.kind == .module && env.locals != env.globals)) = false)
    (h : wpAny (model prog w) A (eval iter env) (fun xv s₁ => Stop <| ∃ r k t u v m news, ∃ (J : Nat → (PySem.Str → Option Value) → List (Addr × Obj) → Prop), xv = .ref r ∧ IsRange s₁.heap r 0 k 1 t u v ∧ 0 ≤ k ∧ k ≤ 1000 ∧ Fr h₀ env.locals s₁.heap m ∧ News h₀ env.locals s₁.heap news ∧ J 0 m news ∧
      (∀ I it (i : Nat) m₁ news₁ t h tk, (i : Int) < k → (∀ q ∈ news, q.1 < I) → (∀ q ∈ news₁, q.1 ≠ I) → J i m₁ news₁ → Fr h₀ env.locals h (fun y => if y = x then some (.int (0 + (i : Int)) t) else m₁ y) → News h₀ env.locals h ((I, it) :: news₁) →
        wpAny (model prog w) A (execs body env) (fun f s₃ => Stop (f = .next ∧ RangeEnd h₀ env.locals I it s₁ (J (i + 1)) s₃)) (fun _ _ => False) { s₁ with heap := h, toks := tk }) ∧
      (∀ m₁ news₁ h tk, J k.toNat m₁ news₁ → Fr h₀ env.locals h m₁ → News h₀ env.locals h news₁ → Q .next { s₁ with heap := h, toks := tk })) (fun _ _ => False) s)
    (hs : ∀ x, foldedSetIterable iter env x = pure x := by intro _; rfl) :
    wpAny (model prog w) A (exec (.For (.Name x px) iter body [] pos) env) Q (fun _ _ => False) s := by
  refine For_invVF F₀ hx hp (wpAny_mono h (fun xv s₁ h₁ => ?_) fun _ _ e => e) hs (PassesOwn.never)
  obtain ⟨r, k, t, u, v, m, news, J, rfl, hr, hk0, hk1, F, N, hJ, turn, hQ⟩ := h₁
  obtain ⟨n, rfl⟩ : ∃ n : Nat, k = (n : Int) := ⟨k.toNat, by omega⟩
  refine iter_rangeUnr (n := n) hh hr (small_one (by omega) (by omega) (by omega) (by omega)) (by rw [rangeSize_one]; split <;> omega) F N fun I hI => ?_
  have key : ∀ k i m₁ news₁, k + i = n → (∀ q ∈ news₁, q.1 ≠ I) → J i m₁ news₁ → RangeRest prog w A (fun _ _ => False) h₀ env x body Q s₁ I 0 n k i m₁ news₁ := by
    intro k
    induction k with
    | zero =>
      intro i m₁ news₁ hki hn hJ₁
      have : i = n := by omega
      subst this
      exact RangeRest.zero fun h tk F' N' => hQ m₁ news₁ h tk hJ₁ F' N'
    | succ k ih =>
      intro i m₁ news₁ hki hn hJ₁
      refine RangeRest.succ fun t h tk F' N' => ?_
      refine wpAny_mono (turn I _ i m₁ news₁ t h tk (by omega) hI hn hJ₁ F' N') (fun f s₃ h₃ => ?_) fun _ _ e => e
      obtain ⟨rfl, h', tk', m', news', rfl, F₃, N₃, hn₃, hJ₃⟩ := h₃
      exact ⟨h', tk', m', news', rfl, F₃, N₃, hn₃, ih (i + 1) m' news' (by omega) hn₃ hJ₃⟩
  exact key n 0 m news (by omega) (fun q hq => Nat.ne_of_lt (hI q hq)) hJ

/-- a comprehension over a range, whose turns may change what the ledger bears -/
theorem ListComp_J {elt iter : Expr} {x : PySem.Str} {px : Pos} {scope : Scope} {cl : List (PySem.Str × Addr)} {pos : Pos} {Q : Value → Shared → Prop} {E : Value → Shared → Prop} {L : Addr} {m : PySem.Str → Option Value} (hh : A.handled = none) (F₀ : Fr h₀ L s.heap m)
    (hclos : closureFor scope env = pure cl) (hcell : ∀ y ∈ scope.names, y.2 ≠ .cell) (hkind : scope.kind = .function)
    (hnames : ∀ y ∈ scope.names, y.2 = .local → scope.names.lookup y.1 = some .local) (hx : scope.names.lookup x = some .local)
    (h : wpAny (model prog w) A (eval iter env) (fun xv s₁ => Stop <| ∃ r k t u v news, ∃ (J : Nat → List Value → List (Addr × Obj) → Prop), xv = .ref r ∧ IsRange s₁.heap r 0 k 1 t u v ∧ 0 ≤ k ∧ k ≤ 1000 ∧ Fr h₀ L s₁.heap m ∧ News h₀ L s₁.heap news ∧ J 0 [] news ∧
      (∀ (i : Nat) ys news₁ t I oI C oC D m₂ h tk (E' : Value → Shared → Prop), (i : Int) < k → J i ys news₁ → LCg.NsObj oC m₂ → m₂ x = some (.int (0 + (i : Int)) t) → Fr h₀ L h m → News h₀ L h ((I, oI) :: (C, oC) :: (D, LCg.lst ys) :: news₁) → LCg.Off3 I C D news₁ → ((@Ne Nat I C) ∧ (@Ne Nat I D) ∧ (@Ne Nat C D)) →
        wpAny (model prog w) A (eval elt (compEnvC scope cl C env)) (fun y s₃ => Stop (∃ h' tk' news', s₃ = { s₁ with heap := h', toks := tk' } ∧ Fr h₀ L h' m ∧ News h₀ L h' ((I, oI) :: (C, oC) :: (D, LCg.lst ys) :: news') ∧ LCg.Off3 I C D news' ∧ J (i + 1) (ys ++ [y]) news')) E' { s₁ with heap := h, toks := tk }) ∧
      (∀ D ys news₁ h tk, J k.toNat ys news₁ → Fr h₀ L h m → News h₀ L h ((D, LCg.lst ys) :: news₁) → LCg.Off1 D news₁ → Q (.ref D) { s₁ with heap := h, toks := tk })) E s)
    (hs : ∀ x, foldedSetIterable iter env x = pure x := by intro _; rfl) :
    wpAny (model prog w) A (eval (.ListComp elt [⟨.Name x px, iter, [], 0⟩] scope pos) env) Q E s := by
  refine LCg.ListComp_U F₀ hclos hcell hkind hnames hx (wpAny_mono h (fun xv s₁ h₁ => ?_) fun _ _ e => e) hs
  obtain ⟨r, k, t, u, v, news, J, rfl, hr, hk0, hk1, F, N, hJ, turn, hQ⟩ := h₁
  obtain ⟨n, rfl⟩ : ∃ n : Nat, k = (n : Int) := ⟨k.toNat, by omega⟩
  refine LCg.CompSrc.range (n := n) hh F N hr (small_one (by omega) (by omega) (by omega) (by omega)) (by rw [rangeSize_one]; split <;> omega) (by rw [sizeLine_eq]; omega) fun g => ?_
  have key : ∀ k i ys news₁, k + i = n → J i ys news₁ → LCg.CompRest prog w A h₀ L m env elt x scope cl { s₁ with heap := g } (fun _ => True) (fun i v => ∃ t, v = .int (0 + (i : Int)) t) (LCg.FinE h₀ L m { s₁ with heap := g } Q) k i ys news₁ := by
    intro k
    induction k with
    | zero =>
      intro i ys news₁ hki hJ₁
      have : i = n := by omega
      subst this
      exact LCg.CompRest.zero fun D h tk F' N' o1 => hQ D ys news₁ h tk hJ₁ F' N' o1
    | succ k ih =>
      intro i ys news₁ hki hJ₁
      refine LCg.CompRest.succ fun v I oI C oC D m₂ h tk E' hv hC hm F' N' o3 hne => ?_
      obtain ⟨t, rfl⟩ := hv
      refine wpAny_mono (turn i ys news₁ t I oI C oC D m₂ h tk E' (by omega) hJ₁ hC hm F' N' o3 hne) (fun y s₃ h₃ => ?_) fun _ _ e => e
      obtain ⟨h', tk', news', rfl, F₃, N₃, o₃, hJ₃⟩ := h₃
      exact ⟨h', tk', news', rfl, F₃, N₃, o₃, trivial, ih (i + 1) _ news' (by omega) hJ₃⟩
  exact key n 0 [] news (by omega) hJ
end
end

section
open PySem PySem.W PyProof.Rows PySem.Calls
set_option maxRecDepth 100000
set_option maxHeartbeats 4000000
set_option linter.unusedVariables false
/-- the tuple of bits, as it stands -/
theorem bits_tup : ∀ (w : World) (h : Heap), (hd.heap_39 w.params).In h → ∃ items : Array Value, IsTup h 52 items ∧ items.size = 9 ∧ ∀ (j : Nat) (x : Value), items[j]? = some x → ∃ b t, x = .bytes (b : List UInt8).toArray t ∧ b.length ≤ 13 ∧ (50 : UInt8) ∉ b := by
  k_fill
  intro w h X
  refine ⟨_, ⟨_, X 52 _ (by with_unfolding_all rfl), rfl, _, rfl⟩, rfl, ?_⟩
  intro j x hj
  match j, hj with
  | 0, h | 1, h | 2, h | 3, h | 4, h | 5, h | 6, h | 7, h | 8, h => cases h; exact ⟨_, _, rfl, by decide, by decide⟩
theorem bit_item {prog : Program} {w : World} {A : Around} {E : Value → Shared → Prop} {s : Shared} {value slice : Expr} {v : Int} {u : Tok} {Q : Value → Shared → Prop} (X : (hd.heap_39 w.params).In s.heap) (h0 : 0 ≤ v) (h9 : v < 9)
    (h : ∀ b t, (b : List UInt8).length ≤ 13 → (50 : UInt8) ∉ b → Q (.bytes b.toArray t) s)
    (hs : subscripted slice false (.ref 52) (.int v u) = operate [.ref 52, .int v u] (getItem (.ref 52) (.int v u)) := by with_unfolding_all rfl) (hg : ∀ r, letTemporaryGo value (.ref 52) r = pure () := by intro _; with_unfolding_all rfl) :
    wpAny (model prog w) A (subscriptTail value slice (.ref 52) (.int v u)) Q E s := by
  obtain ⟨items, ht, hz, hall⟩ := bits_tup w s.heap X
  obtain ⟨n, rfl⟩ : ∃ n : Nat, v = (n : Int) := ⟨v.toNat, by omega⟩
  have hn : n < items.size := by omega
  obtain ⟨b, t, hb, h12, h50⟩ := hall n _ (Array.getElem?_eq_getElem hn)
  refine item_tuple (j := n) (x := items[n]) ht (by omega) (by omega) ?_ (Array.getElem?_eq_getElem hn) (by rw [hb]; exact h b t h12 h50) hs hg
  have hn' : ¬ (n : Int) < 0 := by omega
  simp [seqIndex?, hn', hn]
end

section
open PySem PySem.W PyProof.Rows PySem.Calls
set_option maxRecDepth 100000
set_option maxHeartbeats 4000000
set_option linter.unusedVariables false
section
variable {prog : Program} {w : World} {A : Around} {s : Shared} {env : Env} {h₀ : Heap}
theorem BytesAre.pick {us : List Value} {bs : List (List UInt8)} (h : BytesAre us bs) (l : List Nat) : ∃ bs', BytesAre (l.filterMap (us[·]?)) bs' ∧ ∀ b ∈ bs', b ∈ bs := by
  induction l with
  | nil => exact ⟨[], .nil, fun _ hb => nomatch hb⟩
  | cons i l ih =>
    obtain ⟨bs', h1, h2⟩ := ih
    by_cases hi : i < us.length
    · obtain ⟨b, t, e1, e2⟩ := h.get i hi
      refine ⟨b :: bs', ?_, ?_⟩
      · rw [List.filterMap_cons, e1]
        exact .cons b t h1
      · intro b' hb'
        rcases List.mem_cons.mp hb' with rfl | hb'
        · exact List.mem_of_getElem? e2
        · exact h2 b' hb'
    · refine ⟨bs', ?_, h2⟩
      rw [List.filterMap_cons, List.getElem?_eq_none (Nat.le_of_not_lt hi)]
      exact h1
theorem pick_bytes {us : List Value} {bs : List (List UInt8)} (h : BytesAre us bs) (lo hi st : Option Int) : ∃ bs', BytesAre (slicePick us.toArray lo hi st).toList bs' ∧ (∀ b ∈ bs', b ∈ bs) ∧ bs'.length ≤ bs.length := by
  obtain ⟨bs', h1, h2⟩ := h.pick (sliceRange (sliceBounds lo hi st us.toArray.size).1 (sliceBounds lo hi st us.toArray.size).2.1 (sliceBounds lo hi st us.toArray.size).2.2)
  have e : (slicePick us.toArray lo hi st).toList = (sliceRange (sliceBounds lo hi st us.toArray.size).1 (sliceBounds lo hi st us.toArray.size).2.1 (sliceBounds lo hi st us.toArray.size).2.2).filterMap (us[·]?) := by
    unfold slicePick
    simp
  refine ⟨bs', e ▸ h1, h2, ?_⟩
  have h3 := slicePick_size_le us.toArray lo hi st
  have h4 := (e ▸ h1 : BytesAre (slicePick us.toArray lo hi st).toList bs').len
  rw [← h4, ← h.len, Array.length_toList]
  simpa using h3
theorem BytesAre.append {us vs : List Value} {bs cs : List (List UInt8)} (h : BytesAre us bs) (h' : BytesAre vs cs) : BytesAre (us ++ vs) (bs ++ cs) := by
  induction h with
  | nil => exact h'
  | cons b t _ ih => exact .cons b t ih
/-- a list of bytes that may be asked for -/
def Fine (n : Nat) (news : List (Addr × Obj)) (v : Value) : Prop := ∃ a k us bs, v = .ref a ∧ (a, listOf (us : List Value).toArray k) ∈ news ∧ BytesAre us bs ∧ 1 ≤ bs.length ∧ bs.length ≤ 5 ∧ (∀ b ∈ bs, b.length ≤ 52) ∧ ∀ b ∈ bs, begins b (markOf n) = false
/-- how a turn of such a loop ends -/
def EachEnd (h₀ : Heap) (L : Addr) (news : List (Addr × Obj)) (G : (PySem.Str → Option Value) → Prop) (s s₃ : Shared) : Prop := ∃ h' tk' m'', s₃ = { s with heap := h', toks := tk' } ∧ G m'' ∧ Fr h₀ L h' m'' ∧ News h₀ L h' news
theorem EachEnd.of {L : Addr} {p : Addr × Obj} {news : List (Addr × Obj)} {G : (PySem.Str → Option Value) → Prop} {m : PySem.Str → Option Value} {h' : Heap} {tk : Nat} (F : Fr h₀ L h' m) (N : News h₀ L h' (p :: news)) (hG : G m) : EachEnd h₀ L news G s { s with heap := h', toks := tk } :=
  ⟨h', tk, m, rfl, hG, F, fun q hq => N q (.tail _ hq)⟩
/-- a for-loop over a tuple of the ledger, each turn of which leaves the ledger as it was -/
theorem For_each {x : PySem.Str} {px pos : Pos} {iter : Expr} {body : List Stmt} {Q : Flow → Shared → Prop} (hh : A.handled = none) {m₀ : PySem.Str → Option Value} (F₀ : Fr h₀ env.locals s.heap m₀)
    (hx : env.kindOf x = some .local) (hp : (env.scope.kind == .class || (env.scope.kind == .module && env.locals != env.globals)) = false)
    (h : wpAny (model prog w) A (eval iter env) (fun xv s₁ => Stop <| ∃ t l n m news, ∃ (G : (PySem.Str → Option Value) → Prop), xv = .ref t ∧ Fr h₀ env.locals s₁.heap m ∧ News h₀ env.locals s₁.heap news ∧ (t, ({ cls := .type "tuple", data := .seq (l : List Value).toArray n } : Obj)) ∈ news ∧ G m ∧
      (∀ m m' : PySem.Str → Option Value, G m → (∀ z, z ≠ x → m' z = m z) → G m') ∧
      (∀ (I : Addr) (oI : Obj) (v : Value) (m' : PySem.Str → Option Value) (h : Heap) (tk : Nat), v ∈ l → G m' → m' x = some v → Fr h₀ env.locals h m' → News h₀ env.locals h ((I, oI) :: news) →
        wpAny (model prog w) A (execs body env) (fun f s₃ => f = .next ∧ EachEnd h₀ env.locals ((I, oI) :: news) G s₁ s₃) (fun _ _ => False) { s₁ with heap := h, toks := tk }) ∧
      (∀ (m' : PySem.Str → Option Value) (h : Heap) (tk : Nat), G m' → Fr h₀ env.locals h m' → News h₀ env.locals h news → Q .next { s₁ with heap := h, toks := tk })) (fun _ _ => False) s)
    (hs : ∀ x, foldedSetIterable iter env x = pure x := by intro _; rfl) :
    wpAny (model prog w) A (exec (.For (.Name x px) iter body [] pos) env) Q (fun _ _ => False) s := by
  refine wpAny_For (wpAny_mono h (fun xv s₁ h₁ => ?_) fun _ _ e => e) hs
  obtain ⟨t, l, n, m, news, G, rfl, F, N, ht, hG, hGx, turn, hQ⟩ := h₁
  have hta : s₁.heap.IsTuple t l.toArray := ⟨_, (N _ ht).1, rfl, n, rfl⟩
  have hlt : t < s₁.heap.objs.size := Heap.lt_size (N _ ht).1
  refine wpAny_pyIter_tuple hta ?_
  have W := Walks.tuple (prog := prog) (w := w) (A := A) hh s₁.heap.objs.size t (Nat.ne_of_lt hlt) l.toArray
  have hnI : h₀.get? s₁.heap.objs.size = none := by
    cases e : h₀.get? s₁.heap.objs.size with
    | none => rfl
    | some o => exact absurd (Heap.lt_size (F.keep _ _ e)) (Nat.lt_irrefl _)
  have hIL : s₁.heap.objs.size ≠ env.locals := Nat.ne_of_gt F.ns.lt
  have ltN : ∀ q ∈ news, q.1 ≠ s₁.heap.objs.size := fun q hq => Nat.ne_of_lt (Heap.lt_size (N q hq).1)
  generalize hIe : s₁.heap.objs.size = I at *
  refine codeAny_forLoop_any
    (fun k s' => ∃ h' tk m' oI i, s' = { s₁ with heap := h', toks := tk } ∧ h'.get? I = some oI ∧ h'.IsTupleIter I t i ∧ Fr h₀ env.locals h' m' ∧ News h₀ env.locals h' news ∧ G m' ∧ i ≤ l.length ∧ k = l.length + 1 - i) ?_ (l.length + 1)
    ?_
  · rintro k s' ⟨H, tk, m', oI, i, rfl, hoI, hit, F', N', hG', hi, rfl⟩
    have hta' : H.IsTuple t l.toArray := ⟨_, (N' _ ht).1, rfl, n, rfl⟩
    have up : ∀ H' : Heap, (∀ b o, b ∉ [I] → H.get? b = some o → H'.get? b = some o) → Fr h₀ env.locals H' m' ∧ News h₀ env.locals H' news := fun H' hk => by
      have hk' : ∀ b o, b ≠ I → H.get? b = some o → H'.get? b = some o := fun b o hb e => hk b o (by simpa using hb) e
      exact ⟨⟨F'.ns.at' fun o e => hk' _ o hIL.symm e, fun b o e => hk' b o (fun e' => by rw [e', hnI] at e; cases e) (F'.keep b o e), F'.above⟩, fun q hq => ⟨hk' _ _ (ltN q hq) (N' q hq).1, (N' q hq).2⟩⟩
    by_cases hlt' : i < l.length
    · refine W.item i _ _ _ (by simpa using hlt') ⟨hit, hta'⟩ fun v h₂ tk₂ hPv hst₂ hk₂ => ?_
      obtain ⟨F₂, N₂⟩ := up h₂ hk₂
      refine wpAny_pure (wpAny_assign_Name (wpAny_storeName_local hx F₂.ns (fun h₃ hn₃ hs₃ => ?_) hp))
      replace hs₃ : Heap.SameBut env.locals h₂ h₃ := hs₃
      have F₃ := F₂.set hn₃ hs₃
      have N₃' := N₂.set hs₃
      obtain ⟨oI', hoI', _⟩ := id hst₂.1
      have hoI₃ := hs₃.extBut I oI' hIL hoI'
      have N₃ : News h₀ env.locals h₃ ((I, oI') :: news) := fun q hq => by
        rcases List.mem_cons.mp hq with rfl | hq
        · exact ⟨hoI₃, hIL, hnI⟩
        · exact N₃' q hq
      have hvm : v ∈ l := List.mem_of_getElem? (by simpa using hPv)
      have fin : ∀ h₄ tk₄ m₄, Fr h₀ env.locals h₄ m₄ → News h₀ env.locals h₄ ((I, oI') :: news) → G m₄ → ∃ m_1, m_1 < l.length + 1 - i ∧ ∃ h' tk m' oI i, ({ s₁ with heap := h₄, toks := tk₄ } : Shared) = { s₁ with heap := h', toks := tk } ∧ h'.get? I = some oI ∧ h'.IsTupleIter I t i ∧ Fr h₀ env.locals h' m' ∧ News h₀ env.locals h' news ∧ G m' ∧ i ≤ l.length ∧ m_1 = l.length + 1 - i := by
        intro h₄ tk₄ m₄ F₄ N₄ hG₄
        refine ⟨l.length + 1 - (i + 1), by omega, h₄, tk₄, m₄, oI', i + 1, rfl, (N₄ _ (.head _)).1, ?_, F₄, fun q hq => N₄ q (.tail _ hq), hG₄, hlt', rfl⟩
        obtain ⟨o, e, r⟩ := hst₂.1
        rw [hoI'] at e
        cases e
        exact ⟨_, (N₄ _ (.head _)).1, r⟩
      refine wpAny_noRaise (wpAny_mono (turn I oI' v _ h₃ _ hvm (hGx _ _ hG' fun z hz => by simp [hz]) (by simp) F₃ N₃) (fun f s₃ h₄ => ?_) fun _ _ e => e)
      obtain ⟨rfl, h₄, tk₄, m₄, rfl, hG₄, F₄, N₄⟩ := h₄
      exact fin _ _ _ F₄ N₄ hG₄
    · have hin : i = l.length := by omega
      refine W.done _ _ _ ⟨by simpa [hin] using hit, hta'⟩ fun h₂ tk₂ hk₂ => wpAny_execs_nil ?_
      obtain ⟨F₂, N₂⟩ := up h₂ hk₂
      exact hQ m' h₂ tk₂ hG' F₂ N₂
  · have hp' : ∀ (h' : Heap) (o : Obj), (s₁.heap.push o) = h' → o.isFreed = false → h'.get? I = some o := fun h' o e hf => by rw [← e, ← hIe]; exact Heap.get?_push_size _ hf
    exact ⟨_, _, m, _, 0, rfl, hp' _ _ rfl rfl, ⟨_, hp' _ _ rfl rfl, rfl, rfl⟩, F.push _, fun q hq => ⟨Heap.get?_push_of_some _ (N q hq).1, (N q hq).2⟩, hG, Nat.zero_le _, rfl⟩
end
end

section
open PySem PySem.W PyProof.Rows PySem.Calls
set_option maxRecDepth 100000
set_option maxHeartbeats 8000000
set_option linter.unusedVariables false
local macro_rules | `(tactic| walk_at "eval Name") => `(tactic| (k_here; (with_reducible show wpAny _ _ (eval (Expr.Name _ _) (compEnvC _ _ _ _)) _ _ _); k_dflt (first
  | (refine' nameB_L ?F ?hv ?_ ?hk ?hx ?hd; (case hx => exact rfl); (case F => k_asm); (case hv => exact rfl); (case hk => exact rfl); (case hd => decide); k_whole)
  | (refine' nameB_C ?F ?hc ?ho ?hdt ?_ ?hk ?hx ?hb; (case hx => exact rfl); (case hc => exact rfl); (case F => k_asm); (case ho => assumption); (case hdt => assumption); (case hk => exact rfl); (case hb => decide); k_whole)
  | (refine' nameB_K ?F ?X ?T ?e ?_ ?hg ?hk ?hx ?hd; (case hx => exact rfl); (case F => k_asm); (case X => k_asm); (case T => k_asm); (case e => k_is); (case hg => exact rfl); (case hk => exact rfl); (case hd => decide); k_whole)
  | (refine' nameB_B ?F ?X ?T ?e ?hv ?hn ?_ ?hg ?hb ?hk ?hx ?hd; (case hx => exact rfl); (case F => k_asm); (case X => k_asm); (case T => k_asm); (case e => k_is); (case hv => boot_by_name); (case hn => decide); (case hg => exact rfl); (case hb => exact rfl); (case hk => exact rfl); (case hd => decide); k_whole))))
theorem joined_specD (lb : Addr) (us : List Value) (bs : List (List UInt8)) (x : PySem.Str) (tx : Tok) (d : List UInt8) (e : joined ([45, 45] ++ octs x) bs = d) (hb : BytesAre us bs) (hlen : bs.length ≤ 100) (hsz : ∀ b ∈ bs, b.length ≤ 1000) (hx : x.cps.all (· < 128) = true) (hxz : x.cps.size ≤ 50) :
    Spec 10 37 [.ref lb, .str x tx] (fun h => h.IsList lb us.toArray) (fun h h' v => ∃ t, v = .bytes d.toArray t) := e ▸ joined_spec lb us bs x tx hb hlen hsz hx hxz
local macro_rules | `(tactic| walk_at "call type:bytes") => `(tactic| (k_here; (with_reducible show wpAny _ _ (call (Value.type "bytes") [Value.ref _]) _ _ _); k_dflt (refine' bytes_L ?F ?N ?l ?i ?a ?z ?h ?_; (case F => k_asm); (case N => k_asm); (case i => assumption); (case l => k_mem); (case a => first | assumption | decide +kernel); (case z => first | assumption | decide +kernel); (case h => exact rfl); k_whole); intro _ _ _ _ _ _))
local macro_rules | `(tactic| walk_at "call ref") => `(tactic| (k_here; first
  | ((with_reducible show wpAny _ _ (call (Value.ref _) [Value.bytes (List.toArray _) _, Value.int 0 _, Value.int _ _, Value.bytes (List.toArray _) _]) _ _ _); k_dflt (refine' call_tups (parts_spec _ _ _ _ _ _ ?hz ?hz2) ?B ?X ?T ?F ?N ?hf ?hk ?hr ?hu ?hp ?_; (case B => assumption); (case X => assumption); (case T => assumption); (case F => k_asm); (case N => k_asm); (case hf => exact rfl); (case hk => exact rfl); (case hr => omega); (case hu => omega); (case hp => trivial); (case hz => omega); (case hz2 => omega)); intro a' n' us' led' h' tk' F' N' st' hm' ht' hne')
  | ((with_reducible show wpAny _ _ (call (Value.ref _) [Value.ref _, Value.str _ _]) _ _ _); k_dflt (refine' call_spec (joined_specD _ _ _ _ _ _ ?j0 ?j1 ?j2 ?j3 ?j4 ?j5) ?B ?X ?T ?F ?N ?hf ?hk ?hr ?hu ?hp ?_; (case B => assumption); (case X => assumption); (case T => assumption); (case F => k_asm); (case N => k_asm); (case hf => exact rfl); (case hk => exact rfl); (case hr => omega); (case hu => omega); (case hp => exact stays_list (Fr.keep (by assumption)) (by assumption)); (case j0 => assumption); (case j1 => assumption); (case j2 => assumption); (case j3 => assumption); (case j4 => assumption); (case j5 => assumption)); intro v' h' tk' F' N' st' hv'; (obtain ⟨tw', hv'⟩ := hv'); subst hv')))
/-- a new list of bytes comes back -/
def GivesBytes (bs : List (List UInt8)) (h h' : Heap) (v : Value) : Prop := ∃ a n ys, v = .ref a ∧ h'.get? a = some (listOf (ys : List Value).toArray n) ∧ h.get? a = none ∧ BytesAre ys bs
theorem paired_cuts {d : List UInt8} : ∀ {ps : List (List Int)} {ys : List Value}, Paired (fun p y => ∃ t, y = Value.bytes (cut d (some (List.getD p 0 0)) (some (List.getD p 1 0))).toArray t) ps ys → BytesAre ys (ps.map fun p => cut d (some (p.getD 0 0)) (some (p.getD 1 0)))
  | _, _, .nil => .nil
  | _, _, .cons h r => by
    obtain ⟨t, rfl⟩ := h
    exact .cons _ t (paired_cuts r)
theorem parted_spec (lb : Addr) (us : List Value) (bs : List (List UInt8)) (x : PySem.Str) (tx : Tok) (hb : BytesAre us bs) (hlen : bs.length ≤ 100) (hsz : ∀ b ∈ bs, b.length ≤ 1000) (hx : x.cps.all (· < 128) = true) (hxz : x.cps.size ≤ 50)
    (d : List UInt8) (hjd : joined ([45, 45] ++ octs x) bs = d) (hj : d.length ≤ 10000)
    (hbeg : cut d none (some (((octs x).length : Int) + 4)) = [45, 45] ++ octs x ++ [13, 10])
    (hend : cut d (some (-((octs x).length : Int) - 8)) none = [13, 10, 45, 45] ++ octs x ++ [45, 45, 13, 10])
    (hparts : (parts d (octs x)).map (fun p => cut d (some (p.getD 0 0)) (some (p.getD 1 0))) = bs)
    (hpl : ∀ p ∈ parts d (octs x), p.length = 2) :
    Spec 20 64 [.ref lb, .str x tx] (fun h => h.IsList lb us.toArray) (GivesBytes bs) := by
  unfold Spec
  k_fill
  w_top off
  intro w mean mg mb dp un gd outer base s R B X T hp hd hu hret
  refine enterC (binds := [(Str.ofString "bodies", .ref lb), (Str.ofString "boundary", .str x tx)]) B X T (by omega) (by k_is) (by k_is) (BindsTo.of_eq rfl) rfl (by decide +kernel) rfl rfl rfl ?_
  intro h₁ tk₁ cells F N Y
  obtain ⟨o1, hcs, d1⟩ := CellsAre.one Y
  subst hcs
  replace d1 : o1.data = .cell none := d1
  clear Y
  have hox := octs_length x
  (try dsimp only)
  (try k_fold)
  k_steps
  unfold Stop
  refine' ListComp_str rfl ?_ ?_ ?_ ?_ ?_ ?_
  any_goals (first | (with_unfolding_all rfl; done) | (decide; done))
  (try k_fold)
  k_steps
  rename Fr _ _ _ _ => F'
  rename News _ _ _ _ => N'
  refine ⟨_, _, fun c y => ∃ t, y = .int (c : Int) t, rfl, hx, by rw [sizeLine_eq]; omega, ?_, ?_⟩
  · intro C I D oI oD c u s₂ m₂ E' hc F₂ hm N₂ hne
    have X' := X.keeps F'.keep
    have T' := T.keeps F'.keep
    have F₃ := fr_named [(Str.ofString "sign", _)] F₂ (by
       intro q hq
       simp only [List.mem_cons, List.not_mem_nil, or_false] at hq
       rcases hq with rfl
       assumption)
    dsimp only [kstB] at F₃
    clear F₂
    obtain ⟨sh, sg, sd, sk, so⟩ := s₂
    (try k_fold)
    k_steps
    all_goals exact ⟨⟨_, rfl⟩, _, _, _, rfl, by assumption, rfl, by assumption⟩
  intro D n' h₂ tk₂ ys hD hget hF hst
  have F₂ := F'.keeps hst
  have N₂ := news_add F' N' hst hD hget
  have hi' := paired_ords hF
  clear F' N' hF
  (try k_unfold)
  (try dsimp only)
  (try k_fold)
  k_steps
  · exact absurd (show (cut d none (some (((octs x).length : Int) + 4)) != [45, 45] ++ octs x ++ [13, 10]) = true by assumption) (by rw [hbeg]; simp)
  · exact absurd (show (cut d (some (-((octs x).length : Int) - 8)) none != [13, 10, 45, 45] ++ octs x ++ [45, 45, 13, 10]) = true by assumption) (by rw [hend]; simp)
  unfold Stop
  refine' ListComp_ints [Str.ofString "one", Str.ofString "other"] rfl ?_ ?_ ?_ ?_ (bind2 rfl ?_ ?_ ?_ ?_) ?_ ?_
  any_goals (first | (with_unfolding_all rfl; done) | (decide; done))
  (try k_fold)
  k_steps
  rename Fr _ _ _ _ => F'
  rename News _ _ _ _ => N'
  rename TupsIn _ _ _ => ht'
  rename Stay _ _ => st'
  rename (_, W.listOf _ _) ∈ _ => hm'
  have X' := X.keeps F'.keep
  have T' := T.keeps F'.keep
  have g1 := (N' (s.heap.objs.size + 1, _) (List.mem_append_right _ (.tail _ (.head _)))).1
  refine ⟨_, _, _, _, _, fun _ => true, fun p y => ∃ t, y = .bytes (cut d (some (p.getD 0 0)) (some (p.getD 1 0))).toArray t, rfl, fun q hq => (N' q (List.mem_append_left _ hq)).1, hm', ht', ?_, hpl, ?_, ?_, ?_⟩
  · have e1 := congrArg List.length hparts
    rw [List.length_map] at e1
    rw [ht'.length, sizeLine_eq]
    omega
  · intro C I D oI oD p s₂ m₂ E' hp F₂ hb N₂ hne
    exact wpAny_tests_nil ⟨rfl, s₂.heap, s₂.toks, m₂, rfl, F₂, hb, N₂⟩
  · intro C I D oI oD p s₂ m₂ E' hp ht F₂ hb N₂ hne
    obtain ⟨i, u1, j, u2, rfl, e1, e2⟩ : ∃ i u1 j u2, p = [i, j] ∧ m₂ (Str.ofString "one") = some (.int i u1) ∧ m₂ (Str.ofString "other") = some (.int j u2) := by
      match p, hpl p hp, hb with
      | [i, j], _, ⟨⟨u1, h1⟩, ⟨u2, h2⟩, _⟩ => exact ⟨i, u1, j, u2, rfl, h1, h2⟩
    have F₃ := fr_named [(Str.ofString "one", _), (Str.ofString "other", _)] F₂ (by
      intro q hq
      simp only [List.mem_cons, List.not_mem_nil, or_false] at hq
      rcases hq with rfl | rfl <;> assumption)
    dsimp only [kstB] at F₃
    clear F₂
    obtain ⟨sh, sg, sd, sk, so⟩ := s₂
    (try k_fold)
    k_steps
    all_goals exact ⟨⟨_, rfl⟩, _, _, _, rfl, by assumption, ⟨⟨_, rfl⟩, ⟨_, rfl⟩, trivial⟩, by assumption⟩
  · intro D' n₁ h₂ tk₂ ys' hD' hget' hF' hst'
    have F₂ := F'.keeps hst'
    have N₂ := news_add F' N' hst' hD' hget'
    rw [List.filter_eq_self.mpr (fun _ _ => rfl)] at hF'
    clear F' N'
    (try k_unfold)
    (try dsimp only)
    exact hret _ _ _ F₂.keep ⟨D', n₁, ys', rfl, hget', (N₂ _ (.head _)).2.2, hparts ▸ paired_cuts hF'⟩
end

section
open PySem PySem.W PyProof.Rows PySem.Calls
set_option maxRecDepth 100000
set_option maxHeartbeats 1000000
set_option linter.unusedVariables false
theorem clipAt_nat {n k : Nat} (h : k ≤ n) : clipAt n (k : Int) = k := by
  have e := clipAt_cast n (k : Int)
  rw [if_neg (by omega)] at e
  omega
theorem cut_mid (a b c : List UInt8) : cut (a ++ b ++ c) (some (a.length : Int)) (some ((a.length + b.length : Nat) : Int)) = b := by
  unfold cut
  simp only [Option.elim]
  rw [clipAt_nat (by simp only [List.length_append]; omega), clipAt_nat (by simp only [List.length_append]; omega), List.append_assoc, List.drop_left, Nat.add_sub_cancel_left, List.take_left]
theorem cut_upto (l : List UInt8) (k : Nat) : cut l none (some (k : Int)) = l.take k := by
  unfold cut
  simp only [Option.elim]
  rw [PySem.clipAt_nat, List.drop_zero, Nat.sub_zero]
  rcases Nat.le_total k l.length with h | h
  · rw [Nat.min_eq_left h]
  · rw [Nat.min_eq_right h, List.take_length, List.take_of_length_le h]
theorem cut_from (a b : List UInt8) : cut (a ++ b) (some (a.length : Int)) none = b := by
  unfold cut
  simp only [Option.elim]
  rw [clipAt_nat (by simp only [List.length_append]; omega), List.drop_left, List.length_append, Nat.add_sub_cancel_left, List.take_length]
theorem findIdx_ten {t r : List UInt8} (h : (10 : UInt8) ∉ t) : (t ++ 10 :: r).findIdx? (· == 10) = some t.length := by
  induction t with
  | nil => rfl
  | cons c t ih =>
    have hc : (c == 10) = false := by
      rw [beq_eq_false_iff_ne]
      exact fun e => h (e ▸ List.mem_cons_self)
    rw [List.cons_append, List.findIdx?_cons, hc, ih fun m => h (.tail _ m)]
    rfl
theorem findIdx_none {t : List UInt8} (h : (10 : UInt8) ∉ t) : t.findIdx? (· == 10) = none := by
  rw [List.findIdx?_eq_none_iff]
  intro c hc
  rw [beq_eq_false_iff_ne]
  exact fun e => h (e ▸ hc)
/-- where a line's text ends -/
def textLen (t : List UInt8) : Nat := if 0 < t.length ∧ t[t.length - 1]? = some 13 then t.length - 1 else t.length
theorem textLen_le (t : List UInt8) : textLen t ≤ t.length := by unfold textLen; split <;> omega
theorem textLen_cr (t : List UInt8) : textLen (t ++ [13]) = t.length := by
  unfold textLen
  rw [if_pos]
  · rw [List.length_append]; rfl
  · refine ⟨by rw [List.length_append]; exact Nat.succ_pos _, ?_⟩
    rw [List.length_append, List.length_singleton, Nat.add_sub_cancel, List.getElem?_append_right (Nat.le_refl _), Nat.sub_self]
    rfl
theorem spans_line {pre t r : List UInt8} (h : (10 : UInt8) ∉ t) : spans (pre ++ (t ++ 10 :: r)) pre.length = (pre.length, pre.length + textLen t, pre.length + t.length + 1) :: spans (pre ++ (t ++ 10 :: r)) (pre.length + t.length + 1) := by
  rw [spans, dif_pos (by rw [List.length_append, List.length_append, List.length_cons]; omega), List.drop_left, findIdx_ten h]
  dsimp only
  congr 1
  congr 2
  unfold textLen
  by_cases ht : 0 < t.length
  · have e : (pre ++ (t ++ 10 :: r))[pre.length + t.length - 1]? = t[t.length - 1]? := by
      rw [Nat.add_sub_assoc ht, List.getElem?_append_right (by omega), Nat.add_sub_cancel_left, List.getElem?_append_left (by omega)]
    rw [e]
    split
    · omega
    · rfl
  · rw [if_neg (fun x => ht x.1), if_neg (fun x => ht x.1)]
theorem spans_tail {pre t : List UInt8} (h : (10 : UInt8) ∉ t) (ht : t ≠ []) : spans (pre ++ t) pre.length = [(pre.length, (pre ++ t).length, (pre ++ t).length)] := by
  have := List.length_pos_iff.mpr ht
  rw [spans, dif_pos (by rw [List.length_append]; omega), List.drop_left, findIdx_none h]
theorem spans_nil' {pre : List UInt8} : spans pre pre.length = [] := by
  rw [spans, dif_neg (by omega)]
/-- first line's feed -/
theorem split_ten (b : List UInt8) : (10 : UInt8) ∉ b ∨ ∃ t r, b = t ++ 10 :: r ∧ (10 : UInt8) ∉ t := by
  induction b with
  | nil => exact .inl (fun h => nomatch h)
  | cons c b ih =>
    by_cases hc : c = 10
    · exact .inr ⟨[], b, by rw [hc]; rfl, fun h => nomatch h⟩
    · rcases ih with h | ⟨t, r, rfl, h⟩
      · refine .inl fun m => ?_
        rcases List.mem_cons.mp m with e | m
        · exact hc e.symm
        · exact h m
      · refine .inr ⟨c :: t, r, rfl, fun m => ?_⟩
        rcases List.mem_cons.mp m with e | m
        · exact hc e.symm
        · exact h m
/-- no line from here on begins with the mark -/
def NoMark (mk B : List UInt8) (r : Nat) : Prop := ∀ x ∈ spans B r, cut B (some (x.1 : Int)) (some ((x.1 : Int) + (mk.length : Int))) ≠ mk
theorem noMark_of {b mk : List UInt8} (h : begins b mk = false) : NoMark mk b 0 := by
  intro x hx he
  unfold begins at h
  rw [Bool.not_eq_false', List.isEmpty_iff, List.filter_eq_nil_iff] at h
  refine h (trip x) (List.mem_map_of_mem hx) ?_
  unfold beginsAt
  rw [beq_iff_eq]
  exact he
theorem prefix_mark {pre b mk : List UInt8} {x y : Nat} {L : List (Nat × Nat × Nat)} (hm : mk ≠ []) (hs : b ≠ [] → spans (pre ++ b) pre.length = (pre.length, x, y) :: L) (h : NoMark mk (pre ++ b) pre.length) : ¬ mk <+: b := by
  intro hp
  obtain ⟨c, rfl⟩ := hp
  have hne : mk ++ c ≠ [] := by
    intro e
    exact hm (List.append_eq_nil_iff.mp e).1
  refine h (pre.length, x, y) (by rw [hs hne]; exact List.mem_cons_self) ?_
  dsimp only
  have e : ((pre.length : Int) + (mk.length : Int)) = ((pre.length + mk.length : Nat) : Int) := by omega
  rw [e, ← List.append_assoc]
  exact cut_mid _ _ _
theorem way_none {line bnd : List UInt8} (h : ¬ ([45, 45] ++ bnd) <+: line) : way line bnd = Str.ofString "" := by
  unfold way
  rw [if_pos]
  rw [bne_iff_ne]
  intro e
  rw [cut_upto] at e
  exact h (e ▸ List.take_prefix _ _)
theorem way_next (bnd : List UInt8) : way ([45, 45] ++ bnd) bnd = Str.ofString "next" := by
  unfold way
  have e1 : cut ([45, 45] ++ bnd) none (some ((45 :: 45 :: bnd).length : Int)) = [45, 45] ++ bnd := by
    rw [cut_upto]
    exact List.take_length
  have e2 : cut ([45, 45] ++ bnd) (some ((45 :: 45 :: bnd).length : Int)) none = [] := by
    have := cut_from ([45, 45] ++ bnd) []
    rwa [List.append_nil] at this
  rw [e1, e2, if_neg (by simp), if_pos (by decide)]
theorem way_last (bnd : List UInt8) : way ([45, 45] ++ bnd ++ [45, 45]) bnd = Str.ofString "last" := by
  unfold way
  have e1 : cut ([45, 45] ++ bnd ++ [45, 45]) none (some ((45 :: 45 :: bnd).length : Int)) = [45, 45] ++ bnd := by
    rw [cut_upto]
    exact List.take_left
  have e2 : cut ([45, 45] ++ bnd ++ [45, 45]) (some ((45 :: 45 :: bnd).length : Int)) none = [45, 45] := cut_from ([45, 45] ++ bnd) [45, 45]
  rw [e1, e2, if_neg (by simp), if_neg (by decide), if_pos (by decide)]
theorem way_ne1 : Str.ofString "next" ≠ Str.ofString "" := by decide +kernel
theorem way_ne2 : Str.ofString "last" ≠ Str.ofString "" := by decide +kernel
theorem way_ne3 : Str.ofString "next" ≠ Str.ofString "last" := by decide +kernel
theorem cut_mid' {l a b c : List UInt8} {i j : Int} (e : l = a ++ b ++ c) (hi : i = (a.length : Int)) (hj : j = ((a.length + b.length : Nat) : Int)) : cut l (some i) (some j) = b := by
  subst e hi hj
  exact cut_mid _ _ _
theorem take_textLen_prefix (t : List UInt8) : t.take (textLen t) <+: t := List.take_prefix _ _
/-- one line's text -/
theorem line_text (pre t r : List UInt8) : cut (pre ++ (t ++ 10 :: r)) (some (pre.length : Int)) (some ((pre.length + textLen t : Nat) : Int)) = t.take (textLen t) := by
  refine cut_mid' (c := t.drop (textLen t) ++ 10 :: r) ?_ rfl ?_
  · rw [List.append_assoc, ← List.append_assoc (t.take _), List.take_append_drop]
  · rw [List.length_take, Nat.min_eq_left (textLen_le t)]
/-- the lines of a body -/
theorem go_body (bnd : List UInt8) (e : Int) : ∀ (n : Nat) (b pre preB rest : List UInt8) (found : List (List Int)) (begun before : Int), b.length ≤ n → NoMark ([45, 45] ++ bnd) (preB ++ b) preB.length →
    partsGo (pre ++ (b ++ [13, 10] ++ rest)) bnd e ((spans (pre ++ (b ++ [13, 10] ++ rest)) pre.length).map trip) found begun before = partsGo (pre ++ (b ++ [13, 10] ++ rest)) bnd e ((spans (pre ++ (b ++ [13, 10] ++ rest)) (pre.length + b.length + 2)).map trip) found begun ((pre.length + b.length : Nat) : Int) := by
  intro n
  induction n with
  | zero =>
    intro b pre preB rest found begun before hn hN
    have hb : b = [] := List.length_eq_zero_iff.mp (Nat.le_zero.mp hn)
    subst hb
    have e1 : pre ++ ([] ++ [13, 10] ++ rest) = pre ++ (([] ++ [13]) ++ 10 :: rest) := by simp
    rw [e1, spans_line (by decide), List.map_cons]
    unfold trip
    rw [partsGo]
    rw [if_pos]
    · rw [textLen_cr]; rfl
    · rw [line_text, textLen_cr]
      refine way_none ?_
      intro hp
      have := hp.length_le
      simp at this
  | succ n ih =>
    intro b pre preB rest found begun before hn hN
    rcases split_ten b with h10 | ⟨t, r, rfl, h10⟩
    · have e1 : pre ++ (b ++ [13, 10] ++ rest) = pre ++ ((b ++ [13]) ++ 10 :: rest) := by simp
      have h10' : (10 : UInt8) ∉ b ++ [13] := by
        intro m
        rcases List.mem_append.mp m with m | m
        · exact h10 m
        · exact absurd m (by decide)
      rw [e1, spans_line h10', List.map_cons]
      unfold trip
      rw [partsGo]
      rw [if_pos]
      · rw [textLen_cr, List.length_append, List.length_singleton]; rfl
      · rw [line_text, textLen_cr, List.take_left]
        exact way_none (prefix_mark (by simp) (fun hb => spans_tail h10 hb) hN)
    · have e1 : pre ++ (t ++ 10 :: r ++ [13, 10] ++ rest) = pre ++ (t ++ 10 :: (r ++ [13, 10] ++ rest)) := by simp
      have e2 : pre ++ (t ++ 10 :: r ++ [13, 10] ++ rest) = (pre ++ t ++ [10]) ++ (r ++ [13, 10] ++ rest) := by simp
      have e3 : preB ++ (t ++ 10 :: r) = (preB ++ t ++ [10]) ++ r := by simp
      have hnp := prefix_mark (mk := [45, 45] ++ bnd) (by simp) (fun _ => spans_line h10) hN
      have hw : way (cut (pre ++ (t ++ 10 :: (r ++ [13, 10] ++ rest))) (some (pre.length : Int)) (some ((pre.length + textLen t : Nat) : Int))) bnd = Str.ofString "" := by
        rw [line_text]
        refine way_none fun hp => hnp ?_
        exact (hp.trans (take_textLen_prefix t)).trans (List.prefix_append _ _)
      have l1 : pre.length + t.length + 1 = (pre ++ t ++ [10]).length := by simp; omega
      have l2 : preB.length + t.length + 1 = (preB ++ t ++ [10]).length := by simp; omega
      have hN' : NoMark ([45, 45] ++ bnd) ((preB ++ t ++ [10]) ++ r) (preB ++ t ++ [10]).length := by
        intro x hx
        rw [← e3, ← l2] at hx
        rw [← e3]
        refine hN x ?_
        rw [spans_line h10]
        exact List.mem_cons_of_mem _ hx
      have := ih r (pre ++ t ++ [10]) (preB ++ t ++ [10]) rest found begun ((pre.length + textLen t : Nat) : Int) (by rw [List.length_append, List.length_cons] at hn; omega) hN'
      rw [← e2] at this
      have l3 : (pre ++ t ++ [10]).length + r.length = pre.length + (t ++ 10 :: r).length := by simp; omega
      rw [l3] at this
      rw [← this, e1, spans_line h10, List.map_cons]
      conv => lhs; rw [trip, partsGo, if_pos hw]
      rw [l1]
theorem joined_cons (mk b : List UInt8) (bs : List (List UInt8)) : joined mk (b :: bs) = mk ++ [13, 10] ++ (b ++ [13, 10] ++ joined mk bs) := by
  unfold joined
  simp
theorem go_all (bnd : List UInt8) (e : Int) (h10 : (10 : UInt8) ∉ bnd) (l : List UInt8) : ∀ (bs : List (List UInt8)) (pre : List UInt8) (found : List (List Int)) (begun before : Int), l = pre ++ joined ([45, 45] ++ bnd) bs → (∀ b ∈ bs, begins b ([45, 45] ++ bnd) = false) →
    ∃ ps, partsGo l bnd e ((spans l pre.length).map trip) found begun before = (if 0 ≤ begun then found ++ [[begun, max begun before]] else found) ++ ps ∧ ps.map (fun p => cut l (some (p.getD 0 0)) (some (p.getD 1 0))) = bs ∧ ∀ p ∈ ps, p.length = 2 := by
  intro bs
  have hmk : (10 : UInt8) ∉ [45, 45] ++ bnd := by
    intro m
    rcases List.mem_append.mp m with m | m
    · exact absurd m (by decide)
    · exact h10 m
  generalize hmk' : ([45, 45] ++ bnd : List UInt8) = mk at hmk
  induction bs with
  | nil =>
    intro pre found begun before hl _
    refine ⟨[], ?_, rfl, fun _ h => nomatch h⟩
    have e1 : l = pre ++ ((mk ++ [45, 45] ++ [13]) ++ 10 :: []) := by
      rw [hl]; unfold joined; simp
    have h10' : (10 : UInt8) ∉ mk ++ [45, 45] ++ [13] := by
      intro m
      rcases List.mem_append.mp m with m | m
      · rcases List.mem_append.mp m with m | m
        · exact hmk m
        · exact absurd m (by decide)
      · exact absurd m (by decide)
    have hw : way (cut l (some (pre.length : Int)) (some ((pre.length + textLen (mk ++ [45, 45] ++ [13]) : Nat) : Int))) bnd = Str.ofString "last" := by
      rw [e1, line_text, textLen_cr, List.take_left, ← hmk']
      exact way_last bnd
    have hs := spans_line (pre := pre) (r := []) h10'
    rw [← e1] at hs
    rw [hs, List.map_cons]
    rw [trip, partsGo]
    rw [if_neg (by rw [hw]; exact way_ne2), if_pos hw, List.append_nil]
  | cons b bs ih =>
    intro pre found begun before hl hb
    rw [joined_cons] at hl
    have e1 : l = pre ++ ((mk ++ [13]) ++ 10 :: (b ++ [13, 10] ++ joined mk bs)) := by
      rw [hl]; simp
    have e2 : l = (pre ++ mk ++ [13, 10]) ++ (b ++ [13, 10] ++ joined mk bs) := by
      rw [hl]; simp
    have e3 : l = (pre ++ mk ++ [13, 10] ++ b ++ [13, 10]) ++ joined mk bs := by
      rw [hl]; simp
    have h10' : (10 : UInt8) ∉ mk ++ [13] := by
      intro m
      rcases List.mem_append.mp m with m | m
      · exact hmk m
      · exact absurd m (by decide)
    have hw : way (cut l (some (pre.length : Int)) (some ((pre.length + textLen (mk ++ [13]) : Nat) : Int))) bnd = Str.ofString "next" := by
      rw [e1, line_text, textLen_cr, List.take_left, ← hmk']
      exact way_next bnd
    have hs := spans_line (pre := pre) (r := b ++ [13, 10] ++ joined mk bs) h10'
    rw [← e1] at hs
    rw [hs, List.map_cons]
    rw [trip, partsGo]
    dsimp only
    rw [if_neg (by rw [hw]; exact way_ne1), if_neg (by rw [hw]; exact way_ne3)]
    have l1 : pre.length + (mk ++ [13]).length + 1 = (pre ++ mk ++ [13, 10]).length := by simp; omega
    have l2 : (pre ++ mk ++ [13, 10]).length + b.length + 2 = (pre ++ mk ++ [13, 10] ++ b ++ [13, 10]).length := by simp; omega
    rw [l1]
    have hbody := go_body bnd e b.length b (pre ++ mk ++ [13, 10]) [] (joined mk bs) (if 0 ≤ begun then found ++ [[begun, max begun before]] else found) (((pre ++ mk ++ [13, 10]).length : Nat) : Int) ((pre.length + textLen (mk ++ [13]) : Nat) : Int) (Nat.le_refl _) (hmk' ▸ noMark_of (hb b (.head _)))
    rw [← e2, l2] at hbody
    rw [hbody]
    obtain ⟨ps, h1, h2, h3⟩ := ih (pre ++ mk ++ [13, 10] ++ b ++ [13, 10]) (if 0 ≤ begun then found ++ [[begun, max begun before]] else found) (((pre ++ mk ++ [13, 10]).length : Nat) : Int) ((((pre ++ mk ++ [13, 10]).length + b.length : Nat)) : Int) e3 (fun c hc => hb c (.tail _ hc))
    rw [h1, if_pos (Int.natCast_nonneg _)]
    refine ⟨[(((pre ++ mk ++ [13, 10]).length : Nat) : Int), ((((pre ++ mk ++ [13, 10]).length + b.length : Nat)) : Int)] :: ps, ?_, ?_, ?_⟩
    · have em : max (((pre ++ mk ++ [13, 10]).length : Nat) : Int) ((((pre ++ mk ++ [13, 10]).length + b.length : Nat)) : Int) = ((((pre ++ mk ++ [13, 10]).length + b.length : Nat)) : Int) := by omega
      rw [em, List.append_assoc]
      rfl
    · rw [List.map_cons, h2]
      congr 1
      exact cut_mid' (c := [13, 10] ++ joined mk bs) (by rw [e2]; simp) rfl rfl
    · intro p hp
      rcases List.mem_cons.mp hp with rfl | hp
      · rfl
      · exact h3 p hp
theorem parts_joined {bnd : List UInt8} {bs : List (List UInt8)} (h10 : (10 : UInt8) ∉ bnd) (hb : ∀ b ∈ bs, begins b ([45, 45] ++ bnd) = false) :
    (parts (joined ([45, 45] ++ bnd) bs) bnd).map (fun p => cut (joined ([45, 45] ++ bnd) bs) (some (p.getD 0 0)) (some (p.getD 1 0))) = bs ∧ ∀ p ∈ parts (joined ([45, 45] ++ bnd) bs) bnd, p.length = 2 := by
  obtain ⟨ps, h1, h2, h3⟩ := go_all bnd (joined ([45, 45] ++ bnd) bs).length h10 (joined ([45, 45] ++ bnd) bs) bs [] [] (-1) 0 rfl hb
  unfold parts
  rw [List.length_nil] at h1
  rw [h1]
  exact ⟨h2, h3⟩
theorem joined_beg {bnd b : List UInt8} {bs : List (List UInt8)} : cut (joined ([45, 45] ++ bnd) (b :: bs)) none (some ((bnd.length : Int) + 4)) = [45, 45] ++ bnd ++ [13, 10] := by
  have e : ((bnd.length : Int) + 4) = ((([45, 45] ++ bnd ++ [13, 10]).length : Nat) : Int) := by
    simp only [List.length_append, List.length_cons, List.length_nil]; omega
  rw [joined_cons, e, cut_upto]
  exact List.take_left
theorem joined_snoc (mk : List UInt8) : ∀ (bs : List (List UInt8)) (b : List UInt8), ∃ c, joined mk (b :: bs) = c ++ ([13, 10] ++ mk ++ [45, 45, 13, 10])
  | [], b => ⟨mk ++ [13, 10] ++ b, by unfold joined; simp⟩
  | c :: bs, b => by
    obtain ⟨d, e⟩ := joined_snoc mk bs c
    exact ⟨mk ++ [13, 10] ++ (b ++ [13, 10] ++ d), by rw [joined_cons, e]; simp⟩
theorem cut_back {a b : List UInt8} {i : Int} (hi : i = -(b.length : Int)) (hb : b ≠ []) : cut (a ++ b) (some i) none = b := by
  have hb' := List.length_pos_iff.mpr hb
  have e : clipAt (a ++ b).length i = a.length := by
    have e := clipAt_cast (a ++ b).length i
    rw [if_pos (by omega)] at e
    have hn : (a ++ b).length = a.length + b.length := List.length_append
    omega
  unfold cut
  simp only [Option.elim]
  rw [e, List.drop_left, List.length_append, Nat.add_sub_cancel_left, List.take_length]
theorem joined_end {bnd b : List UInt8} {bs : List (List UInt8)} : cut (joined ([45, 45] ++ bnd) (b :: bs)) (some (-(bnd.length : Int) - 8)) none = [13, 10, 45, 45] ++ bnd ++ [45, 45, 13, 10] := by
  obtain ⟨c, e⟩ := joined_snoc ([45, 45] ++ bnd) bs b
  rw [e]
  rw [cut_back]
  · simp
  · simp only [List.length_append, List.length_cons, List.length_nil]; omega
  · simp
theorem joined_length {mk : List UInt8} {bs : List (List UInt8)} {k : Nat} (h : ∀ b ∈ bs, b.length ≤ k) : (joined mk bs).length ≤ bs.length * (mk.length + 4 + k) + mk.length + 4 := by
  unfold joined
  have := flatten_le (f := fun b => mk ++ [13, 10] ++ b ++ [13, 10]) (k := mk.length + 4 + k) (bs := bs) (fun b hb => by
    have := h b hb
    simp only [List.length_append, List.length_cons, List.length_nil]
    omega)
  simp only [List.length_append, List.length_cons, List.length_nil]
  omega
end

section
open PySem PySem.W PyProof.Rows PySem.Calls
set_option maxRecDepth 100000
set_option maxHeartbeats 8000000
set_option linter.unusedVariables false
theorem bound_ascii (n : Nat) : (bound n).cps.all (· < 128) = true := by
  unfold bound
  split <;> decide +kernel
theorem bound_size (n : Nat) : (bound n).cps.size = 7 := by
  unfold bound
  split <;> decide +kernel
theorem bound_ten (n : Nat) : (10 : UInt8) ∉ octs (bound n) := by
  unfold bound
  split <;> decide +kernel
theorem parted_law (lb : Addr) (us : List Value) (bs : List (List UInt8)) (n : Nat) (tx : Tok) (hb : BytesAre us bs) (h1 : 1 ≤ bs.length) (hlen : bs.length ≤ 5) (hsz : ∀ b ∈ bs, b.length ≤ 52) (hbeg : ∀ b ∈ bs, begins b (markOf n) = false) :
    Spec 20 64 [.ref lb, .str (bound n) tx] (fun h => h.IsList lb us.toArray) (GivesBytes bs) := by
  have hx := bound_ascii n
  have hz := bound_size n
  have ho := octs_length (bound n)
  have hp := parts_joined (bnd := octs (bound n)) (bs := bs) (bound_ten n) hbeg
  obtain ⟨b, bs', rfl⟩ : ∃ b bs', bs = b :: bs' := by
    match bs, h1 with
    | b :: bs', _ => exact ⟨b, bs', rfl⟩
  refine parted_spec lb us _ (bound n) tx hb (by omega) (fun c hc => Nat.le_trans (hsz c hc) (by decide)) hx (by omega) _ rfl ?_ joined_beg joined_end hp.1 hp.2
  have hl := joined_length (mk := [45, 45] ++ octs (bound n)) (bs := b :: bs') hsz
  have hm : ([45, 45] ++ octs (bound n)).length = 9 := by rw [List.length_append]; rw [ho, hz]; rfl
  rw [hm] at hl
  have : (b :: bs').length * (9 + 4 + 52) ≤ 5 * 65 := Nat.mul_le_mul_right _ hlen
  omega
end

section
open PySem PySem.W PyProof.Rows PySem.Calls
set_option maxRecDepth 100000
set_option maxHeartbeats 4000000
set_option linter.unusedVariables false
section
variable {prog : Program} {w : World} {A : Around} {E : Value → Shared → Prop} {s : Shared} {h₀ : Heap} {L l a b : Addr} {m : PySem.Str → Option Value} {news : List (Addr × Obj)} {value slice : PySem.Expr} {us vs ws : List Value} {n n' : Nat} {t : Tok} {Q : Value → Shared → Prop} {ops : List Value}
theorem rev_B (F : Fr h₀ L s.heap m) (N : News h₀ L s.heap news) (hl : (l, listOf us.toArray n) ∈ news)
    (h : ∀ D h', Fr h₀ L h' m → News h₀ L h' ((D, listOf us.reverse.toArray 0) :: news) → Q (.ref D) { s with heap := h' })
    (hs : subscripted slice false (.ref l) (.ref s.heap.objs.size) = operate ops (getItem (.ref l) (.ref s.heap.objs.size))) (ht : ∀ r, letTemporaryGo value (.ref l) r = pure ()) (hz : us.length ≤ 100) :
    wpAny (model prog w) A (subscriptTail value slice (.ref l) (.ref s.heap.objs.size)) Q E { s with heap := s.heap.push { cls := .type "slice", data := .fields #[.none, .none, .int (-1) t] } } :=
  krv_lit F N (is_list_of N hl) (.int _ _) rfl (fun D h' F' N' _ => h D h' F' N') hs ht (by rw [sizeLine_eq, List.size_toArray]; omega)
theorem from_B (F : Fr h₀ L s.heap m) (N : News h₀ L s.heap news) (hl : (l, listOf us.toArray n) ∈ news)
    (h : ∀ D h', Fr h₀ L h' m → News h₀ L h' ((D, listOf (us.drop 1).toArray 0) :: news) → Q (.ref D) { s with heap := h' })
    (hs : subscripted slice false (.ref l) (.ref s.heap.objs.size) = operate [.ref s.heap.objs.size, .ref l] (getItem (.ref l) (.ref s.heap.objs.size))) (ht : ∀ r, letTemporaryGo value (.ref l) r = pure ()) (hz : us.length ≤ 100) :
    wpAny (model prog w) A (subscriptTail value slice (.ref l) (.ref s.heap.objs.size)) Q E { s with heap := s.heap.push { cls := .type "slice", data := .fields #[.int 1 t, .none, .none] } } :=
  kmk_slice_lit F N (is_list_of N hl) (.int _ _) .none (congrArg Array.toList (slicePick_from' us.toArray 1)) (fun D h' F' N' _ => h D h' F' N') hs ht (by rw [sizeLine_eq, List.size_toArray]; omega)
theorem upto_B (F : Fr h₀ L s.heap m) (N : News h₀ L s.heap news) (hl : (l, listOf us.toArray n) ∈ news)
    (h : ∀ D h', Fr h₀ L h' m → News h₀ L h' ((D, listOf (us.take 1).toArray 0) :: news) → Q (.ref D) { s with heap := h' })
    (hs : subscripted slice false (.ref l) (.ref s.heap.objs.size) = operate [.ref s.heap.objs.size, .ref l] (getItem (.ref l) (.ref s.heap.objs.size))) (ht : ∀ r, letTemporaryGo value (.ref l) r = pure ()) (hz : us.length ≤ 100) :
    wpAny (model prog w) A (subscriptTail value slice (.ref l) (.ref s.heap.objs.size)) Q E { s with heap := s.heap.push { cls := .type "slice", data := .fields #[.none, .int 1 t, .none] } } :=
  kmk_slice_lit F N (is_list_of N hl) .none (.int _ _) (congrArg Array.toList (slicePick_upto' us.toArray 1)) (fun D h' F' N' _ => h D h' F' N') hs ht (by rw [sizeLine_eq, List.size_toArray]; omega)
theorem add_B (F : Fr h₀ L s.heap m) (N : News h₀ L s.heap news) (ha : (a, listOf vs.toArray n) ∈ news) (hb : (b, listOf ws.toArray n') ∈ news)
    (h : ∀ D h', Fr h₀ L h' m → News h₀ L h' ((D, listOf (vs ++ ws).toArray 0) :: news) → Q (.ref D) { s with heap := h' })
    (hz : vs.length + ws.length ≤ 100) : wpAny (model prog w) A (binaryOp .Add (.ref a) (.ref b)) Q E s :=
  kmk_add_lit F N (is_list_of N ha) (is_list_of N hb) rfl (fun D h' F' N' _ => h D h' F' N') (by rw [sizeLine_eq]; show vs.length + ws.length ≤ _; omega)
end
/-- a call of a def that gives a new list of bytes -/
theorem call_bytes {k : Nat} {f : Addr} {vs : List Value} {pre : Heap → Prop} {bs : List (List UInt8)} (C : Spec k f vs pre (GivesBytes bs))
    {w : World} {mean : ExcName → Option Value} {mg mb : PySem.Str → Option Value} {dp un : Nat} {gd : Option (List Code)} {outer : List Env} {base h₀ : Heap} {L : Addr} {m : PySem.Str → Option Value} {news : List (Addr × Obj)} {env : Env} {s : Shared} {Q E : Value → Shared → Prop}
    (B : Below { handled := none, depth := dp, frames := some outer, guards := gd, units := un } base outer h₀) (X : (hd.heap_39 w.params).In h₀) (T : Top hd.view_39 loose mean mg mb h₀)
    (F : Fr h₀ L s.heap m) (N : News h₀ L s.heap news) (hf : env.frame = some L) (hk : env.scope.kind = .function) (hr : dp + (k + 1) < recursionLimit) (hu : un + (20 * k + 3) < cLine) (hp : pre s.heap)
    (h : ∀ a n us h' tk', Fr h₀ L h' m → News h₀ L h' ((a, listOf us.toArray n) :: news) → BytesAre us bs → Q (.ref a) { s with heap := h', toks := tk' }) :
    wpAny (model PySem.Challenge.rw_nz0270_01.prog w) { handled := none, depth := dp + 1, frames := some (env :: outer), guards := gd, units := un + 3 } (call (.ref f) vs) Q E s := by
  refine call_spec C B X T F N hf hk hr hu hp fun v h' tk' F' N' st hpost => ?_
  obtain ⟨a, n, ys, rfl, hg, hn, hb⟩ := hpost
  exact h a n ys h' tk' F' (news_add F N st hn hg) hb
theorem Fine.of {n : Nat} {news : List (Addr × Obj)} {a : Addr} {k : Nat} {us : List Value} {bs : List (List UInt8)} (hm : (a, listOf us.toArray k) ∈ news) (hb : BytesAre us bs) (h1 : 1 ≤ bs.length) (h5 : bs.length ≤ 5) (hall : ∀ b ∈ bs, b.length ≤ 52 ∧ begins b (markOf n) = false) : Fine n news (.ref a) :=
  ⟨a, k, us, bs, rfl, hm, hb, h1, h5, fun b h => (hall b h).1, fun b h => (hall b h).2⟩
theorem BytesAre.reverse {us : List Value} {bs : List (List UInt8)} (h : BytesAre us bs) : BytesAre us.reverse bs.reverse := by
  induction h with
  | nil => exact .nil
  | cons b t _ ih =>
    rw [List.reverse_cons, List.reverse_cons]
    exact ih.append (.cons b t .nil)
theorem BytesAre.take {us : List Value} {bs : List (List UInt8)} (h : BytesAre us bs) (k : Nat) : BytesAre (us.take k) (bs.take k) := by
  induction h generalizing k with
  | nil => rw [List.take_nil, List.take_nil]; exact .nil
  | cons b t _ ih =>
    cases k with
    | zero => exact .nil
    | succ k => exact .cons b t (ih k)
theorem BytesAre.drop {us : List Value} {bs : List (List UInt8)} (h : BytesAre us bs) (k : Nat) : BytesAre (us.drop k) (bs.drop k) := by
  induction h generalizing k with
  | nil => rw [List.drop_nil, List.drop_nil]; exact .nil
  | cons b t h' ih =>
    cases k with
    | zero => exact .cons b t h'
    | succ k => exact ih k
theorem begins_nil (n : Nat) : begins [] (markOf n) = false := by
  unfold begins
  have e : spans [] 0 = [] := by
    rw [spans, dif_neg (by decide)]
  rw [e]
  rfl
/-- the four lists that the law asks of are fine -/
theorem fine_all {n : Nat} {h₀ h : Heap} {L : Addr} {news : List (Addr × Obj)} {us : List Value} {bs : List (List UInt8)} {a b c d : Addr} {k1 k2 k3 k4 : Nat} {t : Tok} (N : News h₀ L h news) (hb : BytesAre us bs) (h1 : 1 ≤ bs.length) (h4 : bs.length ≤ 4) (hall : ∀ b ∈ bs, b.length ≤ 52 ∧ (50 : UInt8) ∉ b) (hbeg : ∀ b ∈ bs, begins b (markOf n) = false)
    (m1 : (a, listOf us.toArray k1) ∈ news) (m2 : (b, listOf us.reverse.toArray k2) ∈ news) (m3 : (c, listOf (us.drop 1 ++ [Value.bytes #[] t]).toArray k3) ∈ news) (m4 : (d, listOf (us ++ us.take 1).toArray k4) ∈ news) :
    ∀ v ∈ [Value.ref a, .ref b, .ref c, .ref d], Fine n news v := by
  have fine : ∀ b ∈ bs, b.length ≤ 52 ∧ begins b (markOf n) = false := fun b h => ⟨(hall b h).1, hbeg b h⟩
  intro v hv
  simp only [List.mem_cons, List.not_mem_nil, or_false] at hv
  rcases hv with rfl | rfl | rfl | rfl
  · exact Fine.of m1 hb h1 (by omega) fine
  · exact Fine.of m2 hb.reverse (by rw [List.length_reverse]; exact h1) (by rw [List.length_reverse]; omega) fun b h => fine b (List.mem_reverse.mp h)
  · refine Fine.of m3 ((hb.drop 1).append (.cons [] t .nil)) (by rw [List.length_append]; exact Nat.le_add_left _ _) (by rw [List.length_append, List.length_drop, List.length_singleton]; omega) fun b h => ?_
    rcases List.mem_append.mp h with h | h
    · exact fine b (List.mem_of_mem_drop h)
    · rw [List.mem_singleton.mp h]
      exact ⟨by decide, begins_nil n⟩
  · refine Fine.of m4 (hb.append (hb.take 1)) (by rw [List.length_append]; omega) (by rw [List.length_append, List.length_take]; omega) fun b h => ?_
    rcases List.mem_append.mp h with h | h
    · exact fine b h
    · exact fine b (List.mem_of_mem_take h)
end

section
open PySem PySem.W PyProof.Rows PySem.Calls
set_option maxRecDepth 100000
set_option maxHeartbeats 8000000
set_option linter.unusedVariables false
local macro_rules | `(tactic| walk_at "exec For") => `(tactic| (k_here; refine Stop.of ?_))
local macro_rules | `(tactic| walk_at "exec For Tuple Call cons nil") => `(tactic| (k_here; refine Stop.of ?_))
local macro_rules | `(tactic| walk_at "exec For Name Call cons nil") => `(tactic| (k_here; refine Stop.of ?_))
local macro_rules | `(tactic| walk_at "exec For Name Tuple cons nil") => `(tactic| (k_here; refine Stop.of ?_))
local macro_rules | `(tactic| walk_at "call type:range") => `(tactic| (k_here; (with_reducible show wpAny _ _ (call (Value.type "range") [Value.int _ _]) _ _ _); (with_reducible rename Fr _ _ _ _ => F'); (with_reducible rename News _ _ _ _ => N'); (refine range1_rows (s := ⟨_, _, _, _, _⟩) F' N' ?_); intro h' tk' t1 u1 v1 hr' F' N' st'))
local macro_rules | `(tactic| walk_at "call ref") => `(tactic| (k_here; (with_reducible show wpAny _ _ (call (Value.ref _) [Value.ref _, Value.int _ _]) _ _ _); k_dflt (refine' call_draw ?B ?X ?T ?F ?N ?U ?hcm ?hct ?hi ?hx ?hx2 ?ha ?ha2 ?hl ?hf ?hk ?hr ?hu ?_; (case B => assumption); (case X => assumption); (case T => assumption); (case F => k_asm); (case N => k_asm); (case U => (first | exact Upd.head (by assumption) | exact Upd.tail (by assumption) (Upd.head (by assumption)) | exact Upd.tail (by assumption) (Upd.tail (by assumption) (Upd.head (by assumption))) | exact Upd.tail (by assumption) (Upd.tail (by assumption) (Upd.tail (by assumption) (Upd.tail (by assumption) (Upd.tail (by assumption) (Upd.head (by assumption)))))))); (case hct => assumption); (case hi => assumption); (case hcm => (repeat (first | assumption | apply List.mem_cons_of_mem))); (case hx => assumption); (case hx2 => assumption); (case ha => omega); (case ha2 => omega); (case hl => decide); (case hf => exact rfl); (case hk => exact rfl); (case hr => decide); (case hu => decide)); intro v' t' h' tk' hv0' hv1' F' N'))
local macro_rules | `(tactic| walk_at "subscriptTail Name Call ref int") => `(tactic| (k_here; (with_reducible show wpAny _ _ (subscriptTail _ _ (Value.ref _) (Value.int _ _)) _ _ _); k_dflt (refine' bit_item ?X ?h0 ?h9 ?_; (case X => exact (Frag.In.keeps (by assumption) (Fr.keep (by assumption)))); (case h0 => assumption); (case h9 => assumption)); intro b' tb' hb12' hb50'; refine Stop.of ?_))
local macro_rules | `(tactic| walk_at "call builtin:list.append") => `(tactic| (k_here; (with_reducible show wpAny _ _ (call (Value.builtin _) [Value.ref _, _]) _ _ _); k_dflt (refine' append_K ?k1 ?k2 ?k3 ?_ ?z; (case k1 => k_asm); (case k2 => k_asm); (case k3 => exact Upd.tail (by assumption) (Upd.tail (by assumption) (Upd.head (by assumption)))); (case z => (rw [sizeLine_eq, List.size_toArray]; omega)); k_whole); intro h' F' N'; refine Stop.of ?_))
local macro_rules | `(tactic| walk_at "call ref") => `(tactic| (k_here; (with_reducible show wpAny _ _ (call (Value.ref _) [Value.ref _]) _ _ _); k_dflt (refine' call_spec (bfor_spec _ _ _ ?j1 ?j2 ?j3 ?j4) ?B ?X ?T ?F ?N ?hf ?hk ?hr ?hu ?hp ?_; (case B => assumption); (case X => assumption); (case T => assumption); (case F => k_asm); (case N => k_asm); (case hf => exact rfl); (case hk => exact rfl); (case hr => decide); (case hu => decide); (case hp => exact is_list_of (by assumption) (by k_mem)); (case j1 => assumption); (case j2 => omega); (case j3 => assumption); (case j4 => assumption)); intro v' h' tk' F' N' st' hv'; (obtain ⟨n', tn', hn2', hv', hbeg'⟩ := hv'); subst hv'))
local macro_rules | `(tactic| walk_at "compareOp NotEq ref ref") => `(tactic| (k_here; refine Stop.of ?_))
local macro_rules | `(tactic| walk_at "subscriptTail Name Slice ref ref") => `(tactic| (k_here; (with_reducible show wpAny _ _ (subscriptTail _ (Expr.Slice _ _ _ _) (Value.ref _) (Value.ref _)) _ _ _); (with_reducible rename Fr _ _ _ _ => Fs'); (with_reducible rename News _ _ _ _ => Ns'); k_dflt (first
  | (refine' rev_B (s := ⟨_, _, _, _, _⟩) Fs' Ns' ?l ?_ ?hs ?ht ?hz; (case l => k_mem); (case hs => with_unfolding_all rfl); (case ht => (intro _; with_unfolding_all rfl)); (case hz => omega))
  | (refine' from_B (s := ⟨_, _, _, _, _⟩) Fs' Ns' ?l ?_ ?hs ?ht ?hz; (case l => k_mem); (case hs => with_unfolding_all rfl); (case ht => (intro _; with_unfolding_all rfl)); (case hz => omega))
  | (refine' upto_B (s := ⟨_, _, _, _, _⟩) Fs' Ns' ?l ?_ ?hs ?ht ?hz; (case l => k_mem); (case hs => with_unfolding_all rfl); (case ht => (intro _; with_unfolding_all rfl)); (case hz => omega))); intro D' h' F' N'))
local macro_rules | `(tactic| walk_at "binaryOp Add ref ref") => `(tactic| (k_here; (with_reducible show wpAny _ _ (binaryOp Operator.Add (Value.ref _) (Value.ref _)) _ _ _); k_dflt (refine' add_B ?F ?N ?a ?b ?_ ?z; (case F => k_asm); (case N => k_asm); (case a => k_mem); (case b => k_mem); (case z => (simp only [List.length_cons, List.length_nil, List.length_drop, List.length_take]; omega))); intro D' h' F' N'))
local macro_rules | `(tactic| walk_at "call ref") => `(tactic| (k_here; (with_reducible show wpAny _ _ (call (Value.ref _) [Value.ref _, Value.str _ _]) _ _ _); k_dflt (refine' call_bytes (parted_law _ _ _ _ _ ?j1 ?j2 ?j3 ?j4 ?j5) ?B ?X ?T ?F ?N ?hf ?hk ?hr ?hu ?hp ?_; (case B => assumption); (case X => assumption); (case T => assumption); (case F => k_asm); (case N => k_asm); (case hf => exact rfl); (case hk => exact rfl); (case hr => decide); (case hu => decide); (case hp => exact is_list_of (by assumption) (by assumption)); (case j1 => assumption); (case j2 => assumption); (case j3 => assumption); (case j4 => assumption); (case j5 => assumption)); intro a' n' ys' h' tk' F' N' hys'))
local macro_rules | `(tactic| walk_at "call builtin:bytes.join") => `(tactic| (k_here; (with_reducible show wpAny _ _ (call (Value.builtin "bytes.join") [Value.bytes _ _, Value.ref _]) _ _ _); (refine call_join (by assumption) (is_list_of (by assumption) (by k_mem)) (by omega) ?_); intro _ _))
theorem BytesAre.snoc {vs : List Value} {bs : List (List UInt8)} (h : BytesAre vs bs) (b : List UInt8) (t : Tok) : BytesAre (vs ++ [.bytes b.toArray t]) (bs ++ [b]) := by
  induction h with
  | nil => exact .cons _ _ .nil
  | cons _ _ _ ih => exact .cons _ _ ih
/-- what stands ahead of a turn of the law's loop -/
def LawJ (lf tp c : Addr) (tail : List (Addr × Obj)) (i : Nat) (m : PySem.Str → Option Value) (news : List (Addr × Obj)) : Prop :=
  ∃ us bs k at' ta, news = (lf, listOf (us : List Value).toArray k) :: (tp, listOf #[.ref c, .int at' ta] 0) :: tail ∧ BytesAre us bs ∧ bs.length = i ∧ (∀ b ∈ bs, b.length ≤ 52 ∧ (50 : UInt8) ∉ b) ∧ 0 ≤ at' ∧ at' ≤ 1 + 10 * (i : Int) ∧ m (Str.ofString "bodies") = some (.ref lf)
theorem For_law {prog : Program} {w : World} {A : Around} {s : Shared} {env : Env} {h₀ : Heap} {x : PySem.Str} {px pos : Pos} {iter : Expr} {body : List Stmt} {Q : Flow → Shared → Prop} (hh : A.handled = none) {m₀ : PySem.Str → Option Value} {lf tp c : Addr} {t₀ : Tok} {tail : List (Addr × Obj)}
    (F₀ : Fr h₀ env.locals s.heap m₀) (N₀ : News h₀ env.locals s.heap ((lf, listOf #[] 0) :: (tp, listOf #[.ref c, .int 0 t₀] 0) :: tail))
    (hx : env.kindOf x = some .local) (hp : (env.scope.kind == .class || (env.scope.kind == .module && env.locals != env.globals)) = false)
    (h : wpAny (model prog w) A (eval iter env) (fun xv s₁ => Stop <| ∃ r k t u v m ta, xv = .ref r ∧ IsRange s₁.heap r 0 k 1 t u v ∧ 1 ≤ k ∧ k ≤ 4 ∧ Fr h₀ env.locals s₁.heap m ∧ News h₀ env.locals s₁.heap ((lf, listOf #[] 0) :: (tp, listOf #[.ref c, .int 1 ta] 0) :: tail) ∧ m (Str.ofString "bodies") = some (.ref lf) ∧
      (∀ (I : Addr) (it : Obj) (i : Nat) us bs k' at' ta (m₁ : PySem.Str → Option Value) t h tk, (i : Int) < k → I ≠ lf → I ≠ tp → (∀ q ∈ tail, q.1 ≠ I) → BytesAre us bs → bs.length = i → (∀ b ∈ bs, b.length ≤ 52 ∧ (50 : UInt8) ∉ b) → 0 ≤ at' → at' ≤ 1 + 10 * (i : Int) → m₁ (Str.ofString "bodies") = some (.ref lf) →
        Fr h₀ env.locals h (fun y => if y = x then some (.int (0 + (i : Int)) t) else m₁ y) → News h₀ env.locals h ((I, it) :: (lf, listOf us.toArray k') :: (tp, listOf #[.ref c, .int at' ta] 0) :: tail) →
        wpAny (model prog w) A (execs body env) (fun f s₃ => Stop (f = .next ∧ RangeEnd h₀ env.locals I it s₁ (LawJ lf tp c tail (i + 1)) s₃)) (fun _ _ => False) { s₁ with heap := h, toks := tk }) ∧
      (∀ us bs k' at' ta (m₁ : PySem.Str → Option Value) h tk, BytesAre us bs → 1 ≤ bs.length → bs.length ≤ 4 → (∀ b ∈ bs, b.length ≤ 52 ∧ (50 : UInt8) ∉ b) → m₁ (Str.ofString "bodies") = some (.ref lf) → Fr h₀ env.locals h m₁ → News h₀ env.locals h ((lf, listOf us.toArray k') :: (tp, listOf #[.ref c, .int at' ta] 0) :: tail) → Q .next { s₁ with heap := h, toks := tk })) (fun _ _ => False) s)
    (hs : ∀ x, foldedSetIterable iter env x = pure x := by intro _; rfl) :
    wpAny (model prog w) A (exec (.For (.Name x px) iter body [] pos) env) Q (fun _ _ => False) s := by
  refine For_range hh F₀ hx hp (wpAny_mono h (fun xv s₁ h₁ => ?_) fun _ _ e => e) hs
  obtain ⟨r, k, t, u, v, m, ta, rfl, hr, hk1, hk4, F, N, hm, turn, hQ⟩ := h₁
  refine ⟨r, k, t, u, v, m, _, LawJ lf tp c tail, rfl, hr, by omega, by omega, F, N, ⟨[], [], 0, 1, ta, rfl, .nil, rfl, (fun _ hb => nomatch hb), by omega, by omega, hm⟩, ?_, ?_⟩
  · rintro I it i m₁ news₁ t h tk hik hI hnI ⟨us, bs, k', at', ta', rfl, hb, hlen, hall, ha0, ha1, hbm⟩ F₁ N₁
    exact turn I it i us bs k' at' ta' m₁ t h tk hik (Ne.symm (hnI (lf, _) (.head _))) (Ne.symm (hnI (tp, _) (.tail _ (.head _)))) (fun q hq => hnI q (.tail _ (.tail _ hq))) hb hlen hall ha0 ha1 hbm F₁ N₁
  · rintro m₁ news₁ h tk ⟨us, bs, k', at', ta', rfl, hb, hlen, hall, ha0, ha1, hbm⟩ F₁ N₁
    exact hQ us bs k' at' ta' m₁ h tk hb (by omega) (by omega) hall hbm F₁ N₁
theorem ListComp_law {prog : Program} {w : World} {A : Around} {s : Shared} {env : Env} {h₀ : Heap} {elt iter : Expr} {x : PySem.Str} {px : Pos} {scope : Scope} {cl : List (PySem.Str × Addr)} {pos : Pos} {Q : Value → Shared → Prop} {E : Value → Shared → Prop} {L : Addr} {m : PySem.Str → Option Value} (hh : A.handled = none)
    {lf tp c I : Addr} {it : Obj} {us : List Value} {k' : Nat} {at0 : Int} {ta0 : Tok} {tail : List (Addr × Obj)}
    (F₀ : Fr h₀ L s.heap m) (N₀ : News h₀ L s.heap ((I, it) :: (lf, listOf us.toArray k') :: (tp, listOf #[.ref c, .int at0 ta0] 0) :: tail)) (ha0 : 0 ≤ at0)
    (hclos : closureFor scope env = pure cl) (hcell : ∀ y ∈ scope.names, y.2 ≠ .cell) (hkind : scope.kind = .function)
    (hnames : ∀ y ∈ scope.names, y.2 = .local → scope.names.lookup y.1 = some .local) (hx : scope.names.lookup x = some .local)
    (h : wpAny (model prog w) A (eval iter env) (fun xv s₁ => Stop <| ∃ r k t u v ta, xv = .ref r ∧ IsRange s₁.heap r 0 k 1 t u v ∧ 0 ≤ k ∧ k ≤ 4 ∧ Fr h₀ L s₁.heap m ∧ News h₀ L s₁.heap ((I, it) :: (lf, listOf us.toArray k') :: (tp, listOf #[.ref c, .int (at0 + 1) ta] 0) :: tail) ∧
      (∀ (j : Nat) (ys : List Value) (t : Tok) (I2 : Addr) (oI : Obj) (C : Addr) (oC : Obj) (D : Addr) (m₂ : PySem.Str → Option Value) (at' : Int) (ta : Tok) (h : Heap) (tk : Nat) (E' : Value → Shared → Prop), (j : Int) < k → at0 + 1 ≤ at' → at' ≤ at0 + 1 + (j : Int) → LCg.NsObj oC m₂ → m₂ x = some (.int (0 + (j : Int)) t) → Fr h₀ L h m → News h₀ L h ((I2, oI) :: (C, oC) :: (D, LCg.lst ys) :: (I, it) :: (lf, listOf us.toArray k') :: (tp, listOf #[.ref c, .int at' ta] 0) :: tail) →
        LCg.Off3 I2 C D ((I, it) :: (lf, listOf us.toArray k') :: (tp, listOf #[.ref c, .int at' ta] 0) :: tail) → ((@Ne Nat I2 C) ∧ (@Ne Nat I2 D) ∧ (@Ne Nat C D)) → I2 ≠ tp → C ≠ tp → D ≠ tp →
        wpAny (model prog w) A (eval elt (compEnvC scope cl C env)) (fun y s₃ => Stop (∃ b t h' tk' ta', y = .bytes (b : List UInt8).toArray t ∧ b.length ≤ 13 ∧ (50 : UInt8) ∉ b ∧ s₃ = { s₁ with heap := h', toks := tk' } ∧ Fr h₀ L h' m ∧ News h₀ L h' ((I2, oI) :: (C, oC) :: (D, LCg.lst ys) :: (I, it) :: (lf, listOf us.toArray k') :: (tp, listOf #[.ref c, .int (at' + 1) ta'] 0) :: tail))) E' { s₁ with heap := h, toks := tk }) ∧
      (∀ (D : Addr) (ys : List Value) (bl : List (List UInt8)) (at' : Int) (ta : Tok) (h : Heap) (tk : Nat), BytesAre ys bl → bl.length ≤ 4 → (∀ b ∈ bl, b.length ≤ 13 ∧ (50 : UInt8) ∉ b) → 0 ≤ at' → at' ≤ at0 + 5 → Fr h₀ L h m → News h₀ L h ((D, LCg.lst ys) :: (I, it) :: (lf, listOf us.toArray k') :: (tp, listOf #[.ref c, .int at' ta] 0) :: tail) → D ≠ I → D ≠ lf → D ≠ tp → Q (.ref D) { s₁ with heap := h, toks := tk })) E s)
    (hs : ∀ x, foldedSetIterable iter env x = pure x := by intro _; rfl) :
    wpAny (model prog w) A (eval (.ListComp elt [⟨.Name x px, iter, [], 0⟩] scope pos) env) Q E s := by
  refine ListComp_J hh F₀ hclos hcell hkind hnames hx (wpAny_mono h (fun xv s₁ h₁ => ?_) fun _ _ e => e) hs
  obtain ⟨r, k, t, u, v, ta, rfl, hr, hk0, hk4, F, N, turn, hQ⟩ := h₁
  refine ⟨r, k, t, u, v, _, fun j ys news => ∃ bl at' ta, news = (I, it) :: (lf, listOf us.toArray k') :: (tp, listOf #[.ref c, .int at' ta] 0) :: tail ∧ BytesAre ys bl ∧ bl.length = j ∧ (∀ b ∈ bl, b.length ≤ 13 ∧ (50 : UInt8) ∉ b) ∧ at0 + 1 ≤ at' ∧ at' ≤ at0 + 1 + (j : Int),
    rfl, hr, by omega, by omega, F, N, ⟨[], _, ta, rfl, .nil, rfl, (fun _ hb => nomatch hb), Int.le_refl _, by omega⟩, ?_, ?_⟩
  · rintro j ys news₁ t I2 oI C oC D m₂ h tk E' hj ⟨bl, at', ta', rfl, hb, hlen, hall, h1, h2⟩ hC hm F₁ N₁ o3 hne
    have o := LCg.Off3.mem o3 (tp, _) (.tail _ (.tail _ (.head _)))
    refine wpAny_mono (turn j ys t I2 oI C oC D m₂ at' ta' h tk E' hj h1 h2 hC hm F₁ N₁ o3 hne (Ne.symm o.1) (Ne.symm o.2.1) (Ne.symm o.2.2)) (fun y s₃ h₃ => ?_) fun _ _ e => e
    obtain ⟨b, tb, h', tk', ta'', rfl, hb12, hb50, rfl, F₃, N₃⟩ := h₃
    refine ⟨h', tk', _, rfl, F₃, N₃, ?_, bl ++ [b], at' + 1, ta'', rfl, ?_, ?_, ?_, by omega, by omega⟩
    · exact LCg.Off3.of fun p hp => by
        rcases List.mem_cons.mp hp with rfl | hp
        · exact LCg.Off3.mem o3 _ (.head _)
        · rcases List.mem_cons.mp hp with rfl | hp
          · exact LCg.Off3.mem o3 (lf, _) (.tail _ (.head _))
          · rcases List.mem_cons.mp hp with rfl | hp
            · exact LCg.Off3.mem o3 (tp, listOf #[.ref c, .int at' ta'] 0) (.tail _ (.tail _ (.head _)))
            · exact LCg.Off3.mem o3 p (.tail _ (.tail _ (.tail _ hp)))
    · exact hb.snoc b tb
    · rw [List.length_append, List.length_singleton, hlen]
    · intro b' hb'
      rcases List.mem_append.mp hb' with hb' | hb'
      · exact hall b' hb'
      · rw [List.mem_singleton.mp hb']; exact ⟨hb12, hb50⟩
  · rintro D ys news₁ h tk ⟨bl, at', ta', rfl, hb, hlen, hall, h1, h2⟩ F₁ N₁ o1
    exact hQ D ys bl at' ta' h tk hb (by omega) hall (by omega) (by omega) F₁ N₁ (Ne.symm o1.1) (Ne.symm o1.2.1) (Ne.symm o1.2.2.1)
theorem offThird {h₀ h : Heap} {L tp lf : Addr} {o : Obj} {a b c : Addr × Obj} {tail : List (Addr × Obj)} (N : News h₀ L h (a :: b :: c :: (tp, o) :: tail)) (h1 : lf ≠ tp) (h2 : ∀ q ∈ tail, q.1 ≠ lf) : ∀ q ∈ (tp, o) :: tail, q.1 ≠ lf := fun q hq => by
  rcases List.mem_cons.mp hq with rfl | hq
  · exact Ne.symm h1
  · exact h2 q hq
theorem law_turn {h₀ h' : Heap} {L lf tp c I D : Addr} {oD it : Obj} {tail : List (Addr × Obj)} {i k' tk : Nat} {m : PySem.Str → Option Value} {us : List Value} {bs : List (List UInt8)} {b : List UInt8} {t ta : Tok} {at' at0 : Int} {s : Shared} (F : Fr h₀ L h' m) (N : News h₀ L h' ((D, oD) :: (I, it) :: (lf, listOf (us.toArray.push (.bytes b.toArray t)) (k' + 1)) :: (tp, listOf #[.ref c, .int at' ta] 0) :: tail))
    (h1 : I ≠ lf) (h2 : I ≠ tp) (h3 : ∀ q ∈ tail, q.1 ≠ I) (hbs : BytesAre us bs) (hlen : bs.length = i) (hall : ∀ b ∈ bs, b.length ≤ 52 ∧ (50 : UInt8) ∉ b) (hb : b.length ≤ 52) (hb50 : (50 : UInt8) ∉ b) (ha0 : 0 ≤ at') (ha1 : at' ≤ at0 + 5) (ha2 : at0 ≤ 1 + 10 * (i : Int)) (hm : m (Str.ofString "bodies") = some (.ref lf)) :
    RangeEnd h₀ L I it s (LawJ lf tp c tail (i + 1)) { s with heap := h', toks := tk } := by
  rw [List.push_toArray] at N
  refine ⟨h', tk, m, _, rfl, F, fun q hq => N q (.tail _ hq), ?_, us ++ [.bytes b.toArray t], bs ++ [b], k' + 1, at', ta, rfl, hbs.snoc b t, ?_, ?_, ha0, ?_, hm⟩
  · intro q hq
    rcases List.mem_cons.mp hq with rfl | hq
    · exact Ne.symm h1
    · rcases List.mem_cons.mp hq with rfl | hq
      · exact Ne.symm h2
      · exact h3 q hq
  · rw [List.length_append, List.length_singleton, hlen]
  · intro b' hb'
    rcases List.mem_append.mp hb' with hb' | hb'
    · exact hall b' hb'
    · rw [List.mem_singleton.mp hb']; exact ⟨hb, hb50⟩
  · push_cast
    omega
/-- the third of a ledger -/
theorem News.hcTail {h₀ h : Heap} {L c : Addr} {o : Obj} {p q : Addr × Obj} {tail : List (Addr × Obj)} (N : News h₀ L h (p :: q :: (c, o) :: tail)) : (c, o) ∈ (c, o) :: tail := .head _
theorem News.tail2 {h₀ h : Heap} {L : Addr} {p q : Addr × Obj} {tail : List (Addr × Obj)} (N : News h₀ L h (p :: q :: tail)) : News h₀ L h tail := fun x hx => N x (.tail _ (.tail _ hx))
theorem ltAll {h₀ h : Heap} {L tp : Addr} {tail : List (Addr × Obj)} (N : News h₀ L h tail) (a : AllLt tp tail) : ∀ q ∈ tail, q.1 ≠ tp := fun q hq => Nat.ne_of_lt (kst_ltOf a q hq)
theorem t : PySem.Challenge.rw_nz0270_01.Holds := hd (by
  w_strict (w_top off; k_go0; k_steps
            all_goals (
              unfold Stop
              refine wpAny_noRaise ?_
              show wpAny _ { handled := none, depth := 301 + 1, frames := some (_ :: []), guards := some [], units := 4 + 3 } _ _ _ _
              rename Fr _ _ _ _ => F'
              rename News _ _ _ _ => N'
              rename Below _ _ _ _ => K0
              rename (Frag.In _ _) => KX
              have B0 : Below { handled := none, depth := 301, frames := some [], guards := some [], units := 4 } _ [] _ := K0
              rename_i tp _ ltp _ oc dc _ lf _ llf _
              have hn1 : lf ≠ tp := Nat.ne_of_gt llf.1
              have hn2 : _ ≠ tp := Nat.ne_of_lt ltp.1
              obtain ⟨cs, xs, nc, hcm, hcs, hx0, hx63⟩ : ∃ cs xs nc, (_, listOf (cs : List Value).toArray nc) ∈ _ ∧ IntsAre cs xs ∧ 0 < xs.length ∧ xs.length ≤ 63 := by
                first
                | exact ⟨_, _, _, News.hcTail N', by assumption, by assumption, by omega⟩
                | exact ⟨_, _, _, News.hcTail N', .cons _ _ .nil, by decide, by decide⟩
              refine' For_law (h₀ := _) rfl F' N' ?_ ?_ ?_ ?_
              any_goals (first | (with_unfolding_all rfl; done) | (decide; done) | (intro _; rfl))
              have htl1 := ltAll (tp := tp) (News.tail2 N') (by first | exact ⟨ltp.1, ltp.2.1, ltp.2.2, trivial⟩ | exact ⟨ltp.1, ltp.2.1, ltp.2.2.1, ltp.2.2.2, trivial⟩)
              have htl2 := ltAll (tp := lf) (News.tail2 N') (by first | exact ⟨llf.2.1, llf.2.2.1, llf.2.2.2, trivial⟩ | exact ⟨llf.2.1, llf.2.2.1, llf.2.2.2.1, llf.2.2.2.2, trivial⟩)
              (try k_fold)
              k_steps
              unfold Stop
              clear F' N'
              rename Fr _ _ _ _ => F'
              rename News _ _ _ _ => N'
              rename IsRange _ _ _ _ _ _ _ _ => hr'
              refine ⟨_, _, _, _, _, _, _, rfl, hr', by omega, by omega, F', N', rfl, ?_, ?_⟩
              · clear F' N' hr'
                intro I it i us bs k' at' ta m₁ t h tk hik hI1 hI2 hI3 hbs hlen hall ha0 ha1 hbm F₁ N₁
                have F₂ := fr_named [(Str.ofString "bodies", _)] F₁ (by
                  intro q hq
                  simp only [List.mem_cons, List.not_mem_nil, or_false] at hq
                  rcases hq with rfl
                  exact hbm)
                dsimp only [kstB] at F₂
                clear F₁
                (try k_fold)
                k_steps
                unfold Stop
                rename Fr _ _ _ _ => F'
                rename News _ _ _ _ => N'
                refine' ListComp_law rfl F' N' ?_ ?_ ?_ ?_ ?_ ?_ ?_ ?_
                any_goals (first | (with_unfolding_all rfl; done) | (decide; done) | assumption | (intro _; rfl))
                (try k_fold)
                k_steps
                unfold Stop
                clear F' N'
                rename Fr _ _ _ _ => F'
                rename News _ _ _ _ => N'
                rename IsRange _ _ _ _ _ _ _ _ => hr'
                refine ⟨_, _, _, _, _, _, rfl, hr', by omega, by omega, F', N', ?_, ?_⟩
                · clear F' N' hr'
                  intro j ys tj I2 oI C oC D m₂ at₂ ta₂ h₂ tk₂ E' hj hat1 hat2 hC hm F₁ N₁ o3 hne hI2 hC2 hD2
                  (try k_fold)
                  k_steps
                  unfold Stop
                  dsimp only at *
                  exact ⟨_, _, _, _, _, rfl, by assumption, by assumption, rfl, by assumption, by assumption⟩
                · clear F' N' hr'
                  intro D ys bl at₂ ta₂ h₂ tk₂ hys hbl hball hat1 hat2 F₁ N₁ hDI hDlf hDtp
                  have N₂ : News _ _ _ ((D, listOf ys.toArray ys.length) :: _ :: _ :: _) := N₁
                  clear N₁
                  have hfl : bl.flatten.length ≤ 52 := by
                    have h1 := flatten_le (f := id) (k := 13) (bs := bl) fun b hb => (hball b hb).1
                    rw [List.map_id] at h1
                    omega
                  have hf50 : (50 : UInt8) ∉ bl.flatten := fun hm => by
                    obtain ⟨b, hb, hm⟩ := List.mem_flatten.mp hm
                    exact (hball b hb).2 hm
                  have hDlf' := Ne.symm hDlf
                  have husl := hbs.len
                  have htl3 := offThird N₂ hn1 htl2
                  (try k_unfold)
                  (try dsimp only)
                  (try k_fold)
                  k_steps
                  unfold Stop
                  refine wpAny_execs_nil ?_
                  (try k_unfold)
                  (try dsimp only)
                  exact ⟨rfl, law_turn (by assumption) (by assumption) hI1 hI2 hI3 hbs hlen hall hfl hf50 hat1 hat2 ha1 rfl⟩
              · clear F' N' hr'
                intro us bs k' at' ta m₁ h tk hbs hl1 hl4 hall hbm F₁ N₁
                have F₂ := fr_named [(Str.ofString "bodies", _)] F₁ (by
                  intro q hq
                  simp only [List.mem_cons, List.not_mem_nil, or_false] at hq
                  rcases hq with rfl
                  exact hbm)
                dsimp only [kstB] at F₂
                clear F₁
                have hb1000 : ∀ b ∈ bs, b.length ≤ 1000 := fun b hb => Nat.le_trans (hall b hb).1 (by decide)
                have hb50 : ∀ b ∈ bs, (50 : UInt8) ∉ b := fun b hb => (hall b hb).2
                have husl := hbs.len
                refine wpAny_noRaise ?_
                show wpAny _ { handled := none, depth := 301 + 1, frames := some (_ :: []), guards := some [], units := 4 + 3 } _ _ _ _
                (try k_fold)
                k_steps
                unfold Stop
                rename Fr _ _ _ _ => F'
                rename News _ _ _ _ => N'
                rename (∀ b ∈ bs, begins b (markOf _) = false) => hbeg'
                refine wpAny_noRaise ?_
                refine' For_each rfl F' ?_ ?_ ?_ ?_
                any_goals (first | (with_unfolding_all rfl; done) | (decide; done) | (intro _; rfl))
                (try k_fold)
                k_steps
                (try k_unfold)
                (try dsimp only)
                (try clear F')
                (try clear N')
                rename Fr _ _ _ _ => F'
                rename News _ _ _ _ => N'
                refine ⟨_, _, _, _, _, fun m => m (Str.ofString "boundary") = some (.str (bound _) _), rfl, F', N', .head _, rfl, ?_, ?_, ?_⟩
                · intro m m' hm hz
                  exact (hz _ (by decide)).trans hm
                · intro I oI v m' h tk hv hG hm F₁ N₁
                  obtain ⟨a, k, us', bs', rfl, hmem, hbs', h1', h5', h52', hbeg''⟩ := fine_all N' hbs hl1 hl4 hall hbeg' (.tail _ (.tail _ (.tail _ (.tail _ (.tail _ (.tail _ (.tail _ (.head _)))))))) (.tail _ (.tail _ (.tail _ (.tail _ (.tail _ (.tail _ (.head _))))))) (.tail _ (.tail _ (.tail _ (.head _)))) (.tail _ (.head _)) v hv
                  replace hmem : _ ∈ (I, oI) :: _ := .tail _ hmem
                  have F₂ := fr_named [(Str.ofString "some", _), (Str.ofString "boundary", _)] F₁ (by
                    intro q hq
                    simp only [List.mem_cons, List.not_mem_nil, or_false] at hq
                    rcases hq with rfl | rfl <;> assumption)
                  dsimp only [kstB] at F₂
                  clear F₁ F' N'
                  (try k_fold)
                  k_steps
                  unfold Stop
                  rename Fr _ _ _ _ => F'
                  rename News _ _ _ _ => N'
                  rename BytesAre _ _ => hys'
                  refine ne_bytesL (is_list_of N' (.head _)) hys' (is_list_of N' (.tail _ hmem)) hbs' (by show 4 + 3 < cLine; decide) ?_
                  (try k_unfold)
                  (try dsimp only)
                  (try k_fold)
                  k_steps
                  all_goals ((try k_unfold); (try dsimp only))
                  exact EachEnd.of (by assumption) (by assumption) rfl
                · intro m' h tk hG F₁ N₁
                  clear F' N'
                  (try k_fold)
                  k_steps
                  all_goals ((try k_unfold); (try dsimp only))
)))
end

end Mine
end
theorem PySem.Challenge.cw_nz0270_01_holds : PySem.Challenge.rw_nz0270_01.Holds :=
  Mine.t
