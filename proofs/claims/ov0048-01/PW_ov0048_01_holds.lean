import PyProof.Rows.All
import Wide.All
import OpenK.AllK
import Wide.FinOn
import PySem.Challenge.RW_ov0048_01
open PySem PySem.W PyProof.Rows
set_option Elab.async false
set_option linter.unusedVariables false
-- the short macros below name lemmas that stand further down
set_option hygiene false
namespace Mine
set_option maxRecDepth 100000 in
set_option maxHeartbeats 8000000 in
open_top hd for PySem.Challenge.rw_ov0048_01
-- the head leaves the top's lines on: off, as in a file of its own
theorem top_off : True := by
  w_top off
  trivial
end Mine
namespace Mine
open PySem.Spec PySem.Calls
local macro_rules | `(tactic| k_all) => `(tactic| walk_at "MYk_all")
local macro_rules | `(tactic| k_mem) => `(tactic| walk_at "MYk_mem")
local macro_rules | `(tactic| k_room) => `(tactic| walk_at "MYk_room")
local macro_rules | `(tactic| k_units) => `(tactic| walk_at "MYk_units")
local macro_rules | `(tactic| walk_at "call ref") => `(tactic| walk_at "MYcall ref")
local macro_rules | `(tactic| walk_at "getAttr") => `(tactic| walk_at "MYgetAttr")
local macro_rules | `(tactic| walk_at "call builtin:isinstance") => `(tactic| walk_at "MYcall builtin:isinstance")
local macro_rules | `(tactic| walk_at "compareOp In str ref") => `(tactic| walk_at "MYcompareOp In str ref")
local macro_rules | `(tactic| walk_at "compareOp Eq ref ref") => `(tactic| walk_at "MYcompareOp Eq ref ref")
local macro_rules | `(tactic| walk_at "subscriptTail") => `(tactic| walk_at "MYsubscriptTail")
local macro_rules | `(tactic| walk_at "UnrEnd") => `(tactic| walk_at "MYUnrEnd")
local macro_rules | `(tactic| walk_at "call builtin:len") => `(tactic| walk_at "MYcall builtin:len")
local macro_rules | `(tactic| walk_at "compareOp NotIn str ref") => `(tactic| walk_at "MYcompareOp NotIn str ref")
local macro_rules | `(tactic| ktr_room) => `(tactic| walk_at "MYktr_room")
local macro_rules | `(tactic| ktr_units) => `(tactic| walk_at "MYktr_units")
local macro_rules | `(tactic| size_fits) => `(tactic| walk_at "MYsize_fits")
local macro_rules | `(tactic| k_ne) => `(tactic| walk_at "MYk_ne")
local macro_rules | `(tactic| k_updF) => `(tactic| walk_at "MYk_updF")
local macro_rules | `(tactic| k_upd) => `(tactic| walk_at "MYk_upd")
local macro_rules | `(tactic| walk_at "execs cons") => `(tactic| walk_at "MYexecs cons")
local macro_rules | `(tactic| walk_at "callWith ref") => `(tactic| walk_at "MYcallWith ref")
local macro_rules | `(tactic| walk_at "exec For Name Name cons nil") => `(tactic| walk_at "MYexec For Name Name cons nil")
local macro_rules | `(tactic| walk_at "Unr") => `(tactic| walk_at "MYUnr")
local macro_rules | `(tactic| k_enter) => `(tactic| walk_at "MYk_enter")
local macro_rules | `(tactic| walk_at "CompRest") => `(tactic| walk_at "MYCompRest")
local macro_rules | `(tactic| walk_at "binaryOp Add ref ref") => `(tactic| walk_at "MYbinaryOp Add ref ref")
local macro_rules | `(tactic| walk_at "eval ListComp") => `(tactic| walk_at "MYeval ListComp")
local macro_rules | `(tactic| walk_at "exec Assign cons ListComp") => `(tactic| walk_at "MYexec Assign cons ListComp")
local macro_rules | `(tactic| walk_at "CompSrc") => `(tactic| walk_at "MYCompSrc")
local macro_rules | `(tactic| walk_at "CompEnd") => `(tactic| walk_at "MYCompEnd")
local macro_rules | `(tactic| walk_at "FinA") => `(tactic| walk_at "MYFinA")
local macro_rules | `(tactic| walk_at "FinE") => `(tactic| walk_at "MYFinE")
local macro_rules | `(tactic| walk_at "call builtin:list.append") => `(tactic| walk_at "MYcall builtin:list.append")
local macro_rules | `(tactic| walk_at "binaryOp Add int int") => `(tactic| walk_at "MYbinaryOp Add int int")
local macro_rules | `(tactic| walk_at "exec While BoolOp") => `(tactic| walk_at "MYexec While BoolOp")
local macro_rules | `(tactic| walk_at "exec For Name Call cons nil") => `(tactic| walk_at "MYexec For Name Call cons nil")
local macro_rules | `(tactic| walk_at "pyIter ref") => `(tactic| walk_at "MYpyIter ref")
local macro_rules | `(tactic| walk_at "exec If") => `(tactic| walk_at "MYexec If")
local macro_rules | `(tactic| walk_at "exec Assign cons BoolOp") => `(tactic| walk_at "MYexec Assign cons BoolOp")
local macro_rules | `(tactic| walk_at "compareOp NotEq bool bool") => `(tactic| walk_at "MYcompareOp NotEq bool bool")
theorem kw_1 : True := by
  (k_with "MYk_all" => (first | assumption | (refine tbn_neAll ?_; first | tbn_find | exact allLt_of (by assumption) | exact allLt_swap (by assumption) (by tbn_find)) | (refine ne_app ?_ ?_ <;> k_all)))
  (k_with "MYmem" => (first | assumption | exact List.mem_cons_self | (with_reducible exact Slot.mem (by assumption) _) | ((with_reducible refine List.mem_cons_of_mem _ ?_); walk_at "MYmem") | ((with_reducible refine List.mem_append.mpr (Or.inl ?_)); assumption) | ((with_reducible refine List.mem_append.mpr (Or.inr ?_)); walk_at "MYmem")))
  (k_with "MYk_mem" => (walk_at "MYmem"))
  (k_with "MYk_room" => (ktr_room))
  (k_with "MYk_units" => (ktr_units))
  (k_with "MYsub" => ((intro p9 hp9; walk_at "MYmem")))
  (k_with "MYgo" => ((refine wpAny_call ?_; k_dflt ktr_enter; k_steps)))
  (k_with "MYpost" => ((intros; (try dsimp only); (try k_sweep); (try k_fold))))
  (k_with "MYc" => (exact Calm.use (by assumption) (by walk_at "MYsub")))
  (k_with "MYcall ref" => (((with_reducible show wpAny _ _ (call (Value.ref _) _) _ _ _); k_dflt (refine' CallsK.use (by k_asm) (by k_asm) (by k_asm) (by k_asm) (by k_asm) (by first | exact rfl | assumption) (by walk_at "MYc") (by ktr_room) (by ktr_units) ?_; walk_at "MYpost"))))
  (k_with "MYfld" => (exact HasField.up (by assumption) (by walk_at "MYsub")))
  (k_with "MYgetAttr" => (k_dflt (refine HasField.get (by k_asm) (by k_asm) (by k_asm) (by walk_at "MYfld") (by simp only [true_or, or_true]) ?_)))
  (k_with "MYcall builtin:isinstance" => (k_dflt (refine HasField.isi (by k_asm) (by k_asm) (by k_asm) (by walk_at "MYfld") (by first | exact cls_yes | exact cls_no (by first | assumption | decide)) ?_; intro _)))
  (k_with "MYcompareOp In str ref" => ((k_here; k_dflt (refine in_tup (News.isTup (by k_asm) (by k_mem)) (by kde_strs) (VK.not_in _) ?_))))
  (k_with "MYcompareOp Eq ref ref" => ((k_here; k_dflt (first
  | refine eq_items (by k_asm) (by k_mem) (by k_mem) (ItemIs.up (by assumption) (by walk_at "MYsub")) (ItemIs.up (by assumption) (by walk_at "MYsub")) (by ktr_units) ?_
  | refine eq_tags (by k_asm) (by k_mem) (by k_mem) (by assumption) (by assumption) (by ktr_units) ?_))))
  (k_with "MYidx" => (first | decide | (with_reducible exact Int.natCast_nonneg _) | (with_reducible exact small5 (by assumption)) | (with_reducible exact small5s (by assumption)) | omega))
  (k_with "MYsubscriptTail" => ((k_here; (with_reducible show wpAny _ _ (subscriptTail _ _ (Value.ref _) (Value.int _ _)) _ _ _); k_dflt (refine my_item (by k_asm) (by k_mem) (by walk_at "MYidx") (by walk_at "MYidx") (by first | rfl | assumption) ?_ (by with_unfolding_all rfl)))))
  (k_with "MYUnrEnd" => ((refine unrEnd_lt (by assumption) (by assumption) (by first | tbn_find | exact allLt_of (by assumption)) (by k_mem) (by walk_at "MYsub") ?_)))
  (k_with "MYcall builtin:len" => ((k_here; (with_reducible show wpAny _ _ (call (Value.builtin "len") [Value.ref _]) _ _ _); k_dflt (refine dlen (by k_asm) (by k_mem) (by k_asm) (by k_asm) (by first | assumption | exact Nat.zero_le _) ?_))))
  (k_with "MYcompareOp NotIn str ref" => ((k_here; k_dflt (first | refine kdg_notin (knd := PySem.strKind _ _) (by k_asm) (by k_mem) (by k_asm) (by k_asm) (strKind_is _ _ _ _) true (by assumption) ?_ | refine kdg_notin (knd := PySem.strKind _ _) (by k_asm) (by k_mem) (by k_asm) (by k_asm) (strKind_is _ _ _ _) false (by assumption) ?_))))
  (k_with "MYsubscriptTail" => ((k_here; (with_reducible show wpAny _ _ (subscriptTail _ _ (Value.ref _) (Value.str _ _)) _ _ _); k_dflt (refine kda_item (knd := PySem.strKind _ _) (by k_asm) (by k_mem) (by k_asm) (strKind_is _ _ _ _) (by assumption) ?_))))
  (k_with "MYle" => (((with_reducible first | refine le_v ?_ | refine le_u ?_ | refine le_w ?_ | refine le_k ?_ | skip); exact Nat.le_of_ble_eq_true rfl)))
  (k_with "MYktr_room" => (first | exact rm0 (by with_reducible assumption) | exact rm1 (by with_reducible assumption) (by walk_at "MYle") | exact Nat.le_of_ble_eq_true rfl))
  (k_with "MYktr_units" => (first | exact rm1 (by with_reducible assumption) (by walk_at "MYle") | exact un_c rfl))
  (k_with "MYsize_fits" => (exact Nat.le_of_ble_eq_true rfl))
  (k_with "MYar" => (first | exact ar3 (Nat.le_of_ble_eq_true rfl) | exact ar2 (Nat.le_of_ble_eq_true rfl) | exact ar1 (Nat.le_of_ble_eq_true rfl) | exact ar0 (Nat.le_of_ble_eq_true rfl) | omega))
  (k_with "MYpk" => (first | exact pk1 (by with_reducible assumption) | exact pk2 (by with_reducible assumption) | exact pk3 (by with_reducible assumption) | exact pk4 (by with_reducible assumption) | exact pk5 (by with_reducible assumption) | exact pk6 (by with_reducible assumption) | exact pl2 (by with_reducible assumption) | exact pl3 (by with_reducible assumption)))
  (k_with "MYne" => (first | (with_reducible assumption) | exact Ne.symm (by with_reducible assumption) | walk_at "MYpk" | (refine Nat.ne_of_lt ?_; walk_at "MYpk") | (refine Nat.ne_of_gt ?_; walk_at "MYpk")))
  trivial

-- part B
section
variable {dp un a b c r k n N : Nat}
theorem rm0 (h : dp + a < N) : dp < N := Nat.lt_of_le_of_lt (Nat.le_add_right _ _) h
theorem rm1 (h : dp + a < N) (hb : c + b ≤ a) : dp + c + b < N := by rw [Nat.add_assoc]; exact Nat.lt_of_le_of_lt (Nat.add_le_add_left hb _) h
theorem un_c (h : Nat.ble (a + 1) 9900 = true) : a < cLine := by rw [cLine_is]; exact Nat.le_of_ble_eq_true h
theorem le_v (h : c ≤ k) : c + r ≤ r + k := by omega
theorem le_k (h : c + b ≤ k) : c + b ≤ r + k := by omega
theorem le_u (h : c ≤ n * k) : c + n * r ≤ n * (r + k) := by rw [Nat.mul_add]; omega
theorem le_w (h : c + b ≤ n * k) : c + b ≤ n * (r + k) := by rw [Nat.mul_add]; omega
theorem ar0 (h : a ≤ b) : a ≤ r + b := by omega
theorem ar1 (h : a ≤ k + b) : k * n + a ≤ k * (n + 1) + b := by rw [Nat.mul_succ]; omega
theorem ar2 (h : a + c ≤ k + b) : k * n + a + c ≤ k * (n + 1) + b := by rw [Nat.mul_succ]; omega
theorem ar3 (h : a + c ≤ b) : r + a + c ≤ r + b := by omega
end
section
variable {a b c d e f g : Prop}
theorem pk1 (h : a ∧ b) : a := h.1
theorem pk2 (h : a ∧ b ∧ c) : b := h.2.1
theorem pk3 (h : a ∧ b ∧ c ∧ d) : c := h.2.2.1
theorem pk4 (h : a ∧ b ∧ c ∧ d ∧ e) : d := h.2.2.2.1
theorem pk5 (h : a ∧ b ∧ c ∧ d ∧ e ∧ f) : e := h.2.2.2.2.1
theorem pk6 (h : a ∧ b ∧ c ∧ d ∧ e ∧ f ∧ g) : f := h.2.2.2.2.2.1
theorem pl2 (h : a ∧ b) : b := h.2
theorem pl3 (h : a ∧ b ∧ c) : c := h.2.2
end
abbrev Ledger := List (Addr × Obj)
abbrev Spec := (Value → Ledger → Prop) → Prop
/-- a def of the text at f, called with args over the ledger pre: whatever follows, told by spec, follows -/
def CallsK (w : World) (mean : ExcName → Option Value) (mg mb : Str → Option Value) (room units : Nat) (f : Addr) (args : List Value) (pre : Ledger) (spec : Spec) : Prop :=
  ∀ (dp un : Nat) (gd : Option (List Code)) (cn : Str) (cs : Scope) (a : Addr) (ccd : Value) (cl : List (Str × Addr)) (outer : List Env) (A₀ : Around) (base h₀ : Heap) (L : Addr) (m : Str → Option Value) (s : Shared) (Q E : Value → Shared → Prop),
    Below A₀ base outer h₀ → Fr h₀ L s.heap m → (hd.heap_39 w.params).In h₀ → News h₀ L s.heap pre → Top hd.view_39 (looseW hd.view_39 []) mean mg mb h₀ → cs.kind = .function → dp + room < recursionLimit → un + units < cLine →
    spec (fun r new => ∀ h' tk', Fr h₀ L h' m → News h₀ L h' new → Q r { s with heap := h', toks := tk' }) →
    wpAny (model PySem.Challenge.rw_ov0048_01.row.prog w) (ktrTop dp un gd cn cs L a ccd cl outer) (call (.ref f) args) Q E s
/-- the same of a list of ints that stands ahead of the call -/
def CallsL (w : World) (mean : ExcName → Option Value) (mg mb : Str → Option Value) (room units : Nat) (f sc : Addr) (vs : List Value) (pre : Ledger) (spec : Spec) : Prop :=
  ∀ (dp un : Nat) (gd : Option (List Code)) (cn : Str) (cs : Scope) (a : Addr) (ccd : Value) (cl : List (Str × Addr)) (outer : List Env) (A₀ : Around) (base h₀ : Heap) (L : Addr) (m : Str → Option Value) (s : Shared) (Q E : Value → Shared → Prop),
    Below A₀ base outer h₀ → Fr h₀ L s.heap m → (hd.heap_39 w.params).In h₀ → News h₀ L s.heap pre → Top hd.view_39 (looseW hd.view_39 []) mean mg mb h₀ → cs.kind = .function → dp + room < recursionLimit → un + units < cLine →
    h₀.IsList sc vs.toArray →
    spec (fun r new => ∀ h' tk', Fr h₀ L h' m → News h₀ L h' new → Q r { s with heap := h', toks := tk' }) →
    wpAny (model PySem.Challenge.rw_ov0048_01.row.prog w) (ktrTop dp un gd cn cs L a ccd cl outer) (call (.ref f) [.ref sc]) Q E s
theorem News.perm {h₀ h : Heap} {L : Addr} {l l' : Ledger} (N : News h₀ L h l) (hs : ∀ p ∈ l', p ∈ l) : News h₀ L h l' := fun p hp => N p (hs p hp)
section
variable {w : World} {mean : ExcName → Option Value} {mg mb : Str → Option Value} {room units room' units' : Nat} {f sc : Addr} {args vs : List Value} {pre pre' : Ledger} {spec spec' : Spec}
    {dp un : Nat} {gd : Option (List Code)} {cn : Str} {cs : Scope} {a : Addr} {ccd : Value} {cl : List (Str × Addr)} {outer : List Env} {A₀ : Around} {base h₀ : Heap} {L : Addr} {m : Str → Option Value} {s : Shared} {Q E : Value → Shared → Prop}
theorem CallsK.use (B : Below A₀ base outer h₀) (F : Fr h₀ L s.heap m) (X : (hd.heap_39 w.params).In h₀) (N : News h₀ L s.heap pre) (T : Top hd.view_39 (looseW hd.view_39 []) mean mg mb h₀) (hk : cs.kind = .function)
    (C : CallsK w mean mg mb room units f args pre spec) (hd : dp + room < recursionLimit) (hu : un + units < cLine)
    (ret : spec (fun r new => ∀ h' tk', Fr h₀ L h' m → News h₀ L h' new → Q r { s with heap := h', toks := tk' })) :
    wpAny (model PySem.Challenge.rw_ov0048_01.row.prog w) (ktrTop dp un gd cn cs L a ccd cl outer) (call (.ref f) args) Q E s :=
  C _ _ _ _ _ _ _ _ _ _ _ _ _ _ _ _ _ B F X N T hk hd hu ret
theorem CallsL.use (B : Below A₀ base outer h₀) (F : Fr h₀ L s.heap m) (X : (hd.heap_39 w.params).In h₀) (N : News h₀ L s.heap pre) (T : Top hd.view_39 (looseW hd.view_39 []) mean mg mb h₀) (hk : cs.kind = .function)
    (C : CallsL w mean mg mb room units f sc vs pre spec) (hd : dp + room < recursionLimit) (hu : un + units < cLine) (hl : h₀.IsList sc vs.toArray)
    (ret : spec (fun r new => ∀ h' tk', Fr h₀ L h' m → News h₀ L h' new → Q r { s with heap := h', toks := tk' })) :
    wpAny (model PySem.Challenge.rw_ov0048_01.row.prog w) (ktrTop dp un gd cn cs L a ccd cl outer) (call (.ref f) [.ref sc]) Q E s :=
  C _ _ _ _ _ _ _ _ _ _ _ _ _ _ _ _ _ B F X N T hk hd hu hl ret
theorem CallsK.swap (C : CallsK w mean mg mb room units f args pre spec) (hs : ∀ p ∈ pre, p ∈ pre')
    (hp : ∀ K : Value → Ledger → Prop, (∀ r new new', (∀ p ∈ new', p ∈ new) → K r new' → K r new) → spec' K → spec K) : CallsK w mean mg mb room units f args pre' spec' :=
  fun _ _ _ _ _ _ _ _ _ _ _ _ _ _ _ _ _ B F X N T hk hd hu ret =>
    C _ _ _ _ _ _ _ _ _ _ _ _ _ _ _ _ _ B F X (News.perm N hs) T hk hd hu (hp _ (fun _ _ _ q k h' tk' F' N' => k h' tk' F' (News.perm N' q)) ret)
theorem CallsK.wide (C : CallsK w mean mg mb room units f args pre spec) (h1 : room ≤ room') (h2 : units ≤ units') : CallsK w mean mg mb room' units' f args pre spec :=
  fun _ _ _ _ _ _ _ _ _ _ _ _ _ _ _ _ _ B F X N T hk hd hu ret =>
    C _ _ _ _ _ _ _ _ _ _ _ _ _ _ _ _ _ B F X N T hk (Nat.lt_of_le_of_lt (Nat.add_le_add_left h1 _) hd) (Nat.lt_of_le_of_lt (Nat.add_le_add_left h2 _) hu) ret
theorem CallsK.eq {r r' : Value} (C : CallsK w mean mg mb room units f args pre fun K => K r pre) (e : r = r') : CallsK w mean mg mb room units f args pre fun K => K r' pre := e ▸ C
end
/-- the end of a walk: the call's value, the ledger that was there -/
theorem ret_of {h₀ : Heap} {L : Addr} {m : Str → Option Value} {s : Shared} {Q : Value → Shared → Prop} {news led : Ledger} {r r' : Value} {h' : Heap} {tk : Nat}
    (ret : ∀ h' tk', Fr h₀ L h' m → News h₀ L h' news → Q r { s with heap := h', toks := tk' })
    (F : Fr h₀ L h' m) (N : News h₀ L h' led) (hs : ∀ p ∈ news, p ∈ led) (e : r' = r) : Q r' { s with heap := h', toks := tk } := e ▸ ret _ _ F (News.perm N hs)
theorem any_toks {prog : Program} {w : World} {A : Around} {E : Value → Shared → Prop} {α : Type} {T : Sem α} {Q : α → Shared → Prop} {hp : Heap} {g : Array GenState} {d : Drawn} {a : Nat} {o : OsState}
    (h : ∀ tk, wpAny (model prog w) A T Q E { heap := hp, gens := g, drawn := d, toks := tk, os := o }) : wpAny (model prog w) A T Q E { heap := hp, gens := g, drawn := d, toks := a + 1, os := o } := h _
/-- two data are one -/
noncomputable def eqb {α : Type} (x y : α) : Bool := @decide (x = y) (Classical.propDecidable _)
theorem eqb_iff {α : Type} {x y : α} : eqb x y = true ↔ x = y := @decide_eq_true_iff (x = y) (Classical.propDecidable _)
theorem eqb_yes {α : Type} {x y : α} (h : x = y) : eqb x y = true := eqb_iff.mpr h
theorem eqb_no {α : Type} {x y : α} (h : ¬ x = y) : eqb x y = false := Bool.eq_false_iff.mpr fun e => h (eqb_iff.mp e)
theorem eqb_ext {α β : Type} {x y : α} {x' y' : β} (h : x = y ↔ x' = y') : eqb x y = eqb x' y' := Bool.eq_iff_iff.mpr (eqb_iff.trans (h.trans eqb_iff.symm))
theorem eqb_ne {α : Type} {x y : α} (h : (eqb x y) ≠ true) : ¬ x = y := fun e => h (eqb_iff.mpr e)
theorem eqb_dec {α : Type} [DecidableEq α] {x y : α} : decide (x = y) = eqb x y := Bool.eq_iff_iff.mpr (decide_eq_true_iff.trans eqb_iff.symm)

/-- the deck: ints of the cards -/
structure Cards (vs : List Value) : Prop where
  ns : ∃ ns : List Int, IntsAre vs ns ∧ (∀ n ∈ ns, 0 ≤ n ∧ n < 128) ∧ ns.length ≤ 1000
set_option maxRecDepth 100000 in
set_option maxHeartbeats 4000000 in
theorem card0 (w : World) (mean : ExcName → Option Value) (mg mb : Str → Option Value) (d : Addr) (vs : List Value) (n : Nat) (news : Ledger) (k : Int) (t : Tok)
    (hc : Cards vs) (hnd : ∀ p ∈ news, p.1 ≠ d) (h0 : 0 < k) (h1 : k < 1000) :
    CallsK w mean mg mb 10 100 191 [.ref d, .int k t] ((d, listOf vs.toArray n) :: news)
      (fun K => ∀ i t' vs' n', 0 ≤ i → i < k → Cards vs' → K (.int i t') ((d, listOf vs'.toArray n') :: news)) := by
  unfold CallsK; k_fill
  intro dp un gd cn cs a ccd cl outer A₀ base h₀ L m s Q E B F X N T hk hroom hunits ret
  obtain ⟨ns, hi, hb, hl⟩ := hc
  have hvl := hi.length
  have hz : vs.length ≤ 1000 := by omega
  rcases ns with _ | ⟨c, r⟩
  all_goals (
    try (have hpos : 0 < vs.length := by simp only [List.length_cons] at hvl; omega)
    walk_at "MYgo")
  · exact ret _ _ _ _ (by omega) (by omega) ⟨[], hi, hb, hl⟩ _ _ (by assumption) (fun p hp => (by assumption : News h₀ L _ (_ :: _)) p (.tail _ hp))
  · rename decide _ = true => hq
    exact absurd (of_decide_eq_true hq) (by simp)
  · rename IntsAre _ (List.dropLast _) => hI
    refine ret _ _ _ _ (Int.fmod_nonneg_of_pos _ h0) (Int.fmod_lt_of_pos _ h0) ⟨_, hI, fun n hn => hb n (List.dropLast_subset _ hn), ?_⟩ _ _ (by assumption) (fun p hp => (by assumption : News h₀ L _ (_ :: _)) p (.tail _ hp))
    simp only [List.length_dropLast]; omega
theorem UpdF.mem_iff {d : Addr} {o : Obj} {l : Ledger} {g : Obj → Ledger} (U : UpdF d o l g) : (d, o) ∈ l ∧ ∀ o' p, p ∈ g o' ↔ p = (d, o') ∨ (p ∈ l ∧ p.1 ≠ d) := by
  obtain ⟨a, b, rfl, hg, ha, hb⟩ := U.split
  refine ⟨List.mem_append.mpr (.inr (.head _)), fun o' p => ?_⟩
  rw [hg]
  constructor
  · intro h
    rcases List.mem_append.mp h with h | h
    · exact .inr ⟨List.mem_append.mpr (.inl h), ha p h⟩
    · rcases List.mem_cons.mp h with h | h
      · exact .inl h
      · exact .inr ⟨List.mem_append.mpr (.inr (.tail _ h)), hb p h⟩
  · rintro (rfl | ⟨h, hn⟩)
    · exact List.mem_append.mpr (.inr (.head _))
    · rcases List.mem_append.mp h with h | h
      · exact List.mem_append.mpr (.inl h)
      · rcases List.mem_cons.mp h with rfl | h
        · exact absurd rfl hn
        · exact List.mem_append.mpr (.inr (.tail _ h))
theorem card {w : World} {mean : ExcName → Option Value} {mg mb : Str → Option Value} {d : Addr} {vs : List Value} {n : Nat} {pre : Ledger} {g : Obj → Ledger} {k : Int} {t : Tok}
    (U : UpdF d (listOf vs.toArray n) pre g) (hc : Cards vs) (h0 : 0 < k) (h1 : k < 1000) :
    CallsK w mean mg mb 10 100 191 [.ref d, .int k t] pre
      (fun K => ∀ i t' vs' n', 0 ≤ i → i < k → Cards vs' → K (.int i t') (g (listOf vs'.toArray n'))) := by
  obtain ⟨md, mi⟩ := UpdF.mem_iff U
  have hn : ∀ p, p ∈ pre.filter (fun p => decide (p.1 ≠ d)) ↔ p ∈ pre ∧ p.1 ≠ d := fun p => by simp only [List.mem_filter, decide_eq_true_eq]
  refine (card0 w mean mg mb d vs n (pre.filter fun p => decide (p.1 ≠ d)) k t hc (fun p hp => ((hn p).mp hp).2) h0 h1).swap (fun p hp => ?_) fun K mono ret i t' vs' n' a b c => mono _ _ _ (fun p hp => ?_) (ret i t' vs' n' a b c)
  · rcases List.mem_cons.mp hp with rfl | hp
    · exact md
    · exact ((hn p).mp hp).1
  · rcases (mi _ p).mp hp with rfl | h
    · exact .head _
    · exact .tail _ ((hn p).mpr h)
theorem kw_2 : True := by
  (k_with "MYk_ne" => (first | exact ne_above (by assumption) (by tbn_find) | exact Ne.symm (ne_above (by assumption) (by tbn_find)) | exact ne_notIn (by assumption) (by assumption) | (refine neN ?_; (try dsimp only); first | walk_at "MYne" | omega)))
  (k_with "MYk_updF" => (first | exact Slot.upd (by assumption) | (refine' UpdF.app ?u8 ?v8; (case u8 => exact apart_in (by assumption) (by k_mem)); (case v8 => k_updF))))
  (k_with "MYk_upd" => (exact UpdF.upd (by k_updF)))
  trivial
local macro_rules | `(tactic| k_lt $h) => `(tactic| (replace $h := allLt_of $h; (try simp only [allLt_append, AllLt, and_true] at $h:ident)))
theorem kw_3 : True := by
  (k_with "MYexecs cons" => ((refine any_toks ?_; intro _)))
  (k_with "MYexecs cons" => (dsimp only))
  trivial

-- part R
set_option genSizeOf false
/-- what a vector of one holds -/
inductive Item where
  | int (n : Int)
  | none
  | str (s : Str)
  | pair (i j : Int)
/-- the kinds of vectors of one -/
inductive VK where
  | integer | double | logical | character
noncomputable def VK.str : VK → Str
  | .integer => "integer" | .double => "double" | .logical => "logical" | .character => "character"
/-- attributes, whatever their order; none and {} are one -/
structure Attr where
  u : Option Int
  w : Bool
  more : Bool
noncomputable abbrev Attr.no : Attr := ⟨none, false, false⟩
/-- a value of the language -/
inductive D where
  | null
  | sym (s : Str)
  | vec (k : VK) (i : Item) (a : Attr)
  | list1 (x : D) (a : Attr)
  | list2 (x y : D) (a : Attr)
  | call1 (x : D)
  | call2 (x y : D) (t : Option Str)
noncomputable def D.kd : D → Str
  | .null => "NULL"
  | .sym _ => "symbol"
  | .vec k _ _ => k.str
  | .list1 _ _ => "list"
  | .list2 _ _ _ => "list"
  | .call1 _ => "language"
  | .call2 _ _ _ => "language"
noncomputable def D.cls : D → Addr
  | .null => 38
  | .sym _ => 88
  | .vec _ _ _ => 67
  | .list1 _ _ => 67
  | .list2 _ _ _ => 67
  | .call1 _ => 110
  | .call2 _ _ _ => 110
noncomputable def D.attr : D → Attr
  | .vec _ _ a => a
  | .list1 _ a => a
  | .list2 _ _ a => a
  | _ => .no
noncomputable def D.put (a : Attr) : D → D
  | .vec k i _ => .vec k i a
  | .list1 x _ => .list1 x a
  | .list2 x y _ => .list2 x y a
  | d => d
noncomputable abbrev D.strip (d : D) : D := d.put .no
noncomputable def D.kids : D → List D
  | .list1 x _ => [x]
  | .list2 x y _ => [x, y]
  | .call1 x => [x]
  | .call2 x y _ => [x, y]
  | _ => []
noncomputable def D.tags : D → List (Option Str)
  | .call1 _ => [none]
  | .call2 _ _ t => [none, t]
  | _ => []
noncomputable def D.depth : D → Nat
  | .null => 0
  | .sym _ => 0
  | .vec _ _ _ => 0
  | .list1 x _ => x.depth + 1
  | .list2 x y _ => max x.depth y.depth + 1
  | .call1 x => x.depth + 1
  | .call2 x y _ => max x.depth y.depth + 1
theorem D.put_back (d : D) : d.strip.put d.attr = d := by cases d <;> rfl
theorem D.eq_iff {a b : D} : a = b ↔ a.strip = b.strip ∧ a.attr = b.attr :=
  ⟨fun e => e ▸ ⟨rfl, rfl⟩, fun ⟨h1, h2⟩ => by rw [← a.put_back, ← b.put_back, h1, h2]⟩

abbrev Kinds (w : World) := strKind PySem.Challenge.rw_ov0048_01.row.prog w
noncomputable abbrev vecD (h1 h2 h3 h4 h5 : Int) (t0 t1 t2 t3 t4 t5 : Tok) (k : Str) (l : Addr) (av : Value) : Obj :=
  dictOf [⟨h1, .str "kind" t1, .str k t0⟩, ⟨h2, .str "items" t2, .ref l⟩, ⟨h3, .str "attrs" t3, av⟩, ⟨h4, .str "shared" t4, .bool false⟩, ⟨h5, .str "loose" t5, .bool false⟩] 5
noncomputable abbrev nullD (h1 h2 : Int) (t0 t1 t2 : Tok) : Obj := dictOf [⟨h1, .str "kind" t1, .str "NULL" t0⟩, ⟨h2, .str "attrs" t2, .none⟩] 2
noncomputable abbrev symD (h1 h2 h3 : Int) (t0 t1 t2 t3 t4 : Tok) (x : Str) : Obj := dictOf [⟨h1, .str "kind" t1, .str "symbol" t0⟩, ⟨h2, .str "name" t2, .str x t4⟩, ⟨h3, .str "attrs" t3, .none⟩] 3
noncomputable abbrev callD (h1 h2 h3 h4 h5 : Int) (t0 t1 t2 t3 t4 t5 : Tok) (l g : Addr) : Obj :=
  dictOf [⟨h1, .str "kind" t1, .str "language" t0⟩, ⟨h2, .str "items" t2, .ref l⟩, ⟨h3, .str "tags" t3, .ref g⟩, ⟨h4, .str "attrs" t4, .none⟩, ⟨h5, .str "code" t5, .none⟩] 5
/-- objects of the four classes, and their dicts -/
inductive NullAt (news : Ledger) : Addr → Prop where
  | mk {a dx : Addr} {h1 h2 : Int} {t0 t1 t2 : Tok} : (a, instObj 38 dx) ∈ news → (dx, nullD h1 h2 t0 t1 t2) ∈ news → NullAt news a
inductive SymAt (news : Ledger) : Addr → Str → Prop where
  | mk {a dx : Addr} {h1 h2 h3 : Int} {t0 t1 t2 t3 t4 : Tok} {x : Str} : (a, instObj 88 dx) ∈ news → (dx, symD h1 h2 h3 t0 t1 t2 t3 t4 x) ∈ news → SymAt news a x
inductive VecAt (news : Ledger) : Addr → Str → Addr → Value → Prop where
  | mk {a dx l : Addr} {k : Str} {av : Value} {h1 h2 h3 h4 h5 : Int} {t0 t1 t2 t3 t4 t5 : Tok} : (a, instObj 67 dx) ∈ news → (dx, vecD h1 h2 h3 h4 h5 t0 t1 t2 t3 t4 t5 k l av) ∈ news → VecAt news a k l av
inductive CallAt (news : Ledger) : Addr → Addr → Addr → Prop where
  | mk {a dx l g : Addr} {h1 h2 h3 h4 h5 : Int} {t0 t1 t2 t3 t4 t5 : Tok} : (a, instObj 110 dx) ∈ news → (dx, callD h1 h2 h3 h4 h5 t0 t1 t2 t3 t4 t5 l g) ∈ news → CallAt news a l g
/-- the ledger bears an item -/
inductive ItemIs (news : Ledger) : Value → Item → Prop where
  | int {n : Int} {t : Tok} : ItemIs news (.int n t) (.int n)
  | none : ItemIs news .none .none
  | str {s : Str} {t : Tok} : PyData.strOk s = true → ItemIs news (.str s t) (.str s)
  | pair {a : Addr} {i j : Int} {t t' : Tok} {n : Nat} : (a, ({ cls := .type "tuple", data := .seq #[.int i t, .int j t'] n } : Obj)) ∈ news → ItemIs news (.ref a) (.pair i j)
/-- a vector of one without attributes -/
inductive LeafIs (news : Ledger) : Value → VK → Item → Prop where
  | mk {a l : Addr} {k : VK} {v : Value} {i : Item} {n : Nat} : VecAt news a k.str l .none → (l, listOf #[v] n) ∈ news → ItemIs news v i → LeafIs news (.ref a) k i
/-- a dict of attributes -/
inductive KvIs (news : Ledger) : List (Str × Value) → Attr → Prop where
  | empty : KvIs news [] .no
  | u {v : Value} {n : Int} : LeafIs news v .integer (.int n) → KvIs news [("u", v)] ⟨some n, false, false⟩
  | uw {v v' : Value} {n : Int} : LeafIs news v .integer (.int n) → LeafIs news v' .character (.str "k") → KvIs news [("u", v), ("w", v')] ⟨some n, true, false⟩
  | wu {v v' : Value} {n : Int} : LeafIs news v .integer (.int n) → LeafIs news v' .character (.str "k") → KvIs news [("w", v'), ("u", v)] ⟨some n, true, false⟩
  | more {v : Value} : LeafIs news v .integer (.int 1) → KvIs news [("more", v)] ⟨Option.none, false, true⟩
/-- what stands under attrs -/
inductive AttrIs (w : World) (news : Ledger) : Value → Attr → Prop where
  | none : AttrIs w news .none .no
  | dict {a : Addr} {o : Obj} {kvs : List (Str × Value)} {x : Attr} : (a, o) ∈ news → (a == sysModules) = false → o.IsDictOf (Kinds w) kvs → KvIs news kvs x → AttrIs w news (.ref a) x
/-- the ledger bears a text or None -/
inductive TagIs : Value → Option Str → Prop where
  | none : TagIs .none .none
  | str {s : Str} {t : Tok} : PyData.strOk s = true → TagIs (.str s t) (some s)
/-- the ledger bears a value of the language -/
inductive Is (w : World) (news : Ledger) : Value → D → Prop where
  | null {a : Addr} : NullAt news a → Is w news (.ref a) .null
  | sym {a : Addr} {x : Str} : SymAt news a x → Is w news (.ref a) (.sym x)
  | vec {a l : Addr} {k : VK} {v av : Value} {i : Item} {at' : Attr} {n : Nat} : VecAt news a k.str l av → (l, listOf #[v] n) ∈ news → ItemIs news v i → AttrIs w news av at' → Is w news (.ref a) (.vec k i at')
  | list1 {a l : Addr} {v av : Value} {x : D} {at' : Attr} {n : Nat} : VecAt news a "list" l av → (l, listOf #[v] n) ∈ news → Is w news v x → AttrIs w news av at' → Is w news (.ref a) (.list1 x at')
  | list2 {a l : Addr} {v v' av : Value} {x y : D} {at' : Attr} {n : Nat} : VecAt news a "list" l av → (l, listOf #[v, v'] n) ∈ news → Is w news v x → Is w news v' y → AttrIs w news av at' → Is w news (.ref a) (.list2 x y at')
  | call1 {a l g : Addr} {v : Value} {x : D} {n n' : Nat} : CallAt news a l g → (l, listOf #[v] n) ∈ news → (g, listOf #[.none] n') ∈ news → Is w news v x → Is w news (.ref a) (.call1 x)
  | call2 {a l g : Addr} {v v' tv : Value} {x y : D} {tg : Option Str} {n n' : Nat} : CallAt news a l g → (l, listOf #[v, v'] n) ∈ news → (g, listOf #[.none, tv] n') ∈ news → TagIs tv tg → Is w news v x → Is w news v' y → Is w news (.ref a) (.call2 x y tg)
section
variable {w : World} {news news' : Ledger}
theorem VecAt.up {a l : Addr} {k : Str} {av : Value} (h : VecAt news a k l av) (s : ∀ p ∈ news, p ∈ news') : VecAt news' a k l av := by cases h with | mk a b => exact .mk (s _ a) (s _ b)
theorem ItemIs.up {v : Value} {i : Item} (h : ItemIs news v i) (s : ∀ p ∈ news, p ∈ news') : ItemIs news' v i := by
  cases h with
  | int => exact .int
  | none => exact .none
  | str h => exact .str h
  | pair m => exact .pair (s _ m)
theorem LeafIs.up {v : Value} {k : VK} {i : Item} (h : LeafIs news v k i) (s : ∀ p ∈ news, p ∈ news') : LeafIs news' v k i := by
  cases h with
  | mk a c e => exact .mk (a.up s) (s _ c) (e.up s)
theorem KvIs.up {kvs : List (Str × Value)} {a : Attr} (h : KvIs news kvs a) (s : ∀ p ∈ news, p ∈ news') : KvIs news' kvs a := by
  cases h with
  | empty => exact .empty
  | u d => exact .u (d.up s)
  | uw d e => exact .uw (d.up s) (e.up s)
  | wu d e => exact .wu (d.up s) (e.up s)
  | more d => exact .more (d.up s)
theorem AttrIs.up {v : Value} {a : Attr} (h : AttrIs w news v a) (s : ∀ p ∈ news, p ∈ news') : AttrIs w news' v a := by
  cases h with
  | none => exact .none
  | dict a b c d => exact .dict (s _ a) b c (d.up s)
theorem Is.up {v : Value} {d : D} (h : Is w news v d) (s : ∀ p ∈ news, p ∈ news') : Is w news' v d := by
  induction h with
  | null a => cases a with | mk a b => exact .null (.mk (s _ a) (s _ b))
  | sym a => cases a with | mk a b => exact .sym (.mk (s _ a) (s _ b))
  | vec a c d e => exact .vec (a.up s) (s _ c) (d.up s) (e.up s)
  | list1 a c _ e ih => exact .list1 (a.up s) (s _ c) ih (e.up s)
  | list2 a c _ _ e ih1 ih2 => exact .list2 (a.up s) (s _ c) ih1 ih2 (e.up s)
  | call1 a c d _ ih => cases a with | mk a b => exact .call1 (.mk (s _ a) (s _ b)) (s _ c) (s _ d) ih
  | call2 a c d e _ _ ih1 ih2 => cases a with | mk a b => exact .call2 (.mk (s _ a) (s _ b)) (s _ c) (s _ d) e ih1 ih2
end
/-- a field of an object of the four classes -/
inductive HasField (news : Ledger) : Value → Addr → Str → Value → Prop where
  | mk {a C dx : Addr} {es : List DictEntry} {n : Nat} {name : Str} {v : Value} : (C = 38 ∨ C = 67 ∨ C = 88 ∨ C = 110) → (a, instObj C dx) ∈ news → (dx, dictOf es n) ∈ news → getL name es = some (some v) → handedIn v = true → HasField news (.ref a) C name v
theorem HasField.up {news news' : Ledger} {u v : Value} {C : Addr} {name : Str} (h : HasField news u C name v) (s : ∀ p ∈ news, p ∈ news') : HasField news' u C name v := by
  cases h with | mk hC h1 h2 r q => exact .mk hC (s _ h1) (s _ h2) r q
theorem AttrIs.handed {w : World} {news : Ledger} {v : Value} {a : Attr} (h : AttrIs w news v a) : handedIn v = true := by cases h <;> rfl
section
variable {w : World} {news : Ledger} {u av : Value} {x : D} {a l g : Addr} {k : Str}
theorem VecAt.kind (h : VecAt news a k l av) : ∃ t, HasField news (.ref a) 67 "kind" (.str k t) := by cases h with | mk a b => exact ⟨_, .mk (.inr (.inl rfl)) a b rfl rfl⟩
theorem VecAt.items (h : VecAt news a k l av) : HasField news (.ref a) 67 "items" (.ref l) := by cases h with | mk a b => exact .mk (.inr (.inl rfl)) a b rfl rfl
theorem VecAt.attrs (h : VecAt news a k l av) (q : handedIn av = true) : HasField news (.ref a) 67 "attrs" av := by cases h with | mk a b => exact .mk (.inr (.inl rfl)) a b rfl q
theorem CallAt.kind (h : CallAt news a l g) : ∃ t, HasField news (.ref a) 110 "kind" (.str "language" t) := by cases h with | mk a b => exact ⟨_, .mk (.inr (.inr (.inr rfl))) a b rfl rfl⟩
theorem CallAt.items (h : CallAt news a l g) : HasField news (.ref a) 110 "items" (.ref l) := by cases h with | mk a b => exact .mk (.inr (.inr (.inr rfl))) a b rfl rfl
theorem CallAt.tags (h : CallAt news a l g) : HasField news (.ref a) 110 "tags" (.ref g) := by cases h with | mk a b => exact .mk (.inr (.inr (.inr rfl))) a b rfl rfl
theorem CallAt.attrs (h : CallAt news a l g) : HasField news (.ref a) 110 "attrs" .none := by cases h with | mk a b => exact .mk (.inr (.inr (.inr rfl))) a b rfl rfl
theorem Is.kind (h : Is w news u x) : ∃ t, HasField news u x.cls "kind" (.str x.kd t) := by
  cases h with
  | null a => cases a with | mk a b => exact ⟨_, .mk (.inl rfl) a b rfl rfl⟩
  | sym a => cases a with | mk a b => exact ⟨_, .mk (.inr (.inr (.inl rfl))) a b rfl rfl⟩
  | vec a => exact a.kind
  | list1 a => exact a.kind
  | list2 a => exact a.kind
  | call1 a => exact a.kind
  | call2 a => exact a.kind
theorem Is.attrs (h : Is w news u x) : ∃ v, HasField news u x.cls "attrs" v ∧ AttrIs w news v x.attr := by
  cases h with
  | null a => cases a with | mk a b => exact ⟨_, .mk (.inl rfl) a b rfl rfl, .none⟩
  | sym a => cases a with | mk a b => exact ⟨_, .mk (.inr (.inr (.inl rfl))) a b rfl rfl, .none⟩
  | vec a _ _ e => exact ⟨_, a.attrs e.handed, e⟩
  | list1 a _ _ e => exact ⟨_, a.attrs e.handed, e⟩
  | list2 a _ _ _ e => exact ⟨_, a.attrs e.handed, e⟩
  | call1 a => exact ⟨_, a.attrs, .none⟩
  | call2 a => exact ⟨_, a.attrs, .none⟩
theorem Is.name {s : Str} (h : Is w news u (.sym s)) : ∃ t, HasField news u 88 "name" (.str s t) := by
  cases h with | sym a => cases a with | mk a b => exact ⟨_, .mk (.inr (.inr (.inl rfl))) a b rfl rfl⟩
theorem Is.item {k : VK} {i : Item} {at' : Attr} (h : Is w news u (.vec k i at')) : ∃ l v n, HasField news u 67 "items" (.ref l) ∧ (l, listOf #[v] n) ∈ news ∧ ItemIs news v i := by
  cases h with | vec a b c => exact ⟨_, _, _, a.items, b, c⟩
/-- the parts of a list, of a call -/
inductive Kids (w : World) (news : Ledger) : List Value → List D → Prop where
  | one {v : Value} {x : D} : Is w news v x → Kids w news [v] [x]
  | two {v v' : Value} {x y : D} : Is w news v x → Is w news v' y → Kids w news [v, v'] [x, y]
inductive Tags : List Value → List (Option Str) → Prop where
  | one : Tags [.none] [none]
  | two {v : Value} {t : Option Str} : TagIs v t → Tags [.none, v] [none, t]
theorem Is.list (h : Is w news u x) (hk : x.kids ≠ []) : ∃ l vs n, HasField news u x.cls "items" (.ref l) ∧ (l, listOf vs.toArray n) ∈ news ∧ Kids w news vs x.kids := by
  cases h with
  | list1 a b c => exact ⟨_, _, _, a.items, b, .one c⟩
  | list2 a b c d => exact ⟨_, _, _, a.items, b, .two c d⟩
  | call1 a b _ c => exact ⟨_, _, _, a.items, b, .one c⟩
  | call2 a b _ _ c d => exact ⟨_, _, _, a.items, b, .two c d⟩
  | _ => exact absurd rfl hk
theorem Is.tagv (h : Is w news u x) (hk : x.tags ≠ []) : ∃ g tvs n, HasField news u 110 "tags" (.ref g) ∧ (g, listOf tvs.toArray n) ∈ news ∧ Tags tvs x.tags := by
  cases h with
  | call1 a _ b => exact ⟨_, _, _, a.tags, b, .one⟩
  | call2 a _ b c => exact ⟨_, _, _, a.tags, b, .two c⟩
  | _ => exact absurd rfl hk
end
section
variable {w : World} {A : Around} {E : Value → Shared → Prop} {s : Shared} {h₀ : Heap} {L C : Addr} {m : Str → Option Value} {news : Ledger} {u v : Value} {name : Str} {Q : Value → Shared → Prop}
set_option maxRecDepth 100000 in
theorem HasField.get {expr : Bool} (F : Fr h₀ L s.heap m) (X : (hd.heap_39 w.params).In h₀) (N : News h₀ L s.heap news) (H : HasField news u C name v) (hn : name = "kind" ∨ name = "attrs" ∨ name = "items" ∨ name = "tags" ∨ name = "name") (h : Q v { s with toks := s.toks + 1 }) :
    wpAny (model PySem.Challenge.rw_ov0048_01.row.prog w) A (getAttr u name expr) Q E s := by
  revert F X
  k_fill
  intro F X
  cases H with | mk hC ha hd hg hh =>
  have I := InstAt.of_news N ha hd
  rcases hC with rfl | rfl | rfl | rfl <;> rcases hn with rfl | rfl | rfl | rfl | rfl
  all_goals (refine' get_own F X I ?a ?b ?c ?d hg hh h; (case a => k_dflt k_is); (case b => k_dflt k_is); (case c => k_dflt k_is); (case d => k_dflt k_is))
set_option maxRecDepth 100000 in
theorem HasField.isi {b : Bool} (F : Fr h₀ L s.heap m) (X : (hd.heap_39 w.params).In h₀) (N : News h₀ L s.heap news) (H : HasField news u C name v) (hb : (C == 67) = b) (h : ∀ tk, Q (.bool b) { s with toks := tk }) :
    wpAny (model PySem.Challenge.rw_ov0048_01.row.prog w) A (call (.builtin "isinstance") [u, .ref 67]) Q E s := by
  revert F X
  k_fill
  intro F X
  cases H with | mk hC ha hd hg hh =>
  have I := InstAt.of_news N ha hd
  have X' := Frag.In.keeps X (Fr.keep F)
  subst hb
  rcases hC with rfl | rfl | rfl | rfl
  all_goals first
    | exact isi_call X' (fun M => InstAt.type I) (by k_dflt k_is) (by intro e; cases e) (h s.toks)
    | (refine' kin_callC X' I ?k3 ?k4 ?k5 ?k6 ?k7 ?k8 ?k9 (h _); (case k3 => kin_no); (case k4 => k_dflt k_is); (case k5 => k_dflt k_is); (case k6 => k_dflt k_is); (case k7 => k_dflt k_is); (case k8 => k_dflt k_is); (case k9 => k_dflt k_is))
end

-- part K
section
variable {prog : Program} {w : World} {A : Around} {s : Shared} {env : Env} {h₀ : Heap} {E : Value → Shared → Prop} {Q : Flow → Shared → Prop} {target : Expr} {body : List Stmt} {m : Str → Option Value} {news : Ledger} {d : Addr} {o : Obj} {kvs : List (Str × Value)}

theorem Iter_keys (hh : A.handled = none) (hm : (d, o) ∈ news) (hd : o.IsDictOf (PySem.strKind prog w) kvs) (lo : (d == sysModules) = false) (F : Fr h₀ env.locals s.heap m) (N : News h₀ env.locals s.heap news)
    (h : ∀ hI, Unr prog w A E h₀ env target body Q (fun i v => ∃ x xv t, kvs[i]? = some (x, xv) ∧ v = .str x t) [s.heap.objs.size, d] { s with heap := hI } kvs.length 0 m news) :
    wpAny (model prog w) A (pyIter (.ref d)) (fun it s₂ => UnrAt prog w A h₀ env target body Q E it s₂) E s := by
  have hdo : s.heap.DictOf (PySem.strKind prog w) d kvs := kda_dict N hm hd
  obtain ⟨ep, hat⟩ := hdo.dictAt
  refine wpAny_pyIter_dict lo hat ?_
  have hne : d ≠ s.heap.objs.size := Nat.ne_of_lt hat.lt_size
  refine ⟨s.heap.objs.size, [s.heap.objs.size, d], [s.heap.objs.size], kvs.length, _, _, m, news, rfl,
    (Walks.dictKeys (knd := PySem.strKind prog w) hh _ d hne kvs ep).weaken (P' := fun i v => ∃ x xv t, kvs[i]? = some (x, xv) ∧ v = .str x t) ?_, ?_, ?_, ?_,
    ⟨⟨_, Heap.get?_push_size _ rfl, rfl, rfl⟩, hat.push _⟩, F.push _, fun p hp => ⟨Heap.get?_push_of_some _ (N p hp).1, (N p hp).2⟩, fun i s' v Q' st hQ' => letGo_keyiter st.1 hQ', h _⟩
  · rintro i v ⟨k, xv, hx, hkey⟩
    obtain ⟨t, rfl⟩ := Value.isStrOf_shape hkey
    exact ⟨k, xv, t, hx, rfl⟩
  · intro hm'
    rcases List.mem_cons.mp hm' with e | hm'
    · exact absurd F.ns.lt (e ▸ Nat.lt_irrefl _)
    · exact (N _ hm).2.1 (List.mem_singleton.mp hm').symm
  · intro b hb
    rw [List.mem_singleton.mp hb]
    exact next_is_new F
  · intro p hp hI
    exact absurd (Heap.lt_size (N p hp).1) ((List.mem_singleton.mp hI) ▸ Nat.lt_irrefl _)
end
theorem my_item {prog : Program} {w : World} {A : Around} {E : Value → Shared → Prop} {s : Shared} {h₀ : Heap} {L l : Addr} {news : Ledger} {n : Nat} {value slice : PySem.Expr} {vs : List Value} {k : Int} {u : Tok} {v : Value} {Q : Value → Shared → Prop}
    (N : News h₀ L s.heap news) (hm : (l, listOf vs.toArray n) ∈ news) (h0 : 0 ≤ k) (hhi : k < 2 ^ 63) (hx : vs[k.toNat]? = some v) (h : Q v s)
    (hs : subscripted slice false (.ref l) (.int k u) = operate [.ref l, .int k u] (getItem (.ref l) (.int k u)) := by with_unfolding_all rfl) :
    wpAny (model prog w) A (subscriptTail value slice (.ref l) (.int k u)) Q E s :=
  have hl : s.heap.IsList l vs.toArray := News.isList N hm
  tail_any hl.typeIs slot_list_getitem.lookup (wpAny_getItem_list hl h0 hhi (by simpa using hx) h) hs
theorem unrEnd_lt {h₀ : Heap} {L I : Addr} {it : Obj} {rest : (Str → Option Value) → List (Addr × Obj) → Prop} {s₁ : Shared} {h' : Heap} {tk : Nat} {m' : Str → Option Value} {all news' : List (Addr × Obj)} (F : Fr h₀ L h' m') (N : News h₀ L h' all)
    (off : AllLt I news') (hI : (I, it) ∈ all) (sub : ∀ p ∈ news', p ∈ all) (r : rest m' news') : UnrEnd h₀ L s₁ I it rest { s₁ with heap := h', toks := tk } :=
  UnrEnd.intro F N news' (List.forall_mem_cons.mpr ⟨hI, sub⟩) (tbn_neAll off) r
theorem cat2 {prog : Program} {w : World} {A : Around} {E : Value → Shared → Prop} {s : Shared} {h₀ : Heap} {L : Addr} {m : Str → Option Value} {news : Ledger} {l b : Addr} {vs ws : List Value} {n n' : Nat} {Q : Value → Shared → Prop} (F : Fr h₀ L s.heap m) (N : News h₀ L s.heap news)
    (ml : (l, listOf vs.toArray n) ∈ news) (mb : (b, listOf ws.toArray n') ∈ news) (hsz : vs.length + ws.length ≤ 1000)
    (h : ∀ a h', Fr h₀ L h' m → News h₀ L h' ((a, listOf (vs ++ ws).toArray 0) :: news) → AllLt a news → Q (.ref a) { s with heap := h' }) :
    wpAny (model prog w) A (binaryOp .Add (.ref l) (.ref b)) Q E s :=
  add_lists F N (News.isList N ml) (News.isList N mb) (fun h' F' N' => h _ h' F' N' (allLt_of fun p hp => Heap.lt_size (N p hp).1)) (by rw [sizeLine_eq]; omega)
section
variable {prog : Program} {w : World} {A : Around} {E : Value → Shared → Prop} {s : Shared} {h₀ : Heap} {L d : Addr} {news : Ledger} {o : Obj} {kvs : List (Str × Value)} {Q : Value → Shared → Prop}
theorem dlen (N : News h₀ L s.heap news) (hp : (d, o) ∈ news) (hd : o.IsDictOf (PySem.strKind prog w) kvs) (lo : (d == sysModules) = false) (hz : kvs.length ≤ 2) (h : Q (.int kvs.length (s.toks + 1)) { s with toks := s.toks + 1 + 1 }) :
    wpAny (model prog w) A (call (.builtin "len") [.ref d]) Q E s := kda_len N hp hd lo (Nat.le_trans hz (by decide)) h
end
noncomputable def Item.data : Item → PyData
  | .int n => .int n
  | .none => .none
  | .str s => .str s
  | .pair i j => .tuple [.int i, .int j]
noncomputable def tagData : Option Str → PyData
  | none => .none
  | some s => .str s
theorem item_eqv (i j : Item) : PyData.eqv i.data j.data = eqb i j := by
  rw [Bool.eq_iff_iff, eqb_iff]
  cases i <;> cases j <;> simp [Item.data, PyData.eqv, PyData.eqvAll]
theorem tag_eqv (i j : Option Str) : PyData.eqv (tagData i) (tagData j) = eqb i j := by
  rw [Bool.eq_iff_iff, eqb_iff]
  cases i <;> cases j <;> simp [tagData, PyData.eqv]
section
variable {h₀ h : Heap} {L : Addr} {news : Ledger}
theorem ItemIs.reads {v : Value} {i : Item} (N : News h₀ L h news) (H : ItemIs news v i) : Reads h v i.data [] := by
  cases H with
  | int => exact Reads.int _ _
  | none => exact Reads.none
  | str _ => exact Reads.str _ _
  | pair m => exact reads_tuple_at (N _ m).1 rfl rfl (readsAll_cons_val (Reads.int _ _) (readsAll_cons_val (Reads.int _ _) ReadsAll.nil))
theorem TagIs.reads {v : Value} {i : Option Str} (H : TagIs v i) : Reads h v (tagData i) [] := by
  cases H with
  | none => exact Reads.none
  | str _ => exact Reads.str _ _
theorem Tags.reads {vs : List Value} {ts : List (Option Str)} (H : Tags vs ts) : ReadsAll h vs (ts.map tagData) [] := by
  cases H with
  | one => exact readsAll_cons_val Reads.none ReadsAll.nil
  | two a => exact readsAll_cons_val Reads.none (readsAll_cons_val a.reads ReadsAll.nil)
theorem item_shaped {v : Value} {i : Item} (H : ItemIs news v i) : PySem.SeqAt.shaped (.list [i.data]) = true := by
  cases H with
  | str h => simp only [Item.data, SeqAt.shaped, PyData.canLay0, PyData.canLayAll0, PyData.depth, PyData.depthAll, h]; rfl
  | _ => rfl
theorem tags_shaped {vs : List Value} {ts : List (Option Str)} (H : Tags vs ts) : PySem.SeqAt.shaped (.list (ts.map tagData)) = true := by
  cases H with
  | one => rfl
  | two a => cases a with
    | none => rfl
    | str h => simp only [List.map, tagData, SeqAt.shaped, PyData.canLay0, PyData.canLayAll0, PyData.depth, PyData.depthAll, h]; rfl
theorem tags_eqv {vs vs' : List Value} {ts ts' : List (Option Str)} (H : Tags vs ts) (H' : Tags vs' ts') : PyData.eqv (.list (ts.map tagData)) (.list (ts'.map tagData)) = eqb ts ts' := by
  rw [Bool.eq_iff_iff, eqb_iff]
  cases H <;> cases H' <;> simp only [List.map, PyData.eqv, PyData.eqvAll, tag_eqv, eqb_iff, Bool.and_eq_true, Bool.and_true, List.cons.injEq] <;> simp [tagData, PyData.eqv]
variable {prog : Program} {w : World} {A : Around} {E : Value → Shared → Prop} {s : Shared} {a b : Addr} {n n' : Nat} {Q : Value → Shared → Prop}
theorem eq_items {v v' : Value} {i j : Item} (N : News h₀ L s.heap news) (ma : (a, listOf #[v] n) ∈ news) (mb : (b, listOf #[v'] n') ∈ news) (hi : ItemIs news v i) (hj : ItemIs news v' j) (hu : A.units + 64 < cLine) (h : Q (.bool (eqb i j)) s) :
    wpAny (model prog w) A (compareOp .Eq (.ref a) (.ref b)) Q E s := by
  refine eq_dataH (reads_list_at (N _ ma).1 rfl rfl (readsAll_cons_val (hi.reads N) ReadsAll.nil)) (reads_list_at (N _ mb).1 rfl rfl (readsAll_cons_val (hj.reads N) ReadsAll.nil)) (item_shaped hi) (item_shaped hj) hu ?_
  simpa [PyData.eqv, PyData.eqvAll, item_eqv] using h
theorem eq_tags {vs vs' : List Value} {ts ts' : List (Option Str)} (N : News h₀ L s.heap news) (ma : (a, listOf vs.toArray n) ∈ news) (mb : (b, listOf vs'.toArray n') ∈ news) (hi : Tags vs ts) (hj : Tags vs' ts') (hu : A.units + 64 < cLine) (h : Q (.bool (eqb ts ts')) s) :
    wpAny (model prog w) A (compareOp .Eq (.ref a) (.ref b)) Q E s := by
  refine eq_dataH (reads_list_at (N _ ma).1 rfl rfl hi.reads) (reads_list_at (N _ mb).1 rfl rfl hj.reads) (tags_shaped hi) (tags_shaped hj) hu ?_
  rw [tags_eqv hi hj]
  exact h
theorem in_tup {t : Addr} {its : Array Value} {ys : List Str} {x : Str} {u : Tok} {c : Bool} (ht : IsTup s.heap t its) (hi : StrsAre its.toList ys) (hb : (ys.any (· == x)) = c) (h : Q (.bool c) s) : wpAny (model prog w) A (compareOp .In (.str x u) (.ref t)) Q E s :=
  in_tuple_strs ht hi (by rw [hb]; exact h)
end
theorem VK.str_inj {k k' : VK} (h : k.str = k'.str) : k = k' := by
  cases k <;> cases k' <;> first | rfl | exact absurd h (by simp only [VK.str]; decide)
theorem VK.not_in (k : VK) : ((["list", "expression", "pairlist"] : List Str).any (· == k.str)) = false := by cases k <;> rfl
theorem VK.not_lang (k : VK) : ¬ k.str = "language" := by cases k <;> (simp only [VK.str]; decide)
theorem cls_yes : ((67 : Addr) == 67) = true := rfl
theorem cls_no {C : Addr} (h : ¬ C = 67) : (C == 67) = false := Bool.eq_false_iff.mpr fun e => h (beq_iff_eq.mp e)
def Stop (P : Prop) : Prop := P
theorem stop_here {P : Prop} (h : Stop P) : P := h

-- part S
/-- a call that changes nothing of the ledger -/
def Calm (w : World) (mean : ExcName → Option Value) (mg mb : Str → Option Value) (room units : Nat) (f : Addr) (args : List Value) (news : Ledger) (r : Value) : Prop :=
  ∀ led, (∀ p ∈ news, p ∈ led) → CallsK w mean mg mb room units f args led fun K => K r led
theorem Calm.use {w : World} {mean : ExcName → Option Value} {mg mb : Str → Option Value} {room units : Nat} {f : Addr} {args : List Value} {news led : Ledger} {r : Value}
    (h : Calm w mean mg mb room units f args news r) (s : ∀ p ∈ news, p ∈ led) : CallsK w mean mg mb room units f args led fun K => K r led := h led s
/-- how the items of two lists compare -/
inductive SiIs (C : Value → Value → Bool → Prop) : List Value → List Value → Bool → Prop where
  | ne1 {a b c : Value} : SiIs C [a] [b, c] false
  | ne2 {a b c : Value} : SiIs C [a, b] [c] false
  | one {a b : Value} {x : Bool} : C a b x → SiIs C [a] [b] x
  | two {a b c d : Value} {x y : Bool} : C a b x → C c d y → SiIs C [a, c] [b, d] (x && y)
section
variable {w : World} {mean : ExcName → Option Value} {mg mb : Str → Option Value} {room units : Nat} {news : Ledger}
theorem kw_4 : True := by
  (k_with "MYcallWith ref" => ((k_here; k_dflt (refine callWith_K (by k_asm) (by assumption) ?_))))
  trivial
set_option maxRecDepth 100000 in
set_option maxHeartbeats 4000000 in
theorem si_ok {l l' f : Addr} {n n' : Nat} {vs vs' : List Value} {b : Bool} (hf : f = 163 ∨ f = 177) (H : SiIs (fun x y b => Calm w mean mg mb room units f [x, y] news (.bool b)) vs vs' b) (m1 : (l, listOf vs.toArray n) ∈ news) (m2 : (l', listOf vs'.toArray n') ∈ news) :
    CallsK w mean mg mb (room + 10) (units + 100) 128 [.ref l, .ref l', .ref f] news (fun K => K (.bool b) news) := by
  unfold CallsK; k_fill
  intro dp un gd cn cs a ccd cl outer A₀ base h₀ L m s Q E B F X N T hk hroom hunits ret
  have hf9 : keepIn (hd.heap_39 w.params) (.ref f) = true := by rcases hf with rfl | rfl <;> k_dflt k_is
  cases H
  all_goals walk_at "MYgo"
  all_goals exact ret_of ret (by assumption) (by assumption) (by walk_at "MYsub") (congrArg Value.bool (by simp_all))
end
theorem kw_5 : True := by
  k_with_none
  (k_with "MYk_all" => (first | assumption | (refine tbn_neAll ?_; first | tbn_find | exact allLt_of (by assumption) | exact allLt_swap (by assumption) (by tbn_find)) | (refine ne_app ?_ ?_ <;> k_all)))
  (k_with "MYmem" => (first | assumption | exact List.mem_cons_self | (with_reducible exact Slot.mem (by assumption) _) | ((with_reducible refine List.mem_cons_of_mem _ ?_); walk_at "MYmem") | ((with_reducible refine List.mem_append.mpr (Or.inl ?_)); assumption) | ((with_reducible refine List.mem_append.mpr (Or.inr ?_)); walk_at "MYmem")))
  (k_with "MYk_mem" => (walk_at "MYmem"))
  (k_with "MYk_room" => (ktr_room))
  (k_with "MYk_units" => (ktr_units))
  (k_with "MYsub" => ((intro p9 hp9; walk_at "MYmem")))
  (k_with "MYgo" => ((refine wpAny_call ?_; k_dflt ktr_enter; k_steps)))
  (k_with "MYpost" => ((intros; (try dsimp only); (try k_sweep); (try k_fold))))
  (k_with "MYc" => (exact Calm.use (by assumption) (by walk_at "MYsub")))
  (k_with "MYcall ref" => (((with_reducible show wpAny _ _ (call (Value.ref _) _) _ _ _); k_dflt (refine' CallsK.use (by k_asm) (by k_asm) (by k_asm) (by k_asm) (by k_asm) (by first | exact rfl | assumption) (by walk_at "MYc") (by ktr_room) (by ktr_units) ?_; walk_at "MYpost"))))
  (k_with "MYfld" => (exact HasField.up (by assumption) (by walk_at "MYsub")))
  (k_with "MYgetAttr" => (k_dflt (refine HasField.get (by k_asm) (by k_asm) (by k_asm) (by walk_at "MYfld") (by simp only [true_or, or_true]) ?_)))
  (k_with "MYcall builtin:isinstance" => (k_dflt (refine HasField.isi (by k_asm) (by k_asm) (by k_asm) (by walk_at "MYfld") (by first | exact cls_yes | exact cls_no (by first | assumption | decide)) ?_; intro _)))
  (k_with "MYcompareOp In str ref" => ((k_here; k_dflt (refine in_tup (News.isTup (by k_asm) (by k_mem)) (by kde_strs) (VK.not_in _) ?_))))
  (k_with "MYcompareOp Eq ref ref" => ((k_here; k_dflt (first
  | refine eq_items (by k_asm) (by k_mem) (by k_mem) (ItemIs.up (by assumption) (by walk_at "MYsub")) (ItemIs.up (by assumption) (by walk_at "MYsub")) (by ktr_units) ?_
  | refine eq_tags (by k_asm) (by k_mem) (by k_mem) (by assumption) (by assumption) (by ktr_units) ?_))))
  (k_with "MYidx" => (first | decide | (with_reducible exact Int.natCast_nonneg _) | (with_reducible exact small5 (by assumption)) | (with_reducible exact small5s (by assumption)) | omega))
  (k_with "MYsubscriptTail" => ((k_here; (with_reducible show wpAny _ _ (subscriptTail _ _ (Value.ref _) (Value.int _ _)) _ _ _); k_dflt (refine my_item (by k_asm) (by k_mem) (by walk_at "MYidx") (by walk_at "MYidx") (by first | rfl | assumption) ?_ (by with_unfolding_all rfl)))))
  (k_with "MYUnrEnd" => ((refine unrEnd_lt (by assumption) (by assumption) (by first | tbn_find | exact allLt_of (by assumption)) (by k_mem) (by walk_at "MYsub") ?_)))
  (k_with "MYcall builtin:len" => ((k_here; (with_reducible show wpAny _ _ (call (Value.builtin "len") [Value.ref _]) _ _ _); k_dflt (refine dlen (by k_asm) (by k_mem) (by k_asm) (by k_asm) (by first | assumption | exact Nat.zero_le _) ?_))))
  (k_with "MYcompareOp NotIn str ref" => ((k_here; k_dflt (first | refine kdg_notin (knd := PySem.strKind _ _) (by k_asm) (by k_mem) (by k_asm) (by k_asm) (strKind_is _ _ _ _) true (by assumption) ?_ | refine kdg_notin (knd := PySem.strKind _ _) (by k_asm) (by k_mem) (by k_asm) (by k_asm) (strKind_is _ _ _ _) false (by assumption) ?_))))
  (k_with "MYsubscriptTail" => ((k_here; (with_reducible show wpAny _ _ (subscriptTail _ _ (Value.ref _) (Value.str _ _)) _ _ _); k_dflt (refine kda_item (knd := PySem.strKind _ _) (by k_asm) (by k_mem) (by k_asm) (strKind_is _ _ _ _) (by assumption) ?_))))
  (k_with "MYle" => (((with_reducible first | refine le_v ?_ | refine le_u ?_ | refine le_w ?_ | refine le_k ?_ | skip); exact Nat.le_of_ble_eq_true rfl)))
  (k_with "MYktr_room" => (first | exact rm0 (by with_reducible assumption) | exact rm1 (by with_reducible assumption) (by walk_at "MYle") | exact Nat.le_of_ble_eq_true rfl))
  (k_with "MYktr_units" => (first | exact rm1 (by with_reducible assumption) (by walk_at "MYle") | exact un_c rfl))
  (k_with "MYsize_fits" => (exact Nat.le_of_ble_eq_true rfl))
  (k_with "MYar" => (first | exact ar3 (Nat.le_of_ble_eq_true rfl) | exact ar2 (Nat.le_of_ble_eq_true rfl) | exact ar1 (Nat.le_of_ble_eq_true rfl) | exact ar0 (Nat.le_of_ble_eq_true rfl) | omega))
  (k_with "MYpk" => (first | exact pk1 (by with_reducible assumption) | exact pk2 (by with_reducible assumption) | exact pk3 (by with_reducible assumption) | exact pk4 (by with_reducible assumption) | exact pk5 (by with_reducible assumption) | exact pk6 (by with_reducible assumption) | exact pl2 (by with_reducible assumption) | exact pl3 (by with_reducible assumption)))
  (k_with "MYne" => (first | (with_reducible assumption) | exact Ne.symm (by with_reducible assumption) | walk_at "MYpk" | (refine Nat.ne_of_lt ?_; walk_at "MYpk") | (refine Nat.ne_of_gt ?_; walk_at "MYpk")))
  (k_with "MYk_ne" => (first | exact ne_above (by assumption) (by tbn_find) | exact Ne.symm (ne_above (by assumption) (by tbn_find)) | exact ne_notIn (by assumption) (by assumption) | (refine neN ?_; (try dsimp only); first | walk_at "MYne" | omega)))
  (k_with "MYk_updF" => (first | exact Slot.upd (by assumption) | (refine' UpdF.app ?u8 ?v8; (case u8 => exact apart_in (by assumption) (by k_mem)); (case v8 => k_updF))))
  (k_with "MYk_upd" => (exact UpdF.upd (by k_updF)))
  (k_with "MYexecs cons" => ((refine any_toks ?_; intro _)))
  (k_with "MYexecs cons" => (dsimp only))
  trivial

-- part A
section
variable {w : World} {mean : ExcName → Option Value} {mg mb : Str → Option Value} {room units room' units' : Nat} {news : Ledger} {u v : Value} {t t' t'' : Tok} {C C' : Addr}
set_option maxRecDepth 100000 in
set_option maxHeartbeats 4000000 in
theorem ke_null (f1 : HasField news u 38 "kind" (.str "NULL" t)) : CallsK w mean mg mb 20 200 156 [u, v] news fun K => K (.bool true) news := by
  unfold CallsK; k_fill
  intro dp un gd cn cs a ccd cl outer A₀ base h₀ L m s Q E B F X N T hk hroom hunits ret
  walk_at "MYgo"
  exact ret_of ret (by assumption) (by assumption) (by walk_at "MYsub") rfl
set_option maxRecDepth 100000 in
set_option maxHeartbeats 4000000 in
theorem ke_sym {x y : Str} (f1 : HasField news u 88 "kind" (.str "symbol" t)) (n1 : HasField news u 88 "name" (.str x t')) (n2 : HasField news v 88 "name" (.str y t'')) : CallsK w mean mg mb 20 200 156 [u, v] news fun K => K (.bool (eqb x y)) news := by
  unfold CallsK; k_fill
  intro dp un gd cn cs a ccd cl outer A₀ base h₀ L m s Q E B F X N T hk hroom hunits ret
  walk_at "MYgo"
  exact ret_of ret (by assumption) (by assumption) (by walk_at "MYsub") (congrArg Value.bool (Bool.eq_iff_iff.mpr (beq_iff_eq.trans eqb_iff.symm)))
set_option maxRecDepth 100000 in
set_option maxHeartbeats 4000000 in
theorem ke_vec {k : VK} {l l' : Addr} {n n' : Nat} {a b : Value} {i j : Item} (f1 : HasField news u 67 "kind" (.str k.str t)) (i1 : HasField news u 67 "items" (.ref l)) (i2 : HasField news v 67 "items" (.ref l')) (m1 : (l, listOf #[a] n) ∈ news) (m2 : (l', listOf #[b] n') ∈ news) (h1 : ItemIs news a i) (h2 : ItemIs news b j) :
    CallsK w mean mg mb 20 200 156 [u, v] news fun K => K (.bool (eqb i j)) news := by
  unfold CallsK; k_fill
  intro dp un gd cn cs a ccd cl outer A₀ base h₀ L m s Q E B F X N T hk hroom hunits ret
  walk_at "MYgo"
  exact ret_of ret (by assumption) (by assumption) (by walk_at "MYsub") rfl
set_option maxRecDepth 100000 in
set_option maxHeartbeats 4000000 in
theorem ke_list {l l' : Addr} {b : Bool} (f1 : HasField news u 67 "kind" (.str "list" t)) (i1 : HasField news u 67 "items" (.ref l)) (i2 : HasField news v 67 "items" (.ref l')) (hs : Calm w mean mg mb room units 128 [.ref l, .ref l', .ref 163] news (.bool b)) :
    CallsK w mean mg mb (room + 10) (units + 100) 156 [u, v] news fun K => K (.bool b) news := by
  unfold CallsK; k_fill
  intro dp un gd cn cs a ccd cl outer A₀ base h₀ L m s Q E B F X N T hk hroom hunits ret
  walk_at "MYgo"
  exact ret_of ret (by assumption) (by assumption) (by walk_at "MYsub") rfl
set_option maxRecDepth 100000 in
set_option maxHeartbeats 4000000 in
theorem ke_call {l l' g g' : Addr} {n n' : Nat} {vs vs' : List Value} {ts ts' : List (Option Str)} {b : Bool} (f1 : HasField news u 110 "kind" (.str "language" t)) (i1 : HasField news u 110 "items" (.ref l)) (i2 : HasField news v 110 "items" (.ref l'))
    (g1 : HasField news u 110 "tags" (.ref g)) (g2 : HasField news v 110 "tags" (.ref g')) (m1 : (g, listOf vs.toArray n) ∈ news) (m2 : (g', listOf vs'.toArray n') ∈ news) (h1 : Tags vs ts) (h2 : Tags vs' ts') (hs : Calm w mean mg mb room units 128 [.ref l, .ref l', .ref 163] news (.bool b)) :
    CallsK w mean mg mb (room + 10) (units + 100) 156 [u, v] news fun K => K (.bool (eqb ts ts' && b)) news := by
  unfold CallsK; k_fill
  intro dp un gd cn cs a ccd cl outer A₀ base h₀ L m s Q E B F X N T hk hroom hunits ret
  walk_at "MYgo"
  all_goals exact ret_of ret (by assumption) (by assumption) (by walk_at "MYsub") (congrArg Value.bool (by simp_all))
end

-- part A2
section
variable {w : World} {mean : ExcName → Option Value} {mg mb : Str → Option Value} {room units : Nat} {news : Ledger} {u v au av : Value} {t t' : Tok} {C C' : Addr} {x y : Attr}
theorem kd_of {x y : Str} (h : (x != y) = false) : x = y := by simpa using h
theorem kw_6 : True := by
  (k_with "MYc" => (first | exact Calm.use (by assumption) (by walk_at "MYsub") | exact Calm.use ((by assumption : _ = _ → Calm _ _ _ _ _ _ _ _ _ _) (kd_of (by assumption))) (by walk_at "MYsub")))
  trivial
set_option maxRecDepth 100000 in
set_option maxHeartbeats 4000000 in
/-- identical, from same_kernel and same_attrs -/
theorem id_gen {k k' : Str} {b b' : Bool} (hk1 : ¬ k = "environment") (f1 : HasField news u C "kind" (.str k t)) (f2 : HasField news v C' "kind" (.str k' t')) (h1 : k = k' → Calm w mean mg mb room units 156 [u, v] news (.bool b)) (h2 : Calm w mean mg mb room units 121 [u, v] news (.bool b')) :
    CallsK w mean mg mb (room + 10) (units + 100) 163 [u, v] news fun K => K (.bool (eqb k k' && (b && b'))) news := by
  unfold CallsK; k_fill
  intro dp un gd cn cs a ccd cl outer A₀ base h₀ L m s Q E B F X N T hk hroom hunits ret
  have e9 : eqb k k' = (k == k') := Bool.eq_iff_iff.mpr (eqb_iff.trans beq_iff_eq.symm)
  walk_at "MYgo"
  all_goals first
    | (rename (k == _) = true => hq; exact absurd (beq_iff_eq.mp hq) hk1)
    | exact ret_of ret (by assumption) (by assumption) (by walk_at "MYsub") (congrArg Value.bool (by rw [e9]; simp_all))
/-- the names that a dict of fields bears -/
theorem KvIs.no_names {kvs : List (Str × Value)} (h : KvIs news kvs x) : (valueAt kvs "names").isSome = false := by cases h <;> rfl
theorem KvIs.len {kvs : List (Str × Value)} (h : KvIs news kvs x) : kvs.length ≤ 2 := by cases h <;> exact Nat.le_of_ble_eq_true rfl
noncomputable def Attr.size (a : Attr) : Nat := (if a.u.isSome then 1 else 0) + (if a.w then 1 else 0) + (if a.more then 1 else 0)
theorem KvIs.size {kvs : List (Str × Value)} (h : KvIs news kvs x) : kvs.length = x.size := by cases h <;> rfl
theorem kv_ne {kvs kvs' : List (Str × Value)} (h : KvIs news kvs x) (h' : KvIs news kvs' y) (q : ¬ (kvs.length : Int) = (kvs'.length : Int)) : false = eqb x y :=
  (eqb_no fun e => q (by rw [h.size, h'.size, e])).symm
theorem kv_len0 {kvs : List (Str × Value)} (q : (kvs.length : Int) = (([] : List (Str × Value)).length : Int)) : kvs = [] := List.eq_nil_of_length_eq_zero (Int.ofNat.inj q)
theorem kv_nil {kvs : List (Str × Value)} (h : KvIs news kvs x) (q : (([] : List (Str × Value)).length : Int) = (kvs.length : Int)) : true = eqb .no x := by
  cases h with
  | empty => exact (eqb_yes rfl).symm
  | _ => exact absurd q (by simp)
theorem kv_nil' {kvs : List (Str × Value)} (h : KvIs news kvs x) (q : (kvs.length : Int) = (([] : List (Str × Value)).length : Int)) : true = eqb x .no := by
  cases h with
  | empty => exact (eqb_yes rfl).symm
  | _ => exact absurd q (by simp)
/-- how two dicts of attributes of one length compare -/
inductive KvP (C : Value → Value → Bool → Prop) (kvs' : List (Str × Value)) : List (Str × Value) → Bool → Prop where
  | nil : KvP C kvs' [] true
  | out {k : Str} {a : Value} : (valueAt kvs' k).isSome = false → KvP C kvs' [(k, a)] false
  | one {k : Str} {a b : Value} {r : Bool} : (valueAt kvs' k).isSome = true → valueAt kvs' k = some b → valueAt [(k, a)] k = some a → C a b r → KvP C kvs' [(k, a)] r
  | two {k k2 : Str} {a b a2 b2 : Value} {r r2 : Bool} : (valueAt kvs' k).isSome = true → valueAt kvs' k = some b → valueAt [(k, a), (k2, a2)] k = some a → C a b r →
      (valueAt kvs' k2).isSome = true → valueAt kvs' k2 = some b2 → valueAt [(k, a), (k2, a2)] k2 = some a2 → C a2 b2 r2 → KvP C kvs' [(k, a), (k2, a2)] (r && r2)
theorem kv_pair {C : Value → Value → Bool → Prop} {kvs kvs' : List (Str × Value)} (hC : ∀ k a b i j, LeafIs news a k i → LeafIs news b k j → C a b (eqb i j)) (h : KvIs news kvs x) (h' : KvIs news kvs' y) (e : kvs.length = kvs'.length) :
    ∃ b, KvP C kvs' kvs b ∧ eqb x y = b := by
  have ei : ∀ {i j : Int}, eqb (Item.int i) (Item.int j) = eqb i j := eqb_ext (by simp)
  cases h with
  | empty => cases h' with
    | empty => exact ⟨_, .nil, eqb_yes rfl⟩
    | _ => simp at e
  | u a => cases h' with
    | u b => exact ⟨_, .one rfl rfl rfl (hC _ _ _ _ _ a b), eqb_ext (by simp)⟩
    | more b => exact ⟨_, .out rfl, eqb_no (by simp)⟩
    | _ => simp at e
  | more a => cases h' with
    | more b => exact ⟨_, .one rfl rfl rfl (hC _ _ _ _ _ a b), eqb_ext (by simp)⟩
    | u b => exact ⟨_, .out rfl, eqb_no (by simp)⟩
    | _ => simp at e
  | uw a a2 => cases h' with
    | uw b b2 => exact ⟨_, .two rfl rfl rfl (hC _ _ _ _ _ a b) rfl rfl rfl (hC _ _ _ _ _ a2 b2), by rw [eqb_yes (x := Item.str "k") rfl, Bool.and_true]; exact eqb_ext (by simp)⟩
    | wu b b2 => exact ⟨_, .two rfl rfl rfl (hC _ _ _ _ _ a b) rfl rfl rfl (hC _ _ _ _ _ a2 b2), by rw [eqb_yes (x := Item.str "k") rfl, Bool.and_true]; exact eqb_ext (by simp)⟩
    | _ => simp at e
  | wu a a2 => cases h' with
    | uw b b2 => exact ⟨_, .two rfl rfl rfl (hC _ _ _ _ _ a2 b2) rfl rfl rfl (hC _ _ _ _ _ a b), by rw [eqb_yes (x := Item.str "k") rfl, Bool.true_and]; exact eqb_ext (by simp)⟩
    | wu b b2 => exact ⟨_, .two rfl rfl rfl (hC _ _ _ _ _ a2 b2) rfl rfl rfl (hC _ _ _ _ _ a b), by rw [eqb_yes (x := Item.str "k") rfl, Bool.true_and]; exact eqb_ext (by simp)⟩
    | _ => simp at e
end
theorem kw_7 : True := by
  k_with_none
  (k_with "MYk_all" => (first | assumption | (refine tbn_neAll ?_; first | tbn_find | exact allLt_of (by assumption) | exact allLt_swap (by assumption) (by tbn_find)) | (refine ne_app ?_ ?_ <;> k_all)))
  (k_with "MYmem" => (first | assumption | exact List.mem_cons_self | (with_reducible exact Slot.mem (by assumption) _) | ((with_reducible refine List.mem_cons_of_mem _ ?_); walk_at "MYmem") | ((with_reducible refine List.mem_append.mpr (Or.inl ?_)); assumption) | ((with_reducible refine List.mem_append.mpr (Or.inr ?_)); walk_at "MYmem")))
  (k_with "MYk_mem" => (walk_at "MYmem"))
  (k_with "MYk_room" => (ktr_room))
  (k_with "MYk_units" => (ktr_units))
  (k_with "MYsub" => ((intro p9 hp9; walk_at "MYmem")))
  (k_with "MYgo" => ((refine wpAny_call ?_; k_dflt ktr_enter; k_steps)))
  (k_with "MYpost" => ((intros; (try dsimp only); (try k_sweep); (try k_fold))))
  (k_with "MYc" => (exact Calm.use (by assumption) (by walk_at "MYsub")))
  (k_with "MYcall ref" => (((with_reducible show wpAny _ _ (call (Value.ref _) _) _ _ _); k_dflt (refine' CallsK.use (by k_asm) (by k_asm) (by k_asm) (by k_asm) (by k_asm) (by first | exact rfl | assumption) (by walk_at "MYc") (by ktr_room) (by ktr_units) ?_; walk_at "MYpost"))))
  (k_with "MYfld" => (exact HasField.up (by assumption) (by walk_at "MYsub")))
  (k_with "MYgetAttr" => (k_dflt (refine HasField.get (by k_asm) (by k_asm) (by k_asm) (by walk_at "MYfld") (by simp only [true_or, or_true]) ?_)))
  (k_with "MYcall builtin:isinstance" => (k_dflt (refine HasField.isi (by k_asm) (by k_asm) (by k_asm) (by walk_at "MYfld") (by first | exact cls_yes | exact cls_no (by first | assumption | decide)) ?_; intro _)))
  (k_with "MYcompareOp In str ref" => ((k_here; k_dflt (refine in_tup (News.isTup (by k_asm) (by k_mem)) (by kde_strs) (VK.not_in _) ?_))))
  (k_with "MYcompareOp Eq ref ref" => ((k_here; k_dflt (first
  | refine eq_items (by k_asm) (by k_mem) (by k_mem) (ItemIs.up (by assumption) (by walk_at "MYsub")) (ItemIs.up (by assumption) (by walk_at "MYsub")) (by ktr_units) ?_
  | refine eq_tags (by k_asm) (by k_mem) (by k_mem) (by assumption) (by assumption) (by ktr_units) ?_))))
  (k_with "MYidx" => (first | decide | (with_reducible exact Int.natCast_nonneg _) | (with_reducible exact small5 (by assumption)) | (with_reducible exact small5s (by assumption)) | omega))
  (k_with "MYsubscriptTail" => ((k_here; (with_reducible show wpAny _ _ (subscriptTail _ _ (Value.ref _) (Value.int _ _)) _ _ _); k_dflt (refine my_item (by k_asm) (by k_mem) (by walk_at "MYidx") (by walk_at "MYidx") (by first | rfl | assumption) ?_ (by with_unfolding_all rfl)))))
  (k_with "MYUnrEnd" => ((refine unrEnd_lt (by assumption) (by assumption) (by first | tbn_find | exact allLt_of (by assumption)) (by k_mem) (by walk_at "MYsub") ?_)))
  (k_with "MYcall builtin:len" => ((k_here; (with_reducible show wpAny _ _ (call (Value.builtin "len") [Value.ref _]) _ _ _); k_dflt (refine dlen (by k_asm) (by k_mem) (by k_asm) (by k_asm) (by first | assumption | exact Nat.zero_le _) ?_))))
  (k_with "MYcompareOp NotIn str ref" => ((k_here; k_dflt (first | refine kdg_notin (knd := PySem.strKind _ _) (by k_asm) (by k_mem) (by k_asm) (by k_asm) (strKind_is _ _ _ _) true (by assumption) ?_ | refine kdg_notin (knd := PySem.strKind _ _) (by k_asm) (by k_mem) (by k_asm) (by k_asm) (strKind_is _ _ _ _) false (by assumption) ?_))))
  (k_with "MYsubscriptTail" => ((k_here; (with_reducible show wpAny _ _ (subscriptTail _ _ (Value.ref _) (Value.str _ _)) _ _ _); k_dflt (refine kda_item (knd := PySem.strKind _ _) (by k_asm) (by k_mem) (by k_asm) (strKind_is _ _ _ _) (by assumption) ?_))))
  (k_with "MYle" => (((with_reducible first | refine le_v ?_ | refine le_u ?_ | refine le_w ?_ | refine le_k ?_ | skip); exact Nat.le_of_ble_eq_true rfl)))
  (k_with "MYktr_room" => (first | exact rm0 (by with_reducible assumption) | exact rm1 (by with_reducible assumption) (by walk_at "MYle") | exact Nat.le_of_ble_eq_true rfl))
  (k_with "MYktr_units" => (first | exact rm1 (by with_reducible assumption) (by walk_at "MYle") | exact un_c rfl))
  (k_with "MYsize_fits" => (exact Nat.le_of_ble_eq_true rfl))
  (k_with "MYar" => (first | exact ar3 (Nat.le_of_ble_eq_true rfl) | exact ar2 (Nat.le_of_ble_eq_true rfl) | exact ar1 (Nat.le_of_ble_eq_true rfl) | exact ar0 (Nat.le_of_ble_eq_true rfl) | omega))
  (k_with "MYpk" => (first | exact pk1 (by with_reducible assumption) | exact pk2 (by with_reducible assumption) | exact pk3 (by with_reducible assumption) | exact pk4 (by with_reducible assumption) | exact pk5 (by with_reducible assumption) | exact pk6 (by with_reducible assumption) | exact pl2 (by with_reducible assumption) | exact pl3 (by with_reducible assumption)))
  (k_with "MYne" => (first | (with_reducible assumption) | exact Ne.symm (by with_reducible assumption) | walk_at "MYpk" | (refine Nat.ne_of_lt ?_; walk_at "MYpk") | (refine Nat.ne_of_gt ?_; walk_at "MYpk")))
  (k_with "MYk_ne" => (first | exact ne_above (by assumption) (by tbn_find) | exact Ne.symm (ne_above (by assumption) (by tbn_find)) | exact ne_notIn (by assumption) (by assumption) | (refine neN ?_; (try dsimp only); first | walk_at "MYne" | omega)))
  (k_with "MYk_updF" => (first | exact Slot.upd (by assumption) | (refine' UpdF.app ?u8 ?v8; (case u8 => exact apart_in (by assumption) (by k_mem)); (case v8 => k_updF))))
  (k_with "MYk_upd" => (exact UpdF.upd (by k_updF)))
  (k_with "MYexecs cons" => ((refine any_toks ?_; intro _)))
  (k_with "MYexecs cons" => (dsimp only))
  trivial

-- part A3
section
variable {w : World} {mean : ExcName → Option Value} {mg mb : Str → Option Value} {room units : Nat} {news : Ledger} {u v au av : Value} {t t' : Tok} {C C' : Addr} {x y : Attr}
set_option maxRecDepth 100000 in
set_option maxHeartbeats 4000000 in
theorem names_ok (f1 : HasField news u C "attrs" au) (h1 : AttrIs w news au x) : CallsK w mean mg mb 10 100 170 [u] news fun K => K .none news := by
  unfold CallsK; k_fill
  intro dp un gd cn cs a ccd cl outer A₀ base h₀ L m s Q E B F X N T hk hroom hunits ret
  cases h1
  case' dict h9 => have g9 := h9.no_names
  all_goals (walk_at "MYgo")
  all_goals exact ret_of ret (by assumption) (by assumption) (by walk_at "MYsub") rfl
/-- identical of two vectors without attributes -/
def LeafOK (w : World) (mean : ExcName → Option Value) (mg mb : Str → Option Value) (room units : Nat) : Prop :=
  ∀ news k a b i j, LeafIs news a k i → LeafIs news b k j → CallsK w mean mg mb room units 163 [a, b] news fun K => K (.bool (eqb i j)) news
section
theorem kw_8 : True := by
  (k_with "MYexec For Name Name cons nil" => (refine stop_here ?_))
  (k_with "MYUnr" => (((with_unfolding_all refine Unr.succ ?_); intro _ _ _ _ hP' _ _ _; obtain ⟨_, _, _, hD', rfl⟩ := hP'; simp only [List.getElem?_cons_zero, List.getElem?_cons_succ] at hD'; cases hD')))
  trivial
set_option maxRecDepth 100000 in
set_option maxHeartbeats 4000000 in
theorem attrs_ok (f1 : HasField news u C "attrs" au) (f2 : HasField news v C' "attrs" av) (h1 : AttrIs w news au x) (h2 : AttrIs w news av y) (hid : au = .none ∧ av = .none ∨ LeafOK w mean mg mb room units) :
    CallsK w mean mg mb (room + 20) (units + 200) 121 [u, v] news fun K => K (.bool (eqb x y)) news := by
  unfold CallsK; k_fill
  intro dp un gd cn cs a ccd cl outer A₀ base h₀ L m s Q E B F X N T hk hroom hunits ret
  cases h1
  all_goals cases h2
  case' dict.dict => have kz := kv_pair (x := x) (y := y) (C := fun a b r => Calm w mean mg mb room units 163 [a, b] news (.bool r)) (fun k a b i j p q led s => hid.elim (fun e => nomatch e.1) fun c => c led k a b i j (p.up s) (q.up s)) (by assumption) (by assumption)
  all_goals (try (rename KvIs _ _ x => k1; have g1 := k1.len))
  all_goals (try (rename KvIs _ _ y => k2; have g2 := k2.len))
  all_goals (walk_at "MYgo")
  all_goals first
    | (rename ¬ (_ : Int) = _ => hq; exact ret_of ret (by assumption) (by assumption) (by walk_at "MYsub") (congrArg Value.bool (kv_ne (news := news) (by first | assumption | exact .empty) (by first | assumption | exact .empty) hq)))
    | skip
  case' dict.dict => (obtain ⟨bz, hz, ez⟩ := kz (Int.ofNat.inj (by assumption)); rw [ez] at ret; cases hz)
  case' dict.none => obtain rfl := kv_len0 (by assumption)
  all_goals (
    unfold Stop
    rename Fr _ _ _ _ => kF'
    rename News _ _ _ _ => kN'
    with_unfolding_all refine' For_unrF kF' ?_ ?ks
    case ks => (intro _; with_unfolding_all rfl)
    k_dflt (refine ld kF' (by rfl) ?_)
    k_dflt (refine Iter_keys (by rfl) (by k_mem) (by k_asm) (by k_asm) kF' kN' ?_)
    intro _
    k_steps)
  all_goals exact ret_of ret (by assumption) (by assumption) (by walk_at "MYsub") (congrArg Value.bool (by first | exact (eqb_yes rfl).symm | exact kv_nil (by assumption) (by assumption) | exact kv_nil' (by assumption) (by assumption) | simp_all))
end
end
theorem kw_9 : True := by
  k_with_none
  (k_with "MYk_all" => (first | assumption | (refine tbn_neAll ?_; first | tbn_find | exact allLt_of (by assumption) | exact allLt_swap (by assumption) (by tbn_find)) | (refine ne_app ?_ ?_ <;> k_all)))
  (k_with "MYmem" => (first | assumption | exact List.mem_cons_self | (with_reducible exact Slot.mem (by assumption) _) | ((with_reducible refine List.mem_cons_of_mem _ ?_); walk_at "MYmem") | ((with_reducible refine List.mem_append.mpr (Or.inl ?_)); assumption) | ((with_reducible refine List.mem_append.mpr (Or.inr ?_)); walk_at "MYmem")))
  (k_with "MYk_mem" => (walk_at "MYmem"))
  (k_with "MYk_room" => (ktr_room))
  (k_with "MYk_units" => (ktr_units))
  (k_with "MYsub" => ((intro p9 hp9; walk_at "MYmem")))
  (k_with "MYgo" => ((refine wpAny_call ?_; k_dflt ktr_enter; k_steps)))
  (k_with "MYpost" => ((intros; (try dsimp only); (try k_sweep); (try k_fold))))
  (k_with "MYc" => (exact Calm.use (by assumption) (by walk_at "MYsub")))
  (k_with "MYcall ref" => (((with_reducible show wpAny _ _ (call (Value.ref _) _) _ _ _); k_dflt (refine' CallsK.use (by k_asm) (by k_asm) (by k_asm) (by k_asm) (by k_asm) (by first | exact rfl | assumption) (by walk_at "MYc") (by ktr_room) (by ktr_units) ?_; walk_at "MYpost"))))
  (k_with "MYfld" => (exact HasField.up (by assumption) (by walk_at "MYsub")))
  (k_with "MYgetAttr" => (k_dflt (refine HasField.get (by k_asm) (by k_asm) (by k_asm) (by walk_at "MYfld") (by simp only [true_or, or_true]) ?_)))
  (k_with "MYcall builtin:isinstance" => (k_dflt (refine HasField.isi (by k_asm) (by k_asm) (by k_asm) (by walk_at "MYfld") (by first | exact cls_yes | exact cls_no (by first | assumption | decide)) ?_; intro _)))
  (k_with "MYcompareOp In str ref" => ((k_here; k_dflt (refine in_tup (News.isTup (by k_asm) (by k_mem)) (by kde_strs) (VK.not_in _) ?_))))
  (k_with "MYcompareOp Eq ref ref" => ((k_here; k_dflt (first
  | refine eq_items (by k_asm) (by k_mem) (by k_mem) (ItemIs.up (by assumption) (by walk_at "MYsub")) (ItemIs.up (by assumption) (by walk_at "MYsub")) (by ktr_units) ?_
  | refine eq_tags (by k_asm) (by k_mem) (by k_mem) (by assumption) (by assumption) (by ktr_units) ?_))))
  (k_with "MYidx" => (first | decide | (with_reducible exact Int.natCast_nonneg _) | (with_reducible exact small5 (by assumption)) | (with_reducible exact small5s (by assumption)) | omega))
  (k_with "MYsubscriptTail" => ((k_here; (with_reducible show wpAny _ _ (subscriptTail _ _ (Value.ref _) (Value.int _ _)) _ _ _); k_dflt (refine my_item (by k_asm) (by k_mem) (by walk_at "MYidx") (by walk_at "MYidx") (by first | rfl | assumption) ?_ (by with_unfolding_all rfl)))))
  (k_with "MYUnrEnd" => ((refine unrEnd_lt (by assumption) (by assumption) (by first | tbn_find | exact allLt_of (by assumption)) (by k_mem) (by walk_at "MYsub") ?_)))
  (k_with "MYcall builtin:len" => ((k_here; (with_reducible show wpAny _ _ (call (Value.builtin "len") [Value.ref _]) _ _ _); k_dflt (refine dlen (by k_asm) (by k_mem) (by k_asm) (by k_asm) (by first | assumption | exact Nat.zero_le _) ?_))))
  (k_with "MYcompareOp NotIn str ref" => ((k_here; k_dflt (first | refine kdg_notin (knd := PySem.strKind _ _) (by k_asm) (by k_mem) (by k_asm) (by k_asm) (strKind_is _ _ _ _) true (by assumption) ?_ | refine kdg_notin (knd := PySem.strKind _ _) (by k_asm) (by k_mem) (by k_asm) (by k_asm) (strKind_is _ _ _ _) false (by assumption) ?_))))
  (k_with "MYsubscriptTail" => ((k_here; (with_reducible show wpAny _ _ (subscriptTail _ _ (Value.ref _) (Value.str _ _)) _ _ _); k_dflt (refine kda_item (knd := PySem.strKind _ _) (by k_asm) (by k_mem) (by k_asm) (strKind_is _ _ _ _) (by assumption) ?_))))
  (k_with "MYle" => (((with_reducible first | refine le_v ?_ | refine le_u ?_ | refine le_w ?_ | refine le_k ?_ | skip); exact Nat.le_of_ble_eq_true rfl)))
  (k_with "MYktr_room" => (first | exact rm0 (by with_reducible assumption) | exact rm1 (by with_reducible assumption) (by walk_at "MYle") | exact Nat.le_of_ble_eq_true rfl))
  (k_with "MYktr_units" => (first | exact rm1 (by with_reducible assumption) (by walk_at "MYle") | exact un_c rfl))
  (k_with "MYsize_fits" => (exact Nat.le_of_ble_eq_true rfl))
  (k_with "MYar" => (first | exact ar3 (Nat.le_of_ble_eq_true rfl) | exact ar2 (Nat.le_of_ble_eq_true rfl) | exact ar1 (Nat.le_of_ble_eq_true rfl) | exact ar0 (Nat.le_of_ble_eq_true rfl) | omega))
  (k_with "MYpk" => (first | exact pk1 (by with_reducible assumption) | exact pk2 (by with_reducible assumption) | exact pk3 (by with_reducible assumption) | exact pk4 (by with_reducible assumption) | exact pk5 (by with_reducible assumption) | exact pk6 (by with_reducible assumption) | exact pl2 (by with_reducible assumption) | exact pl3 (by with_reducible assumption)))
  (k_with "MYne" => (first | (with_reducible assumption) | exact Ne.symm (by with_reducible assumption) | walk_at "MYpk" | (refine Nat.ne_of_lt ?_; walk_at "MYpk") | (refine Nat.ne_of_gt ?_; walk_at "MYpk")))
  (k_with "MYk_ne" => (first | exact ne_above (by assumption) (by tbn_find) | exact Ne.symm (ne_above (by assumption) (by tbn_find)) | exact ne_notIn (by assumption) (by assumption) | (refine neN ?_; (try dsimp only); first | walk_at "MYne" | omega)))
  (k_with "MYk_updF" => (first | exact Slot.upd (by assumption) | (refine' UpdF.app ?u8 ?v8; (case u8 => exact apart_in (by assumption) (by k_mem)); (case v8 => k_updF))))
  (k_with "MYk_upd" => (exact UpdF.upd (by k_updF)))
  (k_with "MYexecs cons" => ((refine any_toks ?_; intro _)))
  (k_with "MYexecs cons" => (dsimp only))
  trivial

-- part A4
section
variable {w : World} {mean : ExcName → Option Value} {mg mb : Str → Option Value} {room units : Nat} {news : Ledger} {u v au av : Value} {t t' : Tok} {C C' : Addr} {x y : D}
theorem leaf_ok : LeafOK w mean mg mb 30 300 := fun news k a b i j h1 h2 => by
  cases h1 with | mk p1 p2 p3 =>
  cases h2 with | mk q1 q2 q3 =>
  obtain ⟨t1, f1⟩ := p1.kind
  obtain ⟨t2, f2⟩ := q1.kind
  refine CallsK.wide (CallsK.eq (id_gen (room := 20) (units := 200) (fun e => absurd e (by cases k <;> (simp only [VK.str]; decide))) f1 f2 (fun _ led s => (ke_vec (f1.up s) (p1.items.up s) (q1.items.up s) (s _ p2) (s _ q2) (p3.up s) (q3.up s)).wide (by decide) (by decide)) (fun led s => attrs_ok (room := 0) (units := 0) (x := .no) (y := .no) ((p1.attrs rfl).up s) ((q1.attrs rfl).up s) .none .none (.inl ⟨rfl, rfl⟩))) (congrArg Value.bool ?_)) (by decide) (by decide)
  rw [eqb_yes (x := k.str) rfl, eqb_yes (x := Attr.no) rfl, Bool.true_and, Bool.and_true]
def IdOK (w : World) (mean : ExcName → Option Value) (mg mb : Str → Option Value) (n : Nat) : Prop :=
  ∀ news u v x y, Is w news u x → Is w news v y → x.depth < n → CallsK w mean mg mb (30 * n + 60) (300 * n + 600) 163 [u, v] news fun K => K (.bool (eqb x y)) news
def KeOK (w : World) (mean : ExcName → Option Value) (mg mb : Str → Option Value) (n : Nat) : Prop :=
  ∀ news u v x y, Is w news u x → Is w news v y → x.kd = y.kd → x.depth < n → CallsK w mean mg mb (30 * n + 50) (300 * n + 500) 156 [u, v] news fun K => K (.bool (eqb x.strip y.strip)) news
theorem eqb_one {α : Type} {a b : α} : eqb [a] [b] = eqb a b := eqb_ext (by simp)
theorem eqb_two {α : Type} {a b c d : α} : eqb [a, c] [b, d] = (eqb a b && eqb c d) := Bool.eq_iff_iff.mpr (by simp [eqb_iff])
theorem Kids.si {C : Value → Value → Bool → Prop} {vs vs' : List Value} {xs ys : List D} (h : Kids w news vs xs) (h' : Kids w news vs' ys) (hC : ∀ a b x y, x ∈ xs → Is w news a x → Is w news b y → C a b (eqb x y)) : SiIs C vs vs' (eqb xs ys) := by
  cases h with
  | one a => cases h' with
    | one b => rw [eqb_one]; exact .one (hC _ _ _ _ (.head _) a b)
    | two b c => rw [eqb_no (by simp)]; exact .ne1
  | two a c => cases h' with
    | one b => rw [eqb_no (by simp)]; exact .ne2
    | two b d =>
      rw [eqb_two]
      exact .two (hC _ _ _ _ (.head _) a b) (hC _ _ _ _ (.tail _ (.head _)) c d)
theorem D.kid_lt {x z : D} (h : z ∈ x.kids) : z.depth < x.depth := by
  cases x <;> simp only [D.kids, List.mem_cons, List.not_mem_nil, or_false] at h
  · subst h; exact Nat.lt_succ_self _
  · rcases h with rfl | rfl
    · exact Nat.lt_succ_of_le (Nat.le_max_left _ _)
    · exact Nat.lt_succ_of_le (Nat.le_max_right _ _)
  · subst h; exact Nat.lt_succ_self _
  · rcases h with rfl | rfl
    · exact Nat.lt_succ_of_le (Nat.le_max_left _ _)
    · exact Nat.lt_succ_of_le (Nat.le_max_right _ _)
theorem id_of_ke {n : Nat} (hke : KeOK w mean mg mb n) : IdOK w mean mg mb n := fun news u v x y I J hd => by
  obtain ⟨t1, f1⟩ := I.kind
  obtain ⟨t2, f2⟩ := J.kind
  obtain ⟨av1, a1, b1⟩ := I.attrs
  obtain ⟨av2, a2, b2⟩ := J.attrs
  refine CallsK.eq (id_gen (room := 30 * n + 50) (units := 300 * n + 500) ?_ f1 f2 (fun e led s => hke led u v x y (I.up s) (J.up s) e hd) (fun led s => (attrs_ok (a1.up s) (a2.up s) (b1.up s) (b2.up s) (.inr leaf_ok)).wide (by walk_at "MYar") (by walk_at "MYar"))) (congrArg Value.bool (Bool.eq_iff_iff.mpr ?_))
  · cases x with
    | vec k i a => cases k <;> (simp only [D.kd, VK.str]; decide)
    | _ => simp only [D.kd]; decide
  · simp only [Bool.and_eq_true, eqb_iff, D.eq_iff (a := x)]
    exact ⟨fun h => h.2, fun h => ⟨by have e := congrArg D.kd h.1; cases x <;> cases y <;> exact e, h⟩⟩
theorem ke_step {n : Nat} (hid : IdOK w mean mg mb n) : KeOK w mean mg mb (n + 1) := fun news u v x y I J hk hd => by
  have si : ∀ {l l' n1 n2 vs vs'}, Kids w news vs x.kids → Kids w news vs' y.kids → (l, listOf vs.toArray n1) ∈ news → (l', listOf vs'.toArray n2) ∈ news →
      Calm w mean mg mb (30 * n + 70) (300 * n + 700) 128 [.ref l, .ref l', .ref 163] news (.bool (eqb x.kids y.kids)) := fun k1 k2 m1 m2 led s =>
    si_ok (.inl rfl) (Kids.si k1 k2 fun a b z z' hz A B led' s' => hid led' a b z z' (A.up fun p q => s' p (s p q)) (B.up fun p q => s' p (s p q)) (Nat.lt_of_lt_of_le (D.kid_lt hz) (Nat.le_of_lt_succ hd))) (s _ m1) (s _ m2)
  obtain ⟨t1, f1⟩ := I.kind
  cases x
  case null => cases y with
    | vec k _ _ => exact absurd hk (by cases k <;> (simp only [D.kd, VK.str]; decide))
    | null => exact ((ke_null f1).wide (by walk_at "MYar") (by walk_at "MYar")).eq (congrArg Value.bool (eqb_yes rfl).symm)
    | _ => exact absurd hk (by simp only [D.kd]; decide)
  case sym => cases y with
    | vec k _ _ => exact absurd hk (by cases k <;> (simp only [D.kd, VK.str]; decide))
    | sym => 
      obtain ⟨t2, n1⟩ := I.name
      obtain ⟨t3, n2⟩ := J.name
      exact ((ke_sym f1 n1 n2).wide (by walk_at "MYar") (by walk_at "MYar")).eq (congrArg Value.bool (eqb_ext (by simp [D.put])))
    | _ => exact absurd hk (by simp only [D.kd]; decide)
  case vec k i a => cases y with
    | vec k' j a' =>
      cases VK.str_inj hk
      obtain ⟨l1, v1, m1, i1, q1, r1⟩ := I.item
      obtain ⟨l2, v2, m2, i2, q2, r2⟩ := J.item
      exact ((ke_vec f1 i1 i2 q1 q2 r1 r2).wide (by walk_at "MYar") (by walk_at "MYar")).eq (congrArg Value.bool (eqb_ext (by simp [D.put])))
    | _ => exact absurd hk (by cases k <;> (simp only [D.kd, VK.str]; decide))
  all_goals (
    obtain ⟨l1, vs1, m1, i1, q1, r1⟩ := I.list (by simp [D.kids])
    cases y
    case vec k _ _ => exact absurd hk (by cases k <;> (simp only [D.kd, VK.str]; decide))
    all_goals first
      | exact absurd hk (by simp only [D.kd]; decide)
      | (obtain ⟨l2, vs2, m2, i2, q2, r2⟩ := J.list (by simp [D.kids])
         first
           | exact ((ke_list f1 i1 i2 (si r1 r2 q1 q2)).wide (by walk_at "MYar") (by walk_at "MYar")).eq (congrArg Value.bool (eqb_ext (by simp [D.put, D.kids])))
           | (obtain ⟨g1, w1, k1, j1, s1, z1⟩ := I.tagv (by simp [D.tags])
              obtain ⟨g2, w2, k2, j2, s2, z2⟩ := J.tagv (by simp [D.tags])
              exact ((ke_call f1 i1 i2 j1 j2 s1 s2 z1 z2 (si r1 r2 q1 q2)).wide (by walk_at "MYar") (by walk_at "MYar")).eq (congrArg Value.bool (Bool.eq_iff_iff.mpr (by simp [eqb_iff, D.put, D.kids, D.tags] <;> exact ⟨fun h => ⟨h.2.1, h.2.2, h.1⟩, fun h => ⟨h.2.2, h.1, h.2.1⟩⟩))))))
end
theorem id_all {w : World} {mean : ExcName → Option Value} {mg mb : Str → Option Value} : ∀ n, IdOK w mean mg mb n
  | 0 => fun _ _ _ _ _ _ _ h => absurd h (Nat.not_lt_zero _)
  | n + 1 => id_of_ke (ke_step (id_all n))
theorem ke_all {w : World} {mean : ExcName → Option Value} {mg mb : Str → Option Value} : ∀ n, KeOK w mean mg mb n
  | 0 => fun _ _ _ _ _ _ _ _ h => absurd h (Nat.not_lt_zero _)
  | n + 1 => ke_step (id_all n)
section
variable {w : World} {mean : ExcName → Option Value} {mg mb : Str → Option Value} {room units : Nat} {news : Ledger} {u v au av : Value} {t t' : Tok} {C C' : Addr}
set_option maxRecDepth 100000 in
set_option maxHeartbeats 4000000 in
theorem sc_flat {k : Str} {b : Bool} (hC : ¬ C = 67) (hk9 : ¬ k = "language") (f1 : HasField news u C "kind" (.str k t)) (f2 : HasField news v C' "kind" (.str k t')) (h : Calm w mean mg mb room units 156 [u, v] news (.bool b)) :
    CallsK w mean mg mb (room + 10) (units + 100) 177 [u, v] news fun K => K (.bool b) news := by
  unfold CallsK; k_fill
  intro dp un gd cn cs a ccd cl outer A₀ base h₀ L m s Q E B F X N T hk hroom hunits ret
  walk_at "MYgo"
  all_goals first
    | exact ret_of ret (by assumption) (by assumption) (by walk_at "MYsub") rfl
    | (rename (k == _) = true => hq; exact absurd (beq_iff_eq.mp hq) hk9)
    | (rename (k != k) = true => hq; exact absurd hq (by simp))
set_option maxRecDepth 100000 in
set_option maxHeartbeats 4000000 in
theorem sc_vec {k : VK} {b : Bool} (f1 : HasField news u 67 "kind" (.str k.str t)) (f2 : HasField news v 67 "kind" (.str k.str t')) (n1 : Calm w mean mg mb room units 170 [u] news .none) (n2 : Calm w mean mg mb room units 170 [v] news .none) (h : Calm w mean mg mb room units 156 [u, v] news (.bool b)) :
    CallsK w mean mg mb (room + 10) (units + 100) 177 [u, v] news fun K => K (.bool b) news := by
  unfold CallsK; k_fill
  intro dp un gd cn cs a ccd cl outer A₀ base h₀ L m s Q E B F X N T hk hroom hunits ret
  walk_at "MYgo"
  all_goals first
    | exact ret_of ret (by assumption) (by assumption) (by walk_at "MYsub") rfl
    | (rename (_ == _) = true => hq; exact absurd (beq_iff_eq.mp hq) k.not_lang)
    | (rename (_ != _) = true => hq; exact absurd hq (by simp))
set_option maxRecDepth 100000 in
set_option maxHeartbeats 4000000 in
theorem sc_list {l l' : Addr} {b : Bool} (f1 : HasField news u 67 "kind" (.str "list" t)) (f2 : HasField news v 67 "kind" (.str "list" t')) (n1 : Calm w mean mg mb room units 170 [u] news .none) (n2 : Calm w mean mg mb room units 170 [v] news .none)
    (i1 : HasField news u 67 "items" (.ref l)) (i2 : HasField news v 67 "items" (.ref l')) (hs : Calm w mean mg mb room units 128 [.ref l, .ref l', .ref 177] news (.bool b)) :
    CallsK w mean mg mb (room + 10) (units + 100) 177 [u, v] news fun K => K (.bool b) news := by
  unfold CallsK; k_fill
  intro dp un gd cn cs a ccd cl outer A₀ base h₀ L m s Q E B F X N T hk hroom hunits ret
  walk_at "MYgo"
  all_goals first
    | exact ret_of ret (by assumption) (by assumption) (by walk_at "MYsub") rfl
set_option maxRecDepth 100000 in
set_option maxHeartbeats 4000000 in
theorem sc_call {l l' g g' : Addr} {n n' : Nat} {vs vs' : List Value} {ts ts' : List (Option Str)} {b : Bool} (f1 : HasField news u 110 "kind" (.str "language" t)) (f2 : HasField news v 110 "kind" (.str "language" t')) (i1 : HasField news u 110 "items" (.ref l)) (i2 : HasField news v 110 "items" (.ref l'))
    (g1 : HasField news u 110 "tags" (.ref g)) (g2 : HasField news v 110 "tags" (.ref g')) (m1 : (g, listOf vs.toArray n) ∈ news) (m2 : (g', listOf vs'.toArray n') ∈ news) (h1 : Tags vs ts) (h2 : Tags vs' ts') (hs : Calm w mean mg mb room units 128 [.ref l, .ref l', .ref 177] news (.bool b)) :
    CallsK w mean mg mb (room + 10) (units + 100) 177 [u, v] news fun K => K (.bool (eqb ts ts' && b)) news := by
  unfold CallsK; k_fill
  intro dp un gd cn cs a ccd cl outer A₀ base h₀ L m s Q E B F X N T hk hroom hunits ret
  walk_at "MYgo"
  all_goals exact ret_of ret (by assumption) (by assumption) (by walk_at "MYsub") (congrArg Value.bool (by simp_all))
def ScOK (w : World) (mean : ExcName → Option Value) (mg mb : Str → Option Value) (n : Nat) : Prop :=
  ∀ news u v x, Is w news u x → Is w news v x → x.depth < n → CallsK w mean mg mb (30 * n + 60) (300 * n + 600) 177 [u, v] news fun K => K (.bool true) news
theorem sc_step {n : Nat} (hid : ScOK w mean mg mb n) : ScOK w mean mg mb (n + 1) := fun news u v x I J hd => by
  have si : ∀ {l l' n1 n2 vs vs'}, Kids w news vs x.kids → Kids w news vs' x.kids → (l, listOf vs.toArray n1) ∈ news → (l', listOf vs'.toArray n2) ∈ news →
      Calm w mean mg mb (30 * n + 70) (300 * n + 700) 128 [.ref l, .ref l', .ref 177] news (.bool true) := fun k1 k2 m1 m2 led s =>
    si_ok (.inr rfl) (by
      have C : ∀ a b z, z ∈ x.kids → Is w news a z → Is w news b z → Calm w mean mg mb (30 * n + 60) (300 * n + 600) 177 [a, b] led (.bool true) :=
        fun a b z hz A B led' s' => hid led' a b z (A.up fun p q => s' p (s p q)) (B.up fun p q => s' p (s p q)) (Nat.lt_of_lt_of_le (D.kid_lt hz) (Nat.le_of_lt_succ hd))
      revert k1 k2 C
      generalize x.kids = xs
      intro k1 k2 C
      cases k1 with
      | one a => cases k2 with | one b => exact .one (C _ _ _ (.head _) a b)
      | two a c => cases k2 with | two b d => exact .two (x := true) (y := true) (C _ _ _ (.head _) a b) (C _ _ _ (.tail _ (.head _)) c d)) (s _ m1) (s _ m2)
  have ke : Calm w mean mg mb (30 * (n + 1) + 50) (300 * (n + 1) + 500) 156 [u, v] news (.bool true) := fun led s => (ke_all (n + 1) led u v x x (I.up s) (J.up s) rfl hd).eq (congrArg Value.bool (eqb_yes rfl))
  obtain ⟨t1, f1⟩ := I.kind
  obtain ⟨t2, f2⟩ := J.kind
  obtain ⟨av1, a1, b1⟩ := I.attrs
  obtain ⟨av2, a2, b2⟩ := J.attrs
  have n1 : Calm w mean mg mb (30 * n + 70) (300 * n + 700) 170 [u] news .none := fun led s => (names_ok (a1.up s) (b1.up s)).wide (by walk_at "MYar") (by walk_at "MYar")
  have n2 : Calm w mean mg mb (30 * n + 70) (300 * n + 700) 170 [v] news .none := fun led s => (names_ok (a2.up s) (b2.up s)).wide (by walk_at "MYar") (by walk_at "MYar")
  cases x
  case null => exact (sc_flat (by decide) (by decide) f1 f2 ke).wide (by walk_at "MYar") (by walk_at "MYar")
  case sym => exact (sc_flat (k := "symbol") (C := 88) (by decide) (by decide) f1 f2 ke).wide (by walk_at "MYar") (by walk_at "MYar")
  case vec k i a => exact (sc_vec f1 f2 (fun led s => (n1 led s).wide (by walk_at "MYar") (by walk_at "MYar")) (fun led s => (n2 led s).wide (by walk_at "MYar") (by walk_at "MYar")) ke).wide (by walk_at "MYar") (by walk_at "MYar")
  all_goals (
    obtain ⟨l1, vs1, m1, i1, q1, r1⟩ := I.list (by simp [D.kids])
    obtain ⟨l2, vs2, m2, i2, q2, r2⟩ := J.list (by simp [D.kids])
    first
      | exact (sc_list f1 f2 n1 n2 i1 i2 (si r1 r2 q1 q2)).wide (by walk_at "MYar") (by walk_at "MYar")
      | (obtain ⟨g1, w1, k1, j1, s1, z1⟩ := I.tagv (by simp [D.tags])
         obtain ⟨g2, w2, k2, j2, s2, z2⟩ := J.tagv (by simp [D.tags])
         exact ((sc_call f1 f2 i1 i2 j1 j2 s1 s2 z1 z2 (si r1 r2 q1 q2)).wide (by walk_at "MYar") (by walk_at "MYar")).eq (congrArg Value.bool (by rw [eqb_yes rfl]; rfl))))
theorem sc_all : ∀ n, ScOK w mean mg mb n
  | 0 => fun _ _ _ _ _ _ h => absurd h (Nat.not_lt_zero _)
  | n + 1 => sc_step (sc_all n)
end

-- part G
theorem split2 {i : Int} (h0 : 0 ≤ i) (h1 : i < 2) : i = 0 ∨ i = 1 := by omega
/-- a ledger with one place for the deck -/
def Slot (d : Addr) (g : Obj → Ledger) : Prop := ∀ o, UpdF d o (g o) g
/-- no entry of the ledger stands at a -/
def NotIn (a : Addr) (l : Ledger) : Prop := ∀ q ∈ l, @Ne Nat q.1 a
/-- two ledgers share no address -/
def Apart (pre tl : Ledger) : Prop := ∀ q ∈ pre, ∀ p ∈ tl, @Ne Nat q.1 p.1
theorem UpdF.slot {d : Addr} {o : Obj} {l : Ledger} {g : Obj → Ledger} (U : UpdF d o l g) : l = g o ∧ Slot d g := by
  induction U with
  | head h => exact ⟨rfl, fun _ => .head h⟩
  | tail h _ ih => exact ⟨by rw [ih.1], fun o => .tail h (ih.2 o)⟩
theorem Slot.upd {d : Addr} {o : Obj} {g : Obj → Ledger} (S : Slot d g) : UpdF d o (g o) g := S o
theorem Slot.mem {d : Addr} {g : Obj → Ledger} (S : Slot d g) (o : Obj) : (d, o) ∈ g o := (UpdF.mem_iff (S o)).1
theorem Slot.addr {d : Addr} {g : Obj → Ledger} (S : Slot d g) {o o' : Obj} : ∀ p ∈ g o, ∃ q ∈ g o', q.1 = p.1 := fun p h => by
  rcases ((UpdF.mem_iff (S o')).2 o p).mp h with h | h
  · exact ⟨_, S.mem o', by rw [h]⟩
  · exact ⟨p, h.1, rfl⟩
theorem allLt_swap {d a : Addr} {g : Obj → Ledger} {o o' : Obj} (S : Slot d g) (h : AllLt a (g o)) : AllLt a (g o') := allLt_of fun p hp => by
  obtain ⟨q, hq, e⟩ := S.addr (o' := o) p hp
  rw [← e]; exact tb_ltOf h q hq
theorem ne_above {d a : Addr} {g : Obj → Ledger} {o : Obj} (S : Slot d g) (h : AllLt a (g o)) : @Ne Nat a d := Nat.ne_of_gt (tb_ltOf h _ (S.mem o))
theorem notIn_lt {a : Addr} {l : Ledger} (h : AllLt a l) : NotIn a l := fun q hq => Nat.ne_of_lt (tb_ltOf h q hq)
theorem notIn_swap {d a : Addr} {g : Obj → Ledger} {o o' : Obj} (S : Slot d g) (h : NotIn a (g o)) : NotIn a (g o') := fun p hp => by
  obtain ⟨q, hq, e⟩ := S.addr (o' := o) p hp
  rw [← e]; exact h q hq
theorem off1_mem {D : Addr} : ∀ {l : Ledger}, LCg.Off1 D l → NotIn D l
  | [], _, _, h => nomatch h
  | _ :: _, x, p, h => by
    rcases List.mem_cons.mp h with rfl | h
    · exact x.1
    · exact off1_mem x.2 p h
theorem notIn_off1 {d D : Addr} {g : Obj → Ledger} {o : Obj} {news : Ledger} (_S : Slot d g) (off : LCg.Off1 D news) (hs : ∀ p ∈ g o, p ∈ news) : NotIn D (g o) := fun p hp => off1_mem off p (hs p hp)
theorem ne_notIn {d a : Addr} {g : Obj → Ledger} {o : Obj} (S : Slot d g) (h : NotIn a (g o)) : @Ne Nat a d := Ne.symm (h _ (S.mem o))
theorem off_slot {d I C D : Addr} {g : Obj → Ledger} {o : Obj} {news : Ledger} (S : Slot d g) (off : LCg.Off3 I C D news) (hs : ∀ p ∈ g o, p ∈ news) : (@Ne Nat I d) ∧ (@Ne Nat C d) ∧ (@Ne Nat D d) :=
  let z := off.mem _ (hs _ (S.mem o))
  ⟨Ne.symm z.1, Ne.symm z.2.1, Ne.symm z.2.2⟩
theorem allLt_append {a : Addr} {l r : Ledger} : AllLt a (l ++ r) ↔ AllLt a l ∧ AllLt a r := by
  induction l with
  | nil => exact ⟨fun h => ⟨True.intro, h⟩, fun h => h.2⟩
  | cons p l ih => exact ⟨fun h => ⟨⟨h.1, (ih.mp h.2).1⟩, (ih.mp h.2).2⟩, fun h => ⟨h.1.1, ih.mpr ⟨h.1.2, h.2⟩⟩⟩
theorem UpdF.app {d : Addr} {o : Obj} {tl r : Ledger} {g : Obj → Ledger} (h : NotIn d tl) (U : UpdF d o r g) : UpdF d o (tl ++ r) (fun o' => tl ++ g o') := by
  induction tl with
  | nil => exact U
  | cons p tl ih => exact .tail (h p (.head _)) (ih fun q hq => h q (.tail _ hq))
theorem ne_app {d : Addr} {l r : Ledger} (h1 : ∀ p ∈ l, p.1 ≠ d) (h2 : ∀ p ∈ r, p.1 ≠ d) : ∀ p ∈ l ++ r, p.1 ≠ d := fun p hp => (List.mem_append.mp hp).elim (h1 p) (h2 p)
theorem apart_ne {d : Addr} {pre tl : Ledger} {g : Obj → Ledger} {o : Obj} (S : Slot d g) (ap : Apart pre tl) (h : ∀ p ∈ g o, p ∈ pre) : NotIn d tl := fun p hp => Ne.symm (ap _ (h _ (S.mem o)) p hp)
/-- what stands apart from a ledger -/
noncomputable def newOf (pre led : Ledger) : Ledger := led.filter (fun p => @decide (NotIn p.1 pre) (Classical.propDecidable _))
theorem newOf_sub {pre led : Ledger} : ∀ p ∈ newOf pre led, p ∈ led := fun _ h => (List.mem_filter.mp h).1
theorem newOf_apart {pre led : Ledger} : Apart pre (newOf pre led) := fun q hq p h => (@of_decide_eq_true _ (Classical.propDecidable _) (List.mem_filter.mp h).2) q hq
theorem newOf_mem {pre led : Ledger} {p : Addr × Obj} (h : p ∈ led) (k : NotIn p.1 pre) : p ∈ newOf pre led := List.mem_filter.mpr ⟨h, @decide_eq_true _ (Classical.propDecidable _) k⟩
theorem newOf_tl {d : Addr} {g : Obj → Ledger} {o o' : Obj} {pre tl led : Ledger} (S : Slot d g) (ap : Apart pre tl) (sub : ∀ q ∈ g o', q ∈ pre) (s : ∀ p ∈ tl, p ∈ led) : ∀ p ∈ tl, p ∈ newOf (g o) led := fun p hp =>
  newOf_mem (s p hp) (notIn_swap S (o := o') fun q hq => ap q (sub q hq) p hp)

theorem addr_cons {x y : Addr × Obj} {r r' : Ledger} (e : x.1 = y.1) (h : ∀ p ∈ r', ∃ q ∈ r, q.1 = p.1) : ∀ p ∈ y :: r', ∃ q ∈ x :: r, q.1 = p.1 := fun p hp => by
  rcases List.mem_cons.mp hp with rfl | hp
  · exact ⟨x, .head _, e⟩
  · obtain ⟨q, hq, e⟩ := h p hp; exact ⟨q, .tail _ hq, e⟩
theorem addr_app {tl r r' : Ledger} (h : ∀ p ∈ r', ∃ q ∈ r, q.1 = p.1) : ∀ p ∈ tl ++ r', ∃ q ∈ tl ++ r, q.1 = p.1 := fun p hp => by
  rcases List.mem_append.mp hp with hp | hp
  · exact ⟨p, List.mem_append.mpr (.inl hp), rfl⟩
  · obtain ⟨q, hq, e⟩ := h p hp; exact ⟨q, List.mem_append.mpr (.inr hq), e⟩
/-- a turn's end of a comprehension whose element makes the things of tl and turns the deck -/
theorem compEnd {h₀ : Heap} {L I C D : Addr} {m : Str → Option Value} {s₁ : Shared} {oI oC oD : Obj} {S : Ledger → Prop} {rest : Value → Ledger → Prop} {y : Value} {h' : Heap} {tk : Nat} {tl pre r r' : Ledger}
    (F : Fr h₀ L h' m) (N : News h₀ L h' (tl ++ (I, oI) :: (C, oC) :: (D, oD) :: r')) (off : LCg.Off3 I C D r) (ad : ∀ p ∈ r', ∃ q ∈ r, q.1 = p.1) (ap : Apart pre tl) (hI : (I, oI) ∈ pre) (hC : (C, oC) ∈ pre) (hD : (D, oD) ∈ pre) (hS : S (tl ++ r')) (hr : rest y (tl ++ r')) :
    LCg.CompEnd h₀ L m s₁ I oI C oC D oD S rest y { s₁ with heap := h', toks := tk } := by
  refine LCg.CompEnd.intro F N (tl ++ r') (fun p hp => ?_) (LCg.Off3.of fun p hp => ?_) hS hr
  · simp only [List.mem_cons, List.mem_append] at hp ⊢
    rcases hp with h | h | h | h | h <;> simp [h]
  · rcases List.mem_append.mp hp with h | h
    · exact ⟨Ne.symm (ap _ hI p h), Ne.symm (ap _ hC p h), Ne.symm (ap _ hD p h)⟩
    · obtain ⟨q, hq, e⟩ := ad p h
      have z := off.mem q hq
      rw [e] at z; exact z
/-- a turn's end that makes nothing and turns the deck -/
theorem compEnd0 {h₀ : Heap} {L I C D : Addr} {m : Str → Option Value} {s₁ : Shared} {oI oC oD : Obj} {S : Ledger → Prop} {rest : Value → Ledger → Prop} {y : Value} {h' : Heap} {tk : Nat} {led r r' : Ledger}
    (F : Fr h₀ L h' m) (N : News h₀ L h' led) (off : LCg.Off3 I C D r) (ad : ∀ p ∈ r', ∃ q ∈ r, q.1 = p.1) (hI : (I, oI) ∈ led) (hC : (C, oC) ∈ led) (hD : (D, oD) ∈ led) (sub : ∀ p ∈ r', p ∈ led) (hS : S r') (hr : rest y r') :
    LCg.CompEnd h₀ L m s₁ I oI C oC D oD S rest y { s₁ with heap := h', toks := tk } := by
  refine LCg.CompEnd.intro F N r' (fun p hp => ?_) (LCg.Off3.of fun p hp => ?_) hS hr
  · rcases List.mem_cons.mp hp with rfl | hp
    · exact hI
    · rcases List.mem_cons.mp hp with rfl | hp
      · exact hC
      · rcases List.mem_cons.mp hp with rfl | hp
        · exact hD
        · exact sub p hp
  · obtain ⟨q, hq, e⟩ := ad p hp
    have z := off.mem q hq
    rw [e] at z; exact z

theorem UpdF.upd {d : Addr} {o o' : Obj} {l : Ledger} {g : Obj → Ledger} (U : UpdF d o l g) : Upd d o o' l (g o') := by
  induction U with
  | head h => exact .head h
  | tail h _ ih => exact .tail h ih
theorem apart_in {d : Addr} {o : Obj} {pre tl : Ledger} (ap : Apart pre tl) (h : (d, o) ∈ pre) : NotIn d tl := fun p hp => Ne.symm (ap _ h p hp)
theorem apart2 {x dx : Addr} {o o' : Obj} {pre : Ledger} (h : AllLt dx pre) (h2 : @LT.lt Nat _ dx x) : Apart pre [(x, o), (dx, o')] := fun q hq p hp => by
  have z := tb_ltOf h q hq
  rcases List.mem_cons.mp hp with rfl | hp
  · exact Nat.ne_of_lt (Nat.lt_trans z h2)
  · rw [List.mem_singleton.mp hp]; exact Nat.ne_of_lt z
/-- a new vector: its object, its dict -/
inductive NewVec : Ledger → Addr → Str → Addr → Value → Prop where
  | mk {x dx l : Addr} {k : Str} {av : Value} {h1 h2 h3 h4 h5 : Int} {t0 t1 t2 t3 t4 t5 : Tok} : @LT.lt Nat _ dx x → NewVec [(x, instObj 67 dx), (dx, vecD h1 h2 h3 h4 h5 t0 t1 t2 t3 t4 t5 k l av)] x k l av
theorem NewVec.at {tl : Ledger} {x l : Addr} {k : Str} {av : Value} (h : NewVec tl x k l av) : VecAt tl x k l av := by cases h with | mk _ => exact .mk (.head _) (.tail _ (.head _))
section
variable {w : World} {mean : ExcName → Option Value} {mg mb : Str → Option Value} {pre : Ledger} {k : Str} {t : Tok} {l g : Addr} {av : Value}
theorem kw_10 : True := by
  (k_with "MYk_enter" => ((refine' code_def (by k_asm) (by k_asm) (by k_asm) (by k_asm) (by k_asm) rfl rfl (by assumption) (by k_is) (by k_is) (by k_room) (by first | exact BindsTo.of_eq rfl | exact binds_K (by k_in) rfl (by k_is) rfl rfl rfl) (locs rfl) ?_ rfl rfl rfl (by decide); k_whole; intro g' L' h' FG' F' N' B' X' T'; (try dsimp only); (try k_fold))))
  trivial
set_option maxRecDepth 100000 in
set_option maxHeartbeats 4000000 in
theorem mkVec3 : CallsK w mean mg mb 5 50 67 [.str k t, .ref l, av] pre fun K => ∀ x tl, NewVec tl x k l av → Apart pre tl → K (.ref x) (tl ++ pre) := by
  unfold CallsK; k_fill
  intro dp un gd cn cs a ccd cl outer A₀ base h₀ L m s Q E B F X N T hk hroom hunits ret
  k_steps
  exact ret _ [_, _] (.mk (by assumption)) (apart2 (by first | assumption | exact allLt_of (by assumption)) (by assumption)) _ _ (by assumption) (by assumption)
set_option maxRecDepth 100000 in
set_option maxHeartbeats 4000000 in
theorem mkVec2 : CallsK w mean mg mb 5 50 67 [.str k t, .ref l] pre fun K => ∀ x tl, NewVec tl x k l .none → Apart pre tl → K (.ref x) (tl ++ pre) := by
  unfold CallsK; k_fill
  intro dp un gd cn cs a ccd cl outer A₀ base h₀ L m s Q E B F X N T hk hroom hunits ret
  k_steps
  exact ret _ [_, _] (.mk (by assumption)) (apart2 (by first | assumption | exact allLt_of (by assumption)) (by assumption)) _ _ (by assumption) (by assumption)
set_option maxRecDepth 100000 in
set_option maxHeartbeats 4000000 in
theorem mkNull : CallsK w mean mg mb 5 50 38 [] pre fun K => ∀ x tl, NullAt tl x → Apart pre tl → K (.ref x) (tl ++ pre) := by
  unfold CallsK; k_fill
  intro dp un gd cn cs a ccd cl outer A₀ base h₀ L m s Q E B F X N T hk hroom hunits ret
  k_steps
  exact ret _ [_, _] (.mk (.head _) (.tail _ (.head _))) (apart2 (by first | assumption | exact allLt_of (by assumption)) (by assumption)) _ _ (by assumption) (by assumption)
set_option maxRecDepth 100000 in
set_option maxHeartbeats 4000000 in
theorem mkSym : CallsK w mean mg mb 5 50 88 [.str k t] pre fun K => ∀ x tl, SymAt tl x k → Apart pre tl → K (.ref x) (tl ++ pre) := by
  unfold CallsK; k_fill
  intro dp un gd cn cs a ccd cl outer A₀ base h₀ L m s Q E B F X N T hk hroom hunits ret
  k_steps
  exact ret _ [_, _] (.mk (.head _) (.tail _ (.head _))) (apart2 (by first | assumption | exact allLt_of (by assumption)) (by assumption)) _ _ (by assumption) (by assumption)
set_option maxRecDepth 100000 in
set_option maxHeartbeats 4000000 in
theorem mkCall : CallsK w mean mg mb 5 50 110 [.ref l, .ref g] pre fun K => ∀ x tl, CallAt tl x l g → Apart pre tl → K (.ref x) (tl ++ pre) := by
  unfold CallsK; k_fill
  intro dp un gd cn cs a ccd cl outer A₀ base h₀ L m s Q E B F X N T hk hroom hunits ret
  k_steps
  exact ret _ [_, _] (.mk (.head _) (.tail _ (.head _))) (apart2 (by first | assumption | exact allLt_of (by assumption)) (by assumption)) _ _ (by assumption) (by assumption)
end
theorem kw_11 : True := by
  k_with_none
  (k_with "MYk_all" => (first | assumption | (refine tbn_neAll ?_; first | tbn_find | exact allLt_of (by assumption) | exact allLt_swap (by assumption) (by tbn_find)) | (refine ne_app ?_ ?_ <;> k_all)))
  (k_with "MYmem" => (first | assumption | exact List.mem_cons_self | (with_reducible exact Slot.mem (by assumption) _) | ((with_reducible refine List.mem_cons_of_mem _ ?_); walk_at "MYmem") | ((with_reducible refine List.mem_append.mpr (Or.inl ?_)); assumption) | ((with_reducible refine List.mem_append.mpr (Or.inr ?_)); walk_at "MYmem")))
  (k_with "MYk_mem" => (walk_at "MYmem"))
  (k_with "MYk_room" => (ktr_room))
  (k_with "MYk_units" => (ktr_units))
  (k_with "MYsub" => ((intro p9 hp9; walk_at "MYmem")))
  (k_with "MYgo" => ((refine wpAny_call ?_; k_dflt ktr_enter; k_steps)))
  (k_with "MYpost" => ((intros; (try dsimp only); (try k_sweep); (try k_fold))))
  (k_with "MYc" => (exact Calm.use (by assumption) (by walk_at "MYsub")))
  (k_with "MYcall ref" => (((with_reducible show wpAny _ _ (call (Value.ref _) _) _ _ _); k_dflt (refine' CallsK.use (by k_asm) (by k_asm) (by k_asm) (by k_asm) (by k_asm) (by first | exact rfl | assumption) (by walk_at "MYc") (by ktr_room) (by ktr_units) ?_; walk_at "MYpost"))))
  (k_with "MYfld" => (exact HasField.up (by assumption) (by walk_at "MYsub")))
  (k_with "MYgetAttr" => (k_dflt (refine HasField.get (by k_asm) (by k_asm) (by k_asm) (by walk_at "MYfld") (by simp only [true_or, or_true]) ?_)))
  (k_with "MYcall builtin:isinstance" => (k_dflt (refine HasField.isi (by k_asm) (by k_asm) (by k_asm) (by walk_at "MYfld") (by first | exact cls_yes | exact cls_no (by first | assumption | decide)) ?_; intro _)))
  (k_with "MYcompareOp In str ref" => ((k_here; k_dflt (refine in_tup (News.isTup (by k_asm) (by k_mem)) (by kde_strs) (VK.not_in _) ?_))))
  (k_with "MYcompareOp Eq ref ref" => ((k_here; k_dflt (first
  | refine eq_items (by k_asm) (by k_mem) (by k_mem) (ItemIs.up (by assumption) (by walk_at "MYsub")) (ItemIs.up (by assumption) (by walk_at "MYsub")) (by ktr_units) ?_
  | refine eq_tags (by k_asm) (by k_mem) (by k_mem) (by assumption) (by assumption) (by ktr_units) ?_))))
  (k_with "MYidx" => (first | decide | (with_reducible exact Int.natCast_nonneg _) | (with_reducible exact small5 (by assumption)) | (with_reducible exact small5s (by assumption)) | omega))
  (k_with "MYsubscriptTail" => ((k_here; (with_reducible show wpAny _ _ (subscriptTail _ _ (Value.ref _) (Value.int _ _)) _ _ _); k_dflt (refine my_item (by k_asm) (by k_mem) (by walk_at "MYidx") (by walk_at "MYidx") (by first | rfl | assumption) ?_ (by with_unfolding_all rfl)))))
  (k_with "MYUnrEnd" => ((refine unrEnd_lt (by assumption) (by assumption) (by first | tbn_find | exact allLt_of (by assumption)) (by k_mem) (by walk_at "MYsub") ?_)))
  (k_with "MYcall builtin:len" => ((k_here; (with_reducible show wpAny _ _ (call (Value.builtin "len") [Value.ref _]) _ _ _); k_dflt (refine dlen (by k_asm) (by k_mem) (by k_asm) (by k_asm) (by first | assumption | exact Nat.zero_le _) ?_))))
  (k_with "MYcompareOp NotIn str ref" => ((k_here; k_dflt (first | refine kdg_notin (knd := PySem.strKind _ _) (by k_asm) (by k_mem) (by k_asm) (by k_asm) (strKind_is _ _ _ _) true (by assumption) ?_ | refine kdg_notin (knd := PySem.strKind _ _) (by k_asm) (by k_mem) (by k_asm) (by k_asm) (strKind_is _ _ _ _) false (by assumption) ?_))))
  (k_with "MYsubscriptTail" => ((k_here; (with_reducible show wpAny _ _ (subscriptTail _ _ (Value.ref _) (Value.str _ _)) _ _ _); k_dflt (refine kda_item (knd := PySem.strKind _ _) (by k_asm) (by k_mem) (by k_asm) (strKind_is _ _ _ _) (by assumption) ?_))))
  (k_with "MYle" => (((with_reducible first | refine le_v ?_ | refine le_u ?_ | refine le_w ?_ | refine le_k ?_ | skip); exact Nat.le_of_ble_eq_true rfl)))
  (k_with "MYktr_room" => (first | exact rm0 (by with_reducible assumption) | exact rm1 (by with_reducible assumption) (by walk_at "MYle") | exact Nat.le_of_ble_eq_true rfl))
  (k_with "MYktr_units" => (first | exact rm1 (by with_reducible assumption) (by walk_at "MYle") | exact un_c rfl))
  (k_with "MYsize_fits" => (exact Nat.le_of_ble_eq_true rfl))
  (k_with "MYar" => (first | exact ar3 (Nat.le_of_ble_eq_true rfl) | exact ar2 (Nat.le_of_ble_eq_true rfl) | exact ar1 (Nat.le_of_ble_eq_true rfl) | exact ar0 (Nat.le_of_ble_eq_true rfl) | omega))
  (k_with "MYpk" => (first | exact pk1 (by with_reducible assumption) | exact pk2 (by with_reducible assumption) | exact pk3 (by with_reducible assumption) | exact pk4 (by with_reducible assumption) | exact pk5 (by with_reducible assumption) | exact pk6 (by with_reducible assumption) | exact pl2 (by with_reducible assumption) | exact pl3 (by with_reducible assumption)))
  (k_with "MYne" => (first | (with_reducible assumption) | exact Ne.symm (by with_reducible assumption) | walk_at "MYpk" | (refine Nat.ne_of_lt ?_; walk_at "MYpk") | (refine Nat.ne_of_gt ?_; walk_at "MYpk")))
  (k_with "MYk_ne" => (first | exact ne_above (by assumption) (by tbn_find) | exact Ne.symm (ne_above (by assumption) (by tbn_find)) | exact ne_notIn (by assumption) (by assumption) | (refine neN ?_; (try dsimp only); first | walk_at "MYne" | omega)))
  (k_with "MYk_updF" => (first | exact Slot.upd (by assumption) | (refine' UpdF.app ?u8 ?v8; (case u8 => exact apart_in (by assumption) (by k_mem)); (case v8 => k_updF))))
  (k_with "MYk_upd" => (exact UpdF.upd (by k_updF)))
  (k_with "MYexecs cons" => ((refine any_toks ?_; intro _)))
  (k_with "MYexecs cons" => (dsimp only))
  trivial
theorem kw_12 : True := by
  (k_with "MYc" => (first | exact mkVec2 | exact mkVec3 | exact mkNull | exact mkSym | exact mkCall | exact card (by k_updF) (by assumption) (by decide) (by decide) | exact marked (by k_updF) (by assumption) (by assumption) (by assumption)))
  trivial

-- part M
theorem newOf_lt {pre led : Ledger} {p : Addr × Obj} (h : p ∈ led) (k : AllLt p.1 pre) : p ∈ newOf pre led := newOf_mem h (notIn_lt k)
theorem newOf_up {d : Addr} {o o' : Obj} {news base tl led : Ledger} (ap : Apart base tl) (m : (d, o') ∈ base) (sub : ∀ q ∈ news, q ∈ base) (s : ∀ p ∈ tl, p ∈ led) : ∀ p ∈ tl, p ∈ newOf ((d, o) :: news) led := fun p hp =>
  newOf_mem (s p hp) fun q hq => by
    rcases List.mem_cons.mp hq with rfl | hq
    · exact ap _ m p hp
    · exact ap q (sub q hq) p hp
section
variable {w : World} {mean : ExcName → Option Value} {mg mb : Str → Option Value} {d x dx l : Addr} {vs : List Value} {n : Nat} {news : Ledger} {k : Str} {h1 h2 h3 h4 h5 : Int} {t0 t1 t2 t3 t4 t5 : Tok} {h₀ : Heap} {L : Addr} {m : Str → Option Value} {s : Shared} {Q : Value → Shared → Prop} {led : Ledger} {h' : Heap} {tk : Nat} {vs' : List Value} {n' : Nat} {av : Value} {at' : Attr}
theorem marked_end
    (ret : ∀ tl' av at' vs' n', Cards vs' → VecAt tl' x k l av → AttrIs w tl' av at' → Apart ((d, listOf vs.toArray n) :: news) tl' → ∀ h' tk', Fr h₀ L h' m → News h₀ L h' (tl' ++ (d, listOf vs'.toArray n') :: news) → Q (.ref x) { s with heap := h', toks := tk' })
    (hx : NotIn x ((d, listOf vs.toArray n) :: news)) (hdx : NotIn dx ((d, listOf vs.toArray n) :: news))
    (F : Fr h₀ L h' m) (N : News h₀ L h' led) (m1 : (d, listOf vs'.toArray n') ∈ led) (hc : Cards vs') (m3 : (x, instObj 67 dx) ∈ led) (m2 : (dx, vecD h1 h2 h3 h4 h5 t0 t1 t2 t3 t4 t5 k l av) ∈ led) (m4 : ∀ p ∈ news, p ∈ led)
    (hA : AttrIs w (newOf ((d, listOf vs.toArray n) :: news) led) av at') : Q (.ref x) { s with heap := h', toks := tk } :=
  ret _ av at' vs' n' hc (.mk (newOf_mem m3 hx) (newOf_mem m2 hdx)) hA newOf_apart _ _ F (News.perm N fun p hp => by
    rcases List.mem_append.mp hp with h | h
    · exact newOf_sub p h
    · rcases List.mem_cons.mp h with rfl | h
      · exact m1
      · exact m4 p h)
theorem kw_13 : True := by
  (k_with "MYab" => (exact newOf_lt (by k_mem) ⟨by dsimp only; first | walk_at "MYpk" | omega, by tbn_find⟩))
  (k_with "MYvec" => (exact VecAt.up (NewVec.at (by assumption)) (newOf_up (by assumption) (by k_mem) (by walk_at "MYsub") (by walk_at "MYsub"))))
  (k_with "MYone" => (exact LeafIs.mk (k := .integer) (by walk_at "MYvec") (by walk_at "MYab") .int))
  (k_with "MYtwo" => (exact LeafIs.mk (k := .character) (by walk_at "MYvec") (by walk_at "MYab") (.str (by decide +kernel))))
  trivial
set_option maxRecDepth 100000 in
set_option maxHeartbeats 8000000 in
theorem marked0 (hc : Cards vs) (hnd : ∀ p ∈ news, p.1 ≠ d) (hnx : ∀ p ∈ news, p.1 ≠ dx) (e1 : @Ne Nat d x) (e1p : @Ne Nat d dx) (e2 : @Ne Nat dx x) (hx : NotIn x ((d, listOf vs.toArray n) :: news)) (hdx : NotIn dx ((d, listOf vs.toArray n) :: news)) :
    CallsK w mean mg mb 30 300 198 [.ref d, .ref x] ((d, listOf vs.toArray n) :: (x, instObj 67 dx) :: (dx, vecD h1 h2 h3 h4 h5 t0 t1 t2 t3 t4 t5 k l .none) :: news) fun K =>
      ∀ tl' av at' vs' n', Cards vs' → VecAt tl' x k l av → AttrIs w tl' av at' → Apart ((d, listOf vs.toArray n) :: news) tl' → K (.ref x) (tl' ++ (d, listOf vs'.toArray n') :: news) := by
  unfold CallsK; k_fill
  intro dp un gd cn cs a ccd cl outer A₀ base h₀ L m s Q E B F X N T hk hroom hunits ret
  walk_at "MYgo"
  all_goals (try (exfalso; omega))
  all_goals exact marked_end ret hx hdx (by assumption) (by assumption) (by k_mem) (by assumption) (by k_mem) (by k_mem) (by walk_at "MYsub") (by first
    | exact .none
    | exact .dict (by walk_at "MYab") (by assumption) (by assumption) (by first
      | exact .empty
      | exact .u (by walk_at "MYone")
      | exact .uw (by walk_at "MYone") (by walk_at "MYtwo")
      | exact .wu (by walk_at "MYone") (by walk_at "MYtwo")))
end
theorem marked {w : World} {mean : ExcName → Option Value} {mg mb : Str → Option Value} {d x l : Addr} {vs : List Value} {n : Nat} {k : Str} {tl pre : Ledger} {G : Obj → Ledger}
    (U : UpdF d (listOf vs.toArray n) pre G) (V : NewVec tl x k l .none) (ap : Apart pre tl) (hc : Cards vs) :
    CallsK w mean mg mb 30 300 198 [.ref d, .ref x] (tl ++ pre) fun K => ∀ tl' av at' vs' n', Cards vs' → VecAt tl' x k l av → AttrIs w tl' av at' → Apart pre tl' → K (.ref x) (tl' ++ G (listOf vs'.toArray n')) := by
  obtain ⟨md, mi⟩ := UpdF.mem_iff U
  cases V with | @mk _ dx _ _ _ h1 h2 h3 h4 h5 t0 t1 t2 t3 t4 t5 hlt =>
  have hn : ∀ p, p ∈ pre.filter (fun p => decide (p.1 ≠ d)) ↔ p ∈ pre ∧ p.1 ≠ d := fun p => by simp only [List.mem_filter, decide_eq_true_eq]
  have ax : ∀ q ∈ pre, @Ne Nat q.1 x := fun q hq => ap q hq _ (.head _)
  have adx : ∀ q ∈ pre, @Ne Nat q.1 dx := fun q hq => ap q hq _ (.tail _ (.head _))
  have sub : ∀ p ∈ (d, listOf vs.toArray n) :: pre.filter (fun p => decide (p.1 ≠ d)), p ∈ pre := fun p hp => by
    rcases List.mem_cons.mp hp with rfl | hp
    · exact md
    · exact ((hn p).mp hp).1
  refine (marked0 (vs := vs) (n := n) (news := pre.filter fun p => decide (p.1 ≠ d)) (dx := dx) (h1 := h1) (h2 := h2) (h3 := h3) (h4 := h4) (h5 := h5) (t0 := t0) (t1 := t1) (t2 := t2) (t3 := t3) (t4 := t4) (t5 := t5) hc (fun p hp => ((hn p).mp hp).2) (fun p hp => adx p ((hn p).mp hp).1) (ax _ md) (adx _ md) (Nat.ne_of_lt hlt) (fun q hq => ax q (sub q hq)) (fun q hq => adx q (sub q hq))).swap (fun p hp => ?_)
    fun K mono ret tl' av at' vs' n' a b c e => mono _ _ _ (fun p hp => ?_) (ret tl' av at' vs' n' a b c fun q hq p hp => ?_)
  · rcases List.mem_cons.mp hp with rfl | hp
    · exact .tail _ (.tail _ md)
    · rcases List.mem_cons.mp hp with rfl | hp
      · exact .head _
      · rcases List.mem_cons.mp hp with rfl | hp
        · exact .tail _ (.head _)
        · exact .tail _ (.tail _ ((hn p).mp hp).1)
  · rcases List.mem_append.mp hp with h | h
    · exact List.mem_append.mpr (.inl h)
    · refine List.mem_append.mpr (.inr ?_)
      rcases (mi _ p).mp h with rfl | h
      · exact .head _
      · exact .tail _ ((hn p).mpr h)
  · by_cases hd : q.1 = d
    · have := e (d, listOf vs.toArray n) (.head _) p hp
      rw [hd]; exact this
    · exact e q (.tail _ ((hn q).mpr ⟨hq, hd⟩)) p hp
theorem kw_14 : True := by
  k_with_none
  (k_with "MYk_all" => (first | assumption | (refine tbn_neAll ?_; first | tbn_find | exact allLt_of (by assumption) | exact allLt_swap (by assumption) (by tbn_find)) | (refine ne_app ?_ ?_ <;> k_all)))
  (k_with "MYmem" => (first | assumption | exact List.mem_cons_self | (with_reducible exact Slot.mem (by assumption) _) | ((with_reducible refine List.mem_cons_of_mem _ ?_); walk_at "MYmem") | ((with_reducible refine List.mem_append.mpr (Or.inl ?_)); assumption) | ((with_reducible refine List.mem_append.mpr (Or.inr ?_)); walk_at "MYmem")))
  (k_with "MYk_mem" => (walk_at "MYmem"))
  (k_with "MYk_room" => (ktr_room))
  (k_with "MYk_units" => (ktr_units))
  (k_with "MYsub" => ((intro p9 hp9; walk_at "MYmem")))
  (k_with "MYgo" => ((refine wpAny_call ?_; k_dflt ktr_enter; k_steps)))
  (k_with "MYpost" => ((intros; (try dsimp only); (try k_sweep); (try k_fold))))
  (k_with "MYc" => (exact Calm.use (by assumption) (by walk_at "MYsub")))
  (k_with "MYcall ref" => (((with_reducible show wpAny _ _ (call (Value.ref _) _) _ _ _); k_dflt (refine' CallsK.use (by k_asm) (by k_asm) (by k_asm) (by k_asm) (by k_asm) (by first | exact rfl | assumption) (by walk_at "MYc") (by ktr_room) (by ktr_units) ?_; walk_at "MYpost"))))
  (k_with "MYfld" => (exact HasField.up (by assumption) (by walk_at "MYsub")))
  (k_with "MYgetAttr" => (k_dflt (refine HasField.get (by k_asm) (by k_asm) (by k_asm) (by walk_at "MYfld") (by simp only [true_or, or_true]) ?_)))
  (k_with "MYcall builtin:isinstance" => (k_dflt (refine HasField.isi (by k_asm) (by k_asm) (by k_asm) (by walk_at "MYfld") (by first | exact cls_yes | exact cls_no (by first | assumption | decide)) ?_; intro _)))
  (k_with "MYcompareOp In str ref" => ((k_here; k_dflt (refine in_tup (News.isTup (by k_asm) (by k_mem)) (by kde_strs) (VK.not_in _) ?_))))
  (k_with "MYcompareOp Eq ref ref" => ((k_here; k_dflt (first
  | refine eq_items (by k_asm) (by k_mem) (by k_mem) (ItemIs.up (by assumption) (by walk_at "MYsub")) (ItemIs.up (by assumption) (by walk_at "MYsub")) (by ktr_units) ?_
  | refine eq_tags (by k_asm) (by k_mem) (by k_mem) (by assumption) (by assumption) (by ktr_units) ?_))))
  (k_with "MYidx" => (first | decide | (with_reducible exact Int.natCast_nonneg _) | (with_reducible exact small5 (by assumption)) | (with_reducible exact small5s (by assumption)) | omega))
  (k_with "MYsubscriptTail" => ((k_here; (with_reducible show wpAny _ _ (subscriptTail _ _ (Value.ref _) (Value.int _ _)) _ _ _); k_dflt (refine my_item (by k_asm) (by k_mem) (by walk_at "MYidx") (by walk_at "MYidx") (by first | rfl | assumption) ?_ (by with_unfolding_all rfl)))))
  (k_with "MYUnrEnd" => ((refine unrEnd_lt (by assumption) (by assumption) (by first | tbn_find | exact allLt_of (by assumption)) (by k_mem) (by walk_at "MYsub") ?_)))
  (k_with "MYcall builtin:len" => ((k_here; (with_reducible show wpAny _ _ (call (Value.builtin "len") [Value.ref _]) _ _ _); k_dflt (refine dlen (by k_asm) (by k_mem) (by k_asm) (by k_asm) (by first | assumption | exact Nat.zero_le _) ?_))))
  (k_with "MYcompareOp NotIn str ref" => ((k_here; k_dflt (first | refine kdg_notin (knd := PySem.strKind _ _) (by k_asm) (by k_mem) (by k_asm) (by k_asm) (strKind_is _ _ _ _) true (by assumption) ?_ | refine kdg_notin (knd := PySem.strKind _ _) (by k_asm) (by k_mem) (by k_asm) (by k_asm) (strKind_is _ _ _ _) false (by assumption) ?_))))
  (k_with "MYsubscriptTail" => ((k_here; (with_reducible show wpAny _ _ (subscriptTail _ _ (Value.ref _) (Value.str _ _)) _ _ _); k_dflt (refine kda_item (knd := PySem.strKind _ _) (by k_asm) (by k_mem) (by k_asm) (strKind_is _ _ _ _) (by assumption) ?_))))
  (k_with "MYle" => (((with_reducible first | refine le_v ?_ | refine le_u ?_ | refine le_w ?_ | refine le_k ?_ | skip); exact Nat.le_of_ble_eq_true rfl)))
  (k_with "MYktr_room" => (first | exact rm0 (by with_reducible assumption) | exact rm1 (by with_reducible assumption) (by walk_at "MYle") | exact Nat.le_of_ble_eq_true rfl))
  (k_with "MYktr_units" => (first | exact rm1 (by with_reducible assumption) (by walk_at "MYle") | exact un_c rfl))
  (k_with "MYsize_fits" => (exact Nat.le_of_ble_eq_true rfl))
  (k_with "MYar" => (first | exact ar3 (Nat.le_of_ble_eq_true rfl) | exact ar2 (Nat.le_of_ble_eq_true rfl) | exact ar1 (Nat.le_of_ble_eq_true rfl) | exact ar0 (Nat.le_of_ble_eq_true rfl) | omega))
  (k_with "MYpk" => (first | exact pk1 (by with_reducible assumption) | exact pk2 (by with_reducible assumption) | exact pk3 (by with_reducible assumption) | exact pk4 (by with_reducible assumption) | exact pk5 (by with_reducible assumption) | exact pk6 (by with_reducible assumption) | exact pl2 (by with_reducible assumption) | exact pl3 (by with_reducible assumption)))
  (k_with "MYne" => (first | (with_reducible assumption) | exact Ne.symm (by with_reducible assumption) | walk_at "MYpk" | (refine Nat.ne_of_lt ?_; walk_at "MYpk") | (refine Nat.ne_of_gt ?_; walk_at "MYpk")))
  (k_with "MYk_ne" => (first | exact ne_above (by assumption) (by tbn_find) | exact Ne.symm (ne_above (by assumption) (by tbn_find)) | exact ne_notIn (by assumption) (by assumption) | (refine neN ?_; (try dsimp only); first | walk_at "MYne" | omega)))
  (k_with "MYk_updF" => (first | exact Slot.upd (by assumption) | (refine' UpdF.app ?u8 ?v8; (case u8 => exact apart_in (by assumption) (by k_mem)); (case v8 => k_updF))))
  (k_with "MYk_upd" => (exact UpdF.upd (by k_updF)))
  (k_with "MYexecs cons" => ((refine any_toks ?_; intro _)))
  (k_with "MYexecs cons" => (dsimp only))
  (k_with "MYc" => (first | exact mkVec2 | exact mkVec3 | exact mkNull | exact mkSym | exact mkCall | exact card (by k_updF) (by assumption) (by decide) (by decide) | exact marked (by k_updF) (by assumption) (by assumption) (by assumption)))
  trivial

-- part T0
theorem compEnd1 {h₀ : Heap} {L I C D : Addr} {m : Str → Option Value} {s₁ : Shared} {oI oC oD : Obj} {S : Ledger → Prop} {rest : Value → Ledger → Prop} {y : Value} {h' : Heap} {tk : Nat} {x : Addr × Obj} {r r' : Ledger}
    (F : Fr h₀ L h' m) (N : News h₀ L h' (x :: (I, oI) :: (C, oC) :: (D, oD) :: r')) (off : LCg.Off3 I C D r) (ad : ∀ p ∈ r', ∃ q ∈ r, q.1 = p.1) (hS : S r') (hr : rest y r') :
    LCg.CompEnd h₀ L m s₁ I oI C oC D oD S rest y { s₁ with heap := h', toks := tk } :=
  compEnd0 F N off ad (.tail _ (.head _)) (.tail _ (.tail _ (.head _))) (.tail _ (.tail _ (.tail _ (.head _)))) (fun _ hp => .tail _ (.tail _ (.tail _ (.tail _ hp)))) hS hr
/-- a turn's end of a comprehension that makes nothing and turns nothing -/
theorem compEndS {h₀ : Heap} {L I C D : Addr} {m : Str → Option Value} {s₁ : Shared} {oI oC oD : Obj} {S : Ledger → Prop} {rest : Value → Ledger → Prop} {y : Value} {h' : Heap} {tk : Nat} {r : Ledger}
    (F : Fr h₀ L h' m) (N : News h₀ L h' ((I, oI) :: (C, oC) :: (D, oD) :: r)) (off : LCg.Off3 I C D r) (hS : S r) (hr : rest y r) :
    LCg.CompEnd h₀ L m s₁ I oI C oC D oD S rest y { s₁ with heap := h', toks := tk } :=
  compEnd0 F N off (fun p hp => ⟨p, hp, rfl⟩) (.head _) (.tail _ (.head _)) (.tail _ (.tail _ (.head _))) (fun _ hp => .tail _ (.tail _ (.tail _ hp))) hS hr
theorem kw_15 : True := by
  (k_with "MYCompRest" => ((with_unfolding_all first
  | (refine LCg.CompRest.succ ?_; intro v' I' oI' C' oC' D' m' h' tk' E' hv' hC' hx' F' N' off' ne'; (first | lcg_open hv' | (obtain ⟨t9', hv9'⟩ := hv'; subst hv9')); (try have q1' := off_slot (by assumption) off' (by walk_at "MYsub")))
  | refine LCg.CompRest.zero ?_)))
  (k_with "MYbinaryOp Add ref ref" => ((k_here; k_dflt (refine cat2 (by k_asm) (by k_asm) (by k_mem) (by k_mem) (Nat.le_of_ble_eq_true rfl) ?_; intro a' h' F' N' l1; (try simp only [allLt_append, AllLt, and_true] at l1); (try simp only [List.nil_append, List.cons_append] at N')))))
  (k_with "MYeval ListComp" => ((k_here; k_dflt (refine LCg.ListComp_U (F₀ := by k_asm) (by with_unfolding_all rfl) (by decide) (by rfl) (by decide) (by rfl) ?_))))
  (k_with "MYexec Assign cons ListComp" => ((k_here; lcf_look; k_dflt (refine LCg.Assign_ListComp_U (F₀ := by k_asm) (by rfl) (by with_unfolding_all rfl) (by with_unfolding_all rfl) (by decide) (by rfl) (by decide) (by rfl) (by rfl) (by rfl) ?_))))
  (k_with "MYCompSrc" => ((k_here; k_dflt (first
  | (refine LCg.CompSrc.range (by rfl) (by k_asm) (by k_asm) (by assumption) (by first | decide | rfl) (by first | rfl | decide) (by first | size_fits | exact Nat.le_of_ble_eq_true rfl) ?_; intro g'; lcg_lit)
  | (refine LCg.CompSrc.ledger (by rfl) (by k_asm) (by k_asm) (by k_mem) (by first | size_fits | exact Nat.le_of_ble_eq_true rfl) ?_; intro g'; lcg_lit)))))
  (k_with "MYaddr" => (first | exact Slot.addr (by assumption) | (refine addr_cons rfl ?_; walk_at "MYaddr") | (refine addr_app ?_; walk_at "MYaddr")))
  (k_with "MYor" => (first | exact True.intro | exact Or.inr ⟨_, by k_mem, rfl, _, rfl⟩))
  (k_with "MYCompEnd" => (k_dflt (first
  | refine compEndS (by assumption) (by assumption) (by assumption) (by walk_at "MYor") ?_
  | refine compEnd (by assumption) (by assumption) (by assumption) (by walk_at "MYaddr") (by assumption) (by k_mem) (by k_mem) (by k_mem) (by walk_at "MYor") ?_
  | refine compEnd1 (by assumption) (by assumption) (by assumption) (by walk_at "MYaddr") (by walk_at "MYor") ?_)))
  (k_with "MYfin" => ((intro D' h' tk' F' N' o1'; (try have q2' := notIn_off1 (by assumption) o1' (by walk_at "MYsub")); (try simp only [List.nil_append, List.cons_append] at N'); (try dsimp only))))
  (k_with "MYFinA" => ((unfold LCg.FinA; walk_at "MYfin")))
  (k_with "MYFinE" => ((unfold LCg.FinE; walk_at "MYfin")))
  (k_with "MYcall builtin:list.append" => ((k_here; (with_reducible show wpAny _ _ (call (Value.builtin _) [Value.ref _, _]) _ _ _); k_dflt (refine append_K (by k_asm) (by k_asm) (by k_upd) ?_ (by assumption)); intro h' F' N'; (try k_sweep))))
  trivial

-- part T
section
variable {w : World} {mean : ExcName → Option Value} {mg mb : Str → Option Value} {room dep : Nat} {k : Int}
def ThOK (w : World) (mean : ExcName → Option Value) (mg mb : Str → Option Value) (k : Int) (room dep : Nat) : Prop :=
  ∀ (d : Addr) (o : Obj) (vs : List Value) (n : Nat) (g : Obj → Ledger) (t : Tok), Slot d g → o = listOf vs.toArray n → Cards vs →
    CallsK w mean mg mb room (10 * room) 203 [.ref d, .int k t] (g o) fun K => ∀ r x tl vs' n', Is w tl r x → x.depth ≤ dep → Cards vs' → Apart (g o) tl → K r (tl ++ g (listOf vs'.toArray n'))
theorem ThOK.use {d : Addr} {vs : List Value} {n : Nat} {pre : Ledger} {G : Obj → Ledger} {t : Tok} (h : ThOK w mean mg mb k room dep) (U : UpdF d (listOf vs.toArray n) pre G) (hc : Cards vs) :
    CallsK w mean mg mb room (10 * room) 203 [.ref d, .int k t] pre fun K => ∀ r x tl vs' n', Is w tl r x → x.depth ≤ dep → Cards vs' → Apart pre tl → K r (tl ++ G (listOf vs'.toArray n')) := by
  obtain ⟨e, S⟩ := Mine.UpdF.slot U
  subst e
  exact h d _ vs n G t S rfl hc
inductive KS : Str → VK → Prop where
  | integer : KS "integer" .integer
  | double : KS "double" .double
  | logical : KS "logical" .logical
  | character : KS "character" .character
theorem Is.vecK {news : Ledger} {a l : Addr} {k : VK} {ks : Str} {v av : Value} {i : Item} {at' : Attr} {n : Nat} (m1 : VecAt news a ks l av) (hk : KS ks k) (m3 : (l, listOf #[v] n) ∈ news) (hi : ItemIs news v i) (ha : AttrIs w news av at') :
    Is w news (.ref a) (.vec k i at') := by cases hk <;> exact .vec m1 m3 hi ha
theorem TagIs.item {news : Ledger} {v : Value} {t : Option Str} (h : TagIs v t) : ∃ i, ItemIs news v i := by
  cases h with
  | none => exact ⟨_, .none⟩
  | str h => exact ⟨_, .str h⟩
theorem CallAt.up {news news' : Ledger} {a l g : Addr} (h : CallAt news a l g) (s : ∀ p ∈ news, p ∈ news') : CallAt news' a l g := by cases h with | mk a b => exact .mk (s _ a) (s _ b)
theorem newOf_grow {pre led led' : Ledger} (s : ∀ p ∈ led, p ∈ led') : ∀ p ∈ newOf pre led, p ∈ newOf pre led' := fun p hp => newOf_mem (s p (newOf_sub p hp)) fun q hq => newOf_apart q hq p hp
theorem ItemIs.nil {news : Ledger} {v : Value} {i : Item} (h : ItemIs [] v i) : ItemIs news v i := h.up fun _ q => nomatch q
section
variable {o : Obj} {g : Obj → Ledger} {h₀ : Heap} {L : Addr} {m : Str → Option Value} {s : Shared} {Q : Value → Shared → Prop} {led : Ledger} {h' : Heap} {tk : Nat} {vs' : List Value} {n' : Nat} {r : Value} {x : D}
theorem thing_end
    (ret : ∀ r x tl vs' n', Is w tl r x → x.depth ≤ dep → Cards vs' → Apart (g o) tl → ∀ h' tk', Fr h₀ L h' m → News h₀ L h' (tl ++ g (listOf vs'.toArray n')) → Q r { s with heap := h', toks := tk' })
    (F : Fr h₀ L h' m) (N : News h₀ L h' led) (hc : Cards vs') (mg : ∀ p ∈ g (listOf vs'.toArray n'), p ∈ led) (hI : Is w (newOf (g o) led) r x) (hd : x.depth ≤ dep) : Q r { s with heap := h', toks := tk } :=
  ret _ x _ vs' n' hI hd hc newOf_apart _ _ F (News.perm N fun p hp => (List.mem_append.mp hp).elim (newOf_sub p) (mg p))
end
theorem pick {prog : Program} {A : Around} {E : Value → Shared → Prop} {s : Shared} {h₀ : Heap} {L l : Addr} {news : Ledger} {n : Nat} {value slice : PySem.Expr} {vs : List Value} {i b : Int} {u : Tok} {Q : Value → Shared → Prop} (P : Value → Prop)
    (N : News h₀ L s.heap news) (hm : (l, listOf vs.toArray n) ∈ news) (h0 : 0 ≤ i) (h1 : i < b) (hb : b = (vs.length : Int)) (hz : b ≤ 1000) (hP : ∀ v ∈ vs, P v) (h : ∀ v, P v → Q v s)
    (hs : subscripted slice false (.ref l) (.int i u) = operate [.ref l, .int i u] (getItem (.ref l) (.int i u))) : wpAny (model prog w) A (subscriptTail value slice (.ref l) (.int i u)) Q E s := by
  have hlt : i.toNat < vs.length := by omega
  exact my_item N hm h0 (Int.lt_trans (Int.lt_of_lt_of_le h1 hz) (by decide)) (List.getElem?_eq_getElem hlt) (h _ (hP _ (List.getElem_mem hlt))) hs
theorem pickN {prog : Program} {A : Around} {E : Value → Shared → Prop} {s : Shared} {h₀ : Heap} {L l : Addr} {news : Ledger} {n : Nat} {value slice : PySem.Expr} {vs : List Value} {i b : Int} {u : Tok} {Q : Value → Shared → Prop} (pre : Ledger)
    (N : News h₀ L s.heap news) (hm : (l, listOf vs.toArray n) ∈ news) (h0 : 0 ≤ i) (h1 : i < b) (hb : b = (vs.length : Int)) (hz : b ≤ 1000) (hP : ∀ v ∈ vs, ∃ i, ItemIs (newOf pre news) v i) (h : ∀ v, (∃ i, ItemIs (newOf pre news) v i) → Q v s)
    (hs : subscripted slice false (.ref l) (.int i u) = operate [.ref l, .int i u] (getItem (.ref l) (.int i u))) : wpAny (model prog w) A (subscriptTail value slice (.ref l) (.int i u)) Q E s := pick _ N hm h0 h1 hb hz hP h hs
theorem split_add {prog : Program} {A : Around} {E : Value → Shared → Prop} {s : Shared} {Q : Value → Shared → Prop} {i : Int} {t t' : Tok} (h0 : 0 ≤ i) (h1 : i < 2)
    (a : wpAny (model prog w) A (binaryOp .Add (.int 1 t) (.int 0 t')) Q E s) (b : wpAny (model prog w) A (binaryOp .Add (.int 1 t) (.int 1 t')) Q E s) : wpAny (model prog w) A (binaryOp .Add (.int 1 t) (.int i t')) Q E s := by
  rcases split2 h0 h1 with rfl | rfl
  · exact a
  · exact b
section
theorem kw_16 : True := by
  (k_with "MYc" => (exact ThOK.use ((by assumption : _ → ThOK _ _ _ _ _ _ _) (by assumption)) (by k_updF) (by assumption)))
  (k_with "MYbinaryOp Add int int" => (refine split_add (by assumption) (by assumption) ?_ ?_))
  (k_with "MYab" => (exact newOf_mem (by k_mem) (by (try dsimp only); first | exact notIn_lt (by tbn_find) | exact notIn_lt (allLt_swap (by assumption) (by tbn_find)) | exact notIn_swap (by assumption) (by assumption))))
  (k_with "MYall" => (first | exact fun _ h => absurd h List.not_mem_nil | (refine List.forall_mem_cons.mpr ⟨?_, ?_⟩; (first | exact ⟨_, _, rfl⟩ | exact ⟨_, .none⟩ | exact ⟨_, .str (by decide +kernel)⟩ | exact ⟨_, .int⟩ | exact ⟨_, .pair (by walk_at "MYab")⟩); walk_at "MYall")))
  (k_with "MYsubscriptTail" => (((with_reducible show wpAny _ _ (subscriptTail _ _ (Value.ref _) (Value.int _ _)) _ _ _); k_dflt (first
  | (refine pick (fun v => ∃ s t, v = Value.str s t) (by k_asm) (by k_mem) (by assumption) (by assumption) (by rfl) (by decide) (by walk_at "MYall") ?_ (by with_unfolding_all rfl); rintro _ ⟨s', t', rfl⟩)
  | (refine pick (fun v => ∃ t, TagIs v t) (by k_asm) (by k_mem) (by assumption) (by assumption) (by rfl) (by decide) (by walk_at "MYall") ?_ (by with_unfolding_all rfl); rintro v' ⟨_, _⟩)
  | (refine pick (fun v => ∃ i, ItemIs [] v i) (by k_asm) (by k_mem) (by assumption) (by assumption) (by rfl) (by decide) (by walk_at "MYall") ?_ (by with_unfolding_all rfl); rintro v' ⟨_, _⟩)
  | (refine pickN (g (listOf vs.toArray n)) (by k_asm) (by k_mem) (by assumption) (by assumption) (by rfl) (by decide) (by walk_at "MYall") ?_ (by with_unfolding_all rfl); rintro v' ⟨_, _⟩)))))
  (k_with "MYup" => (exact newOf_tl (by assumption) (by assumption) (by walk_at "MYsub") (by walk_at "MYsub")))
  (k_with "MYv" => (first | exact VecAt.up (by assumption) (by walk_at "MYup") | exact VecAt.up (NewVec.at (by assumption)) (by walk_at "MYup")))
  (k_with "MYi" => (first | exact .int | exact ItemIs.nil (by assumption) | exact (TagIs.item (by assumption)).choose_spec | exact ItemIs.up (by assumption) (newOf_grow (by walk_at "MYsub"))))
  (k_with "MYa" => (first | exact .none | exact AttrIs.up (by assumption) (by walk_at "MYup")))
  (k_with "MYc1" => (exact Is.up (by assumption) (by walk_at "MYup")))
  (k_with "MYis" => (first
  | exact Is.list1 (by walk_at "MYv") (by walk_at "MYab") (by walk_at "MYc1") (by walk_at "MYa")
  | exact Is.list2 (by walk_at "MYv") (by walk_at "MYab") (by walk_at "MYc1") (by walk_at "MYc1") (by walk_at "MYa")
  | exact Is.vecK (by walk_at "MYv") (by constructor) (by walk_at "MYab") (by walk_at "MYi") (by walk_at "MYa")
  | exact Is.up (.null (by assumption)) (by walk_at "MYup")
  | exact Is.up (.sym (by assumption)) (by walk_at "MYup")
  | exact Is.call1 (CallAt.up (by assumption) (by walk_at "MYup")) (by walk_at "MYab") (by walk_at "MYab") (by walk_at "MYc1")
  | exact Is.call2 (CallAt.up (by assumption) (by walk_at "MYup")) (by walk_at "MYab") (by walk_at "MYab") (by assumption) (by walk_at "MYc1") (by walk_at "MYc1")))
  (k_with "MYdep" => (first | exact Nat.zero_le _ | exact Nat.succ_le_succ (by assumption) | exact Nat.succ_le_succ (Nat.max_le.mpr ⟨by assumption, by assumption⟩)))
  trivial
set_option maxRecDepth 100000 in
set_option maxHeartbeats 8000000 in
theorem thing_step (hth : k ≠ 2 → ThOK w mean mg mb (k + 1) room dep) : ThOK w mean mg mb k (room + 40) (dep + 1) := by
  intro d o vs n g t S ho hc
  unfold CallsK; k_fill
  intro dp un gd cn cs a ccd cl outer A₀ base h₀ L m s Q E B F X N T hk hroom hunits ret
  subst ho
  refine wpAny_call ?_
  k_dflt (refine' code_defC ?k1 ?k2 ?k3 ?k4 ?k5 ?kA ?kF ?kK ?k6 ?k7 ?k8 ?k9 ?kB ?kD ?_ ?c2 ?c3 ?c4; (case kA => exact rfl); (case kF => exact rfl); (case kK => assumption); (case k1 => k_asm); (case k2 => k_asm); (case k3 => k_asm); (case k4 => k_asm); (case k5 => k_asm); (case k6 => k_is); (case k7 => k_is); (case k8 => ktr_room); (case k9 => exact BindsTo.of_eq rfl); (case kB => exact rfl); (case kD => decide +kernel); (case c2 => exact rfl); (case c3 => exact rfl); (case c4 => exact rfl); k_whole; intro g' L' h' tk' cells' FG' F' N' Y' B' X' T' l1; (try k_lt l1); (try have l2 := tbn_up (Nat.lt_add_one _) l1); (try have l3 := tbn_up (Nat.lt_add_one _) l2); k_cells Y'; (try simp only [List.cons_append, List.nil_append] at N'); (try dsimp only); (try k_fold))
  k_steps
  all_goals exact thing_end ret (by assumption) (by assumption) (by assumption) (by walk_at "MYsub") (by walk_at "MYis") (by walk_at "MYdep")
end
/-- _law_thing at the top: five levels of nothing, two deep -/
theorem thing0 : ThOK w mean mg mb 0 120 3 :=
  thing_step (k := 0) (room := 80) fun _ => thing_step (k := 1) (room := 40) fun _ => thing_step (k := 2) (room := 0) (dep := 0) fun h => absurd rfl h
end
theorem kw_17 : True := by
  k_with_none
  (k_with "MYk_all" => (first | assumption | (refine tbn_neAll ?_; first | tbn_find | exact allLt_of (by assumption) | exact allLt_swap (by assumption) (by tbn_find)) | (refine ne_app ?_ ?_ <;> k_all)))
  (k_with "MYmem" => (first | assumption | exact List.mem_cons_self | (with_reducible exact Slot.mem (by assumption) _) | ((with_reducible refine List.mem_cons_of_mem _ ?_); walk_at "MYmem") | ((with_reducible refine List.mem_append.mpr (Or.inl ?_)); assumption) | ((with_reducible refine List.mem_append.mpr (Or.inr ?_)); walk_at "MYmem")))
  (k_with "MYk_mem" => (walk_at "MYmem"))
  (k_with "MYk_room" => (ktr_room))
  (k_with "MYk_units" => (ktr_units))
  (k_with "MYsub" => ((intro p9 hp9; walk_at "MYmem")))
  (k_with "MYgo" => ((refine wpAny_call ?_; k_dflt ktr_enter; k_steps)))
  (k_with "MYpost" => ((intros; (try dsimp only); (try k_sweep); (try k_fold))))
  (k_with "MYc" => (exact Calm.use (by assumption) (by walk_at "MYsub")))
  (k_with "MYcall ref" => (((with_reducible show wpAny _ _ (call (Value.ref _) _) _ _ _); k_dflt (refine' CallsK.use (by k_asm) (by k_asm) (by k_asm) (by k_asm) (by k_asm) (by first | exact rfl | assumption) (by walk_at "MYc") (by ktr_room) (by ktr_units) ?_; walk_at "MYpost"))))
  (k_with "MYfld" => (exact HasField.up (by assumption) (by walk_at "MYsub")))
  (k_with "MYgetAttr" => (k_dflt (refine HasField.get (by k_asm) (by k_asm) (by k_asm) (by walk_at "MYfld") (by simp only [true_or, or_true]) ?_)))
  (k_with "MYcall builtin:isinstance" => (k_dflt (refine HasField.isi (by k_asm) (by k_asm) (by k_asm) (by walk_at "MYfld") (by first | exact cls_yes | exact cls_no (by first | assumption | decide)) ?_; intro _)))
  (k_with "MYcompareOp In str ref" => ((k_here; k_dflt (refine in_tup (News.isTup (by k_asm) (by k_mem)) (by kde_strs) (VK.not_in _) ?_))))
  (k_with "MYcompareOp Eq ref ref" => ((k_here; k_dflt (first
  | refine eq_items (by k_asm) (by k_mem) (by k_mem) (ItemIs.up (by assumption) (by walk_at "MYsub")) (ItemIs.up (by assumption) (by walk_at "MYsub")) (by ktr_units) ?_
  | refine eq_tags (by k_asm) (by k_mem) (by k_mem) (by assumption) (by assumption) (by ktr_units) ?_))))
  (k_with "MYidx" => (first | decide | (with_reducible exact Int.natCast_nonneg _) | (with_reducible exact small5 (by assumption)) | (with_reducible exact small5s (by assumption)) | omega))
  (k_with "MYsubscriptTail" => ((k_here; (with_reducible show wpAny _ _ (subscriptTail _ _ (Value.ref _) (Value.int _ _)) _ _ _); k_dflt (refine my_item (by k_asm) (by k_mem) (by walk_at "MYidx") (by walk_at "MYidx") (by first | rfl | assumption) ?_ (by with_unfolding_all rfl)))))
  (k_with "MYUnrEnd" => ((refine unrEnd_lt (by assumption) (by assumption) (by first | tbn_find | exact allLt_of (by assumption)) (by k_mem) (by walk_at "MYsub") ?_)))
  (k_with "MYcall builtin:len" => ((k_here; (with_reducible show wpAny _ _ (call (Value.builtin "len") [Value.ref _]) _ _ _); k_dflt (refine dlen (by k_asm) (by k_mem) (by k_asm) (by k_asm) (by first | assumption | exact Nat.zero_le _) ?_))))
  (k_with "MYcompareOp NotIn str ref" => ((k_here; k_dflt (first | refine kdg_notin (knd := PySem.strKind _ _) (by k_asm) (by k_mem) (by k_asm) (by k_asm) (strKind_is _ _ _ _) true (by assumption) ?_ | refine kdg_notin (knd := PySem.strKind _ _) (by k_asm) (by k_mem) (by k_asm) (by k_asm) (strKind_is _ _ _ _) false (by assumption) ?_))))
  (k_with "MYsubscriptTail" => ((k_here; (with_reducible show wpAny _ _ (subscriptTail _ _ (Value.ref _) (Value.str _ _)) _ _ _); k_dflt (refine kda_item (knd := PySem.strKind _ _) (by k_asm) (by k_mem) (by k_asm) (strKind_is _ _ _ _) (by assumption) ?_))))
  (k_with "MYle" => (((with_reducible first | refine le_v ?_ | refine le_u ?_ | refine le_w ?_ | refine le_k ?_ | skip); exact Nat.le_of_ble_eq_true rfl)))
  (k_with "MYktr_room" => (first | exact rm0 (by with_reducible assumption) | exact rm1 (by with_reducible assumption) (by walk_at "MYle") | exact Nat.le_of_ble_eq_true rfl))
  (k_with "MYktr_units" => (first | exact rm1 (by with_reducible assumption) (by walk_at "MYle") | exact un_c rfl))
  (k_with "MYsize_fits" => (exact Nat.le_of_ble_eq_true rfl))
  (k_with "MYar" => (first | exact ar3 (Nat.le_of_ble_eq_true rfl) | exact ar2 (Nat.le_of_ble_eq_true rfl) | exact ar1 (Nat.le_of_ble_eq_true rfl) | exact ar0 (Nat.le_of_ble_eq_true rfl) | omega))
  (k_with "MYpk" => (first | exact pk1 (by with_reducible assumption) | exact pk2 (by with_reducible assumption) | exact pk3 (by with_reducible assumption) | exact pk4 (by with_reducible assumption) | exact pk5 (by with_reducible assumption) | exact pk6 (by with_reducible assumption) | exact pl2 (by with_reducible assumption) | exact pl3 (by with_reducible assumption)))
  (k_with "MYne" => (first | (with_reducible assumption) | exact Ne.symm (by with_reducible assumption) | walk_at "MYpk" | (refine Nat.ne_of_lt ?_; walk_at "MYpk") | (refine Nat.ne_of_gt ?_; walk_at "MYpk")))
  (k_with "MYk_ne" => (first | exact ne_above (by assumption) (by tbn_find) | exact Ne.symm (ne_above (by assumption) (by tbn_find)) | exact ne_notIn (by assumption) (by assumption) | (refine neN ?_; (try dsimp only); first | walk_at "MYne" | omega)))
  (k_with "MYk_updF" => (first | exact Slot.upd (by assumption) | (refine' UpdF.app ?u8 ?v8; (case u8 => exact apart_in (by assumption) (by k_mem)); (case v8 => k_updF))))
  (k_with "MYk_upd" => (exact UpdF.upd (by k_updF)))
  (k_with "MYexecs cons" => ((refine any_toks ?_; intro _)))
  (k_with "MYexecs cons" => (dsimp only))
  (k_with "MYc" => (first | exact mkVec2 | exact mkVec3 | exact mkNull | exact mkSym | exact mkCall | exact card (by k_updF) (by assumption) (by decide) (by decide) | exact marked (by k_updF) (by assumption) (by assumption) (by assumption)))
  (k_with "MYCompRest" => ((with_unfolding_all first
  | (refine LCg.CompRest.succ ?_; intro v' I' oI' C' oC' D' m' h' tk' E' hv' hC' hx' F' N' off' ne'; (first | lcg_open hv' | (obtain ⟨t9', hv9'⟩ := hv'; subst hv9')); (try have q1' := off_slot (by assumption) off' (by walk_at "MYsub")))
  | refine LCg.CompRest.zero ?_)))
  (k_with "MYbinaryOp Add ref ref" => ((k_here; k_dflt (refine cat2 (by k_asm) (by k_asm) (by k_mem) (by k_mem) (Nat.le_of_ble_eq_true rfl) ?_; intro a' h' F' N' l1; (try simp only [allLt_append, AllLt, and_true] at l1); (try simp only [List.nil_append, List.cons_append] at N')))))
  (k_with "MYeval ListComp" => ((k_here; k_dflt (refine LCg.ListComp_U (F₀ := by k_asm) (by with_unfolding_all rfl) (by decide) (by rfl) (by decide) (by rfl) ?_))))
  (k_with "MYexec Assign cons ListComp" => ((k_here; lcf_look; k_dflt (refine LCg.Assign_ListComp_U (F₀ := by k_asm) (by rfl) (by with_unfolding_all rfl) (by with_unfolding_all rfl) (by decide) (by rfl) (by decide) (by rfl) (by rfl) (by rfl) ?_))))
  (k_with "MYCompSrc" => ((k_here; k_dflt (first
  | (refine LCg.CompSrc.range (by rfl) (by k_asm) (by k_asm) (by assumption) (by first | decide | rfl) (by first | rfl | decide) (by first | size_fits | exact Nat.le_of_ble_eq_true rfl) ?_; intro g'; lcg_lit)
  | (refine LCg.CompSrc.ledger (by rfl) (by k_asm) (by k_asm) (by k_mem) (by first | size_fits | exact Nat.le_of_ble_eq_true rfl) ?_; intro g'; lcg_lit)))))
  (k_with "MYaddr" => (first | exact Slot.addr (by assumption) | (refine addr_cons rfl ?_; walk_at "MYaddr") | (refine addr_app ?_; walk_at "MYaddr")))
  (k_with "MYor" => (first | exact True.intro | exact Or.inr ⟨_, by k_mem, rfl, _, rfl⟩))
  (k_with "MYCompEnd" => (k_dflt (first
  | refine compEndS (by assumption) (by assumption) (by assumption) (by walk_at "MYor") ?_
  | refine compEnd (by assumption) (by assumption) (by assumption) (by walk_at "MYaddr") (by assumption) (by k_mem) (by k_mem) (by k_mem) (by walk_at "MYor") ?_
  | refine compEnd1 (by assumption) (by assumption) (by assumption) (by walk_at "MYaddr") (by walk_at "MYor") ?_)))
  (k_with "MYfin" => ((intro D' h' tk' F' N' o1'; (try have q2' := notIn_off1 (by assumption) o1' (by walk_at "MYsub")); (try simp only [List.nil_append, List.cons_append] at N'); (try dsimp only))))
  (k_with "MYFinA" => ((unfold LCg.FinA; walk_at "MYfin")))
  (k_with "MYFinE" => ((unfold LCg.FinE; walk_at "MYfin")))
  (k_with "MYcall builtin:list.append" => ((k_here; (with_reducible show wpAny _ _ (call (Value.builtin _) [Value.ref _, _]) _ _ _); k_dflt (refine append_K (by k_asm) (by k_asm) (by k_upd) ?_ (by assumption)); intro h' F' N'; (try k_sweep))))
  trivial

-- part D
/-- a turn's end -/
def DkEnd (h₀ : Heap) (L I : Addr) (own : Ledger) (J : (Str → Option Value) → Ledger → Prop) (s₁ : Shared) (f : Flow) (s₂ : Shared) : Prop :=
  f = .next ∧ ∃ h' tk m₂ news₂, s₂ = { s₁ with heap := h', toks := tk } ∧ Fr h₀ L h' m₂ ∧ News h₀ L h' (own ++ news₂) ∧ NotIn I news₂ ∧ J m₂ news₂
theorem DkEnd.intro {h₀ : Heap} {L I : Addr} {own led : Ledger} {J : (Str → Option Value) → Ledger → Prop} {s₁ : Shared} {h' : Heap} {tk : Nat} {m₂ : Str → Option Value} (F : Fr h₀ L h' m₂) (N : News h₀ L h' led) (news₂ : Ledger)
    (so : ∀ p ∈ own, p ∈ led) (sn : ∀ p ∈ news₂, p ∈ led) (off : NotIn I news₂) (hj : J m₂ news₂) : DkEnd h₀ L I own J s₁ .next { s₁ with heap := h', toks := tk } :=
  ⟨rfl, h', tk, m₂, news₂, rfl, F, fun p hp => N p ((List.mem_append.mp hp).elim (so p) (sn p)), off, hj⟩
section
variable {prog : Program} {w : World} {A : Around} {E : Value → Shared → Prop} {s : Shared} {env : Env} {h₀ : Heap} {x : Str} {body : List Stmt} {Q : Flow → Shared → Prop}
theorem iter_dk {l : Addr} {vs : List Value} {ns : List Int} {m₀ : Str → Option Value} {news : Ledger} (J : Nat → (Str → Option Value) → Ledger → Prop)
    (hh : A.handled = none) (hl : s.heap.IsList l vs.toArray) (hi : IntsAre vs ns) (hlL : l ≠ env.locals) (F : Fr h₀ env.locals s.heap m₀) (N : News h₀ env.locals s.heap news) (hj : J 0 m₀ news)
    (turn : ∀ i n t m₁ news₁ I oI own (s₁ : Shared), i < ns.length → J i m₁ news₁ → (I, oI) ∈ own → NotIn I news₁ → Fr h₀ env.locals s₁.heap (fun y => if y = x then some (.int n t) else m₁ y) → News h₀ env.locals s₁.heap (own ++ news₁) →
      wpAny (model prog w) A (execs body env) (DkEnd h₀ env.locals I own (J (i + 1)) s₁) E s₁)
    (done : ∀ m₁ news₁ h tk, J ns.length m₁ news₁ → Fr h₀ env.locals h m₁ → News h₀ env.locals h news₁ → Q .next { s with heap := h, toks := tk }) :
    wpAny (model prog w) A (pyIter (.ref l)) (fun it s₂ => LoopAtU prog w A h₀ env x body Q E it s₂) E s := by
  have hlt : l < s.heap.objs.size := by obtain ⟨_, e, _⟩ := hl; exact Heap.lt_size e
  refine wpAny_pyIter_list hl ?_
  have W := Walks.list (prog := prog) (w := w) hh s.heap.objs.size l (Nat.ne_of_lt hlt) vs.toArray
  have hlen : vs.toArray.size = ns.length := by simp [hi.length]
  rw [hlen] at W
  refine ⟨_, _, _, ns.length, _, _, m₀, news, J, rfl, W, ?_, ?_, ?_, ⟨⟨_, Heap.get?_push_size _ rfl, rfl, rfl⟩, hl.at fun o e => Heap.get?_push_of_some _ e⟩, F.push _, (fun p hp => ⟨Heap.get?_push_of_some _ (N p hp).1, (N p hp).2⟩), hj, ?_, ?_⟩
  · intro hm
    rcases List.mem_cons.mp hm with e | hm
    · exact absurd F.ns.lt (e ▸ Nat.lt_irrefl _)
    · exact hlL (List.mem_singleton.mp hm).symm
  · intro b hb
    rw [List.mem_singleton.mp hb]
    exact next_is_new F
  · intro p hp hI
    exact absurd (Heap.lt_size (N p hp).1) ((List.mem_singleton.mp hI) ▸ Nat.lt_irrefl _)
  · rintro i v m₁ news₁ s₁ own hin hP hJ hoff hown hget hall hst F₁ N₁
    have hlt' : i < ns.length := hin
    obtain ⟨t, hx⟩ := hi.get i ns[i] (by simp [hlt'])
    have hv : v = .int ns[i] t := by
      have hP' : vs[i]? = some v := by simpa using hP
      rw [hx] at hP'; exact (Option.some.inj hP').symm
    subst hv
    obtain ⟨oI, hoI, _⟩ := hst.1
    have hmem := hall s.heap.objs.size (.head _) (next_is_new F) oI hoI
    refine wpAny_mono (turn i ns[i] t m₁ news₁ s.heap.objs.size oI own s₁ hlt' hJ hmem (fun q hq e => hoff q hq (List.mem_singleton.mpr e)) F₁ N₁) (fun f s₂ p => ?_) fun _ _ e => e
    obtain ⟨rfl, h', tk, m₂, news₂, e, F', N', off, hm⟩ := p
    exact ⟨rfl, h', tk, m₂, news₂, e, F', N', fun p hp hq => off p hp (List.mem_singleton.mp hq), hm⟩
  · rintro h' tk m' news' F' N' _ hJ
    exact done m' news' h' tk hJ F' N'
end

def DkJ (pre : Ledger) (i : Nat) (m : Str → Option Value) (news : Ledger) : Prop :=
  ∃ (u : Str → Option Value) (D : Addr) (ws : List Value) (nw : Nat) (ks : List Int), m = (fun z => if z = (Str.ofString "deck") then some (Value.ref D) else u z) ∧ IntsAre ws ks ∧ (∀ k ∈ ks, 0 ≤ k ∧ k < 128) ∧ ks.length ≤ 14 * i ∧ news = (D, listOf ws.toArray nw) :: pre ∧ AllLt D pre
def DkW (u : Str → Option Value) (H : Addr) (rest : Ledger) (n : Nat) (m : Str → Option Value) (news : Ledger) : Prop :=
  ∃ (c : Int) (t : Tok) (ws : List Value) (k : Nat) (ks : List Int), m = (fun z => if z = (Str.ofString "card") then some (Value.int c t) else u z) ∧ 0 ≤ c ∧ IntsAre ws ks ∧ (∀ k ∈ ks, 0 ≤ k ∧ k < 128) ∧ ks.length + n = 14 ∧ news = (H, listOf ws.toArray k) :: rest
theorem dkw_next {u : Str → Option Value} {H : Addr} {rest : Ledger} {n : Nat} {c c' : Int} {t t' : Tok} {ws : List Value} {k : Nat} {ks : List Int} (h0 : 0 ≤ c) (hi : IntsAre ws ks) (hb : ∀ k ∈ ks, 0 ≤ k ∧ k < 128) (hn : ks.length + n = 14) :
    DkW u H rest n (fun z => if z = (Str.ofString "card") then some (Value.int c t) else if z = (Str.ofString "card") then some (Value.int c' t') else u z) ((H, listOf ws.toArray k) :: rest) :=
  ⟨c, t, ws, k, ks, funext fun z => by by_cases h : z = (Str.ofString "card") <;> simp [h], h0, hi, hb, hn, rfl⟩
section
variable {prog : Program} {w : World} {A : Around} {E : Value → Shared → Prop} {s : Shared} {env : Env} {h₀ : Heap} {L : Addr} {Q : Flow → Shared → Prop}
theorem while_dk {test : PySem.Expr} {body : List Stmt} {pos : Pos} {u : Str → Option Value} {H : Addr} {rest : Ledger} {c : Int} {t : Tok} {ws : List Value} {k : Nat} {ks : List Int}
    (F : Fr h₀ L s.heap (fun z => if z = (Str.ofString "card") then some (Value.int c t) else u z)) (N : News h₀ L s.heap ((H, listOf ws.toArray k) :: rest)) (h0 : 0 ≤ c) (hi : IntsAre ws ks) (hb : ∀ k ∈ ks, 0 ≤ k ∧ k < 128) (hn : ks.length ≤ 14)
    (turn : ∀ n c t ws k ks h₁ tk₁, Fr h₀ L h₁ (fun z => if z = (Str.ofString "card") then some (Value.int c t) else u z) → News h₀ L h₁ ((H, listOf ws.toArray k) :: rest) → 0 ≤ c → IntsAre ws ks → (∀ k ∈ ks, 0 ≤ k ∧ k < 128) → ks.length + n = 14 → ws.toArray.size ≤ sizeLine →
      wpAny (model prog w) A (isTrue test env (eval test env)) (fun b s₂ =>
        if b = true then wpAny (model prog w) A (execs body env) (WhileStep h₀ L s (DkW u H rest) n) E s₂ else Q .next s₂) E { s with heap := h₁, toks := tk₁ })
    (hE : PassesOwn (model prog w) A env E := by passes_own) :
    wpAny (model prog w) A (exec (.While test body [] pos) env) Q E s := by
  refine While_inv (DkW u H rest) (n₀ := 14 - ks.length) F N ⟨c, t, ws, k, ks, rfl, h0, hi, hb, by omega, rfl⟩ ?_ hE
  rintro n m₁ news₁ h₁ tk₁ F₁ N₁ ⟨c, t, ws, k, ks, rfl, h0, hi, hb, hn, rfl⟩
  exact turn n c t ws k ks h₁ tk₁ F₁ N₁ h0 hi hb hn (by rw [List.size_toArray, hi.length, sizeLine_eq]; omega)
end
theorem one_card (c : Int) : ∀ k ∈ [c.fmod 128], 0 ≤ k ∧ k < 128 := fun k h => by
  rw [List.mem_singleton.mp h]
  exact ⟨Int.fmod_nonneg_of_pos _ (by decide), Int.fmod_lt_of_pos _ (by decide)⟩
theorem snoc_card {ks : List Int} (hb : ∀ k ∈ ks, 0 ≤ k ∧ k < 128) (c : Int) : ∀ k ∈ ks ++ [c.fmod 128], 0 ≤ k ∧ k < 128 := fun k h => (List.mem_append.mp h).elim (hb k) (one_card c k)
theorem kw_18 : True := by
  (k_with "MYexec While BoolOp" => ((k_here; (rename Fr _ _ _ _ => lF'); (rename News _ _ _ _ => lN'); (with_unfolding_all refine' while_dk (ws := [_]) lF' lN' (Int.fdiv_nonneg (by omega) (by decide)) (.cons _ _ .nil) (one_card _) (Nat.le_of_ble_eq_true rfl) ?_); clear lF' lN'; intro n' c' t' ws' k' ks' h' tk' F' N' hc' hi' hb' hn' hz')))
  trivial
theorem dk_while_end {h₀ : Heap} {L : Addr} {s : Shared} {n : Nat} {u : Str → Option Value} {H : Addr} {rest : Ledger} {h' : Heap} {tk : Nat} {c : Int} {t t' t2 : Tok} {ws : List Value} {k : Nat} {ks : List Int}
    (F : Fr h₀ L h' (fun z => if z = (Str.ofString "card") then some (Value.int (c.fdiv 128) t) else if z = (Str.ofString "card") then some (Value.int c t') else u z)) (N : News h₀ L h' ((H, listOf (ws.toArray.push (.int (c.fmod 128) t2)) (k + 1)) :: rest))
    (h0 : 0 ≤ c) (hi : IntsAre ws ks) (hb : ∀ k ∈ ks, 0 ≤ k ∧ k < 128) (hn : ks.length + n = 14) (hlt : (ks.length : Int) < 14) : WhileStep h₀ L s (DkW u H rest) n .next { s with heap := h', toks := tk } := by
  rw [List.push_toArray] at N
  refine WhileStep.intro (n' := n - 1) F N (by omega) (dkw_next (ks := ks ++ [c.fmod 128]) (Int.fdiv_nonneg h0 (by decide)) (hi.append (.cons _ _ .nil)) (snoc_card hb c) ?_)
  rw [List.length_append, List.length_singleton]; omega
theorem dk_turn_end {h₀ : Heap} {L I : Addr} {oI o : Obj} {own pre led : Ledger} {s : Shared} {i : Nat} {u : Str → Option Value} {D D' : Addr} {h' : Heap} {tk : Nat} {vs : List Value} {n : Nat} {ks ks' : List Int}
    (F : Fr h₀ L h' (fun z => if z = (Str.ofString "deck") then some (Value.ref D') else u z)) (N : News h₀ L h' led) (mD : (D', listOf vs.toArray n) ∈ led) (so : ∀ p ∈ own, p ∈ led) (sp : ∀ p ∈ pre, p ∈ led) (hIo : (I, oI) ∈ own) (hIn : NotIn I ((D, o) :: pre))
    (lt1 : AllLt D' own) (lt2 : AllLt D' pre) (hi : IntsAre vs (ks'.reverse ++ ks)) (hb' : ∀ k ∈ ks', 0 ≤ k ∧ k < 128) (hb : ∀ k ∈ ks, 0 ≤ k ∧ k < 128) (le : ks.length ≤ 14 * i) (le' : ks'.length ≤ 14) : DkEnd h₀ L I own (DkJ pre (i + 1)) s .next { s with heap := h', toks := tk } := by
  refine DkEnd.intro F N ((D', listOf vs.toArray n) :: pre) so (fun p hp => ?_) (fun p hp => ?_) ⟨u, D', vs, n, _, rfl, hi, fun k hk => ?_, ?_, rfl, lt2⟩
  · rcases List.mem_cons.mp hp with rfl | hp
    · exact mD
    · exact sp p hp
  · rcases List.mem_cons.mp hp with rfl | hp
    · exact Nat.ne_of_gt (tb_ltOf lt1 _ hIo)
    · exact hIn p (.tail _ hp)
  · rcases List.mem_append.mp hk with h | h
    · exact hb' k (List.mem_reverse.mp h)
    · exact hb k h
  · rw [List.length_append, List.length_reverse]; omega
set_option maxRecDepth 100000 in
set_option maxHeartbeats 4000000 in
theorem deck0 (w : World) (mean : ExcName → Option Value) (mg mb : Str → Option Value) (sc : Addr) (vs : List Value) (ns : List Int) (pre : Ledger) (hi : IntsAre vs ns) (hlen : ns.length ≤ 63) :
    CallsL w mean mg mb 10 100 184 sc vs pre fun K => ∀ d vs' n', Cards vs' → AllLt d pre → K (.ref d) ((d, listOf vs'.toArray n') :: pre) := by
  unfold CallsL; k_fill
  intro dp un gd cn cs a ccd cl outer A₀ base h₀ L m s Q E B F X N T hk hroom hunits hL ret
  refine wpAny_call ?_; k_dflt ktr_enter
  rename Fr h₀ L _ m => FG9
  have hL9 := hL.at fun o e => FG9.keep _ o e
  k_steps
  rename News _ _ _ (_ :: _ :: pre) => N9
  rename IntsAre _ (List.take 40 ns) => I9
  rename (_ < _) ∧ AllLt _ pre => A9
  rename Fr _ _ _ _ => F9
  k_dflt (refine iter_dk (DkJ pre) (by rfl) (News.isList N9 (.head _)) I9 (N9 _ (.head _)).2.1 F9 (fun p hp => N9 p (.tail _ hp)) ⟨_, _, [], _, [], rfl, .nil, by simp, Nat.zero_le _, rfl, by first | assumption | exact allLt_of (by assumption)⟩ ?turn ?done)
  case done =>
    rintro m₁ news₁ h tk ⟨u, D, ws, nw, ks, rfl, I8, b8, le8, rfl, A8⟩ F8 N8
    k_steps
    rename IntsAre _ (List.drop _ ks) => I7
    rename (_ < _) ∧ AllLt _ pre => A7
    refine ret _ _ 0 ⟨_, I7, fun k hk => b8 k (List.mem_of_mem_drop hk), ?_⟩ A7.2 _ _ (by assumption) (News.perm (by assumption) ?_)
    · simp only [List.length_drop] at *
      simp only [List.length_take] at *
      omega
    · intro p hp
      rcases List.mem_cons.mp hp with rfl | hp
      · exact .head _
      · exact .tail _ (.tail _ hp)
  case turn =>
    rintro i c t m₁ news₁ I oI own s₁ hlt ⟨u, D, ws, nw, ks, rfl, I8, b8, le8, rfl, A8⟩ hIo hIn F8 N8
    dsimp only at F8
    k_steps
    all_goals first
      | refine dk_while_end (by assumption) (by assumption) (by assumption) (by assumption) (by assumption) (by assumption) (by assumption)
      | refine dk_turn_end (by assumption) (by assumption) (by k_mem) (by walk_at "MYsub") (by walk_at "MYsub") hIo hIn (by tbn_find) (by tbn_find) (by assumption) (by assumption) b8 le8 (by omega)
theorem kw_19 : True := by
  k_with_none
  (k_with "MYk_all" => (first | assumption | (refine tbn_neAll ?_; first | tbn_find | exact allLt_of (by assumption) | exact allLt_swap (by assumption) (by tbn_find)) | (refine ne_app ?_ ?_ <;> k_all)))
  (k_with "MYmem" => (first | assumption | exact List.mem_cons_self | (with_reducible exact Slot.mem (by assumption) _) | ((with_reducible refine List.mem_cons_of_mem _ ?_); walk_at "MYmem") | ((with_reducible refine List.mem_append.mpr (Or.inl ?_)); assumption) | ((with_reducible refine List.mem_append.mpr (Or.inr ?_)); walk_at "MYmem")))
  (k_with "MYk_mem" => (walk_at "MYmem"))
  (k_with "MYk_room" => (ktr_room))
  (k_with "MYk_units" => (ktr_units))
  (k_with "MYsub" => ((intro p9 hp9; walk_at "MYmem")))
  (k_with "MYgo" => ((refine wpAny_call ?_; k_dflt ktr_enter; k_steps)))
  (k_with "MYpost" => ((intros; (try dsimp only); (try k_sweep); (try k_fold))))
  (k_with "MYc" => (exact Calm.use (by assumption) (by walk_at "MYsub")))
  (k_with "MYcall ref" => (((with_reducible show wpAny _ _ (call (Value.ref _) _) _ _ _); k_dflt (refine' CallsK.use (by k_asm) (by k_asm) (by k_asm) (by k_asm) (by k_asm) (by first | exact rfl | assumption) (by walk_at "MYc") (by ktr_room) (by ktr_units) ?_; walk_at "MYpost"))))
  (k_with "MYfld" => (exact HasField.up (by assumption) (by walk_at "MYsub")))
  (k_with "MYgetAttr" => (k_dflt (refine HasField.get (by k_asm) (by k_asm) (by k_asm) (by walk_at "MYfld") (by simp only [true_or, or_true]) ?_)))
  (k_with "MYcall builtin:isinstance" => (k_dflt (refine HasField.isi (by k_asm) (by k_asm) (by k_asm) (by walk_at "MYfld") (by first | exact cls_yes | exact cls_no (by first | assumption | decide)) ?_; intro _)))
  (k_with "MYcompareOp In str ref" => ((k_here; k_dflt (refine in_tup (News.isTup (by k_asm) (by k_mem)) (by kde_strs) (VK.not_in _) ?_))))
  (k_with "MYcompareOp Eq ref ref" => ((k_here; k_dflt (first
  | refine eq_items (by k_asm) (by k_mem) (by k_mem) (ItemIs.up (by assumption) (by walk_at "MYsub")) (ItemIs.up (by assumption) (by walk_at "MYsub")) (by ktr_units) ?_
  | refine eq_tags (by k_asm) (by k_mem) (by k_mem) (by assumption) (by assumption) (by ktr_units) ?_))))
  (k_with "MYidx" => (first | decide | (with_reducible exact Int.natCast_nonneg _) | (with_reducible exact small5 (by assumption)) | (with_reducible exact small5s (by assumption)) | omega))
  (k_with "MYsubscriptTail" => ((k_here; (with_reducible show wpAny _ _ (subscriptTail _ _ (Value.ref _) (Value.int _ _)) _ _ _); k_dflt (refine my_item (by k_asm) (by k_mem) (by walk_at "MYidx") (by walk_at "MYidx") (by first | rfl | assumption) ?_ (by with_unfolding_all rfl)))))
  (k_with "MYUnrEnd" => ((refine unrEnd_lt (by assumption) (by assumption) (by first | tbn_find | exact allLt_of (by assumption)) (by k_mem) (by walk_at "MYsub") ?_)))
  (k_with "MYcall builtin:len" => ((k_here; (with_reducible show wpAny _ _ (call (Value.builtin "len") [Value.ref _]) _ _ _); k_dflt (refine dlen (by k_asm) (by k_mem) (by k_asm) (by k_asm) (by first | assumption | exact Nat.zero_le _) ?_))))
  (k_with "MYcompareOp NotIn str ref" => ((k_here; k_dflt (first | refine kdg_notin (knd := PySem.strKind _ _) (by k_asm) (by k_mem) (by k_asm) (by k_asm) (strKind_is _ _ _ _) true (by assumption) ?_ | refine kdg_notin (knd := PySem.strKind _ _) (by k_asm) (by k_mem) (by k_asm) (by k_asm) (strKind_is _ _ _ _) false (by assumption) ?_))))
  (k_with "MYsubscriptTail" => ((k_here; (with_reducible show wpAny _ _ (subscriptTail _ _ (Value.ref _) (Value.str _ _)) _ _ _); k_dflt (refine kda_item (knd := PySem.strKind _ _) (by k_asm) (by k_mem) (by k_asm) (strKind_is _ _ _ _) (by assumption) ?_))))
  (k_with "MYle" => (((with_reducible first | refine le_v ?_ | refine le_u ?_ | refine le_w ?_ | refine le_k ?_ | skip); exact Nat.le_of_ble_eq_true rfl)))
  (k_with "MYktr_room" => (first | exact rm0 (by with_reducible assumption) | exact rm1 (by with_reducible assumption) (by walk_at "MYle") | exact Nat.le_of_ble_eq_true rfl))
  (k_with "MYktr_units" => (first | exact rm1 (by with_reducible assumption) (by walk_at "MYle") | exact un_c rfl))
  (k_with "MYsize_fits" => (exact Nat.le_of_ble_eq_true rfl))
  (k_with "MYar" => (first | exact ar3 (Nat.le_of_ble_eq_true rfl) | exact ar2 (Nat.le_of_ble_eq_true rfl) | exact ar1 (Nat.le_of_ble_eq_true rfl) | exact ar0 (Nat.le_of_ble_eq_true rfl) | omega))
  (k_with "MYpk" => (first | exact pk1 (by with_reducible assumption) | exact pk2 (by with_reducible assumption) | exact pk3 (by with_reducible assumption) | exact pk4 (by with_reducible assumption) | exact pk5 (by with_reducible assumption) | exact pk6 (by with_reducible assumption) | exact pl2 (by with_reducible assumption) | exact pl3 (by with_reducible assumption)))
  (k_with "MYne" => (first | (with_reducible assumption) | exact Ne.symm (by with_reducible assumption) | walk_at "MYpk" | (refine Nat.ne_of_lt ?_; walk_at "MYpk") | (refine Nat.ne_of_gt ?_; walk_at "MYpk")))
  (k_with "MYk_ne" => (first | exact ne_above (by assumption) (by tbn_find) | exact Ne.symm (ne_above (by assumption) (by tbn_find)) | exact ne_notIn (by assumption) (by assumption) | (refine neN ?_; (try dsimp only); first | walk_at "MYne" | omega)))
  (k_with "MYk_updF" => (first | exact Slot.upd (by assumption) | (refine' UpdF.app ?u8 ?v8; (case u8 => exact apart_in (by assumption) (by k_mem)); (case v8 => k_updF))))
  (k_with "MYk_upd" => (exact UpdF.upd (by k_updF)))
  (k_with "MYexecs cons" => ((refine any_toks ?_; intro _)))
  (k_with "MYexecs cons" => (dsimp only))
  (k_with "MYc" => (first | exact mkVec2 | exact mkVec3 | exact mkNull | exact mkSym | exact mkCall | exact card (by k_updF) (by assumption) (by decide) (by decide) | exact marked (by k_updF) (by assumption) (by assumption) (by assumption)))
  (k_with "MYCompRest" => ((with_unfolding_all first
  | (refine LCg.CompRest.succ ?_; intro v' I' oI' C' oC' D' m' h' tk' E' hv' hC' hx' F' N' off' ne'; (first | lcg_open hv' | (obtain ⟨t9', hv9'⟩ := hv'; subst hv9')); (try have q1' := off_slot (by assumption) off' (by walk_at "MYsub")))
  | refine LCg.CompRest.zero ?_)))
  (k_with "MYbinaryOp Add ref ref" => ((k_here; k_dflt (refine cat2 (by k_asm) (by k_asm) (by k_mem) (by k_mem) (Nat.le_of_ble_eq_true rfl) ?_; intro a' h' F' N' l1; (try simp only [allLt_append, AllLt, and_true] at l1); (try simp only [List.nil_append, List.cons_append] at N')))))
  (k_with "MYeval ListComp" => ((k_here; k_dflt (refine LCg.ListComp_U (F₀ := by k_asm) (by with_unfolding_all rfl) (by decide) (by rfl) (by decide) (by rfl) ?_))))
  (k_with "MYexec Assign cons ListComp" => ((k_here; lcf_look; k_dflt (refine LCg.Assign_ListComp_U (F₀ := by k_asm) (by rfl) (by with_unfolding_all rfl) (by with_unfolding_all rfl) (by decide) (by rfl) (by decide) (by rfl) (by rfl) (by rfl) ?_))))
  (k_with "MYCompSrc" => ((k_here; k_dflt (first
  | (refine LCg.CompSrc.range (by rfl) (by k_asm) (by k_asm) (by assumption) (by first | decide | rfl) (by first | rfl | decide) (by first | size_fits | exact Nat.le_of_ble_eq_true rfl) ?_; intro g'; lcg_lit)
  | (refine LCg.CompSrc.ledger (by rfl) (by k_asm) (by k_asm) (by k_mem) (by first | size_fits | exact Nat.le_of_ble_eq_true rfl) ?_; intro g'; lcg_lit)))))
  (k_with "MYaddr" => (first | exact Slot.addr (by assumption) | (refine addr_cons rfl ?_; walk_at "MYaddr") | (refine addr_app ?_; walk_at "MYaddr")))
  (k_with "MYor" => (first | exact True.intro | exact Or.inr ⟨_, by k_mem, rfl, _, rfl⟩))
  (k_with "MYCompEnd" => (k_dflt (first
  | refine compEndS (by assumption) (by assumption) (by assumption) (by walk_at "MYor") ?_
  | refine compEnd (by assumption) (by assumption) (by assumption) (by walk_at "MYaddr") (by assumption) (by k_mem) (by k_mem) (by k_mem) (by walk_at "MYor") ?_
  | refine compEnd1 (by assumption) (by assumption) (by assumption) (by walk_at "MYaddr") (by walk_at "MYor") ?_)))
  (k_with "MYfin" => ((intro D' h' tk' F' N' o1'; (try have q2' := notIn_off1 (by assumption) o1' (by walk_at "MYsub")); (try simp only [List.nil_append, List.cons_append] at N'); (try dsimp only))))
  (k_with "MYFinA" => ((unfold LCg.FinA; walk_at "MYfin")))
  (k_with "MYFinE" => ((unfold LCg.FinE; walk_at "MYfin")))
  (k_with "MYcall builtin:list.append" => ((k_here; (with_reducible show wpAny _ _ (call (Value.builtin _) [Value.ref _, _]) _ _ _); k_dflt (refine append_K (by k_asm) (by k_asm) (by k_upd) ?_ (by assumption)); intro h' F' N'; (try k_sweep))))
  trivial

-- part L
/-- a turn's end: the iterator stands, the rest as said -/
def TEnd (h₀ : Heap) (L I : Addr) (oI : Obj) (J : (Str → Option Value) → Ledger → Prop) (s₁ : Shared) (f : Flow) (s₂ : Shared) : Prop :=
  f = .next ∧ ∃ h' tk m₂ news₂, s₂ = { s₁ with heap := h', toks := tk } ∧ Fr h₀ L h' m₂ ∧ News h₀ L h' ((I, oI) :: news₂) ∧ NotIn I news₂ ∧ J m₂ news₂
theorem TEnd.intro {h₀ : Heap} {L I : Addr} {oI : Obj} {led : Ledger} {J : (Str → Option Value) → Ledger → Prop} {s₁ : Shared} {h' : Heap} {tk : Nat} {m₂ : Str → Option Value} (F : Fr h₀ L h' m₂) (N : News h₀ L h' led) (news₂ : Ledger)
    (hI : (I, oI) ∈ led) (sn : ∀ p ∈ news₂, p ∈ led) (off : NotIn I news₂) (hj : J m₂ news₂) : TEnd h₀ L I oI J s₁ .next { s₁ with heap := h', toks := tk } :=
  ⟨rfl, h', tk, m₂, news₂, rfl, F, fun p hp => N p ((List.mem_cons.mp hp).elim (fun e => e ▸ hI) (sn p)), off, hj⟩
section
variable {prog : Program} {w : World} {A : Around} {E : Value → Shared → Prop} {s : Shared} {env : Env} {h₀ : Heap} {target : PySem.Expr} {body : List Stmt} {Q : Flow → Shared → Prop}
theorem iter_listT {l : Addr} {vs : List Value} {nl : Nat} {m₀ : Str → Option Value} {news : Ledger} (J : Nat → (Str → Option Value) → Ledger → Prop) (hJl : ∀ i m news, J i m news → (l, listOf vs.toArray nl) ∈ news)
    (hh : A.handled = none) (F : Fr h₀ env.locals s.heap m₀) (N : News h₀ env.locals s.heap news) (hj : J 0 m₀ news)
    (turn : ∀ i v m₁ news₁ I oI (s₁ : Shared), vs[i]? = some v → J i m₁ news₁ → NotIn I news₁ → Fr h₀ env.locals s₁.heap m₁ → News h₀ env.locals s₁.heap ((I, oI) :: news₁) →
      wpAny (model prog w) A (assign target env v) (fun _ s₃ => wpAny (model prog w) A (execs body env) (TEnd h₀ env.locals I oI (J (i + 1)) s₁) E s₃) E s₁)
    (done : ∀ m₁ news₁ h tk, J vs.length m₁ news₁ → Fr h₀ env.locals h m₁ → News h₀ env.locals h news₁ → Q .next { s with heap := h, toks := tk }) :
    wpAny (model prog w) A (pyIter (.ref l)) (fun it s₂ => LoopAtT prog w A h₀ env target body Q E it s₂) E s := by
  have hm : (l, listOf vs.toArray nl) ∈ news := hJl _ _ _ hj
  have hl : s.heap.IsList l vs.toArray := News.isList N hm
  have hlt : l < s.heap.objs.size := by obtain ⟨_, e, _⟩ := hl; exact Heap.lt_size e
  refine wpAny_pyIter_list hl ?_
  have W := Walks.list (prog := prog) (w := w) hh s.heap.objs.size l (Nat.ne_of_lt hlt) vs.toArray
  have hlen : vs.toArray.size = vs.length := by simp
  rw [hlen] at W
  refine ⟨_, _, _, vs.length, _, _, m₀, news, J, rfl, W, ?_, ?_, ?_, ⟨⟨_, Heap.get?_push_size _ rfl, rfl, rfl⟩, hl.at fun o e => Heap.get?_push_of_some _ e⟩, F.push _, (fun p hp => ⟨Heap.get?_push_of_some _ (N p hp).1, (N p hp).2⟩), (fun i s' v Q' st hQ' => letGo_listiter st.1 hQ'), hj, ?_, ?_⟩
  · intro hm'
    rcases List.mem_cons.mp hm' with e | hm'
    · exact absurd F.ns.lt (e ▸ Nat.lt_irrefl _)
    · exact (N _ hm).2.1 (List.mem_singleton.mp hm').symm
  · intro b hb
    rw [List.mem_singleton.mp hb]
    exact next_is_new F
  · intro p hp hI
    exact absurd (Heap.lt_size (N p hp).1) ((List.mem_singleton.mp hI) ▸ Nat.lt_irrefl _)
  · rintro i v m₁ news₁ s₁ own hin hP hJ hoff hown hget hall hst F₁ N₁
    have hv : vs[i]? = some v := by simpa using hP
    obtain ⟨oI, hoI, _⟩ := hst.1
    have hmem := hall s.heap.objs.size (.head _) (next_is_new F) oI hoI
    refine wpAny_mono (turn i v m₁ news₁ s.heap.objs.size oI s₁ hv hJ (fun q hq e => hoff q hq (List.mem_singleton.mpr e)) F₁ (fun p hp => ?_)) (fun _ s₃ q => wpAny_mono q (fun f s₂ p => ?_) fun _ _ e => e) fun _ _ e => e
    · rcases List.mem_cons.mp hp with rfl | hp
      · exact N₁ _ (List.mem_append_left _ hmem)
      · exact N₁ _ (List.mem_append_right _ hp)
    · obtain ⟨rfl, h', tk, m₂, news₂, e, F', N', off, hm2⟩ := p
      refine ⟨rfl, h', tk, m₂, news₂, e, F', fun p hp => ?_, fun p hp hq => off p hp (List.mem_singleton.mp hq), hm2⟩
      rcases List.mem_append.mp hp with hp | hp
      · have e2 := hget p hp
        rcases List.mem_cons.mp (hown p hp) with h1 | h1
        · rw [h1, hoI] at e2
          have e3 : p = (s.heap.objs.size, oI) := Prod.ext h1 (Option.some.inj e2).symm
          exact N' p (e3 ▸ .head _)
        · have h2 := List.mem_singleton.mp h1
          have hlm := hJl _ _ _ hJ
          rw [h2, (N₁ _ (List.mem_append_right _ hlm)).1] at e2
          have e3 : p = (l, listOf vs.toArray nl) := Prod.ext h2 (Option.some.inj e2).symm
          exact N' p (e3 ▸ .tail _ (hJl _ _ _ hm2))
      · exact N' p (.tail _ hp)
  · rintro h' tk m' news' F' N' _ hJ
    exact done m' news' h' tk hJ F' N'
theorem iter_rangeT {r : Addr} {b₀ : Int} {t₀ u₀ v₀ : Tok} {n : Nat} {m₀ : Str → Option Value} {news : Ledger} (J : Nat → (Str → Option Value) → Ledger → Prop)
    (hh : A.handled = none) (hr : IsRange s.heap r 0 b₀ 1 t₀ u₀ v₀) (hsmall : Builtin.Range.small 0 b₀ 1 = true) (hn : Builtin.Range.rangeSize 0 b₀ 1 = (n : Int)) (F : Fr h₀ env.locals s.heap m₀) (N : News h₀ env.locals s.heap news) (hj : J 0 m₀ news)
    (turn : ∀ (i : Nat) t m₁ news₁ I oI (s₁ : Shared), i < n → J i m₁ news₁ → NotIn I news₁ → Fr h₀ env.locals s₁.heap m₁ → News h₀ env.locals s₁.heap ((I, oI) :: news₁) →
      wpAny (model prog w) A (assign target env (.int (i : Int) t)) (fun _ s₃ => wpAny (model prog w) A (execs body env) (TEnd h₀ env.locals I oI (J (i + 1)) s₁) E s₃) E s₁)
    (done : ∀ m₁ news₁ h tk, J n m₁ news₁ → Fr h₀ env.locals h m₁ → News h₀ env.locals h news₁ → Q .next { s with heap := h, toks := tk }) :
    wpAny (model prog w) A (pyIter (.ref r)) (fun it s₂ => LoopAtT prog w A h₀ env target body Q E it s₂) E s := by
  refine wpAny_pyIter_range hr hsmall ?_
  have W := Walks.range (prog := prog) (w := w) hh s.heap.objs.size 0 1 n
  have hgo : ∀ i (s' : Shared) v (Q' : Unit → Shared → Prop), IsRangeIter s'.heap s.heap.objs.size (0 + (i : Nat) * 1) ((n : Int) - (i : Nat)) 1 → Q' () s' → wpAny (model prog w) A (letOwnedTupleGo target (.ref s.heap.objs.size) v) Q' E s' := by
    intro i s' v Q' st hQ'
    have ho : s'.heap.get? s.heap.objs.size = some _ := st
    unfold letOwnedTupleGo
    cases target <;> first
      | exact wpAny_pure hQ'
      | (cases v <;> first
          | exact wpAny_pure hQ'
          | (refine wpAny_bind (wpAny_load ho ?_)
             exact wpAny_pure hQ'))
  refine ⟨_, _, _, n, _, _, m₀, news, J, rfl, W, ?_, ?_, ?_, (by show IsRangeIter _ _ _ _ _; rw [hn]; simpa using Heap.get?_push_size _ rfl), F.push _, (fun p hp => ⟨Heap.get?_push_of_some _ (N p hp).1, (N p hp).2⟩), hgo, hj, ?_, ?_⟩
  · intro hm'
    exact absurd F.ns.lt ((List.mem_singleton.mp hm') ▸ Nat.lt_irrefl _)
  · intro b hb
    rw [List.mem_singleton.mp hb]
    exact next_is_new F
  · intro p hp hI
    exact absurd (Heap.lt_size (N p hp).1) ((List.mem_singleton.mp hI) ▸ Nat.lt_irrefl _)
  · rintro i v m₁ news₁ s₁ own hin ⟨t, rfl⟩ hJ hoff hown hget hall hst F₁ N₁
    obtain ⟨oI, hoI⟩ : ∃ oI, s₁.heap.get? s.heap.objs.size = some oI := ⟨_, hst⟩
    have hmem := hall s.heap.objs.size (.head _) (next_is_new F) _ hoI
    have e1 : (0 : Int) + (i : Int) * 1 = (i : Int) := by rw [Int.mul_one, Int.zero_add]
    rw [e1]
    refine wpAny_mono (turn i t m₁ news₁ s.heap.objs.size oI s₁ hin hJ (fun q hq e => hoff q hq (List.mem_singleton.mpr e)) F₁ (fun p hp => ?_)) (fun _ s₃ q => wpAny_mono q (fun f s₂ p => ?_) fun _ _ e => e) fun _ _ e => e
    · rcases List.mem_cons.mp hp with rfl | hp
      · exact N₁ _ (List.mem_append_left _ hmem)
      · exact N₁ _ (List.mem_append_right _ hp)
    · obtain ⟨rfl, h', tk, m₂, news₂, e, F', N', off, hm2⟩ := p
      refine ⟨rfl, h', tk, m₂, news₂, e, F', fun p hp => ?_, fun p hp hq => off p hp (List.mem_singleton.mp hq), hm2⟩
      rcases List.mem_append.mp hp with hp | hp
      · have e2 := hget p hp
        have h1 := List.mem_singleton.mp (hown p hp)
        rw [h1, hoI] at e2
        have e3 : p = (s.heap.objs.size, oI) := Prod.ext h1 (Option.some.inj e2).symm
        exact N' p (e3 ▸ .head _)
      · exact N' p (.tail _ hp)
  · rintro h' tk m' news' F' N' _ hJ
    exact done m' news' h' tk hJ F' N'
end

-- part X
theorem eqb_sym {x y : D} : eqb x y = eqb y x := eqb_ext ⟨Eq.symm, Eq.symm⟩
theorem one_slot {h₀ : Heap} {L : Addr} {h : Heap} {d a1 a2 : Addr} {o c1 c2 : Obj} (N : News h₀ L h ([(d, o), (a2, c2)] ++ [(a1, c1)])) : ∃ g : Obj → Ledger, Slot d g ∧ News h₀ L h ((a2, c2) :: (a1, c1) :: g o) ∧ ∀ o', g o' = [(d, o')] :=
  ⟨fun o' => [(d, o')], fun _ => .head (fun _ h => nomatch h), fun p hp => N p (by simp only [List.cons_append, List.nil_append, List.mem_cons, List.not_mem_nil, or_false] at hp ⊢; rcases hp with h | h | h <;> simp [h]), fun _ => rfl⟩

/-- five things -/
structure Five (w : World) (news : Ledger) (vs : List Value) (xs : List D) : Prop where
  lv : vs.length = 5
  lx : xs.length = 5
  is : ∀ (i : Nat) (v : Value) (x : D), vs[i]? = some v → xs[i]? = some x → Is w news v x
  dep : ∀ x ∈ xs, x.depth ≤ 3
theorem Five.mono {w : World} {news news' : Ledger} {vs : List Value} {xs : List D} (H : Five w news vs xs) (s : ∀ p ∈ news, p ∈ news') : Five w news' vs xs :=
  ⟨H.lv, H.lx, fun i v x a b => (H.is i v x a b).up s, H.dep⟩
theorem Five.at {w : World} {news : Ledger} {vs : List Value} {xs : List D} (H : Five w news vs xs) {i : Nat} (h : i < 5) : ∃ v x, vs[i]? = some v ∧ xs[i]? = some x ∧ Is w news v x ∧ x.depth ≤ 3 := by
  have hv : i < vs.length := by rw [H.lv]; exact h
  have hx : i < xs.length := by rw [H.lx]; exact h
  exact ⟨vs[i], xs[i], List.getElem?_eq_getElem hv, List.getElem?_eq_getElem hx, H.is i _ _ (List.getElem?_eq_getElem hv) (List.getElem?_eq_getElem hx), H.dep _ (List.getElem_mem hx)⟩
theorem Five.mk5 {w : World} {news : Ledger} {r0 r1 r2 r3 r4 : Value} {x0 x1 x2 x3 x4 : D} (i0 : Is w news r0 x0) (i1 : Is w news r1 x1) (i2 : Is w news r2 x2) (i3 : Is w news r3 x3) (i4 : Is w news r4 x4)
    (d0 : x0.depth ≤ 3) (d1 : x1.depth ≤ 3) (d2 : x2.depth ≤ 3) (d3 : x3.depth ≤ 3) (d4 : x4.depth ≤ 3) : Five w news [r0, r1, r2, r3, r4] [x0, x1, x2, x3, x4] := by
  refine ⟨rfl, rfl, fun i v x hv hx => ?_, fun x hx => ?_⟩
  · rcases i with _ | _ | _ | _ | _ | i
    · cases hv; cases hx; exact i0
    · cases hv; cases hx; exact i1
    · cases hv; cases hx; exact i2
    · cases hv; cases hx; exact i3
    · cases hv; cases hx; exact i4
    · simp at hv
  · simp only [List.mem_cons, List.not_mem_nil, or_false] at hx
    rcases hx with rfl | rfl | rfl | rfl | rfl <;> assumption

/-- the ledger after the things are made: two places that turn, the rest -/
theorem sum_up {w : World} {h₀ : Heap} {L : Addr} {h : Heap} {tb th a2 : Addr} {ot c2 : Obj} {r0 r1 r2 r3 r4 : Value} {x0 x1 x2 x3 x4 : D} {t0 t1 t2 t3 t4 tail p0 p1 p2 p3 p4 : Ledger} {R : Prop}
    (N : News h₀ L h ((tb, ot) :: (th, LCg.lst [r0, r1, r2, r3, r4]) :: (t4 ++ (t3 ++ (t2 ++ (t1 ++ (t0 ++ (a2, c2) :: tail)))))))
    (o1 : LCg.Off1 th (t4 ++ (t3 ++ (t2 ++ (t1 ++ (t0 ++ (a2, c2) :: tail))))))
    (i0 : Is w t0 r0 x0) (i1 : Is w t1 r1 x1) (i2 : Is w t2 r2 x2) (i3 : Is w t3 r3 x3) (i4 : Is w t4 r4 x4)
    (d0 : x0.depth ≤ 3) (d1 : x1.depth ≤ 3) (d2 : x2.depth ≤ 3) (d3 : x3.depth ≤ 3) (d4 : x4.depth ≤ 3)
    (b0 : AllLt tb t0) (b1 : AllLt tb t1) (b2 : AllLt tb t2) (b3 : AllLt tb t3) (b4 : AllLt tb t4) (bt : @LT.lt Nat _ th tb) (ba : @LT.lt Nat _ a2 tb)
    (k0 : Apart p0 t0) (k1 : Apart p1 t1) (k2 : Apart p2 t2) (k3 : Apart p3 t3) (k4 : Apart p4 t4)
    (m0 : (a2, c2) ∈ p0) (m1 : (a2, c2) ∈ p1) (m2 : (a2, c2) ∈ p2) (m3 : (a2, c2) ∈ p3) (m4 : (a2, c2) ∈ p4)
    (go : ∀ (rest : Ledger) (q0 q1 q2 q3 q4 : Value) (y0 y1 y2 y3 y4 : D), News h₀ L h ((tb, ot) :: (a2, c2) :: rest) → (∀ p ∈ rest, p.1 ≠ tb) → (∀ p ∈ rest, p.1 ≠ a2) → @Ne Nat tb a2 → (th, listOf [q0, q1, q2, q3, q4].toArray 5) ∈ rest → Five w rest [q0, q1, q2, q3, q4] [y0, y1, y2, y3, y4] → R) : R := by
  let rest : Ledger := ((th, LCg.lst [r0, r1, r2, r3, r4]) :: (t4 ++ (t3 ++ (t2 ++ (t1 ++ (t0 ++ (a2, c2) :: tail)))))).filter (fun p => decide (p.1 ≠ tb) && decide (p.1 ≠ a2))
  have hr : ∀ p, p ∈ rest ↔ p ∈ ((th, LCg.lst [r0, r1, r2, r3, r4]) :: (t4 ++ (t3 ++ (t2 ++ (t1 ++ (t0 ++ (a2, c2) :: tail)))))) ∧ p.1 ≠ tb ∧ p.1 ≠ a2 := fun p => by simp only [rest, List.mem_filter, Bool.and_eq_true, decide_eq_true_eq]
  have hne : @Ne Nat a2 th := off1_mem o1 (a2, c2) (by simp)
  have sub : ∀ {t p : Ledger}, (∀ q ∈ t, q ∈ (t4 ++ (t3 ++ (t2 ++ (t1 ++ (t0 ++ (a2, c2) :: tail)))))) → AllLt tb t → Apart p t → (a2, c2) ∈ p → ∀ q ∈ t, q ∈ rest := fun ht hb hk hm q hq =>
    (hr q).mpr ⟨.tail _ (ht q hq), Nat.ne_of_lt (tb_ltOf hb q hq), Ne.symm (hk _ hm q hq)⟩
  refine go rest r0 r1 r2 r3 r4 x0 x1 x2 x3 x4 (fun p hp => ?_) (fun p hp => ((hr p).mp hp).2.1) (fun p hp => ((hr p).mp hp).2.2) (Nat.ne_of_gt ba) ((hr _).mpr ⟨.head _, Nat.ne_of_lt bt, Ne.symm hne⟩) (Five.mk5 (i0.up (sub (fun q hq => by simp [hq]) b0 k0 m0)) (i1.up (sub (fun q hq => by simp [hq]) b1 k1 m1)) (i2.up (sub (fun q hq => by simp [hq]) b2 k2 m2)) (i3.up (sub (fun q hq => by simp [hq]) b3 k3 m3)) (i4.up (sub (fun q hq => by simp [hq]) b4 k4 m4)) d0 d1 d2 d3 d4)
  · rcases List.mem_cons.mp hp with rfl | hp
    · exact N _ (.head _)
    · rcases List.mem_cons.mp hp with rfl | hp
      · exact N _ (by simp)
      · exact N p (.tail _ ((hr p).mp hp).1)

/-- a row of the table -/
noncomputable def rowOf (xs : List D) (x : D) : List Value := xs.map fun y => .bool (eqb x y)
theorem row_get {xs : List D} {x y : D} {j : Nat} (hy : xs[j]? = some y) : (rowOf xs x)[j]? = some (.bool (eqb x y)) := by
  show (xs.map fun y => Value.bool (eqb x y))[j]? = _
  rw [List.getElem?_map, hy]; rfl
/-- what a row says -/
def RowIs (xs : List D) (x : D) (row : List Value) : Prop := ∀ (j : Nat) (y : D), xs[j]? = some y → row[j]? = some (.bool (eqb x y))
/-- the rows made so far -/
def Rows (xs : List D) (rows : List Value) (i : Nat) (news : Ledger) : Prop :=
  rows.length = i ∧ ∀ (j : Nat) (x : D), j < i → xs[j]? = some x → ∃ (r : Addr) (row : List Value) (n : Nat), rows[j]? = some (.ref r) ∧ (r, listOf row.toArray n) ∈ news ∧ RowIs xs x row
theorem Rows.mono {xs : List D} {rows : List Value} {i : Nat} {news news' : Ledger} (H : Rows xs rows i news) (s : ∀ p ∈ news, p ∈ news') : Rows xs rows i news' :=
  ⟨H.1, fun j x a b => let ⟨r, row, n, c, d, e⟩ := H.2 j x a b; ⟨r, row, n, c, s _ d, e⟩⟩
theorem Rows.snoc {xs : List D} {rows : List Value} {i : Nat} {news : Ledger} {x : D} {r : Addr} {n : Nat} (H : Rows xs rows i news) (hx : xs[i]? = some x) (hm : (r, listOf (rowOf xs x).toArray n) ∈ news) : Rows xs (rows ++ [Value.ref r]) (i + 1) news := by
  refine ⟨by rw [List.length_append, H.1]; rfl, fun j y hj hy => ?_⟩
  by_cases h : j = i
  · subst h
    rw [hx] at hy
    cases hy
    exact ⟨r, _, n, by rw [List.getElem?_append_right (by rw [H.1]; exact Nat.le_refl _), H.1, Nat.sub_self]; rfl, hm, fun _ _ => row_get⟩
  · obtain ⟨r', row, n', c, d, e⟩ := H.2 j y (by omega) hy
    exact ⟨r', row, n', by rw [List.getElem?_append_left (by rw [H.1]; omega)]; exact c, d, e⟩
/-- the state between the turns of the loop that fills the table -/
def TbJ (m₀ : Str → Option Value) (tb a2 : Addr) (rest : Ledger) (xs : List D) (i : Nat) (m : Str → Option Value) (news : Ledger) : Prop :=
  ∃ (c : Obj) (v : Option Value) (rows : List Value) (nr : Nat) (new : Ledger), m = m₀ ∧ news = (tb, listOf rows.toArray nr) :: (a2, c) :: (new ++ rest) ∧ c.data = .cell v ∧ (∀ p ∈ new ++ rest, p.1 ≠ tb) ∧ (∀ p ∈ new ++ rest, p.1 ≠ a2) ∧ Rows xs rows i (new ++ rest)
theorem tb_turn_end {h₀ : Heap} {L I : Addr} {oI c c' : Obj} {new rest led : Ledger} {s : Shared} {i : Nat} {m₀ : Str → Option Value} {tb a2 D' : Addr} {h' : Heap} {tk : Nat} {rows : List Value} {nr n : Nat} {xs : List D} {x : D} {v : Option Value} {o : Obj}
    (F : Fr h₀ L h' m₀) (N : News h₀ L h' led) (hI : (I, oI) ∈ led) (mt : (tb, listOf (rows.toArray.push (.ref D')) (nr + 1)) ∈ led) (mc : (a2, c') ∈ led) (hc : c'.data = .cell v) (mr : (D', listOf (rowOf xs x).toArray n) ∈ led) (mn : ∀ p ∈ new ++ rest, p ∈ led)
    (e1 : @Ne Nat D' I) (e2 : @Ne Nat D' tb) (e3 : @Ne Nat D' a2) (hIn : NotIn I ((tb, o) :: (a2, c) :: (new ++ rest))) (h1 : ∀ p ∈ new ++ rest, p.1 ≠ tb) (h2 : ∀ p ∈ new ++ rest, p.1 ≠ a2) (H : Rows xs rows i (new ++ rest)) (hx : xs[i]? = some x) :
    TEnd h₀ L I oI (TbJ m₀ tb a2 rest xs (i + 1)) s .next { s with heap := h', toks := tk } := by
  rw [List.push_toArray] at mt
  refine TEnd.intro F N ((tb, listOf (rows ++ [Value.ref D']).toArray (nr + 1)) :: (a2, c') :: (((D', listOf (rowOf xs x).toArray n) :: new) ++ rest)) hI (fun p hp => ?_) (fun p hp => ?_) ⟨c', v, _, _, _, rfl, rfl, hc, fun p hp => ?_, fun p hp => ?_, (H.mono fun p hp => List.mem_cons_of_mem _ hp).snoc hx (.head _)⟩
  · rcases List.mem_cons.mp hp with rfl | hp
    · exact mt
    · rcases List.mem_cons.mp hp with rfl | hp
      · exact mc
      · rcases List.mem_cons.mp hp with rfl | hp
        · exact mr
        · exact mn p hp
  · rcases List.mem_cons.mp hp with rfl | hp
    · exact hIn (tb, o) (.head _)
    · rcases List.mem_cons.mp hp with rfl | hp
      · exact hIn (a2, c) (.tail _ (.head _))
      · rcases List.mem_cons.mp hp with rfl | hp
        · exact e1
        · exact hIn p (.tail _ (.tail _ hp))
  · rcases List.mem_cons.mp hp with rfl | hp
    · exact e2
    · exact h1 p hp
  · rcases List.mem_cons.mp hp with rfl | hp
    · exact e3
    · exact h2 p hp
theorem Rows.get {xs : List D} {rows : List Value} {n : Nat} {news : Ledger} (H : Rows xs rows n news) {j : Nat} {x : D} (hj : j < n) (hx : xs[j]? = some x) : ∃ (r : Addr) (row : List Value) (k : Nat), rows[(j : Int).toNat]? = some (.ref r) ∧ (r, listOf row.toArray k) ∈ news ∧ RowIs xs x row := H.2 j x hj hx
theorem RowIs.at {xs : List D} {x y : D} {row : List Value} (H : RowIs xs x row) {j : Nat} (hy : xs[j]? = some y) : row[(j : Int).toNat]? = some (.bool (eqb x y)) := H j y hy
theorem RowIs.at' {xs : List D} {x y : D} {row : List Value} (H : RowIs xs x row) {j : Nat} (hy : xs[j]? = some y) : row[(j : Int).toNat]? = some (.bool (eqb y x)) := eqb_sym ▸ H j y hy
theorem RowIs.yes {xs : List D} {x y : D} {row : List Value} (H : RowIs xs x row) {j : Nat} (hy : xs[j]? = some y) (e : x = y) : row[(j : Int).toNat]? = some (.bool true) := by
  show row[j]? = _
  rw [H j y hy, eqb_yes e]
theorem RowIs.no {xs : List D} {x y : D} {row : List Value} (H : RowIs xs x row) {j : Nat} (hy : xs[j]? = some y) (e : ¬ x = y) : row[(j : Int).toNat]? = some (.bool false) := by
  show row[j]? = _
  rw [H j y hy, eqb_no e]
theorem succ_toNat (i : Nat) : ((i : Int) + 1).toNat = i + 1 := by omega
theorem idx_succ {row : List Value} {v : Value} {i : Nat} (h : row[((i + 1 : Nat) : Int).toNat]? = some v) : row[((i : Int) + 1).toNat]? = some v := by
  rw [succ_toNat]; exact h
theorem small5 {i : Nat} (h : i < 5) : (i : Int) < 2 ^ 63 := Int.lt_trans (Int.ofNat_lt.mpr h) (by decide)
theorem small5s {i : Nat} (h : i < 4) : (i : Int) + 1 < 2 ^ 63 := Int.lt_trans (Int.ofNat_lt.mpr (Nat.succ_lt_succ h)) (by decide)
/-- the state between the turns of a loop that stores the names alone -/
def NmJ (names : List Str) (m₀ : Str → Option Value) (B : Ledger) (_ : Nat) (m : Str → Option Value) (news : Ledger) : Prop := (∀ z, z ∉ names → m z = m₀ z) ∧ news = B
theorem nm1 {a : Str} {m m₀ : Str → Option Value} (h : ∀ z, z ∉ [a] → m z = m₀ z) : m = fun z => if z = a then m z else m₀ z := funext fun z => by
  by_cases h1 : z = a
  · simp [h1]
  · simp only [if_neg h1]; exact h z (by simp [h1])
theorem nm2 {a b : Str} {m m₀ : Str → Option Value} (h : ∀ z, z ∉ [a, b] → m z = m₀ z) : m = fun z => if z = a then m z else if z = b then m z else m₀ z := funext fun z => by
  by_cases h1 : z = a
  · simp [h1]
  · by_cases h2 : z = b
    · simp [h2]
    · simp only [if_neg h1, if_neg h2]; exact h z (by simp [h1, h2])
theorem nm3 {a b c : Str} {m m₀ : Str → Option Value} (h : ∀ z, z ∉ [a, b, c] → m z = m₀ z) : m = fun z => if z = a then m z else if z = b then m z else if z = c then m z else m₀ z := funext fun z => by
  by_cases h1 : z = a
  · simp [h1]
  · by_cases h2 : z = b
    · simp [h2]
    · by_cases h3 : z = c
      · simp [h3]
      · simp only [if_neg h1, if_neg h2, if_neg h3]; exact h z (by simp [h1, h2, h3])
theorem nm_turn_end {h₀ : Heap} {L I : Addr} {oI : Obj} {led B : Ledger} {s : Shared} {i : Nat} {names : List Str} {m₀ m' : Str → Option Value} {h' : Heap} {tk : Nat}
    (F : Fr h₀ L h' m') (N : News h₀ L h' led) (hI : (I, oI) ∈ led) (sub : ∀ p ∈ B, p ∈ led) (off : NotIn I B) (hm : ∀ z, z ∉ names → m' z = m₀ z) : TEnd h₀ L I oI (NmJ names m₀ B (i + 1)) s .next { s with heap := h', toks := tk } :=
  TEnd.intro F N B hI sub off ⟨hm, rfl⟩
theorem not_in1 {a z : Str} (h : z ∉ [a]) : z ≠ a := fun e => h (by simp [e])
theorem not_in2 {a b z : Str} (h : z ∉ [a, b]) : z ≠ a ∧ z ≠ b := ⟨fun e => h (by simp [e]), fun e => h (by simp [e])⟩
theorem not_in3 {a b c z : Str} (h : z ∉ [a, b, c]) : z ≠ a ∧ z ≠ b ∧ z ≠ c := ⟨fun e => h (by simp [e]), fun e => h (by simp [e]), fun e => h (by simp [e])⟩
theorem not_in4 {a b c d z : Str} (h : z ∉ [a, b, c, d]) : z ≠ a ∧ z ≠ b ∧ z ≠ c ∧ z ≠ d := ⟨fun e => h (by simp [e]), fun e => h (by simp [e]), fun e => h (by simp [e]), fun e => h (by simp [e])⟩
theorem nm4 {a b c d : Str} {m m₀ : Str → Option Value} (h : ∀ z, z ∉ [a, b, c, d] → m z = m₀ z) : m = fun z => if z = a then m z else if z = b then m z else if z = c then m z else if z = d then m z else m₀ z := funext fun z => by
  by_cases h1 : z = a
  · simp [h1]
  · by_cases h2 : z = b
    · simp [h2]
    · by_cases h3 : z = c
      · simp [h3]
      · by_cases h4 : z = d
        · simp [h4]
        · simp only [if_neg h1, if_neg h2, if_neg h3, if_neg h4]; exact h z (by simp [h1, h2, h3, h4])
/-- how a comparison of data comes out -/
inductive Lit : D → D → Bool → Prop where
  | mk {x y : D} {b : Bool} : eqb x y = b → Lit x y b
/-- few deep -/
inductive Dep4 : D → Prop where
  | mk {x : D} : x.depth < 5 → Dep4 x
theorem id_lit {w : World} {mean : ExcName → Option Value} {mg mb : Str → Option Value} {news : Ledger} {u v : Value} {x y : D} {b : Bool} (i1 : Is w news u x) (i2 : Is w news v y) (d : Dep4 x) (hb : Lit x y b) :
    CallsK w mean mg mb 210 2100 163 [u, v] news fun K => K (.bool b) news := by
  obtain ⟨hb⟩ := hb
  obtain ⟨d⟩ := d
  subst hb
  exact id_all 5 news u v x y i1 i2 d
section
variable {x y x' y' : D} {a : Attr}
theorem dep_0 (h1 : x.depth ≤ 3) : Dep4 x := .mk (Nat.lt_of_le_of_lt h1 (by decide))
theorem dep_l2 (h1 : x.depth ≤ 3) (h2 : y.depth ≤ 3) : Dep4 (D.list2 x y a) := .mk (Nat.succ_lt_succ (Nat.lt_succ_of_le (Nat.max_le.mpr ⟨h1, h2⟩)))
theorem dep_c2 {t : Option Str} (h1 : x.depth ≤ 3) (h2 : y.depth ≤ 3) : Dep4 (D.call2 x y t) := .mk (Nat.succ_lt_succ (Nat.lt_succ_of_le (Nat.max_le.mpr ⟨h1, h2⟩)))
theorem dep_l1 (h1 : x.depth ≤ 3) : Dep4 (D.list1 x a) := .mk (Nat.succ_lt_succ (Nat.lt_succ_of_le h1))
theorem l2_and : Lit (D.list2 x y a) (D.list2 x' y' a) (eqb x x' && eqb y y') := .mk (Bool.eq_iff_iff.mpr (by rw [Bool.and_eq_true, eqb_iff, eqb_iff, eqb_iff, D.list2.injEq]; simp))
theorem c2_and {t : Option Str} : Lit (D.call2 x y t) (D.call2 x' y' t) (eqb x x' && eqb y y') := .mk (Bool.eq_iff_iff.mpr (by rw [Bool.and_eq_true, eqb_iff, eqb_iff, eqb_iff, D.call2.injEq]; simp))
theorem c2_tag {s : Str} : Lit (D.call2 x y none) (D.call2 x' y' (some s)) false := .mk (eqb_no fun e => nomatch (D.call2.inj e).2.2)
theorem l1_more : Lit (D.list1 x .no) (D.list1 x ⟨none, false, true⟩) false := .mk (eqb_no fun e => absurd (congrArg Attr.more (D.list1.inj e).2) (by decide))
theorem l1_more2 : Lit (D.list1 x ⟨none, false, true⟩) (D.list1 x .no) false := .mk (eqb_no fun e => absurd (congrArg Attr.more (D.list1.inj e).2) (by decide))
theorem l1_same : Lit (D.list1 x a) (D.list1 x a) true := .mk (eqb_yes rfl)
theorem ne_same {prog : Program} {w : World} {A : Around} {s : Shared} {E Q : Value → Shared → Prop} {b : Bool} (h : Q (.bool false) s) : wpAny (model prog w) A (compareOp .NotEq (.bool b) (.bool b)) Q E s := ne_bool (by rw [bne_self_eq_false]; exact h)
end
/-- the state between the turns of the last loop -/
def OneJ (names : List Str) (m₀ : Str → Option Value) (tb a2 : Addr) (ot : Obj) (led : Ledger) (_ : Nat) (m : Str → Option Value) (news : Ledger) : Prop :=
  (∀ z, z ∉ names → m z = m₀ z) ∧ ∃ (c : Obj) (v : Option Value), c.data = .cell v ∧ news = (tb, ot) :: (a2, c) :: led
theorem one_turn_end {h₀ : Heap} {L I : Addr} {oI ot c c' : Obj} {v : Option Value} {tb a2 : Addr} {led all : Ledger} {s : Shared} {i : Nat} {names : List Str} {m₀ m' : Str → Option Value} {h' : Heap} {tk : Nat}
    (F : Fr h₀ L h' m') (N : News h₀ L h' all) (hI : (I, oI) ∈ all) (mt : (tb, ot) ∈ all) (mc : (a2, c') ∈ all) (hc : c'.data = .cell v) (sub : ∀ p ∈ led, p ∈ all) (off : NotIn I ((tb, ot) :: (a2, c) :: led)) (hm : ∀ z, z ∉ names → m' z = m₀ z) :
    TEnd h₀ L I oI (OneJ names m₀ tb a2 ot led (i + 1)) s .next { s with heap := h', toks := tk } := by
  refine TEnd.intro F N ((tb, ot) :: (a2, c') :: led) hI (fun p hp => ?_) (fun p hp => ?_) ⟨hm, c', v, hc, rfl⟩
  · rcases List.mem_cons.mp hp with rfl | hp
    · exact mt
    · rcases List.mem_cons.mp hp with rfl | hp
      · exact mc
      · exact sub p hp
  · rcases List.mem_cons.mp hp with rfl | hp
    · exact off (tb, ot) (.head _)
    · rcases List.mem_cons.mp hp with rfl | hp
      · exact off (a2, c) (.tail _ (.head _))
      · exact off p (.tail _ (.tail _ hp))
/-- a mark: the walk stops at the next branching -/
inductive Here : Prop where
  | mk
theorem here : Here := .mk
theorem joinS {prog : Program} {w : World} {A : Around} {E : Value → Shared → Prop} {T : Sem Flow} {s : Shared} {Q : Flow → Shared → Prop} {h₀ : Heap} {L : Addr} {m : Str → Option Value} {news : Ledger} (_F : Fr h₀ L s.heap m) (_N : News h₀ L s.heap news)
    (h2 : ∀ K : Flow → Shared → Prop, (∀ h' tk', Fr h₀ L h' m → News h₀ L h' news → K .next { s with heap := h', toks := tk' }) → wpAny (model prog w) A T K E s)
    (h1 : ∀ h' tk', Fr h₀ L h' m → News h₀ L h' news → Q .next { s with heap := h', toks := tk' }) : wpAny (model prog w) A T Q E s := h2 Q h1
theorem joinD {prog : Program} {w : World} {A : Around} {E : Value → Shared → Prop} {T : Sem Flow} {s : Shared} {Q : Flow → Shared → Prop} {h₀ : Heap} {L : Addr} {m : Str → Option Value} {news : Ledger} (x : Str) (v : Value) (_F : Fr h₀ L s.heap m) (_N : News h₀ L s.heap news)
    (h2 : ∀ K : Flow → Shared → Prop, (∀ h' tk', (Fr h₀ L h' fun z => if z = x then some v else m z) → News h₀ L h' news → K .next { s with heap := h', toks := tk' }) → wpAny (model prog w) A T K E s)
    (h1 : ∀ h' tk', (Fr h₀ L h' fun z => if z = x then some v else m z) → News h₀ L h' news → Q .next { s with heap := h', toks := tk' }) : wpAny (model prog w) A T Q E s := h2 Q h1

-- part W
theorem kw_20 : True := by
  (k_with "MYcall ref" => (((with_reducible show wpAny _ _ (call (Value.ref 184) _) _ _ _); k_dflt (refine CallsL.use (by k_asm) (by k_asm) (by k_asm) (by k_asm) (by k_asm) (by first | exact rfl | assumption) (deck0 _ _ _ _ _ _ _ _ (by assumption) (by omega)) (by ktr_room) (by ktr_units) (by assumption) ?_; walk_at "MYpost"))))
  (k_with "MYexec Assign cons ListComp" => ((k_here; lcf_look; (rename News _ _ _ _ => lN9'); (rename AllLt _ [_, _] => lA9'); (obtain ⟨g9', S9', N9', hg9'⟩ := one_slot lN9'); clear lN9'; (simp only [AllLt, and_true] at lA9'); k_dflt (refine LCg.Assign_ListComp_U (F₀ := by k_asm) (by rfl) (by with_unfolding_all rfl) (by with_unfolding_all rfl) (by decide) (by rfl) (by decide) (by rfl) (by rfl) (by rfl) ?_))))
  (k_with "MYexec For Name Name cons nil" => ((refine stop_here ?_)))
  (k_with "MYexec For Name Call cons nil" => ((refine stop_here ?_)))
  (k_with "MYpyIter ref" => (((with_reducible show wpAny _ _ (pyIter (Value.ref _)) (fun it s₂ => LoopAtT _ _ _ _ _ _ _ _ _ it s₂) _ _); refine stop_here ?_)))
  (k_with "MYhere" => (((rename Here => hw); clear hw; refine stop_here ?_)))
  (k_with "MYexec If" => (walk_at "MYhere"))
  (k_with "MYexec Assign cons BoolOp" => (walk_at "MYhere"))
  (k_with "MYcompareOp NotEq bool bool" => (with_reducible refine ne_same ?_))
  (k_with "MYi1" => (exact Is.up (by assumption) (by walk_at "MYsub")))
  (k_with "MYv" => (exact VecAt.up (NewVec.at (by assumption)) (by walk_at "MYsub")))
  (k_with "MYat" => (first | exact .none | exact .dict (by walk_at "MYmem") (by assumption) (by assumption) (by first | exact .empty | exact .more (.mk (k := .integer) (by walk_at "MYv") (by walk_at "MYmem") .int))))
  (k_with "MYisL" => (first
  | exact Is.list2 (by walk_at "MYv") (by walk_at "MYmem") (by walk_at "MYi1") (by walk_at "MYi1") (by walk_at "MYat")
  | exact Is.list1 (by walk_at "MYv") (by walk_at "MYmem") (by walk_at "MYi1") (by walk_at "MYat")
  | exact Is.call2 (CallAt.up (by assumption) (by walk_at "MYsub")) (by walk_at "MYmem") (by walk_at "MYmem") (by first | exact .none | exact .str (by decide +kernel)) (by walk_at "MYi1") (by walk_at "MYi1")))
  (k_with "MYdepL" => (first | exact dep_l2 (by assumption) (by assumption) | exact dep_c2 (by assumption) (by assumption) | exact dep_l1 (by assumption)))
  (k_with "MYc" => (first
  | exact ThOK.use thing0 (by k_updF) (by assumption)
  | exact sc_all 5 _ _ _ _ (by walk_at "MYi1") (by walk_at "MYi1") (Nat.lt_of_le_of_lt (by assumption) (by decide))
  | exact id_lit (by walk_at "MYi1") (by walk_at "MYi1") (dep_0 (by assumption)) (.mk rfl)
  | exact id_lit (by walk_at "MYisL") (by walk_at "MYisL") (by walk_at "MYdepL") (by first | exact l2_and | exact c2_and | exact c2_tag | exact l1_same | exact l1_more | exact l1_more2)))
  (k_with "MYmet" => ((k_steps; all_goals exact hK _ _ (by assumption) (News.perm (by assumption) (by walk_at "MYsub")))))
  (k_with "MYgone" => ((intro h' tk' F' N'; (try dsimp only); (try k_sweep); (try k_fold))))
  (k_with "MYfor" => (((try unfold Stop); (rename Fr _ _ _ _ => F6); (with_unfolding_all refine' For_invTF F6 ?_ (fun _ => by with_unfolding_all rfl)); k_steps; unfold Stop; (rename Fr _ _ _ _ => F5); (rename News _ _ _ _ => N5))))
  trivial
theorem off1_ne {D a : Addr} {o : Obj} {news : Ledger} (off : LCg.Off1 D news) (h : (a, o) ∈ news) : @Ne Nat D a := Ne.symm (off1_mem off _ h)
theorem kw_21 : True := by
  (k_with "MYk_ne" => (exact off1_ne (by assumption) (by k_mem)))
  trivial
theorem lt_five {q0 q1 q2 q3 q4 v : Value} {i : Nat} (hv : [q0, q1, q2, q3, q4][i]? = some v) : i < 5 := (List.getElem?_eq_some_iff.mp hv).1
set_option maxRecDepth 100000 in
set_option maxHeartbeats 8000000 in
theorem holds : PySem.Challenge.rw_ov0048_01.Holds := hd (by
  k_go0
  (all_goals try k_fold)
  k_steps
  unfold Stop
  rename News _ _ _ (_ :: _ :: (_ ++ _)) => N9
  rename LCg.Off1 _ _ => O9
  refine sum_up N9 O9 (by assumption) (by assumption) (by assumption) (by assumption) (by assumption) (by assumption) (by assumption) (by assumption) (by assumption) (by assumption) (by tbn_find) (by tbn_find) (by tbn_find) (by tbn_find) (by tbn_find) (by omega) (by omega) (by assumption) (by assumption) (by assumption) (by assumption) (by assumption) (by k_mem) (by k_mem) (by k_mem) (by k_mem) (by k_mem) ?_
  clear N9 O9
  intro rest q0 q1 q2 q3 q4 y0 y1 y2 y3 y4 N8 h1 h2 h3 mth five
  have j0 := five.is 0 q0 y0 rfl rfl
  have j1 := five.is 1 q1 y1 rfl rfl
  have j2 := five.is 2 q2 y2 rfl rfl
  have j3 := five.is 3 q3 y3 rfl rfl
  have j4 := five.is 4 q4 y4 rfl rfl
  walk_at "MYfor"
  k_dflt (refine iter_listT (vs := [q0, q1, q2, q3, q4]) (nl := 5) (TbJ _ _ _ rest [y0, y1, y2, y3, y4]) ?hJl (by rfl) F5 N5 ⟨_, _, [], _, [], rfl, rfl, by assumption, h1, h2, rfl, fun _ _ h => absurd h (Nat.not_lt_zero _)⟩ ?turn ?done)
  case hJl =>
    rintro i m news ⟨c, cv, rows, nr, new, rfl, rfl, hc, h1, h2, HR⟩
    exact .tail _ (.tail _ (List.mem_append.mpr (.inr mth)))
  case turn =>
    rintro i v m₁ news₁ I oI s₁ hv ⟨c, cv, rows, nr, new, rfl, rfl, hc, g1, g2, HR⟩ hIn F7 N7
    have hi5 := lt_five hv
    obtain ⟨v', x, hv', hx, ix, dx⟩ := five.at hi5
    rw [hv] at hv'
    cases hv'
    have e1 : @Ne Nat I _ := Ne.symm (hIn _ (.head _))
    have e2 : @Ne Nat I _ := Ne.symm (hIn _ (.tail _ (.head _)))
    dsimp only at e1 e2
    have hz : rows.toArray.size ≤ sizeLine := by
      rw [List.size_toArray, HR.1, sizeLine_eq]; omega
    clear N5 F5
    k_steps
    refine tb_turn_end (n := 5) (by assumption) (by assumption) (by k_mem) (by k_mem) (by k_mem) (by assumption) (by k_mem) (by walk_at "MYsub") (by k_ne) (by k_ne) (by k_ne) hIn g1 g2 HR hx
  case done =>
    rintro m₁ news₁ h tk ⟨c, cv, rows, nr, new, rfl, rfl, hc, g1, g2, HR⟩ F7 N7
    have mth2 := List.mem_append.mpr (Or.inr (a := _ ∈ new) mth)
    have five2 := five.mono (news' := new ++ rest) (fun p hp => List.mem_append.mpr (.inr hp))
    clear five mth j0 j1 j2 j3 j4 h1 h2 N5 F5
    generalize new ++ rest = led at *
    have HR5 : Rows [y0, y1, y2, y3, y4] rows 5 led := HR
    k_steps
    walk_at "MYfor"
    k_dflt (refine iter_rangeT (n := 5) (NmJ [(Str.ofString "i"), (Str.ofString "j"), (Str.ofString "k")] _ _) (by rfl) (by assumption) (by rfl) (by rfl) F5 N5 ⟨fun _ _ => rfl, rfl⟩ ?turn1 ?done1)
    case turn1 =>
      rintro i t m₁ news₁ I oI s₁ hi ⟨hm, rfl⟩ hIn F4 N4
      rw [nm3 hm] at F4
      obtain ⟨vi, xi, hvi, hxi, ixi, dxi⟩ := five2.at hi
      obtain ⟨ri, rowi, ki, hri, mri, Ri⟩ := HR5.get hi hxi
      have hii := Ri.yes hxi rfl
      have bi := small5 hi
      clear F5 N5
      k_steps
      walk_at "MYfor"
      k_dflt (refine iter_rangeT (n := 5) (NmJ [(Str.ofString "j"), (Str.ofString "k")] _ _) (by rfl) (by assumption) (by rfl) (by rfl) F5 N5 ⟨fun _ _ => rfl, rfl⟩ ?turn2 ?done2)
      case done2 =>
        rintro m₂ news₂ h2 tk2 ⟨hm2, rfl⟩ F3 N3
        k_steps
        refine nm_turn_end F3 N3 (.head _) (fun p hp => .tail _ hp) hIn (fun z hz => ?_)
        obtain ⟨z1, z2, z3⟩ := not_in3 hz
        rw [hm2 z (by simp [z2, z3])]
        simp only [z1, z2, z3, if_false]
      case turn2 =>
        rintro j t2 m₂ news₂ I2 oI2 s₂ hj ⟨hm2, rfl⟩ hIn2 F3 N3
        rw [nm2 hm2] at F3
        obtain ⟨vj, xj, hvj, hxj, ixj, dxj⟩ := five2.at hj
        obtain ⟨rj, rowj, kj, hrj, mrj, Rj⟩ := HR5.get hj hxj
        have bj := small5 hj
        clear F5 N5
        have hij := Ri.at hxj
        have hji := Rj.at' hxi
        have wait := here
        k_steps
        unfold Stop
        refine joinS (by k_asm) (by k_asm) ?_ ?_
        · intro K hK
          walk_at "MYmet"
        walk_at "MYgone"
        clear hji
        have wait := here
        k_steps
        unfold Stop
        refine joinS (by k_asm) (by k_asm) ?_ ?_
        · intro K hK
          clear hij
          by_cases e : xi = xj
          · have hij := Ri.yes hxj e
            have ixj2 : Is _ led vj xi := e ▸ ixj
            walk_at "MYmet"
          · have hij := Ri.no hxj e
            walk_at "MYmet"
        walk_at "MYgone"
        clear hij
        k_steps
        walk_at "MYfor"
        k_dflt (refine iter_rangeT (n := 5) (NmJ [(Str.ofString "k")] _ _) (by rfl) (by assumption) (by rfl) (by rfl) F5 N5 ⟨fun _ _ => rfl, rfl⟩ ?turn3 ?done3)
        case done3 =>
          rintro m₃ news₃ h3 tk3 ⟨hm3, rfl⟩ F2 N2
          k_steps
          refine nm_turn_end F2 N2 (.head _) (fun p hp => .tail _ hp) hIn2 (fun z hz => ?_)
          obtain ⟨z2, z3⟩ := not_in2 hz
          rw [hm3 z (by simp [z3])]
          simp only [z2, z3, if_false]
        case turn3 =>
          rintro k t3 m₃ news₃ I3 oI3 s₃ hk ⟨hm3, rfl⟩ hIn3 F2 N2
          rw [nm1 hm3] at F2
          obtain ⟨vk, xk, hvk, hxk, ixk, dxk⟩ := five2.at hk
          have bk := small5 hk
          clear F5 N5
          have wait := here
          k_steps
          unfold Stop
          refine joinS (by k_asm) (by k_asm) ?_ ?_
          · intro K hK
            by_cases e : xi = xj
            · have hij := Ri.yes hxj e
              by_cases e2 : xj = xk
              · have hjk := Rj.yes hxk e2
                have hik := Ri.yes hxk (e.trans e2)
                walk_at "MYmet"
              · have hjk := Rj.no hxk e2
                walk_at "MYmet"
            · have hij := Ri.no hxj e
              walk_at "MYmet"
          walk_at "MYgone"
          k_steps
          refine nm_turn_end (by assumption) (by assumption) (.head _) (fun p hp => .tail _ hp) hIn3 (fun z hz => ?_)
          have z3 := not_in1 hz
          simp only [z3, if_false]
    case done1 =>
      rintro m₁ news₁ h1 tk1 ⟨hm, rfl⟩ F4 N4
      rw [nm3 hm] at F4
      clear F5 N5
      k_steps
      walk_at "MYfor"
      k_dflt (refine iter_rangeT (n := 4) (NmJ [(Str.ofString "i"), (Str.ofString "left"), (Str.ofString "right"), (Str.ofString "due")] _ _) (by rfl) (by assumption) (by rfl) (by rfl) F5 N5 ⟨fun _ _ => rfl, rfl⟩ ?turn4 ?done4)
      case turn4 =>
        rintro i t m₄ news₄ I oI s₄ hi ⟨hm4, rfl⟩ hIn F3 N3
        rw [nm4 hm4] at F3
        have hi5 : i < 5 := by omega
        obtain ⟨vi, xi, hvi, hxi, ixi, dxi⟩ := five2.at hi5
        obtain ⟨vs, xs, hvs, hxs, ixs, dxs⟩ := five2.at (Nat.succ_lt_succ hi)
        have i4 := five2.is 4 q4 y4 rfl rfl
        have i0 := five2.is 0 q0 y0 rfl rfl
        have d4 := five2.dep y4 (by simp)
        have d0 := five2.dep y0 (by simp)
        obtain ⟨ri, rowi, ki, hri, mri, Ri⟩ := HR5.get hi5 hxi
        obtain ⟨r4, row4, k4, hr4, mr4, R4⟩ := HR5.get (j := 4) (x := y4) (by decide) rfl
        have hr4 : rows[(4 : Int).toNat]? = some (.ref r4) := hr4
        have hvs2 : [q0, q1, q2, q3, q4][((i : Int) + 1).toNat]? = some vs := by rw [succ_toNat]; exact hvs
        clear F5 N5
        have wait := here
        k_steps
        unfold Stop
        refine joinD (Str.ofString "due") (.bool (eqb xi xs && eqb y4 y0)) (by k_asm) (by k_asm) ?_ ?_
        · intro K hK
          by_cases e1 : xi = xs
          · have his := idx_succ (Ri.yes hxs e1)
            rw [eqb_yes e1, Bool.true_and] at hK
            by_cases e2 : y4 = y0
            · have h40 : row4[(0 : Int).toNat]? = _ := R4.yes (j := 0) (y := y0) rfl e2
              rw [eqb_yes e2] at hK
              walk_at "MYmet"
            · have h40 : row4[(0 : Int).toNat]? = _ := R4.no (j := 0) (y := y0) rfl e2
              rw [eqb_no e2] at hK
              walk_at "MYmet"
          · have his := idx_succ (Ri.no hxs e1)
            rw [eqb_no e1, Bool.false_and] at hK
            walk_at "MYmet"
        walk_at "MYgone"
        have wait := here
        k_steps
        unfold Stop
        refine joinS (by k_asm) (by k_asm) ?_ ?_
        · intro K hK
          walk_at "MYmet"
        walk_at "MYgone"
        have wait := here
        k_steps
        unfold Stop
        refine joinS (by k_asm) (by k_asm) ?_ ?_
        · intro K hK
          walk_at "MYmet"
        walk_at "MYgone"
        k_steps
        refine nm_turn_end (by assumption) (by assumption) (by walk_at "MYmem") (by walk_at "MYsub") hIn (fun z hz => ?_)
        obtain ⟨z1, z2, z3, z4⟩ := not_in4 hz
        simp only [z1, z2, z3, z4, if_false]
      case done4 =>
        rintro m₄ news₄ h4 tk4 ⟨hm4, rfl⟩ F3 N3
        rw [nm4 hm4] at F3
        clear F5 N5
        k_steps
        walk_at "MYfor"
        k_dflt (refine iter_listT (vs := [q0, q1, q2, q3, q4]) (nl := 5) (OneJ [(Str.ofString "plain_one")] _ _ _ _ led) ?hJl (by rfl) F5 N5 ⟨fun _ _ => rfl, _, _, hc, rfl⟩ ?turn5 ?done5)
        case hJl =>
          rintro i m news ⟨_, c5, v5, hc5, rfl⟩
          exact .tail _ (.tail _ mth2)
        case turn5 =>
          rintro i v m₅ news₅ I oI s₅ hv ⟨hm5, c5, v5, hc5, rfl⟩ hIn F2 N2
          rw [nm1 hm5] at F2
          obtain ⟨v', x, hv', hx, ix, dx⟩ := five2.at (lt_five hv)
          rw [hv] at hv'
          cases hv'
          have e1 : @Ne Nat I _ := Ne.symm (hIn _ (.head _))
          have e2 : @Ne Nat I _ := Ne.symm (hIn _ (.tail _ (.head _)))
          dsimp only at e1 e2
          clear F5 N5
          have wait := here
          k_steps
          unfold Stop
          refine joinS (by k_asm) (by k_asm) ?_ ?_
          · intro K hK
            walk_at "MYmet"
          walk_at "MYgone"
          have wait := here
          k_steps
          unfold Stop
          refine joinS (by k_asm) (by k_asm) ?_ ?_
          · intro K hK
            walk_at "MYmet"
          walk_at "MYgone"
          k_steps
          refine one_turn_end (by assumption) (by assumption) (by walk_at "MYmem") (by walk_at "MYmem") (by walk_at "MYmem") (by assumption) (by walk_at "MYsub") hIn (fun z hz => ?_)
          have z1 := not_in1 hz
          simp only [z1, if_false]
        case done5 =>
          rintro m₅ news₅ h5 tk5 ⟨hm5, c5, v5, hc5, rfl⟩ F2 N2
          rw [nm1 hm5] at F2
          clear F5 N5
          k_steps
  )
end Mine

set_option maxRecDepth 100000 in
set_option maxHeartbeats 8000000 in
theorem PySem.Challenge.cw_ov0048_01_holds : PySem.Challenge.rw_ov0048_01.Holds :=
  Mine.holds
