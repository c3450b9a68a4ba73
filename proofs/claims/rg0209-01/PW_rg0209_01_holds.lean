import PyProof.Rows.All
import Wide.All
import OpenK.AllK
import Wide.FinOn
import Lean
import PySem.Challenge.RW_rg0209_01
set_option Elab.async false

local macro_rules | `(tactic| walk_at $s:str) => `(tactic| k_extra $(Lean.Syntax.mkStrLit ("mine " ++ s.getString)))
local macro_rules | `(tactic| walk_at "eval Name") => `(tactic| (k_here; k_dflt (first | (refine' PySem.W.nameX_L ?F ?v ?_ ?a ?b; (case F => k_asm); (case a | b | v => rfl); k_whole) | (refine' PySem.W.nameX_K ?F ?X ?T ?e ?_ ?a ?b; (case F => k_asm); (case a | b => rfl); (case X | T => k_asm); (case e => k_is); k_whole))))
local macro_rules | `(tactic| walk_at "callWith ref") => `(tactic| (k_here; k_dflt (first | (refine' PySem.W.callWith_K ?k1 ?k2 ?_; (case k1 => k_asm); (case k2 => k_is); k_whole) | (refine' PySem.W.callWith_M ?k1 ?k2 ?k3 ?k4 ?_; (case k1 | k2 => k_asm); (case k3 => k_mem); (case k4 => k_is); k_whole) | (refine' PySem.W.callWith_K0 ?k1 ?k2 ?_; (case k1 => exact PySem.W.Frag.In.keeps (by k_asm) (PyProof.Rows.Fr.keep (by k_asm))); (case k2 => k_is); k_whole) | (refine' PySem.W.callWith_M0 ?k1 ?k2 ?_; (case k1 => (refine' PySem.W.methP ?N ?q ?X; (case N => k_asm); (case q => k_mem); (case X => exact PySem.W.Frag.In.keeps (by k_asm) (PyProof.Rows.Fr.keep (by k_asm))))); (case k2 => k_is); k_whole; try dsimp only [List.nil_append, List.cons_append]))))

namespace Mine

section
open PySem PySem.W PyProof.Rows
set_option maxRecDepth 100000
set_option maxHeartbeats 8000000
section
local macro_rules | `(tactic| o_head $_) => `(tactic| assumption)
theorem pre (h : PySem.Challenge.rw_rg0209_01.row.Holds) : PySem.Challenge.rw_rg0209_01.row.Holds := by
  k_head
end
end

section
open PySem PySem.W PyProof.Rows PySem.Calls PySem.Spec
set_option maxRecDepth 100000
set_option maxHeartbeats 8000000
/-- what stands behind a call that was entered with the part `prt` of the ledger -/
def Still (h : Heap) (prt : List (Addr × Obj)) (R : Result → Shared → Prop) (r : Result) (s' : Shared) : Prop :=
  (∀ b o, h.get? b = some o → b ∉ prt.map (·.1) → s'.heap.get? b = some o) → R r s'

theorem sub1 {α : Type} {a : α} {l : List α} (h : a ∈ l) : ∀ q ∈ [a], q ∈ l := List.forall_mem_cons.mpr ⟨h, List.forall_mem_nil _⟩
theorem sub2 {α : Type} {a b : α} {l : List α} (h : a ∈ l) (h2 : b ∈ l) : ∀ q ∈ [a, b], q ∈ l := List.forall_mem_cons.mpr ⟨h, sub1 h2⟩
theorem sub3 {α : Type} {a b c : α} {l : List α} (h : a ∈ l) (h2 : b ∈ l) (h3 : c ∈ l) : ∀ q ∈ [a, b, c], q ∈ l := List.forall_mem_cons.mpr ⟨h, sub2 h2 h3⟩
theorem sub4 {α : Type} {a b c d : α} {l : List α} (h : a ∈ l) (h2 : b ∈ l) (h3 : c ∈ l) (h4 : d ∈ l) : ∀ q ∈ [a, b, c, d], q ∈ l := List.forall_mem_cons.mpr ⟨h, sub3 h2 h3 h4⟩

/-- what holds of each of n whole numbers from k on -/
noncomputable def AllFrom (P : Int → Prop) : Int → Nat → Prop
  | _, 0 => True
  | k, n + 1 => P k ∧ AllFrom P (k + 1) n
theorem AllFrom.step {P : Int → Prop} {k : Int} {n : Nat} (h : P k) (t : AllFrom P (k + 1) n) : AllFrom P k (n + 1) := ⟨h, t⟩
theorem AllFrom.pickFrom {P : Int → Prop} : ∀ (n : Nat) {k : Int}, AllFrom P k n → ∀ {r : Int}, k ≤ r → r < k + n → P r
  | 0, k, _, r, h1, h2 => absurd h2 (Int.not_lt.mpr (by simpa using h1))
  | n + 1, k, h, r, h1, h2 => by
    by_cases e : r = k
    · exact e ▸ h.1
    · exact AllFrom.pickFrom n h.2 (by omega) (by omega)
theorem AllFrom.pick {P : Int → Prop} {n : Nat} {r : Int} (h : AllFrom P 0 n) (h0 : 0 ≤ r) (h1 : r < n) : P r := AllFrom.pickFrom n h h0 (by simpa using h1)
theorem subC {α : Type} {a : α} {r l : List α} (h : a ∈ l) (t : ∀ q ∈ r, q ∈ l) : ∀ q ∈ a :: r, q ∈ l := List.forall_mem_cons.mpr ⟨h, t⟩
theorem subN {α : Type} {l : List α} : ∀ q ∈ ([] : List α), q ∈ l := List.forall_mem_nil _
theorem up_lt {a b c n : Nat} (h : a + c < n) (hb : Nat.ble b c = true) : a + b < n := Nat.lt_of_le_of_lt (Nat.add_le_add_left (Nat.le_of_ble_eq_true hb) a) h
theorem up_lt3 {a b c d n : Nat} (h : a + c < n) (hb : Nat.ble (b + d) c = true) : a + b + d < n := Nat.add_assoc a b d ▸ up_lt h hb

section
variable {prog : Program} {w : World} {A₀ A : Around} {s : Shared} {base h₀ : Heap} {outer : List Env} {L : Addr} {m mg mb : Str → Option Value} {env : Env} {news : List (Addr × Obj)} {K : Frag} {p : Program} {loose : List Str} {mean : ExcName → Option Value}
  {R : Result → Shared → Prop} {name qual : Str} {params : Arguments} {body : List Stmt} {scope : Scope} {dV kV doc pm cdv ct oc : Value} {an od : Option Addr} {osl : Array (Option Value)} {f : Addr} {args : Args} {binds : List (Str × Value)}
theorem code_part (prt : List (Addr × Obj)) (B : Below A₀ base outer h₀) (F : Fr h₀ L s.heap m) (X₀ : K.In h₀) (N : News h₀ L s.heap news) (T : Top p loose mean mg mb h₀) (hA : A.frames = some (env :: outer)) (hf : env.frame = some L) (hke : env.scope.kind = .function)
    (hm : ∀ q ∈ prt, q ∈ news)
    (ho : K.lookup f = some ⟨oc, od, .func (fnOf name qual params body scope dV kV doc pm an cdv ct), osl⟩) (hcd : codeIn K cdv qual = true) (hroom : A.depth < recursionLimit)
    (hbind : BindsTo s (fnOf name qual params body scope dV kV doc pm an cdv ct) args binds) (hloc : ∀ y ∈ binds, scope.names.lookup y.1 = some .local)
    (h : ∀ g L' h₁ (tk₁ : Nat), Fr h₀ L g m → Fr g L' h₁ (fun y => binds.reverse.lookup y) → News g L' h₁ prt → (∀ b o, s.heap.get? b = some o → b ∉ prt.map (·.1) → g.get? b = some o) → Below A base (env :: outer) g → K.In g → Top p loose mean mg mb g →
      wpAny (model prog w) (A.deeper (envOf qual scope L' f cdv)) (execs body (envOf qual scope L' f cdv))
        (fun fl s' => LeaveK h₀ L m g (Still s.heap prt R) (match fl with | .ret v => v | _ => .none) s')
        (fun e s' => wpAny (model prog w) (A.deeper (envOf qual scope L' f cdv)) (leaving (envOf qual scope L' f cdv) e) (fun _ s'' => R (.error e) s'') (fun e' s'' => R (.error e') s'') s')
        { s with heap := h₁, toks := tk₁ })
    (hco : scope.isCoroutine = false) (hgen : scope.isGenerator = false) (hk : scope.kind = .function)
    (hcell : ∀ x ∈ scope.names, x.2 ≠ .cell) : codeAny (model prog w) A (.call (.ref f) args) R s := by
  have N₁ : News h₀ L s.heap prt := fun q hq => N q (hm q hq)
  obtain ⟨FG, BG, st, lv⟩ := groundX (R := R) B F N₁ hA hf hke
  have ho' := (X₀.keeps F.keep) _ _ ho
  refine codeAny_call_def (fd := fnOf name qual params body scope dV kV doc pm an cdv ct) (body := body) (binds := binds) hroom ho' rfl (T.nolimit.keeps F.keep) (codeRec_of (X₀.keeps F.keep) hcd) rfl hbind hcell hloc (fun h₁ hns hk₁ => ?_) hco hgen hk
  have hkeep : ∀ b o, s.heap.get? b = some o → b ∉ prt.map (·.1) → (hideAll s.heap (prt.map (·.1))).get? b = some o := fun b o hb hn => hideAll_get _ hb hn
  refine wpAny_mono (h _ s.heap.objs.size h₁ _ FG ⟨hns, fun b o e => hk₁ b o (of_hideAll _ e), Nat.le_of_eq (hideAll_size _ _)⟩
    (fun q hq => ⟨hk₁ _ _ (N₁ q hq).1, Nat.ne_of_lt (Heap.lt_size (N₁ q hq).1), hideAll_none _ (List.mem_map_of_mem hq)⟩) hkeep BG (X₀.keeps st) (T.keeps st)) (fun fl s' hl => lv _ _ ?_) fun _ _ y => y
  obtain ⟨L', m', news', F', N', k⟩ := hl
  exact ⟨L', m', news', F', N', fun a b => k a b fun b o hb hn => F'.keep _ _ (hkeep b o hb hn)⟩

/-- the ledger behind such a call: the part as it came back, the rest as it was -/
theorem news_still {prt prt' : List (Addr × Obj)} {h' : Heap} {L : Addr} {h : Heap} (N : News h₀ L h news) (N' : News h₀ L h' prt') (hst : ∀ b o, h.get? b = some o → b ∉ prt.map (·.1) → h'.get? b = some o) :
    News h₀ L h' (prt' ++ news.filter fun q => !(prt.map (·.1)).contains q.1) := by
  intro q hq
  rcases List.mem_append.mp hq with hq | hq
  · exact N' q hq
  · obtain ⟨h1, h2⟩ := List.mem_filter.mp hq
    have h3 : q.1 ∉ prt.map (·.1) := by simpa using h2
    exact ⟨hst _ _ (N q h1).1 h3, (N q h1).2⟩
theorem news_obj {h : Heap} {L a : Addr} {o o' : Obj} (N : News h₀ L h news) (h1 : (a, o) ∈ news) (h2 : (a, o') ∈ news) : o = o' :=
  Option.some.inj ((N _ h1).1.symm.trans (N _ h2).1)
/-- a part that came back as it was -/
theorem news_same {prt : List (Addr × Obj)} {h' : Heap} {L : Addr} {h : Heap} (N : News h₀ L h news) (hm : ∀ q ∈ prt, q ∈ news) (N' : News h₀ L h' prt) (hst : ∀ b o, h.get? b = some o → b ∉ prt.map (·.1) → h'.get? b = some o) : News h₀ L h' news := by
  intro q hq
  by_cases h1 : q.1 ∈ prt.map (·.1)
  · obtain ⟨r, hr, e⟩ := List.mem_map.mp h1
    have : r = q := by
      obtain ⟨ra, ro⟩ := r
      obtain ⟨qa, qo⟩ := q
      dsimp only at e
      subst e
      rw [news_obj N (hm _ hr) hq]
    exact this ▸ N' r hr
  · exact ⟨hst _ _ (N q hq).1 h1, (N q hq).2⟩
/-- one object of the part came back turned -/
theorem news_one {d : Addr} {o o' : Obj} {gg : Obj → List (Addr × Obj)} {prt prt' : List (Addr × Obj)} {h' : Heap} {L : Addr} {h : Heap} (N : News h₀ L h news) (U : UpdF d o news gg) (hm : ∀ q ∈ prt, q ∈ news) (N' : News h₀ L h' prt') (hd : (d, o') ∈ prt')
    (hk : ∀ q ∈ prt, q.1 ≠ d → q ∈ prt') (hst : ∀ b o, h.get? b = some o → b ∉ prt.map (·.1) → h'.get? b = some o) : News h₀ L h' (gg o') := by
  obtain ⟨pre, post, rfl, hg, a, b⟩ := U.split
  have old : ∀ q ∈ pre ++ (d, o) :: post, q.1 ≠ d → h'.get? q.1 = some q.2 ∧ q.1 ≠ L ∧ h₀.get? q.1 = none := by
    intro q hq hne
    by_cases h1 : q.1 ∈ prt.map (·.1)
    · obtain ⟨r, hr, e⟩ := List.mem_map.mp h1
      have : r = q := by
        obtain ⟨ra, ro⟩ := r
        obtain ⟨qa, qo⟩ := q
        dsimp only at e
        subst e
        rw [news_obj N (hm _ hr) hq]
      exact N' q (hk q (this ▸ hr) hne)
    · exact ⟨hst _ _ (N q hq).1 h1, (N q hq).2⟩
  rw [hg]
  intro q hq
  rcases List.mem_append.mp hq with hq | hq
  · exact old q (List.mem_append_left _ hq) (a q hq)
  · rcases List.mem_cons.mp hq with rfl | hq
    · exact N' _ hd
    · exact old q (List.mem_append_right _ (.tail _ hq)) (b q hq)
end
end

local macro_rules | `(tactic| ktr_room) => `(tactic| first | exact Mine.up_lt3 (by with_reducible assumption) (by rfl) | exact Mine.up_lt (by with_reducible assumption) (by rfl))
local macro_rules | `(tactic| ktr_units) => `(tactic| first | exact Mine.up_lt3 (by with_reducible assumption) (by rfl) | exact Mine.up_lt (by with_reducible assumption) (by rfl))

section
open PySem PySem.W PySem.Calls
set_option maxRecDepth 100000
set_option maxHeartbeats 8000000
section
variable {M : Model} {A : Around} {E : Value → Shared → Prop} {h : Heap} {g : Array GenState} {d : Drawn} {t : Nat} {os : OsState}
variable {nm q : Str} {C N : Addr} {bs bm bmB : List Value} {hdct : Bool} {sn : List Str} {sub : List Value} {ab : Bool} {col : Option Bool} {dd : Option Addr} {k0 k1 k2 k3 k5 : Option Value} {B newId initId : String}
theorem cf_check_new (F : ExcBaseFacts B newId initId bmB) (hB : bm.contains (.type B) = true) {rest : List Value} {Q : Unit → Shared → Prop} (hC : h.get? C = some (excClassObj nm q C N bs bm hdct sn sub ab col dd k0 k1 k2 k3 k5 newId))
    (hq : Q () ⟨h, g, d, t, os⟩) : wpAny M A (checkBuiltinCall newId ⟨.ref C :: rest, []⟩) Q E ⟨h, g, d, t, os⟩ := by
  have hcont : (Value.ref C :: bm).contains (.type B) = true := by rw [List.contains_cons, hB, Bool.or_true]
  have hstar := F.noStar
  simp only [checkBuiltinCall, F.newKind, F.newSplit, F.newRow]
  repeat (first | with_reducible refine wpAny_loadPart_at hC ?_ | (with_reducible refine wpAny_isSubtype_exc hC ?_; rw [hcont]) | with_reducible refine wpAny_staticBase_exc hC ?_ | with_reducible refine wpAny_madeBy_exc hC ?_ | simp only [bne_self_eq_false, Bool.false_eq_true, if_false] | wp_step)
  exact hq
end
section
variable {prog : Program} {w : World} {A : Around} {R : Result → Shared → Prop} {E : Value → Shared → Prop} {h : Heap} {g : Array GenState} {d : Drawn} {t : Nat} {os : OsState}
variable {nm q : Str} {C N : Addr} {bs bm bmB : List Value} {hdct : Bool} {sn : List Str} {sub : List Value} {ab : Bool} {col : Option Bool} {dd : Option Addr} {k0 k1 k2 k3 k5 : Option Value} {B newId initId : String}
theorem cf_new (F : ExcBaseFacts B newId initId bmB) (hB : bm.contains (.type B) = true) (hA : bm.contains (.type "AttributeError") = false) (hN : bm.contains (.type "NameError") = false) {rest : List Value}
    (hC : h.get? C = some (excClassObj nm q C N bs bm hdct sn sub ab col dd k0 k1 k2 k3 k5 newId))
    (hq : R (.ok (.ret (.ref (h.objs.size + 1)))) ⟨(h.push { cls := .type "tuple", data := .seq rest.toArray }).push
      { cls := .ref C, data := .fields #[.ref h.objs.size, .none, .none, .none, .bool false, .none] }, g, d, t, os⟩) (hrest : rest.length ≤ sizeLine := by size_fits) :
    codeAny (model prog w) A (.builtin newId ⟨.ref C :: rest, []⟩) R ⟨h, g, d, t, os⟩ := by
  have hends := F.ends
  have hcB : (Value.ref C :: bm).contains (.type B) = true := by rw [List.contains_cons, hB, Bool.or_true]
  have hcA : (Value.ref C :: bm).contains (.type "AttributeError") = false := by rw [List.contains_cons, hA]; rfl
  have hcN : (Value.ref C :: bm).contains (.type "NameError") = false := by rw [List.contains_cons, hN]; rfl
  refine codeAny_builtinAt F.entry ?_
  unfold Builtin.«BaseException.__new__»
  refine wpAt_bind ?_
  show wpAt _ _ _ (stack >>= _) _ _ _
  refine wpAt_bind (wpAt_stack fun p below => wpAt_of_wpAny ?_)
  wp_walk
  refine wpAt_of_wpAny ?_
  rw [F.owner]
  repeat (first | with_reducible refine wpAny_madeHere_exc F.canon hC ?_ | with_reducible refine wpAny_loadPart_at hC ?_ | (with_reducible refine wpAny_isSubtype_exc hC ?_; first | rw [hcB] | rw [hcA] | rw [hcN]) | wp_step)
  show R _ _
  rw [Heap.size_push]
  exact hq

theorem cf_type_call (F : ExcBaseFacts B newId initId bmB) (hB : bm.contains (.type B) = true) (hA : bm.contains (.type "AttributeError") = false) (hN : bm.contains (.type "NameError") = false) {rest : List Value} {fI : Addr} {oI : Obj} {Q : Fin → Shared → Prop}
    (hC : h.get? C = some (excClassObj nm q C N bs bm hdct sn sub ab col dd k0 k1 k2 k3 k5 newId)) (hi : Looks (model prog w) h (typeLookup (.ref C) "__init__") (some (.ref fI)))
    (hfI : h.get? fI = some oI) (hfc : oI.cls = .type "function")
    (hq : ∀ h' e, Heap.MadeExcOf h h' e (.ref C) rest →
      wpAny (model prog w) A (call (.ref fI) (.ref e :: rest)) (fun r s' => r = .none ∧ Q (.done (.ret (.ref e))) s') E ⟨h', g, d, t, os⟩) (hrest : rest.length ≤ sizeLine := by size_fits) :
    wpAny (model prog w) A (Builtin.«type.__call__» ⟨.ref C :: rest, []⟩) Q E ⟨h, g, d, t, os⟩ := by
  repeat (first | with_reducible refine wpAny_loadPart_at hC ?_ | with_reducible refine wpAny_madeBy_exc hC ?_ | wp_step)
  refine codeAny_call_builtin_code (Code.quiet_builtin _ F.quiet) (cf_check_new F hB hC ?_)
  refine cf_new F hB hA hN hC ?_ hrest
  show wpAny _ _ _ _ _ _
  have up : ∀ b o, h.get? b = some o → ((h.push { cls := .type "tuple", data := .seq rest.toArray }).push { cls := .ref C, data := .fields #[.ref h.objs.size, .none, .none, .none, .bool false, .none] }).get? b = some o :=
    fun b o e => Heap.get?_push_of_some _ (Heap.get?_push_of_some _ e)
  have hC₁ := up _ _ hC
  have hfI₁ := up _ _ hfI
  have hi₁ := hi.keeps up
  have hget : ((h.push { cls := .type "tuple", data := .seq rest.toArray }).push
      { cls := .ref C, data := .fields #[.ref h.objs.size, .none, .none, .none, .bool false, .none] }).get? (h.objs.size + 1) = some
      { cls := .ref C, data := .fields #[.ref h.objs.size, .none, .none, .none, .bool false, .none] } := by heap_get
  have hcC : (Value.ref C :: bm).contains (.ref C) = true := by simp
  unfold isInstance
  repeat (first | with_reducible refine wpAny_loadPart_at hget ?_ | (with_reducible refine wpAny_isSubtype_exc hC₁ ?_; rw [hcC]) | wp_step)
  show wpAny _ _ (typeLookup (.ref C) _) _ _ _
  refine Looks.at hi₁ ?_
  refine wpAny_holding (wpAny_bind ?_)
  unfold bindSpecial
  refine wpAny_bind (wpAny_typeOf (T := "function") ⟨_, hfI₁, hfc⟩ ?_)
  rw [if_pos (by decide)]
  refine wpAny_pure (wpAny_bind (wpAny_mono (hq _ (h.objs.size + 1) ⟨up, Heap.get?_none_of_le (Nat.le_succ _), h.objs.size, hget, Heap.get?_none_of_le (Nat.le_refl _), ?_⟩) (fun r s' hr => ?_) fun _ _ x => x))
  · exact Heap.get?_push_of_some _ (Heap.get?_push_at rfl rfl)
  · obtain ⟨rfl, hQ⟩ := hr
    wp_walk
    exact hQ

theorem cf_call (F : ExcBaseFacts B newId initId bmB) (hB : bm.contains (.type B) = true) (hA : bm.contains (.type "AttributeError") = false) (hN : bm.contains (.type "NameError") = false) {rest : List Value} {fI : Addr} {oI : Obj} {Q : Value → Shared → Prop}
    (hC : h.get? C = some (excClassObj nm q C N bs bm hdct sn sub ab col dd k0 k1 k2 k3 k5 newId)) (hi : Looks (model prog w) h (typeLookup (.ref C) "__init__") (some (.ref fI)))
    (hfI : h.get? fI = some oI) (hfc : oI.cls = .type "function")
    (hq : ∀ h' e, Heap.MadeExcOf h h' e (.ref C) rest →
      wpAny (model prog w) (A.under (.builtin "type.__call__" ⟨.ref C :: rest, []⟩)) (call (.ref fI) (.ref e :: rest)) (fun r s' => r = .none ∧ Q (.ref e) s') E ⟨h', g, d, t, os⟩) (hrest : rest.length ≤ sizeLine := by size_fits) :
    wpAny (model prog w) A (call (.ref C) rest) Q E ⟨h, g, d, t, os⟩ := by
  have f1 := tc_lookup
  have f2 := tc_bind (.ref C)
  have hT : (⟨h, g, d, t, os⟩ : Shared).TypeIs (.ref C) "type" := ⟨_, hC, rfl⟩
  refine wpAny_call (codeAny_of_tree ?_)
  show wpAny _ _ (callAny (.ref C) _) _ _ _
  repeat (any_goals (first | assumption | with_reducible refine wpAny_loadPart_at hC ?_ | wp_step))
  refine ⟨rfl, ?_⟩
  refine codeAny_call_builtin_at (Code.quiet_builtin _ (by decide +kernel)) entry_typeCall (wpAny_check_type_call_sub hC (cf_type_call (hrest := hrest) F hB hA hN hC hi hfI hfc fun h' e hm => ?_))
  exact hq h' e hm
end
end

section
open PySem PySem.W PySem.Calls
set_option maxRecDepth 100000
set_option maxHeartbeats 8000000
theorem slot_wd_get : Slot "wrapper_descriptor" "__get__" "wrapper_descriptor.__get__" := .of (owner := "wrapper_descriptor") (n := "__get__") (by rw [typeLookup_type, builtinLookup_eq_fast]; kernel_rfl) (by decide +kernel) (by decide +kernel) (by decide +kernel)
  (by first | exact .inl (by decide +kernel) | exact .inr (by decide +kernel)) (by rw [isSubtype_type]; kernel_rfl)
theorem entry_wd_get : entryFor table "wrapper_descriptor.__get__" = some Builtin.«wrapper_descriptor.__get__» := entryFor_of_tree (by kernel_rfl)
theorem args_wd_get (a b c : Value) : argsOk "wrapper_descriptor.__get__" ⟨[a, b, c], []⟩ := by unfold argsOk; kernel_rfl
theorem type_exc_init : typeOf (.builtin "Exception.__init__") = pure (.type "wrapper_descriptor") := by show builtinType _ = _; rw [builtinType_eq_fast]; kernel_rfl
section
variable {prog : Program} {w : World} {M : Model} {A : Around} {E : Value → Shared → Prop} {h : Heap} {g : Array GenState} {d : Drawn} {t : Nat} {os : OsState}
theorem wd_get {e C : Addr} {oe : Obj} {Q : Fin → Shared → Prop} (he : h.get? e = some oe) (hc : oe.cls = .ref C) (hI : Looks (model prog w) h (isSubtype (.ref C) (.type "Exception")) true)
    (hq : Q (.done (.ret (.ref h.objs.size))) ⟨h.push { cls := .type "method-wrapper", data := .fields #[.builtin "Exception.__init__", .ref e] }, g, d, t, os⟩) :
    wpAny (model prog w) A (Builtin.«wrapper_descriptor.__get__» ⟨[.builtin "Exception.__init__", .ref e, .ref C], []⟩) Q E ⟨h, g, d, t, os⟩ := by
  have hs : ".".intercalate ("Exception.__init__".cutAt '.').dropLast = "Exception" := by decide +kernel
  unfold Builtin.«wrapper_descriptor.__get__»
  repeat (first | (with_reducible refine wpAny_loadPart_at he ?_; rw [hc]) | (rw [hs]; with_reducible refine Looks.at hI ?_) | ((with_reducible refine wpAny_newObj_type ?_ ?sz); (case sz => size_fits)) | wp_step | dsimp only)
  all_goals exact hq

theorem sp_ga {so D x C : Addr} {ox : Obj} {l₀ l : List Value} {K : Frag} {name : Str} {tk : Tok} {Q : Fin → Shared → Prop}
    (hso : h.get? so = some { cls := .type "super", dict := none, data := .fields #[.ref D, .ref x, .ref C], slots := #[] }) (hno : Looks (model prog w) h (opaqueClassAbove (.ref C)) none)
    (hC : Looks (model prog w) h (mroOf (.ref C)) l₀) (hl : (l₀.dropWhile (· != .ref D)).drop 1 = l) (X : K.In h)
    (hf : alongIn K name l = some (some (.builtin "Exception.__init__"))) (hx : h.get? x = some ox) (hxc : ox.cls = .ref C) (hxC : x ≠ C) (hn : (name == ("__class__" : Str)) = false) (hI : Looks (model prog w) h (isSubtype (.ref C) (.type "Exception")) true)
    (hq : Q (.done (.ret (.ref h.objs.size))) ⟨h.push { cls := .type "method-wrapper", data := .fields #[.builtin "Exception.__init__", .ref x] }, g, d, t, os⟩) :
    wpAny (model prog w) A (Builtin.«super.__getattribute__» ⟨[.ref so, .str name tk], []⟩) Q E ⟨h, g, d, t, os⟩ := by
  have hlk := slot_wd_get.lookup
  have hT : ∀ s : Shared, s.TypeIs (.builtin "Exception.__init__") "wrapper_descriptor" := fun s => type_exc_init
  have hne : (Value.ref x == Value.ref C) = false := by simp [hxC]
  have hdt : ({ cls := .type "super", dict := none, data := .fields #[.ref D, .ref x, .ref C], slots := #[] } : Obj).data = .fields #[.ref D, .ref x, .ref C] := rfl
  have f0 : (#[.ref D, .ref x, .ref C] : Array Value)[0]? = some (.ref D) := rfl
  have f1 : (#[.ref D, .ref x, .ref C] : Array Value)[1]? = some (.ref x) := rfl
  have f2 : (#[.ref D, .ref x, .ref C] : Array Value)[2]? = some (.ref C) := rfl
  unfold Builtin.«super.__getattribute__»
  repeat (first
    | (with_reducible refine wpAny_field hso hdt f0 ?_) | (with_reducible refine wpAny_field hso hdt f1 ?_) | (with_reducible refine wpAny_field hso hdt f2 ?_)
    | (with_reducible refine ks_wpAny_notOpaque hno ?_)
    | (with_reducible refine Looks.at hC ?_; rw [hl])
    | ((with_reducible show wpAny _ _ (forIn _ _ _) _ _ _); refine ks_forIn_along X (fun _ _ => rfl) rfl ?_ hf)
    | (with_reducible refine wpAny_of_eq type_exc_init ?_)
    | (with_reducible refine wpAny_call_entry slot_wd_get (hT _) entry_wd_get ?_ (args_wd_get _ _ _))
    | (with_reducible refine wd_get hx hxc hI ?_)
    | (with_reducible refine ⟨_, rfl, ?_⟩)
    | (simp only [hn, hne, Bool.or_false, Bool.false_eq_true, if_false])
    | wp_step
    | dsimp only)
  all_goals exact hq

theorem sp_getMethod {so D x C : Addr} {ox : Obj} {l₀ l : List Value} {K : Frag} {name : Str} {pl : Sem Bool} {Q : Value × List Value → Shared → Prop}
    (hso : h.get? so = some { cls := .type "super", dict := none, data := .fields #[.ref D, .ref x, .ref C], slots := #[] }) (hno : Looks (model prog w) h (opaqueClassAbove (.ref C)) none)
    (hC : Looks (model prog w) h (mroOf (.ref C)) l₀) (hl : (l₀.dropWhile (· != .ref D)).drop 1 = l) (X : K.In h)
    (hf : alongIn K name l = some (some (.builtin "Exception.__init__"))) (hx : h.get? x = some ox) (hxc : ox.cls = .ref C) (hxC : x ≠ C) (hn : (name == ("__class__" : Str)) = false) (hI : Looks (model prog w) h (isSubtype (.ref C) (.type "Exception")) true)
    (hq : Q (.ref h.objs.size, []) ⟨h.push { cls := .type "method-wrapper", data := .fields #[.builtin "Exception.__init__", .ref x] }, g, d, t + 1, os⟩) :
    wpAny (model prog w) A (getMethod (.ref so) name pl) Q E ⟨h, g, d, t, os⟩ := by
  have hlk := F.ks_slot_super_ga.lookup
  have hcan := F.ks_canon_super_ga
  have hT : ∀ t', (⟨h, g, d, t', os⟩ : Shared).TypeIs (.ref so) "super" := fun _ => ⟨_, hso, rfl⟩
  unfold getMethod
  refine wpAny_bind (wpAny_specialOf (hT _) hlk ?_)
  show wpAny _ _ (if (Manifest.canonical "super.__getattribute__" != "object.__getattribute__") = true then _ else _) _ _ _
  rw [if_pos hcan]
  unfold getAttr getAttrBy
  refine wpAny_bind (wpAny_bind (wpAny_mkText (wpAny_holding (wpAny_bind (wpAny_typeOf (hT _) (wpAny_bind (wpAny_of_eq hlk ?_)))))))
  show wpAny _ _ (getAttrByItsOwn (.ref so) (.str name t) (.type "super") (.builtin "super.__getattribute__") true false) _ _ _
  unfold getAttrByItsOwn hookBefore callGetattribute boundAndCalled
  refine wpAny_bind (wpAny_of_eq (show (if onTheHeap (.type "super") then typeLookup (.type "super") "__getattr__" else pure none) = pure none from rfl) ?_)
  refine wpAny_bind (wpAny_attempt (wpAny_holding ?_))
  show wpAny _ _ (bindSpecial (.builtin "super.__getattribute__") (.ref so) >>= _) _ _ _
  refine wpAny_bind (wpAny_of_eq (F.ks_slot_super_ga.bind _) ?_)
  refine wpAny_mono (Q := fun v s' => v = .ref h.objs.size ∧ s' = ⟨h.push { cls := .type "method-wrapper", data := .fields #[.builtin "Exception.__init__", .ref x] }, g, d, t + 1, os⟩) (E := fun _ _ => False)
    (wpAny_call_entry F.ks_slot_super_ga (hT _) F.ks_entry_super_ga (sp_ga hso hno hC hl X hf hx hxc hxC hn hI ⟨_, rfl, rfl, rfl⟩) (F.ks_gaArgs_super _ _)) (fun v s' hv => ?_) fun _ _ z => z.elim
  obtain ⟨rfl, rfl⟩ := hv
  exact wpAny_pure (wpAny_pure hq)
end
end

section
open PySem PySem.W PySem.Calls
set_option maxRecDepth 100000
set_option maxHeartbeats 8000000
section
variable {prog : Program} {w : World} {M : Model} {A : Around} {E : Value → Shared → Prop} {h : Heap} {g : Array GenState} {d : Drawn} {t : Nat} {os : OsState}
theorem mw_check {M : Model} {nm q : Str} {C N : Addr} {bs bm : List Value} {hdct : Bool} {sn : List Str} {sub : List Value} {ab : Bool} {col : Option Bool} {dd : Option Addr} {k0 k1 k2 k3 k5 : Option Value} {newId : String}
    {e : Addr} {oe : Obj} {v : Value} {Q : Unit → Shared → Prop} (hB : bm.contains (.type "Exception") = true) (hC : h.get? C = some (excClassObj nm q C N bs bm hdct sn sub ab col dd k0 k1 k2 k3 k5 newId)) (he : h.get? e = some oe) (hcls : oe.cls = .ref C) (hq : Q () ⟨h, g, d, t, os⟩) :
    wpAny M A (checkBoundCall "Exception.__init__" ⟨[.ref e, v], []⟩) Q E ⟨h, g, d, t, os⟩ := by
  have hrow := PySem.F.excBase_Exception.initRow
  have hkind := PySem.F.excBase_Exception.initKind
  have hcB : (Value.ref C :: bm).contains (.type "Exception") = true := by rw [List.contains_cons, hB, Bool.or_true]
  have hshort := PySem.F.excBase_Exception.noStar
  unfold checkBoundCall
  rw [hrow, hkind]
  dsimp only
  rw [if_pos (by decide)]
  repeat (first | (with_reducible refine wpAny_loadPart_at he ?_; rw [hcls]) | with_reducible refine wpAny_loadPart_at hC ?_ | (with_reducible refine wpAny_isSubtype_exc hC ?_; rw [hcB]) | wp_step)
  exact hq
theorem mw_call {nm qn : Str} {N : Addr} {bs bm : List Value} {hdct : Bool} {sn : List Str} {sub : List Value} {ab : Bool} {col : Option Bool} {dd : Option Addr} {k0 k1 k2 k3 k5 : Option Value} {newId : String} {q e C : Addr} {oe : Obj} {vs : Array Value} {v : Value} {Q : Value → Shared → Prop} (hqo : h.get? q = some { cls := .type "method-wrapper", dict := none, data := .fields #[.builtin "Exception.__init__", .ref e], slots := #[] })
    (hB : bm.contains (.type "Exception") = true) (hC : h.get? C = some (excClassObj nm qn C N bs bm hdct sn sub ab col dd k0 k1 k2 k3 k5 newId)) (he : h.get? e = some oe) (hcls : oe.cls = .ref C) (hd : oe.data = .fields vs) {old : Value} (hv : vs[0]? = some old)
    (hq : Q .none ⟨(h.push { cls := .type "tuple", data := .seq #[v] }).update e (Obj.mapFields (·.setIfInBounds 0 (.ref h.objs.size))), g, d, t, os⟩) :
    wpAny (model prog w) A (call (.ref q) [v]) Q E ⟨h, g, d, t, os⟩ := by
  have hinit := PySem.F.excBase_Exception.initEntry
  have hrow := PySem.F.excBase_Exception.initRow
  have hkind := PySem.F.excBase_Exception.initKind
  refine wpAny_call (codeAny_of_tree ?_)
  show wpAny _ _ (callAny (.ref q) _) _ _ _
  unfold callAny
  refine wpAny_bind (wpAny_load hqo ?_)
  dsimp only
  rw [if_pos (by decide)]
  show wpAny _ _ (if (Value.type "method-wrapper" != Value.type "method") = true then _ else _) _ _ _
  rw [if_pos (by decide)]
  refine wpAny_bind (mw_check hB hC he hcls ?_)
  refine wpAny_pure ⟨Code.quiet_builtin _ (by decide +kernel), codeAny_builtin hinit ?_⟩
  unfold Builtin.«BaseException.__init__»
  have he' : (h.push { cls := .type "tuple", data := .seq #[v] }).get? e = some oe := Heap.get?_push_of_some _ he
  show wpAny _ _ (newTuple [v] >>= fun x => Builtin.BaseException.bexcPut (.ref e) 0 x >>= fun _ => ret .none) _ _ _
  refine wpAny_bind (wpAny_newObj_type ?_ (by size_fits))
  unfold Builtin.BaseException.bexcPut
  refine wpAny_bind (wpAny_bind (wpAny_field he' hd hv (wpAny_bind (wpAny_setField he' hd (Array.getElem?_eq_some_iff.mp hv).1 ?_))))
  cases old with
  | ref a => exact wpAny_letGo (wpAny_pure hq)
  | _ => exact wpAny_pure (wpAny_pure hq)
end
end

section
open PySem PySem.W PySem.Calls Builtin.ObjectAttr
set_option maxRecDepth 100000
set_option maxHeartbeats 8000000
section
variable {prog : Program} {w : World} {A : Around} {E : Value → Shared → Prop} {s : Shared} {K : Frag} {x C D : Addr} {ox : Obj} {cd : ClassData} {name : Str} {v : Value} {vs : Array Value} {Q : Unit → Shared → Prop}
theorem ex_set (X : K.In s.heap) (hx : s.heap.get? x = some ox) (hcl : ox.cls = .ref C) (hda : ox.data = .fields vs) (hdn : ox.dict = none)
    (hs : findIn K (.ref C) "__setattr__" = some (some (.builtin "object.__setattr__"))) (ho : mroIn K C (.type "object") = some true)
    (hc : clsIn K C = some cd) (hm : cd.mro = .ref C :: .ref D :: [.type "Exception", .type "BaseException", .type "object"]) (hh : cd.hasDict = true) (ht : findIn K (.ref C) name = some none)
    (h : ∀ h' tk', h'.get? x = some { ox with dict := some s.heap.objs.size } → (∀ b o, b ≠ x → s.heap.get? b = some o → h'.get? b = some o) → Q () { s with heap := h', toks := tk' }) :
    wpAny (model prog w) A (setAttr (.ref x) name v) Q E s := by
  have SF := PySem.F.store_object
  obtain ⟨oc, odi, oda, osl⟩ := ox
  dsimp only at hcl hda hdn
  subst hcl hda hdn
  have I : InstAt s.heap x ⟨.ref C, none, .fields vs, osl⟩ C none := ⟨hx, rfl, rfl, trivial⟩
  refine set_plain X I hs ?_
  have sub : Looks (model prog w) s.heap (isInstance (.ref x) (.type "object")) true := I.type.andThen (looks_mroIn X ho)
  refine codeAny_call_builtin SF.slot.plain SF.entry (@check_slot (model prog w) _ _ { s with toks := s.toks + 1 } "object.__setattr__" "object" "__setattr__" (.ref x) [.str name s.toks, v] [] _ SF.kind SF.split sub (SF.args (.ref x) (.str name s.toks) v) ?_)
  have hmr : Looks (model prog w) s.heap (mroOf (.ref C)) cd.mro := (looks_clsIn X hc).andThen .now
  have L3 : Looks (model prog w) s.heap (storeTaker? (none : Option Value)) none := .now
  rw [osa_eq, refuse_eq]
  refine wpAny_bind (wpAny_bind (Looks.at I.type (wpAny_bind (Looks.at hmr ?_))))
  rw [hm, refuseLoop_ref, refuseLoop_ref, PySem.F.store_Exception.passes]
  refine wpAny_pure (wpAny_bind (Looks.at I.type (wpAny_bind (Looks.at (looks_findIn X ht) (wpAny_bind (Looks.at L3 ?_))))))
  show wpAny _ _ (storeInOwnDict (.ref x) (.ref C) (.str name s.toks) name v false) _ _ _
  refine wpAny_bind (wpAny_pure (wpAny_bind ?_))
  show wpAny _ _ (instanceDict x true) _ _ _
  unfold instanceDict
  refine wpAny_bind (wpAny_loadPart hx ?_)
  refine wpAny_bind (Looks.at (looks_clsIn X hc) ?_)
  rw [hh]
  have hx₁ : (s.heap.push { cls := .type "dict", data := .dict #[] }).get? x = some ⟨.ref C, none, .fields vs, osl⟩ := Heap.get?_push_of_some _ hx
  have hxs : x ≠ s.heap.objs.size := Nat.ne_of_lt (Heap.lt_size hx)
  refine wpAny_bind (wpAny_alloc' ?_)
  refine wpAny_bind (wpAny_update' hx₁ ?_)
  refine wpAny_pure ?_
  have hgd : ((s.heap.push { cls := .type "dict", data := .dict #[] }).update x fun o => { cls := o.cls, dict := some s.heap.objs.size, data := o.data, slots := o.slots }).get? s.heap.objs.size
      = some { cls := .type "dict", data := .dict #[] } :=
    (Heap.get?_update_ne _ _ _ _ hxs.symm).trans (Heap.get?_push_at rfl rfl)
  have hnd : ((s.heap.push { cls := .type "dict", data := .dict #[] }).update x fun o => { cls := o.cls, dict := some s.heap.objs.size, data := o.data, slots := o.slots }).Ns s.heap.objs.size (fun _ => none) :=
    ⟨_, #[], _, hgd, rfl, fun e he => absurd he (by simp), fun _ => rfl⟩
  show wpAny _ _ (storeInDict s.heap.objs.size (.str name s.toks) name v) _ _ _
  unfold storeInDict newKeyGuard
  refine wpAny_bind (wpAny_pure (wpAny_bind (wpAny_nsSet1 (Heap.Ns1.of_empty hnd) fun h' hn' hs' => ?_)))
  obtain ⟨oD, esD, epD, hoD, hdD, hcD⟩ := hn'.count (Within.cons name v Within.nil)
  refine wpAny_bind (wpAny_lookBehind hoD (by rw [hdD]; exact pastItsLine_dict (Nat.le_trans hcD (by rw [List.length_cons, List.length_nil, sizeLine_eq]; omega))) ?_)
  refine wpAny_pure ?_
  refine h h' _ ?_ fun b ob hbx hb => ?_
  · exact (hs'.2 x hxs).trans (Heap.get?_update_self _ hx₁ rfl)
  · exact (hs'.2 b (Nat.ne_of_lt (Heap.lt_size hb))).trans ((Heap.get?_update_ne _ _ _ _ hbx).trans (Heap.get?_push_of_some _ hb))
end
end

open PySem PySem.W PyProof.Rows PySem.Calls PySem.Spec
set_option maxRecDepth 100000

local macro_rules | `(tactic| cell_enter) => `(tactic| (refine' code_part _ ?k1 ?k2 ?k3 ?k4 ?k5 ?kA ?kF ?kK ?hm ?k6 ?k7 ?k8 ?k9 ?kB ?_ ?c2 ?c3 ?c4 ?c5; (case kA | kF => exact rfl); (case kK => assumption); (case k1 | k2 | k3 | k4 | k5 => k_asm); (case hm => assumption); (case k6 | k7 => k_is); (case k8 => ktr_room); (case k9 => exact BindsTo.of_eq rfl); (case c5 => decide); (case kB => exact locs rfl); (case c2 | c3 | c4 => exact rfl); k_whole))
section
open PySem PySem.W PyProof.Rows PySem.Calls PySem.Spec
set_option maxRecDepth 100000
set_option maxHeartbeats 8000000
theorem pour_ok {w : World} {vp : Program} {vl : List Str} {mean : ExcName → Option Value} {mg mb : Str → Option Value} {dp un : Nat} {gd : Option (List Code)} {cn : Str} {cs : Scope} {a : Addr} {ccd : Value} {cl : List (Str × Addr)} {outer : List Env} {A₀ : Around}
    {base h₀ : Heap} {L : Addr} {m : Str → Option Value} {s : Shared} {Q E : Value → Shared → Prop} {news : List (Addr × Obj)} {gg : Obj → List (Addr × Obj)}
    {mug c : Addr} {om : Obj} {k : Int} {tk : Tok} {cvs : List Value} {ns : List Int} {nc : Nat} {many : Int} {tm : Tok}
    (B : Below A₀ base outer h₀) (F : Fr h₀ L s.heap m) (X : (Mine.pre.heap_1 w.params).In h₀) (N : News h₀ L s.heap news) (T : Top vp vl mean mg mb h₀) (hk : cs.kind = .function)
    (U : UpdF mug om news gg) (hc : (c, listOf cvs.toArray nc) ∈ news)
    (hlo : (mug == sysModules) = false) (hom : om.IsDictOf (strKind Challenge.rw_rg0209_01.row.prog w) [(Str.ofString "cells", .ref c), (Str.ofString "at", .int k tk)]) (hI : IntsAre cvs ns) (hlen : ns.length ≤ 63)
    (hk0 : 0 ≤ k) (hk1 : k ≤ 1000) (hm0 : 0 < many) (hm1 : many ≤ 100) (hd : dp + 1 < recursionLimit) (hu : un + 8 < cLine)
    (hret : ∀ (r : Int) (t t' : Tok) (h' : Heap) (tk' : Nat) (om' : Obj), 0 ≤ r → r < many → Fr h₀ L h' m → om'.IsDictOf (strKind Challenge.rw_rg0209_01.row.prog w) [(Str.ofString "cells", .ref c), (Str.ofString "at", .int (k + 1) t')] → News h₀ L h' (gg om') → Q (.int r t) { s with heap := h', toks := tk' }) :
    wpAny (model Challenge.rw_rg0209_01.row.prog w) (ktrTop dp un gd cn cs L a ccd cl outer) (call (.ref 350) [.ref mug, .int many tm]) Q E s := by
  w_top off
  k_with_none
  have hmug : (mug, om) ∈ news := by obtain ⟨pre, post, rfl, -, -, -⟩ := U.split; simp
  have hne : c ≠ mug := by
    rintro rfl
    obtain ⟨es, ep, h1, -⟩ := hom
    have := news_obj N hc hmug
    subst this
    exact absurd h1.1 (by simp [W.listOf])
  have hm : ∀ q ∈ [(mug, om)], q ∈ news := by simpa using hmug
  refine wpAny_call ?_
  k_dflt cell_enter
  intro g' L' h' tk₁ FG' F' N' hG' B' X' T'
  try dsimp only
  try k_lift B'
  have hL : g'.IsList c cvs.toArray := ⟨_, hG' _ _ (N _ hc).1 (by simpa using hne), rfl, _, rfl⟩
  clear hG'
  try (with_reducible change wpAny _ _ _ _ _ _)
  k_fold
  k_steps
  all_goals (
    intro hst
    exact hret _ _ _ _ _ _ (Int.fmod_nonneg_of_pos _ hm0) (Int.fmod_lt_of_pos _ hm0) (by assumption) (by assumption) (news_one N U hm (by assumption) (by exact List.mem_singleton.mpr rfl) (by simp) hst))
end

section
open PySem PySem.W PyProof.Rows PySem.Calls PySem.Spec
set_option maxRecDepth 100000
set_option maxHeartbeats 8000000

/-- the pairs of an Options' values -/
def optKv (b : Nat → Bool) (n : Nat → Int) (t : Nat → Tok) : List (Str × Value) := [
  (Str.ofString "print-success", .bool (b 0)), (Str.ofString "produce-models", .bool (b 1)), (Str.ofString "produce-unsat-cores", .bool (b 2)), (Str.ofString "minimal-unsat-cores", .bool (b 3)),
  (Str.ofString "produce-unsat-assumptions", .bool (b 4)), (Str.ofString "produce-proofs", .bool (b 5)), (Str.ofString "produce-assertions", .bool (b 6)), (Str.ofString "produce-assignments", .bool (b 7)),
  (Str.ofString "random-seed", .int (n 0) (t 0)), (Str.ofString "reproducible-resource-limit", .int (n 1) (t 1)), (Str.ofString "verbosity", .int (n 2) (t 2))]

theorem news_init {h₀ h' : Heap} {L : Addr} {news : List (Addr × Obj)} {p0 p1 p2 p3 : Addr × Obj} (kN : News h₀ L h' [p0, p1, p2, p3]) (hr : News h₀ L h' news) : News h₀ L h' (p1 :: p2 :: p3 :: news) := by
  intro q hq
  rcases List.mem_cons.mp hq with rfl | hq
  · exact kN _ (by simp)
  rcases List.mem_cons.mp hq with rfl | hq
  · exact kN _ (by simp)
  rcases List.mem_cons.mp hq with rfl | hq
  · exact kN _ (by simp)
  · exact hr q hq

theorem init_ok {w : World} {vp : Program} {vl : List Str} {mean : ExcName → Option Value} {mg mb : Str → Option Value} {dp un : Nat} {gd : Option (List Code)} {cn : Str} {cs : Scope} {a : Addr} {ccd : Value} {cl : List (Str × Addr)} {outer : List Env} {A₀ : Around}
    {base h₀ : Heap} {L : Addr} {m : Str → Option Value} {s : Shared} {Q E : Value → Shared → Prop} {news : List (Addr × Obj)}
    (B : Below A₀ base outer h₀) (F : Fr h₀ L s.heap m) (X : (Mine.pre.heap_1 w.params).In h₀) (N : News h₀ L s.heap news) (T : Top vp vl mean mg mb h₀) (hk : cs.kind = .function)
    (hd : dp + 1 < recursionLimit) (hu : un + 8 < cLine)
    (hret : ∀ (x dx vd : Addr) (ov : Obj) (tv : Tok) (t : Nat → Tok) (h' : Heap) (tk' : Nat), Fr h₀ L h' m → News h₀ L h' ((vd, ov) :: (x, instObj 170 dx) :: (dx, dictOf [{ hash := PyData.keyHash w.params (Str.ofString "values"), key := .str (Str.ofString "values") tv, val := .ref vd }] 1) :: news) →
      (∀ p ∈ news, p.1 < dx) → @LT.lt Nat _ dx x → @LT.lt Nat _ x vd → (vd == sysModules) = false → ov.IsDictOf (strKind Challenge.rw_rg0209_01.row.prog w) (optKv (fun i => i == 1) (fun _ => 0) t) → Q (.ref x) { s with heap := h', toks := tk' }) :
    wpAny (model Challenge.rw_rg0209_01.row.prog w) (ktrTop dp un gd cn cs L a ccd cl outer) (call (.ref 170) []) Q E s := by
  w_top off
  k_with_none
  (refine' call_cls ?k1 ?k2 ?k3 ?k4 ?k5 ?k6 ?_; (case k1 => k_asm); (case k2 => k_asm); (case k3 => k_asm); (case k4 => k_is); (case k5 => k_is); (case k6 => k_is))
  intro x dx h₁ F₁ N₁ hl1 l2
  k_lt2 l2
  have hm : ∀ q ∈ [(x, instObj 170 dx), (dx, dictOf [] 0)], q ∈ (x, instObj 170 dx) :: (dx, dictOf [] 0) :: news := by simp
  k_dflt cell_enter
  intro g' L' h' tk₁ FG' F' N' hG' B' X' T'
  try dsimp only
  try k_lift B'
  k_with "exec For Tuple BinOp cons nil" => (k_here; (rename Fr _ _ _ _ => lF'); (with_unfolding_all refine' For_turns lF' ?_); k_whole)
  k_with "binaryOp Add ref ref" => (k_here; k_dflt (refine' kde_addT ?k1 ?k2 ?k3 ?k4 ?k5 ?k6 ?k7 ?k8 ?_; (case k1 => k_asm); (case k2 => k_asm); (case k3 => kun_tup); (case k4 => kun_tup); (case k5 => exact List.cons_ne_nil _ _); (case k6 => exact List.cons_ne_nil _ _); (case k7 => exact Nat.le_of_ble_eq_true rfl); (case k8 => kun_lit); k_whole); intro D' h' F' N' l1; (try k_lt l1); (try k_sweep))
  try (with_reducible change wpAny _ _ _ _ _ _)
  try k_fold
  k_steps
  intro hst
  refine ⟨rfl, ?_⟩
  rename_i D' o' _ hd' _ _ _ _ _ kF kN _ _
  refine hret _ _ _ _ _ (fun i => if i = 0 then 297 else if i = 1 then 299 else 301) _ _ kF (news_init kN fun q hq => ⟨hst _ _ (N₁ q (.tail _ (.tail _ hq))).1 ?_, (N q hq).2⟩) hl1 l2 ?_ ?_ ?_
  · have h1 := ltN (hl1 q hq)
    intro h
    simp at h
    rcases h with h | h
    · rw [h] at h1; omega
    · rw [h] at h1; omega
  · omega
  · assumption
  · with_unfolding_all exact hd'
end

section
open PySem PySem.W PyProof.Rows PySem.Calls PySem.Spec
set_option maxRecDepth 100000
set_option maxHeartbeats 8000000
abbrev mwObj (x : Addr) : Obj := { cls := .type "method-wrapper", dict := none, data := .fields #[.builtin "Exception.__init__", .ref x], slots := #[] }
section
variable {prog : Program} {w : World} {A₀ A : Around} {E : Value → Shared → Prop} {s : Shared} {base h₀ : Heap} {outer : List Env} {L : Addr} {m mg mb : Str → Option Value} {env : Env} {news : List (Addr × Obj)} {K : Frag} {p : Program} {loose : List Str} {mean : ExcName → Option Value}
theorem sp_method {so D x C : Addr} {ox : Obj} {cd : ClassData} {name : Str} {pl : Sem Bool} {Q : Value × List Value → Shared → Prop} (F : Fr h₀ L s.heap m) (X₀ : K.In h₀) (N : News h₀ L s.heap news) (hso : (so, ks_superObj D x C) ∈ news)
    (hx : (x, ox) ∈ news) (hxc : ox.cls = .ref C) (ho : nsIn K cStatics "thirdparty.any" = some none) (hc : clsIn K C = some cd) (hf : alongIn K name ((cd.mro.dropWhile (· != .ref D)).drop 1) = some (some (.builtin "Exception.__init__")))
    (hxC : x ≠ C) (hn : (name == ("__class__" : Str)) = false) (hI : mroIn K C (.type "Exception") = some true)
    (h : ∀ q h', Fr h₀ L h' m → News h₀ L h' ((q, mwObj x) :: news) → (∀ p ∈ news, p.1 < q) → Q (.ref q, []) { s with heap := h', toks := s.toks + 1 }) : wpAny (model prog w) A (getMethod (.ref so) name pl) Q E s := by
  have X : K.In s.heap := X₀.keeps F.keep
  obtain ⟨hh, g, d, t, os⟩ := s
  refine sp_getMethod (N _ hso).1 (looks_opaque X ho) (l₀ := cd.mro) ?_ rfl X hf (N _ hx).1 hxc hxC hn (looks_mroIn X hI) ?_
  · exact fun A Q E s k q => wpAny_bind ((looks_clsIn X hc) A _ E s k (wpAny_pure q))
  · obtain ⟨F', N', l'⟩ := ks_newsPush (s := ⟨hh, g, d, t, os⟩) (o := mwObj x) F N rfl (Heap.get?_push_at rfl rfl) (fun b o e => Heap.get?_push_of_some _ e)
    exact h _ _ F' N' l'

def MwP (q x : Addr) (h : Heap) : Prop := h.get? q = some (mwObj x)
theorem keeps_mw {M : Model} {q x : Addr} (h : Heap) (X : MwP q x h) : ∃ k, (k = Keeper.frame ∨ k = Keeper.machine ∨ k = Keeper.boundFrame) ∧ Looks M h (keeperOf (.ref q)) k :=
  ⟨.machine, .inr (.inl rfl), (Looks.ld (part := none) X).andThen .now⟩
theorem mw_callWith {M : Model} {pos : Pos} {q x : Addr} {e : Expr} {rest : List Expr} {first : List Value} {Q : Value → Shared → Prop} (h : wpAny M A (spliced (backTo pos (starEach (e :: rest) env))) (fun vs s₁ => MwP q x s₁.heap ∧ wpAny M A (call (.ref q) (first ++ vs)) Q E s₁) E s)
    (he : starEach (e :: rest) env = (false, eval e env) :: starEach rest env := by rfl) (hplain : (backTo pos (starEach rest env)).any (·.1) = false := by rfl) :
    wpAny M A (callWith pos (.ref q) first (backTo pos (starEach (e :: rest) env)) []) Q E s := by
  rw [he] at h ⊢
  exact callWith_of (by show ((false || (backTo pos (starEach rest env)).any (·.1)) || false) = false; rw [hplain]; rfl) keeps_mw (evalArgs_plain h)

abbrev excO (C t : Addr) (d : Option Addr) : Obj := { cls := .ref C, dict := d, data := .fields #[.ref t, .none, .none, .none, .bool false, .none] }
theorem mwk_call {q x C t₀ : Addr} {nm qn : Str} {NC : Addr} {bs bm : List Value} {hdct : Bool} {sn : List Str} {sub : List Value} {ab : Bool} {col : Option Bool} {dd : Option Addr} {k0 k1 k2 k3 k5 : Option Value} {newId : String} {v : Value} {Q : Value → Shared → Prop} {news' : Addr → List (Addr × Obj)}
    (F : Fr h₀ L s.heap m) (X₀ : K.In h₀) (N : News h₀ L s.heap news) (hq : (q, mwObj x) ∈ news) (hC : K.lookup C = some (excClassObj nm qn C NC bs bm hdct sn sub ab col dd k0 k1 k2 k3 k5 newId)) (hB : bm.contains (.type "Exception") = true)
    (U : ∀ t, Upd x (excO C t₀ none) (excO C t none) news (news' t)) (h : ∀ t h', Fr h₀ L h' m → News h₀ L h' (news' t) → Q .none { s with heap := h' }) :
    wpAny (model prog w) A (call (.ref q) [v]) Q E s := by
  have X : K.In s.heap := X₀.keeps F.keep
  have hx : (x, excO C t₀ none) ∈ news := by
    obtain ⟨pre, post, rfl, -, -, -⟩ := (U 0).split
    simp
  obtain ⟨hh, g, d, t, os⟩ := s
  obtain ⟨pre, post, e1, e2, a, b⟩ := (U hh.objs.size).split
  refine mw_call (N _ hq).1 hB (X _ _ hC) (N _ hx).1 rfl rfl rfl ?_
  have N₁ := News.push F N { cls := .type "tuple", data := .seq #[v] }
  have N₂ : News h₀ L (hh.push { cls := .type "tuple", data := .seq #[v] }) (pre ++ (x, excO C t₀ none) :: post) := by rw [← e1]; exact fun p hp => N₁ p (.tail _ hp)
  obtain ⟨U1, U2⟩ := news_upd (f := Obj.mapFields (·.setIfInBounds 0 (.ref hh.objs.size))) (F.push _) N₂ a b (o' := excO C hh.objs.size none) rfl rfl
  exact h _ _ U1 (by rw [e2]; exact U2)

theorem exk_set {x C D t₀ : Addr} {cd : ClassData} {name : Str} {v : Value} {Q : Unit → Shared → Prop} {news' : Addr → List (Addr × Obj)} (F : Fr h₀ L s.heap m) (X₀ : K.In h₀) (N : News h₀ L s.heap news)
    (hs : findIn K (.ref C) "__setattr__" = some (some (.builtin "object.__setattr__"))) (ho : mroIn K C (.type "object") = some true)
    (hc : clsIn K C = some cd) (hm : cd.mro = .ref C :: .ref D :: [.type "Exception", .type "BaseException", .type "object"]) (hh : cd.hasDict = true) (ht : findIn K (.ref C) name = some none)
    (U : ∀ d, Upd x (excO C t₀ none) (excO C t₀ (some d)) news (news' d)) (h : ∀ d h' tk', Fr h₀ L h' m → News h₀ L h' (news' d) → Q () { s with heap := h', toks := tk' }) :
    wpAny (model prog w) A (setAttr (.ref x) name v) Q E s := by
  have X : K.In s.heap := X₀.keeps F.keep
  have hx : (x, excO C t₀ none) ∈ news := by
    obtain ⟨pre, post, rfl, -, -, -⟩ := (U 0).split
    simp
  refine ex_set X (N _ hx).1 rfl rfl rfl hs ho hc hm hh ht fun h' tk' hx' hk => ?_
  obtain ⟨pre, post, e1, e2, a, b⟩ := (U s.heap.objs.size).split
  have D' := N _ hx
  refine h s.heap.objs.size h' tk' ⟨?_, fun b o e => hk b o (fun q => ?_) (F.keep b o e), F.above⟩ ?_
  · obtain ⟨oL, es, ep, hL, r⟩ := F.ns
    exact ⟨oL, es, ep, hk _ _ (Ne.symm D'.2.1) hL, r⟩
  · rw [q, D'.2.2] at e; cases e
  · rw [e2]
    rw [e1] at N
    intro q hq
    rcases List.mem_append.mp hq with hq | hq
    · have P := N q (List.mem_append_left _ hq)
      exact ⟨hk _ _ (a q hq) P.1, P.2⟩
    · rcases List.mem_cons.mp hq with rfl | hq
      · exact ⟨hx', D'.2⟩
      · have P := N q (List.mem_append_right _ (.tail _ hq))
        exact ⟨hk _ _ (b q hq) P.1, P.2⟩
end
section
variable {prog : Program} {w : World} {A₀ A : Around} {s : Shared} {base h₀ : Heap} {outer : List Env} {L : Addr} {m mg mb : Str → Option Value} {env : Env} {news : List (Addr × Obj)} {K : Frag} {p : Program} {loose : List Str} {mean : ExcName → Option Value}
  {R : Result → Shared → Prop} {name qual : Str} {params : Arguments} {body : List Stmt} {scope : Scope} {dV kV doc pm cdv ct oc : Value} {an od : Option Addr} {osl : Array (Option Value)} {f cc : Addr} {args : Args} {binds : List (Str × Value)}
theorem code_super (prt : List (Addr × Obj)) (B : Below A₀ base outer h₀) (F : Fr h₀ L s.heap m) (X₀ : K.In h₀) (N : News h₀ L s.heap news) (T : Top p loose mean mg mb h₀) (hA : A.frames = some (env :: outer)) (hf : env.frame = some L) (hke : env.scope.kind = .function)
    (hm : ∀ q ∈ prt, q ∈ news)
    (ho : K.lookup f = some ⟨oc, od, .func (ksFn name qual params body scope dV kV doc pm an cdv ct cc), osl⟩) (hcd : codeIn K cdv qual = true) (hroom : A.depth < recursionLimit)
    (hbind : BindsTo s (ksFn name qual params body scope dV kV doc pm an cdv ct cc) args binds) (hloc : ∀ y ∈ binds, scope.names.lookup y.1 = some .local)
    (h : ∀ g L' h₁, Fr h₀ L g m → Fr g L' h₁ (fun y => binds.reverse.lookup y) → News g L' h₁ prt → Below A base (env :: outer) g → K.In g → Top p loose mean mg mb g → (∀ p ∈ prt, p.1 < L') →
      _root_.PySem.wpAt (model prog w) (A.deeper (ksEnv qual scope L' f cdv cc)) (.func body (ksEnv qual scope L' f cdv cc)) (execs body (ksEnv qual scope L' f cdv cc))
        (fun fl s' => LeaveK h₀ L m g (Still s.heap prt R) (match fl with | .ret v => v | _ => .none) s')
        (fun e s' => wpAny (model prog w) (A.deeper (ksEnv qual scope L' f cdv cc)) (leaving (ksEnv qual scope L' f cdv cc) e) (fun _ s'' => R (.error e) s'') (fun e' s'' => R (.error e') s'') s')
        { s with heap := h₁, toks := s.toks + binds.length })
    (hcell : ∀ x ∈ scope.names, x.2 ≠ .cell := by decide) (hco : scope.isCoroutine = false := by rfl) (hgen : scope.isGenerator = false := by rfl) (hk : scope.kind = .function := by rfl) : codeAny (model prog w) A (.call (.ref f) args) R s := by
  have N₁ : News h₀ L s.heap prt := fun q hq => N q (hm q hq)
  obtain ⟨FG, BG, st, lv⟩ := groundX (R := R) B F N₁ hA hf hke
  refine ks_codeAny_call_defAt (fd := ksFn name qual params body scope dV kV doc pm an cdv ct cc) (body := body) (binds := binds) hroom ((X₀.keeps F.keep) _ _ ho) rfl (T.nolimit.keeps F.keep) (codeRec_of (X₀.keeps F.keep) hcd) rfl hbind hcell hloc (fun h₁ hns hk₁ => ?_) hco hgen hk
  have hkeep : ∀ b o, s.heap.get? b = some o → b ∉ prt.map (·.1) → (hideAll s.heap (prt.map (·.1))).get? b = some o := fun b o hb hn => hideAll_get _ hb hn
  refine ks_wpAt_mono (h _ s.heap.objs.size h₁ FG ⟨hns, fun b o e => hk₁ b o (of_hideAll _ e), Nat.le_of_eq (hideAll_size _ _)⟩
    (fun q hq => ⟨hk₁ _ _ (N₁ q hq).1, Nat.ne_of_lt (Heap.lt_size (N₁ q hq).1), hideAll_none _ (List.mem_map_of_mem hq)⟩) BG (X₀.keeps st) (T.keeps st) (fun q hq => Heap.lt_size (N₁ q hq).1)) (fun fl s' hl => lv _ _ ?_) fun _ _ y => y
  obtain ⟨L', m', news', F', N', k⟩ := hl
  exact ⟨L', m', news', F', N', fun a b => k a b fun b o hb hn => F'.keep _ _ (hkeep b o hb hn)⟩
end
end

section
open PySem PySem.W PyProof.Rows PySem.Calls PySem.Spec
set_option maxRecDepth 100000
set_option maxHeartbeats 8000000
theorem cf_init {w : World} {vp : Program} {vl : List Str} {mean : ExcName → Option Value} {mg mb : Str → Option Value} {A A₀ : Around} {env : Env} {outer : List Env}
    {base h₀ : Heap} {L : Addr} {m : Str → Option Value} {s : Shared} {R : Result → Shared → Prop} {news : List (Addr × Obj)} {e t : Addr} {v : Str} {tv : Tok}
    (B : Below A₀ base outer h₀) (F : Fr h₀ L s.heap m) (X : (Mine.pre.heap_1 w.params).In h₀) (N : News h₀ L s.heap news) (T : Top vp vl mean mg mb h₀)
    (hA : A.frames = some (env :: outer)) (hf : env.frame = some L) (hke : env.scope.kind = .function) (hroom : A.depth < recursionLimit)
    (he : (e, excO 88 t none) ∈ news)
    (hret : ∀ (t' d : Addr) (h' : Heap) (tk' : Nat), Fr h₀ L h' m → h'.get? e = some (excO 88 t' (some d)) → (∀ b o, s.heap.get? b = some o → b ≠ e → h'.get? b = some o) → R (.ok (.ret .none)) { s with heap := h', toks := tk' }) :
    codeAny (model Challenge.rw_rg0209_01.row.prog w) A (.call (.ref 30) ⟨[.ref e, .str v tv], []⟩) R s := by
  w_top off
  k_with_none
  have hm : ∀ q ∈ [(e, excO 88 t none)], q ∈ news := by simpa using he
  have he88 : e ≠ 88 := by
    rintro rfl
    have h1 := (N _ he).2.2
    rw [X 88 _ rfl] at h1
    cases h1
  (refine' code_super _ ?k1 ?k2 ?k3 ?k4 ?k5 ?kA ?kF ?kK ?hm ?k6 ?k7 ?k8 ?k9 ?kB ?_ ?c1 ?c2 ?c3 ?c4; (case kA => assumption); (case kF => assumption); (case kK => assumption); (case k1 => k_asm); (case k2 => k_asm); (case k3 => k_asm); (case k4 => k_asm); (case k5 => k_asm); (case hm => exact hm); (case k6 => k_is); (case k7 => k_is); (case k8 => assumption); (case k9 => exact BindsTo.of_eq rfl); (case kB => exact locs rfl); (case c1 => decide); (case c2 => exact rfl); (case c3 => exact rfl); (case c4 => exact rfl))
  intro g' L' h' FG' F' N' B' X' T' l1
  k_lt l1
  try dsimp only
  k_with "wpAt" => (ks_step "attributeBase Call"; k_here; k_dflt (refine ks_node (odx := none) (by k_asm) (by k_asm) (by k_asm) (by k_asm) (by k_is) (by rfl) (by rfl) (by exact ⟨News.get (by k_asm) (by k_mem), rfl, rfl, trivial⟩) (by k_is) (by rfl) (by first | rfl | decide +kernel) (by k_is) (by k_is) (by k_is) (by k_is) (by decide) (by rfl) (by rfl) (by rfl) (by rfl) (by decide +kernel) (by first | boot_by_name | rfl | kernel_rfl) ?_); intro so' h' F' N' l1; k_lt l1)
  k_with "getMethod ref" => (k_here; k_dflt (refine' sp_method ?k1 ?k2 ?k3 ?k4 ?k5 ?k6 ?k7 ?k8 ?k9 ?k10 ?k11 ?k12 ?_; (case k1 => k_asm); (case k2 => k_asm); (case k3 => k_asm); (case k4 => k_mem); (case k5 => exact List.Mem.tail _ (List.Mem.head _)); (case k6 => exact rfl); (case k7 => k_is); (case k8 => k_is); (case k9 => kernel_rfl); (case k10 => assumption); (case k11 => decide); (case k12 => k_is)); intro q' h' F' N' l1; (try k_lt l1); (try dsimp only))
  k_with "callWith ref" => (k_here; k_dflt (refine' mw_callWith (x := e) ?_))
  k_with "And" => (refine ⟨by exact News.get (by k_asm) (by k_mem), ?_⟩; (try dsimp only [List.nil_append, List.cons_append]))
  k_with "call ref" => (k_here; k_dflt (refine' mwk_call (x := e) (C := 88) (t₀ := t) ?k1 ?k2 ?k3 ?k4 ?k5 ?k6 ?k7 ?_; (case k1 => k_asm); (case k2 => k_asm); (case k3 => k_asm); (case k4 => k_mem); (case k5 => k_is); (case k6 => exact rfl); (case k7 => intro t9; k_upd)); intro t' h' F' N')
  k_with "setAttr ref" => (k_here; k_dflt (refine' exk_set (C := 88) (D := 40) ?k1 ?k2 ?k3 ?k4 ?k5 ?k6 ?k7 ?k8 ?k9 ?k10 ?_; (case k1 => k_asm); (case k2 => k_asm); (case k3 => k_asm); (case k4 => k_is); (case k5 => k_is); (case k6 => k_is); (case k7 => exact rfl); (case k8 => exact rfl); (case k9 => k_is); (case k10 => intro t9; k_upd)); intro d' h' tk' F' N')
  k_steps
  · exact News.get (by assumption) (by k_mem)
  intro hst
  rename_i kF kN _ _
  refine hret _ _ _ _ kF (News.get kN (by k_mem)) fun b o hb hne => hst b o hb ?_
  simpa using hne
end

section
open PySem PySem.W PyProof.Rows PySem.Calls PySem.Spec
set_option maxRecDepth 100000
set_option maxHeartbeats 8000000
section
variable {M : Model} {A : Around} {E : Value → Shared → Prop} {env : Env}
variable {nm q : Str} {C N : Addr} {bs bm : List Value} {hdct : Bool} {sn : List Str} {sub : List Value} {ab : Bool} {col : Option Bool} {dd : Option Addr} {k0 k1 k2 k3 k5 : Option Value} {newId : String}
theorem cf_raiseStmt {s : Shared} {x : Sem Value} {Q : Flow → Shared → Prop} (hbase : bm.contains (.type "BaseException") = true) (hh : A.handled = none)
    (h : wpAny M A x (fun v s₁ => ∃ e t d, v = .ref e ∧ s₁.heap.get? C = some (excClassObj nm q C N bs bm hdct sn sub ab col dd k0 k1 k2 k3 k5 newId) ∧ s₁.heap.get? e = some (excO C t d) ∧ E (.ref e) s₁) E s) :
    wpAny M A (raiseStmt env (some x) none) Q E s := by
  have hcB : (Value.ref C :: bm).contains (.type "BaseException") = true := by rw [List.contains_cons, hbase, Bool.or_true]
  unfold raiseStmt
  refine wpAny_bind (wpAny_mono h (fun v s₁ h₁ => ?_) fun _ _ x => x)
  obtain ⟨e, t, d, rfl, hC, he, hE⟩ := h₁
  obtain ⟨hp, g, d, tk, os⟩ := s₁
  repeat (first | with_reducible refine wpAny_loadPart_at he ?_ | with_reducible refine wpAny_loadPart_at hC ?_ | (with_reducible refine wpAny_isSubtype_exc hC ?_; rw [hcB]) | wp_step)
  exact wpAny_raiseNew_none hh hE
end

/-- what is known where a CommandFault flies -/
def CfEnd (h₀ : Heap) (L : Addr) (m : Str → Option Value) (news : List (Addr × Obj)) (E : Value → Shared → Prop) (vs : List Value) (s₂ : Shared) : Prop :=
  ∃ v tv, vs = [.str v tv] ∧ Fr h₀ L s₂.heap m ∧ News h₀ L s₂.heap news ∧ ∀ h' e t' d tk', s₂.heap.get? e = none → h'.get? e = some (excO 88 t' (some d)) → (∀ b o, s₂.heap.get? b = some o → h'.get? b = some o) → E (.ref e) { s₂ with heap := h', toks := tk' }

theorem cf_make {w : World} {vp : Program} {vl : List Str} {mean : ExcName → Option Value} {mg mb : Str → Option Value} {A A₀ : Around} {env : Env} {outer : List Env}
    {base h₀ : Heap} {L : Addr} {m : Str → Option Value} {s : Shared} {Q : Value → Shared → Prop} {E : Value → Shared → Prop} {news : List (Addr × Obj)} {v : Str} {tv : Tok}
    (B : Below A₀ base outer h₀) (F : Fr h₀ L s.heap m) (X : (Mine.pre.heap_1 w.params).In h₀) (N : News h₀ L s.heap news) (T : Top vp vl mean mg mb h₀)
    (hA : A.frames = some (env :: outer)) (hf : env.frame = some L) (hke : env.scope.kind = .function) (hroom : A.depth + 1 < recursionLimit)
    (hret : ∀ (e t' d : Addr) (h' : Heap) (tk' : Nat), s.heap.get? e = none → h'.get? e = some (excO 88 t' (some d)) → (∀ b o, s.heap.get? b = some o → h'.get? b = some o) → Q (.ref e) { s with heap := h', toks := tk' }) :
    wpAny (model Challenge.rw_rg0209_01.row.prog w) A (call (.ref 88) [.str v tv]) Q E s := by
  have X₁ : (Mine.pre.heap_1 w.params).In s.heap := X.keeps F.keep
  have hfind : findIn (Mine.pre.heap_1 w.params) (.ref 88) "__init__" = some (some (.ref 30)) := by k_is
  obtain ⟨oI, hoI, hcI⟩ : ∃ oI, (Mine.pre.heap_1 w.params).lookup 30 = some oI ∧ oI.cls = .type "function" := ⟨_, rfl, rfl⟩
  obtain ⟨hh, g, d, t, os⟩ := s
  refine cf_call (C := 88) PySem.F.excBase_Exception (bm := [.ref 40, .type "Exception", .type "BaseException", .type "object"]) rfl rfl rfl (X₁ _ _ (by k_is)) (looks_findIn X₁ hfind) (X₁ _ _ hoI) hcI fun h' e hm => ?_
  obtain ⟨t', he, ht, htt⟩ := hm.there
  have F' : Fr h₀ L h' m := F.keeps hm.keeps
  have N' : News h₀ L h' ((e, excO 88 t' none) :: []) := by
    refine News.more F' News.nil he (fun es n q => by cases q) ?_
    cases q : h₀.get? e with
    | none => rfl
    | some o => have := F.keep _ _ q; rw [hm.new] at this; cases this
  refine wpAny_call ?_
  refine cf_init (env := env) (outer := outer) B F' X N' T ?_ hf hke ?_ (List.Mem.head _) ?_
  · have he : (Code.builtin "type.__call__" ⟨[Value.ref 88, .str v tv], []⟩).envs = [] := rfl
    simp only [Around.under, he, pushEnvs, hA]
    try rfl
  · exact hroom
  · intro t₂ d₂ h₂ tk₂ F₂ he₂ hk₂
    refine ⟨rfl, hret e t₂ d₂ h₂ tk₂ hm.new he₂ fun b o hb => hk₂ b o (hm.keeps b o hb) ?_⟩
    rintro rfl
    rw [hm.new] at hb; cases hb
end

section
open PySem PySem.W PyProof.Rows PySem.Calls PySem.Spec
set_option maxRecDepth 100000
set_option maxHeartbeats 8000000
section
variable {prog : Program} {w : World} {A : Around} {E : Value → Shared → Prop} {s : Shared} {env : Env}

/-- what flies out of a frame: an object of the program's own class; all that stood in G (but the frames' own slots) stands still -/
def RaisedC (base G : Heap) (l : List Env) (C e : Addr) (h : Heap) : Prop :=
  ∃ B a0, base.StaysIn B ∧ (∀ b o, G.get? b = some o → b ∉ l.filterMap (·.frame) → B.get? b = some o) ∧ Heap.FlyingW B l e (.ref C) a0 h ∧ G.UpToSlots h

theorem gstill {h₀ G g h : Heap} {L₀ L : Addr} {m : Str → Option Value} {news prt : List (Addr × Obj)} (N : News h₀ L₀ G news) (hm : ∀ q ∈ prt, q ∈ news) (hG : ∀ b o, G.get? b = some o → b ∉ prt.map (·.1) → g.get? b = some o)
    (F : Fr g L h m) (N' : News g L h prt) : (∀ b o, G.get? b = some o → h.get? b = some o) ∧ G.get? L = none := by
  refine ⟨fun b o hb => ?_, ?_⟩
  · by_cases hp : b ∈ prt.map (·.1)
    · obtain ⟨q, hq, rfl⟩ := List.mem_map.mp hp
      have := (N _ (hm _ hq)).1
      rw [this] at hb; cases hb
      exact (N' _ hq).1
    · exact F.keep _ _ (hG b o hb hp)
  · cases q : G.get? L with
    | none => rfl
    | some o =>
      have := hG L o q fun hp => by
        obtain ⟨q, hq, e⟩ := List.mem_map.mp hp
        exact (N' _ hq).2.1 e
      rw [kts_self F] at this; cases this

theorem reads_part {h₀ G g h : Heap} {L₀ L : Addr} {m : Str → Option Value} {news prt news' : List (Addr × Obj)} {v : Value} {d : PyData} {as : List Addr} (N : News h₀ L₀ G news) (hm : ∀ q ∈ prt, q ∈ news) (hG : ∀ b o, G.get? b = some o → b ∉ prt.map (·.1) → g.get? b = some o)
    (F : Fr g L h m) (N' : News g L h news') (hs : ∀ q ∈ prt, q ∈ news') (R : Reads G v d as) : Reads h v d as :=
  Reads.keeps (gstill N hm hG F fun q hq => N' q (hs q hq)).1 R

theorem leave_cf {M : Model} {base g G h : Heap} {outer : List Env} {L a e C t : Addr} {d : Option Addr} {m : Str → Option Value} {name : Str} {scope : Scope} {cd : Value} {Q : Unit → Shared → Prop} {s' : Shared}
    (K : Below A base outer g) (F : Fr g L h m) (hG : ∀ b o, G.get? b = some o → h.get? b = some o) (hGL : G.get? L = none)
    (hn : h.get? e = none) (he : s'.heap.get? e = some (excO C t d)) (hk : ∀ b o, h.get? b = some o → s'.heap.get? b = some o)
    (hQ : ∀ h', RaisedC base G outer C e h' → Q () { s' with heap := h' }) (hks : scope.kind = .function := by rfl) :
    wpAny M (A.deeper (envOf name scope L a cd)) (leaving (envOf name scope L a cd) (.ref e)) Q E s' := by
  have K' : Below (A.deeper (envOf name scope L a cd)) base (envOf name scope L a cd :: outer) h := K.push (name := name) (a := a) (cd := cd) F hks
  have hin : ∀ env ∈ (envOf name scope L a cd :: outer), ∀ b, env.frame = some b → b ∈ (envOf name scope L a cd :: outer).filterMap (·.frame) := fun env he b hb => List.mem_filterMap.mpr ⟨env, he, hb⟩
  have hmem : ∀ b, b ∈ (envOf name scope L a cd :: outer).filterMap (·.frame) → b = L ∨ b ∈ outer.filterMap (·.frame) := by
    intro b hm
    obtain ⟨env, he, hf⟩ := List.mem_filterMap.mp hm
    rcases List.mem_cons.mp he with rfl | he
    · exact .inl (Option.some.inj hf).symm
    · exact .inr (List.mem_filterMap.mpr ⟨env, he, hf⟩)
  have st : base.StaysIn (hideAll h ((envOf name scope L a cd :: outer).filterMap (·.frame))) := fun b o q => hideAll_get _ (K'.stays b o q) fun hm => by
    rw [(K'.frames.mem hm).1] at q; cases q
  have sg : ∀ b o, G.get? b = some o → b ∉ outer.filterMap (·.frame) → (hideAll h ((envOf name scope L a cd :: outer).filterMap (·.frame))).get? b = some o := fun b o q nm => hideAll_get _ (hG b o q) fun hm => by
    rcases hmem b hm with z | z
    · rw [z, hGL] at q
      cases q
    · exact nm z
  have hen : (hideAll h ((envOf name scope L a cd :: outer).filterMap (·.frame))).get? e = none := by
    cases q : (hideAll h ((envOf name scope L a cd :: outer).filterMap (·.frame))).get? e with
    | none => rfl
    | some o => have := of_hideAll _ q; rw [hn] at this; cases this
  refine wpAny_leaving_firstW (a0 := .ref t) K'.stack ((funFrames_hide K'.frames hin).of_keeps fun b o hb _ => ⟨o, hk b o hb, rfl⟩) rfl he (fun b o hb => hk b o (of_hideAll _ hb)) hen rfl rfl rfl fun h' hL => ?_
  obtain ⟨k1, ⟨_, _, k2⟩, k3, k4⟩ := hL
  exact hQ h' ⟨_, .ref t, st, sg, ⟨k1, hen, k2, k3⟩, ((Heap.UpToSlots.of_keeps hG).trans (Heap.UpToSlots.of_keeps hk)).trans k4⟩

theorem leave_on_cf {M : Model} {base g G G₂ : Heap} {outer : List Env} {L a e C : Addr} {name : Str} {scope : Scope} {cd : Value} {Q : Unit → Shared → Prop} {s' : Shared}
    (K : Below A base outer g) (hG : ∀ b o, G.get? b = some o → G₂.get? b = some o) (hGL : G.get? L = none)
    (R : RaisedC base G₂ (envOf name scope L a cd :: outer) C e s'.heap)
    (hQ : ∀ h', RaisedC base G outer C e h' → Q () { s' with heap := h' }) :
    wpAny M (A.deeper (envOf name scope L a cd)) (leaving (envOf name scope L a cd) (.ref e)) Q E s' := by
  obtain ⟨B, a0, hB, hBG, hfl, hsm⟩ := R
  exact wpAny_leaves_onW (Around.frames_deeper K.stack) rfl hfl fun h' x1 x2 =>
    hQ h' ⟨B, a0, hB, fun b o q nm => hBG b o (hG b o q) (fun hm => by
      obtain ⟨env, he, hf⟩ := List.mem_filterMap.mp hm
      rcases List.mem_cons.mp he with rfl | he
      · rw [← Option.some.inj hf, hGL] at q; cases q
      · exact nm (List.mem_filterMap.mpr ⟨env, he, hf⟩)), x1, ((Heap.UpToSlots.of_keeps hG).trans hsm).trans x2⟩
end
end

section
open PySem PySem.W PyProof.Rows PySem.Calls PySem.Spec
set_option maxRecDepth 100000
set_option maxHeartbeats 8000000
/-- where the one argument of CommandFault is told -/
def CfTold (h₀ : Heap) (L : Addr) (m : Str → Option Value) (E : Value → Shared → Prop) (vs : List Value) (s₂ : Shared) : Prop :=
  ∃ v tv, vs = [.str v tv] ∧ Fr h₀ L s₂.heap m ∧ ∀ h' e t' d tk', s₂.heap.get? e = none → h'.get? e = some (excO 88 t' (some d)) → (∀ b o, s₂.heap.get? b = some o → h'.get? b = some o) → E (.ref e) { s₂ with heap := h', toks := tk' }

theorem Raise_cf {w : World} {vp : Program} {vl : List Str} {mean : ExcName → Option Value} {mg mb : Str → Option Value} {A A₀ : Around} {outer : List Env} {name : Str} {scope : Scope} {a : Addr} {cd : Value}
    {base h₀ : Heap} {L : Addr} {m : Str → Option Value} {s : Shared} {Q : Flow → Shared → Prop} {E : Value → Shared → Prop} {x : Str} {np cpos pos : Pos} {e₀ : Expr}
    (B : Below A₀ base outer h₀) (F : Fr h₀ L s.heap m) (X : (Mine.pre.heap_1 w.params).In h₀) (T : Top vp vl mean mg mb h₀)
    (hA : A.frames = some (envOf name scope L a cd :: outer)) (hroom : A.depth + 1 < recursionLimit) (hh : A.handled = none)
    (ex : nsIn (Mine.pre.heap_1 w.params) mainGlobals x = some (some (.ref 88)))
    (h : wpAny (model Challenge.rw_rg0209_01.row.prog w) A (spliced (backTo cpos (starEach [e₀] (envOf name scope L a cd)))) (fun vs s₂ => CfTold h₀ L m E vs s₂) E s)
    (he : starEach [e₀] (envOf name scope L a cd) = (false, eval e₀ (envOf name scope L a cd)) :: [] := by rfl)
    (hk : scope.kind = .function := by rfl) (hx : (envOf name scope L a cd).kindOf x = some .globalImplicit := by rfl) (hd : (x == ("__debug__" : Str)) = false := by decide) :
    wpAny (model Challenge.rw_rg0209_01.row.prog w) A (exec (.Raise (some (.Call (.Name x np) [e₀] [] cpos)) none pos) (envOf name scope L a cd)) Q E s := by
  obtain ⟨nm, q', N, bs, bm, hdct, sn, sub, ab, col, dd, k0, k1, k2, k3, k5, newId, hC, hbase, hbT⟩ := kts_cls (C := 88) (T := "BaseException") X (by first | kts_isx | decide +kernel | rfl)
  rw [arm_exec_Raise]
  refine wpAny_bind (wpAny_standAt (cf_raiseStmt (C := 88) (nm := nm) (q := q') (N := N) (bs := bs) (bm := bm) (hdct := hdct) (sn := sn) (sub := sub) (ab := ab) (col := col) (dd := dd) (k0 := k0) (k1 := k1) (k2 := k2) (k3 := k3) (k5 := k5) (newId := newId) hbase hh ?_))
  refine wpAny_bind (wpAny_mono (wpAny_Call_ofName (name_K F X (topRead_of T) ex ?_ hk hx hd)) (fun v s₃ h₃ => wpAny_bind (wpAny_standAt (wpAny_pure h₃))) fun _ _ x => x)
  unfold callWith
  rw [he] at h ⊢
  refine wpAny_bind (wpAny_holding (evalArgs_plain (wpAny_mono h (fun vs s₂ h₂ => wpAny_bind (wpAny_standAt ?_)) fun _ _ x => x)))
  obtain ⟨v, tv, rfl, F₂, hE⟩ := h₂
  have hC₂ := F₂.keep _ _ hC
  have hA' := hA
  obtain ⟨hp, g, d, tk, os⟩ := s₂
  refine wpAny_bind (wpAny_keeperOf_exc hC₂ ?_)
  refine wpAny_bind (cf_make (news := []) B F₂ X News.nil T hA rfl hk hroom fun e t' d' h' tk' hn he' hk' => ?_)
  refine wpAny_bind (wpAny_holding (wpAny_point (wpAny_pure ?_)))
  exact ⟨e, t', _, rfl, hk' _ _ hC₂, he', hE h' e t' d' tk' hn he' hk'⟩

theorem caught_CF0 {prog : Program} {w : World} {A₀ : Around} {E : Value → Shared → Prop} {s' : Shared} {base g G : Heap} {outer : List Env} {L a e C : Addr} {m : Str → Option Value} {name : Str} {scope : Scope} {cd : Value}
    {b₀ : Stmt} {suite : List Stmt} {pos np : Pos} {rest : List ExceptHandler} {Q : Flow → Shared → Prop} {news : List (Addr × Obj)} {KF : Frag} {p : Program} {loose : List Str} {mean : ExcName → Option Value} {mg mb : Str → Option Value} {x : Str}
    (R : RaisedC base G (envOf name scope L a cd :: outer) C e s'.heap) (F : Fr g L G m) (N : News g L G news) (K : Below A₀ base outer g) (XB : KF.In base) (TB : Top p loose mean mg mb base)
    (ex : nsIn KF mainGlobals x = some (some (.ref C))) (q : ktsIn KF C "BaseException" = true)
    (k : ∀ h' g', KtsTurn (outer.filterMap (·.frame)) g g' → Fr g' L h' m → News g' L h' news → Below A₀ base outer g' → KF.In g' → Top p loose mean mg mb g' →
      wpAny (model prog w) ((A₀.deeper (envOf name scope L a cd)).mark (some (.ref e))) (execs (b₀ :: suite) (envOf name scope L a cd)) Q E { s' with heap := h' })
    (hk : scope.kind = .function := by rfl) (hx : (envOf name scope L a cd).kindOf x = some .globalImplicit := by rfl) (hd : (x == ("__debug__" : Str)) = false := by decide)
    (hE : PassesOwnAt (model prog w) ((A₀.deeper (envOf name scope L a cd)).mark (some (.ref e))) (A₀.deeper (envOf name scope L a cd)) (envOf name scope L a cd) E := by passes_own) :
    wpAny (model prog w) (A₀.deeper (envOf name scope L a cd)) (noteFrame (.ref e) (envOf name scope L a cd))
      (fun _ s₂ => wpAny (model prog w) (A₀.deeper (envOf name scope L a cd)) (setFlight (.ref e) none) (fun _ s₃ =>
        wpAny (model prog w) (A₀.deeper (envOf name scope L a cd)) (handleBy (.ref e) (envOf name scope L a cd) (.ExceptHandler (some (.Name x np)) none (b₀ :: suite) pos :: rest)) Q E s₃) E s₂) E s' := by
  obtain ⟨B, a0, hB, hBG, hfl, hsm⟩ := R
  have hL : B.get? L = none := by
    obtain ⟨_, ⟨L', _, hf, hn', _⟩, _⟩ := hfl.2.2.1
    obtain rfl : L = L' := Option.some.inj hf
    exact hn'
  refine wpAny_looks_onW (Around.frames_deeper K.stack) rfl hfl fun h₄ hheld₄ hsm₄ => ?_
  refine wpAny_landsW hheld₄ fun h₅ hheld hsm₅' => ?_
  have hsm₅ := hsm₄.trans hsm₅'
  obtain ⟨g₅, T₅, F₅, K₅⟩ := kts_ground K F hBG hheld.1 (hsm.trans hsm₅)
  have X₅ : KF.In g₅ := XB.keeps K₅.stays
  have P₅ : TopRead p loose mg mb g₅ := topRead_of (TB.keeps K₅.stays)
  obtain ⟨ob, hob, hobc⟩ := hheld.there
  obtain ⟨nm, q', N', bs, bm, hdct, sn, sub, ab, col, dd, k0, k1, k2, k3, k5, newId, hC, hbase, hbT⟩ := kts_cls X₅ q
  have hC₅ := F₅.keep _ _ hC
  refine wpAny_handleBy_cons (codeAny_handlers_test (name_K F₅ X₅ P₅ ex ?_ hk hx hd)) (by intro q; cases q)
  refine wpAny_excMatches_sub_self hC₅ hob hobc hbase (codeAny_handlers_suite ?_)
  refine lands_againW hheld fun h₆ hfl₆ hsm₆ => ?_
  obtain ⟨g₆, T₆, F₆, K₆⟩ := kts_ground K F hBG hfl₆.1 ((hsm.trans hsm₅).trans hsm₆)
  have Nl : News g₆ L h₆ news := fun q hq => by
    have hn : q.1 ∉ (envOf name scope L a cd :: outer).filterMap (·.frame) := fun hm => by
      rcases kts_mem hm with z | z
      · exact (N q hq).2.1 z
      · obtain ⟨_, o, ho, _⟩ := K.frames.mem z
        rw [(N q hq).2.2] at ho; cases ho
    exact ⟨hfl₆.1 _ _ (hBG _ _ (N q hq).1 hn), (N q hq).2.1, T₆.none_ _ (N q hq).2.2⟩
  have X₆ : KF.In g₆ := XB.keeps K₆.stays
  have P₆ : Top p loose mean mg mb g₆ := TB.keeps K₆.stays
  exact wpAny_passesOwnAt hE (k h₆ g₆ T₆ F₆ Nl K₆ X₆ P₆)
end

section
open PySem PySem.W PyProof.Rows PySem.Calls PySem.Spec
set_option maxRecDepth 100000
set_option maxHeartbeats 300000

abbrev valsOf (w : World) (tv : Tok) (vd : Addr) : Obj := dictOf [{ hash := PyData.keyHash w.params (Str.ofString "values"), key := .str (Str.ofString "values") tv, val := .ref vd }] 1
def flagOf : Value → Bool
  | .bool _ => true
  | _ => false
def onOf : Value → Value
  | .bool b => .bool b
  | _ => .bool false
def textOf : Value → Str
  | .bool b => if b then Str.ofString "true" else Str.ofString "false"
  | .int n _ => (toString n : String)
  | _ => Str.ofString "true"
/-- a flag's truth or a number of not too many figures -/
def okv (v : Value) : Prop := (∃ b, v = .bool b) ∨ (∃ n t, v = .int n t ∧ n.natAbs.log2 < 1920)
/-- all that stood stands still -/
def Same (h h' : Heap) : Prop := ∀ b o, h.get? b = some o → h'.get? b = some o
theorem opt_item {w : World} {A : Around} {E : Value → Shared → Prop} {s : Shared} {h₀ : Heap} {L d : Addr} {news : List (Addr × Obj)} {o : Obj} {kvs : List (Str × Value)} {k : Str} {t : Tok} {v : Value} {Q : Value → Shared → Prop}
    (N : News h₀ L s.heap news) (hp : (d, o) ∈ news) (hd : o.IsDictOf (PySem.strKind Challenge.rw_rg0209_01.row.prog w) kvs) (hl : valueAt kvs k = some v) (h : Q v { s with toks := s.toks + 1 }) :
    wpAny (model Challenge.rw_rg0209_01.row.prog w) A (getItem (.ref d) (.str k t)) Q E s :=
  wpAny_getItem_of (knd := PySem.strKind Challenge.rw_rg0209_01.row.prog w) (k := k) (by simp [PySem.strKind, Value.isStrOf]) (kda_dict N hp hd).mapOf hl h
theorem opt_in {w : World} {A : Around} {E : Value → Shared → Prop} {s : Shared} {h₀ : Heap} {L d : Addr} {news : List (Addr × Obj)} {o : Obj} {kvs : List (Str × Value)} {k : Str} {t : Tok} {v : Value} {Q : Value → Shared → Prop}
    (N : News h₀ L s.heap news) (hp : (d, o) ∈ news) (hd : o.IsDictOf (PySem.strKind Challenge.rw_rg0209_01.row.prog w) kvs) (hlo : (d == sysModules) = false) (hl : valueAt kvs k = some v) (h : Q (.bool true) { s with toks := s.toks + 1 }) :
    wpAny (model Challenge.rw_rg0209_01.row.prog w) A (compareOp .In (.str k t) (.ref d)) Q E s :=
  kda_in (knd := PySem.strKind Challenge.rw_rg0209_01.row.prog w) (k := k) N hp hd hlo (by simp [PySem.strKind, Value.isStrOf]) true (by rw [hl]; rfl) h
theorem same_of {h₀ h h' : Heap} {L L' : Addr} {news prt : List (Addr × Obj)} (N : News h₀ L h news) (hm : ∀ q ∈ prt, q ∈ news) (N' : News h₀ L' h' prt) (hst : ∀ b o, h.get? b = some o → b ∉ prt.map (·.1) → h'.get? b = some o) : Same h h' := by
  intro b o hb
  by_cases hp : b ∈ prt.map (·.1)
  · obtain ⟨q, hq, rfl⟩ := List.mem_map.mp hp
    rw [(N _ (hm _ hq)).1] at hb; cases hb
    exact (N' _ hq).1
  · exact hst b o hb hp
theorem same_of2 {h₀ h h' : Heap} {L L' : Addr} {news prt news' : List (Addr × Obj)} (N : News h₀ L h news) (hm : ∀ q ∈ prt, q ∈ news) (N' : News h₀ L' h' news') (hs : ∀ q ∈ prt, q ∈ news') (hst : ∀ b o, h.get? b = some o → b ∉ prt.map (·.1) → h'.get? b = some o) : Same h h' :=
  same_of N hm (fun q hq => N' q (hs q hq)) hst
theorem news_keeps {h₀ h h' : Heap} {L : Addr} {news : List (Addr × Obj)} (N : News h₀ L h news) (hS : Same h h') : News h₀ L h' news := fun q hq => ⟨hS _ _ (N q hq).1, (N q hq).2⟩
section
variable {w : World} {vp : Program} {vl : List Str} {mean : ExcName → Option Value} {mg mb : Str → Option Value} {dp un : Nat} {gd : Option (List Code)} {cn : Str} {cs : Scope} {a : Addr} {ccd : Value} {cl : List (Str × Addr)} {outer : List Env} {A₀ : Around}
    {base h₀ : Heap} {L : Addr} {m : Str → Option Value} {s : Shared} {Q E : Value → Shared → Prop} {news : List (Addr × Obj)}
    (B : Below A₀ base outer h₀) (F : Fr h₀ L s.heap m) (X : (Mine.pre.heap_1 w.params).In h₀) (N : News h₀ L s.heap news) (T : Top vp vl mean mg mb h₀) (hk : cs.kind = .function)
include B F X N T hk

theorem is_flag_ok {x dx vd : Addr} {ov : Obj} {tv : Tok} {kvs : List (Str × Value)} {nm : Str} {tn : Tok} {v : Value}
    (hm : ∀ q ∈ [(x, instObj 170 dx), (dx, valsOf w tv vd), (vd, ov)], q ∈ news) (hov : ov.IsDictOf (PySem.strKind Challenge.rw_rg0209_01.row.prog w) kvs) (hv : valueAt kvs nm = some v)
    (hvk : okv v)
    (hd : dp + 1 < recursionLimit)
    (hret : ∀ (h' : Heap) (tk' : Nat), Fr h₀ L h' m → News h₀ L h' news → Same s.heap h' → Q (.bool (flagOf v)) { s with heap := h', toks := tk' }) :
    wpAny (model Challenge.rw_rg0209_01.row.prog w) (ktrTop dp un gd cn cs L a ccd cl outer) (call (.ref 139) [.ref x, .str nm tn]) Q E s := by
  w_top off
  k_with_none
  refine wpAny_call ?_
  k_dflt cell_enter
  intro g' L' h' tk₁ FG' F' N' hG' B' X' T'
  try dsimp only
  try k_lift B'
  try (with_reducible change wpAny _ _ _ _ _ _)
  try k_fold
  k_with "getItem ref str" => (k_here; k_dflt (refine' opt_item ?k1 ?k2 ?k3 ?k4 ?_; (case k1 => k_asm); (case k2 => k_mem); (case k3 => assumption); (case k4 => assumption); k_whole))
  rcases hvk with ⟨b, rfl⟩ | ⟨n, t, rfl, hn⟩
  all_goals (k_steps)
  all_goals
    intro hst
    have hS := same_of N hm (by assumption) hst
    exact hret _ _ (by assumption) (fun q hq => ⟨hS _ _ (N q hq).1, (N q hq).2⟩) hS

theorem is_on_ok {x dx vd : Addr} {ov : Obj} {tv : Tok} {kvs : List (Str × Value)} {nm : Str} {tn : Tok} {v : Value}
    (hm : ∀ q ∈ [(x, instObj 170 dx), (dx, valsOf w tv vd), (vd, ov)], q ∈ news) (hov : ov.IsDictOf (PySem.strKind Challenge.rw_rg0209_01.row.prog w) kvs) (hv : valueAt kvs nm = some v)
    (hvk : okv v)
    (hd : dp + 2 < recursionLimit)
    (hret : ∀ (h' : Heap) (tk' : Nat), Fr h₀ L h' m → News h₀ L h' news → Same s.heap h' → Q (onOf v) { s with heap := h', toks := tk' }) :
    wpAny (model Challenge.rw_rg0209_01.row.prog w) (ktrTop dp un gd cn cs L a ccd cl outer) (call (.ref 132) [.ref x, .str nm tn]) Q E s := by
  refine wpAny_call ?_
  k_dflt cell_enter
  intro g' L' h' tk₁ FG' F' N' hG' B' X' T'
  try dsimp only
  try k_lift B'
  try (with_reducible change wpAny _ _ _ _ _ _)
  try k_fold
  k_with "call ref" => (k_here; k_dflt (refine' is_flag_ok (tv := tv) (vd := vd) (ov := ov) (dx := dx) (kvs := kvs) ?k1 ?k2 ?k3 ?k4 ?k5 ?k6 ?k7 ?k8 ?k9 ?k10 ?k11 ?_; (case k1 => k_asm); (case k2 => k_asm); (case k3 => k_asm); (case k4 => k_asm); (case k5 => k_asm); (case k6 => exact rfl); (case k7 => intro _ hq; first | exact hq | exact sub3 (by k_mem) (by k_mem) (by k_mem) _ hq | (simp only [List.mem_cons, List.not_mem_nil, or_false] at hq; rcases hq with rfl | rfl | rfl <;> k_mem)); (case k8 => assumption); (case k9 => assumption); (case k10 => first | assumption | exact .inl ⟨_, rfl⟩ | exact .inr ⟨_, _, rfl, by assumption⟩); (case k11 => ktr_room)); intro h' tk' F' N' _; (try dsimp only [flagOf]))
  rcases hvk with ⟨b, rfl⟩ | ⟨n, t, rfl, hn⟩
  all_goals k_steps
  all_goals
    intro hst
    have hS := same_of N hm (by assumption) hst
    exact hret _ _ (by assumption) (fun q hq => ⟨hS _ _ (N q hq).1, (N q hq).2⟩) hS

theorem is_known_ok {x dx vd : Addr} {ov : Obj} {tv : Tok} {kvs : List (Str × Value)} {nm : Str} {tn : Tok} {v : Value}
    (hm : ∀ q ∈ [(x, instObj 170 dx), (dx, valsOf w tv vd), (vd, ov)], q ∈ news) (hlo : (vd == sysModules) = false) (hov : ov.IsDictOf (PySem.strKind Challenge.rw_rg0209_01.row.prog w) kvs) (hv : valueAt kvs nm = some v)
    (hd : dp + 1 < recursionLimit)
    (hret : ∀ (h' : Heap) (tk' : Nat), Fr h₀ L h' m → News h₀ L h' news → Same s.heap h' → Q (.bool true) { s with heap := h', toks := tk' }) :
    wpAny (model Challenge.rw_rg0209_01.row.prog w) (ktrTop dp un gd cn cs L a ccd cl outer) (call (.ref 125) [.ref x, .str nm tn]) Q E s := by
  refine wpAny_call ?_
  k_dflt cell_enter
  intro g' L' h' tk₁ FG' F' N' hG' B' X' T'
  try dsimp only
  try k_lift B'
  try (with_reducible change wpAny _ _ _ _ _ _)
  try k_fold
  k_with "compareOp In str ref" => (k_here; k_dflt (refine' opt_in ?k1 ?k2 ?k3 ?k4 ?k5 ?_; (case k1 => k_asm); (case k2 => k_mem); (case k3 => assumption); (case k4 => assumption); (case k5 => assumption); k_whole))
  k_steps
  all_goals
    intro hst
    have hS := same_of N hm (by assumption) hst
    exact hret _ _ (by assumption) (fun q hq => ⟨hS _ _ (N q hq).1, (N q hq).2⟩) hS

theorem text_of_ok {x dx vd : Addr} {ov : Obj} {tv : Tok} {kvs : List (Str × Value)} {nm : Str} {tn : Tok} {v : Value}
    (hm : ∀ q ∈ [(x, instObj 170 dx), (dx, valsOf w tv vd), (vd, ov)], q ∈ news) (hov : ov.IsDictOf (PySem.strKind Challenge.rw_rg0209_01.row.prog w) kvs) (hv : valueAt kvs nm = some v)
    (hvk : okv v)
    (hd : dp + 2 < recursionLimit)
    (hret : ∀ (h' : Heap) (tk' : Nat) (t' : Tok), Fr h₀ L h' m → News h₀ L h' news → Same s.heap h' → Q (.str (textOf v) t') { s with heap := h', toks := tk' }) :
    wpAny (model Challenge.rw_rg0209_01.row.prog w) (ktrTop dp un gd cn cs L a ccd cl outer) (call (.ref 160) [.ref x, .str nm tn]) Q E s := by
  refine wpAny_call ?_
  k_dflt cell_enter
  intro g' L' h' tk₁ FG' F' N' hG' B' X' T'
  try dsimp only
  try k_lift B'
  try (with_reducible change wpAny _ _ _ _ _ _)
  try k_fold
  k_with "call ref" => (k_here; k_dflt (refine' is_flag_ok (tv := tv) (vd := vd) (ov := ov) (dx := dx) (kvs := kvs) ?k1 ?k2 ?k3 ?k4 ?k5 ?k6 ?k7 ?k8 ?k9 ?k10 ?k11 ?_; (case k1 => k_asm); (case k2 => k_asm); (case k3 => k_asm); (case k4 => k_asm); (case k5 => k_asm); (case k6 => exact rfl); (case k7 => intro _ hq; first | exact hq | exact sub3 (by k_mem) (by k_mem) (by k_mem) _ hq | (simp only [List.mem_cons, List.not_mem_nil, or_false] at hq; rcases hq with rfl | rfl | rfl <;> k_mem)); (case k8 => assumption); (case k9 => assumption); (case k10 => first | assumption | exact .inl ⟨_, rfl⟩ | exact .inr ⟨_, _, rfl, by assumption⟩); (case k11 => ktr_room)); intro h' tk' F' N' _; (try dsimp only [flagOf]))
  rcases hvk with ⟨b, rfl⟩ | ⟨n, t, rfl, hn⟩
  k_with "call type:str" => (k_here; k_dflt (refine' PySem.P.str_of_int ?k1 ?_; (case k1 => assumption); k_whole))
  all_goals k_steps
  all_goals
    intro hst
    have hS := same_of N hm (by assumption) hst
    try (rename_i hb _ _ _ _; subst hb)
    exact hret _ _ _ (by assumption) (fun q hq => ⟨hS _ _ (N q hq).1, (N q hq).2⟩) hS
end
end

local macro_rules | `(tactic| k_extra "mine joinParts") => `(tactic| (k_here; (with_reducible show wpAny _ _ (joinParts _ (evalEach [] _)) _ _ _); k_dflt (refine joinParts_nilE ?_; refine' joinParts_nil ?k1 ?k2; (case k2 => with_reducible assumption); k_whole)))
section
open PySem PySem.W PyProof.Rows PySem.Calls PySem.Spec
set_option maxRecDepth 100000
set_option maxHeartbeats 300000
abbrev symT : PyData := .tuple [.str (Str.ofString "sym"), .str (Str.ofString "true")]
abbrev symF : PyData := .tuple [.str (Str.ofString "sym"), .str (Str.ofString "false")]
theorem say2 {x y : Str} (hx : x.length ≤ 1000) (hy : y.length ≤ 1000) : (Str.empty ++ x ++ y).length ≤ sizeLine := by
  rw [PySem.Str.empty_append, PySem.Str.length_append]; exact Nat.le_trans (Nat.add_le_add hx hy) (Nat.le_of_ble_eq_true rfl)
theorem say3 {x y z : Str} (hx : x.length ≤ 1000) (hy : y.length ≤ 1000) (hz : z.length ≤ 1000) : (Str.empty ++ x ++ y ++ z).length ≤ sizeLine := by
  rw [PySem.Str.empty_append, PySem.Str.length_append, PySem.Str.length_append]; exact Nat.le_trans (Nat.add_le_add (Nat.add_le_add hx hy) hz) (Nat.le_of_ble_eq_true rfl)
section
variable {w : World} {vp : Program} {vl : List Str} {mean : ExcName → Option Value} {mg mb : Str → Option Value} {dp un : Nat} {gd : Option (List Code)} {cn : Str} {cs : Scope} {a : Addr} {ccd : Value} {cl : List (Str × Addr)} {outer : List Env} {A₀ : Around}
    {base h₀ : Heap} {L : Addr} {m : Str → Option Value} {s : Shared} {Q E : Value → Shared → Prop} {news : List (Addr × Obj)}
    (B : Below A₀ base outer h₀) (F : Fr h₀ L s.heap m) (X : (Mine.pre.heap_1 w.params).In h₀) (N : News h₀ L s.heap news) (T : Top vp vl mean mg mb h₀) (hk : cs.kind = .function)
include B F X N T hk

theorem value_flag_ok {x dx vd : Addr} {ov : Obj} {tv : Tok} {kvs : List (Str × Value)} {nm : Str} {tn : Tok} {b₀ : Bool} {itv : Value} {d : PyData} {as : List Addr}
    (hm : ∀ q ∈ [(x, instObj 170 dx), (dx, valsOf w tv vd), (vd, ov)], q ∈ news) (hov : ov.IsDictOf (PySem.strKind Challenge.rw_rg0209_01.row.prog w) kvs) (hv : valueAt kvs nm = some (.bool b₀))
    (hR : Reads s.heap itv d as) (hsh : PySem.SeqAt.shaped d = true)
    (hnl : nm.length ≤ 100) (hd : dp + 5 < recursionLimit) (hu : un + 128 < cLine)
    (hretT : PyData.eqv d symT = true → ∀ (h' : Heap) (tk' : Nat), Fr h₀ L h' m → News h₀ L h' news → Same s.heap h' → Q (.bool true) { s with heap := h', toks := tk' })
    (hretF : PyData.eqv d symT = false → PyData.eqv d symF = true → ∀ (h' : Heap) (tk' : Nat), Fr h₀ L h' m → News h₀ L h' news → Same s.heap h' → Q (.bool false) { s with heap := h', toks := tk' })
    (hraise : PyData.eqv d symT = false → PyData.eqv d symF = false → ∀ (h' : Heap) (tk' : Nat) (e : Addr), RaisedC base s.heap (envX cn cs L a ccd cl :: outer) 88 e h' → E (.ref e) { s with heap := h', toks := tk' }) :
    wpAny (model Challenge.rw_rg0209_01.row.prog w) (ktrTop dp un gd cn cs L a ccd cl outer) (call (.ref 146) [.ref x, .str nm tn, itv]) Q E s := by
  w_top off
  k_with_none
  refine wpAny_call ?_
  k_dflt cell_enter
  intro g' L' h' tk₁ FG' F' N' hG' B' X' T'
  have hvk : okv (.bool b₀) := .inl ⟨_, rfl⟩
  try dsimp only
  try k_lift B'
  try (with_reducible change wpAny _ _ _ _ _ _)
  try k_fold
  k_with "call ref" => (k_here; k_dflt (refine' is_flag_ok (tv := tv) (vd := vd) (ov := ov) (dx := dx) (kvs := kvs) ?k1 ?k2 ?k3 ?k4 ?k5 ?k6 ?k7 ?k8 ?k9 ?k10 ?k11 ?_; (case k1 => k_asm); (case k2 => k_asm); (case k3 => k_asm); (case k4 => k_asm); (case k5 => k_asm); (case k6 => exact rfl); (case k7 => intro _ hq; first | exact hq | exact sub3 (by k_mem) (by k_mem) (by k_mem) _ hq | (simp only [List.mem_cons, List.not_mem_nil, or_false] at hq; rcases hq with rfl | rfl | rfl <;> k_mem)); (case k8 => assumption); (case k9 => assumption); (case k10 => first | assumption | exact .inl ⟨_, rfl⟩ | exact .inr ⟨_, _, rfl, by assumption⟩); (case k11 => ktr_room)); intro h' tk' F' N' _; (try dsimp only [flagOf]))
  k_with "compareOp Eq" => (k_here; k_dflt (refine' eq_dataH (da := d) (reads_part N hm hG' ?k1 ?k2 ?k3 hR) ?k4 hsh ?k5 ?k6 ?_; (case k1 => k_asm); (case k2 => k_asm); (case k3 => first | exact fun _ hq => hq | exact sub3 (by k_mem) (by k_mem) (by k_mem) | (intro _ hq; simp only [List.mem_cons, List.not_mem_nil, or_false] at hq ⊢; rcases hq with rfl | rfl | rfl <;> simp)); (case k4 => ke_read); (case k5 => ke_shaped); (case k6 => ktr_units); k_whole))
  k_with "exec Raise some none" => (k_here; k_dflt (refine' Raise_cf ?k1 ?k2 ?k3 ?k4 ?k5 ?k6 ?k7 ?k8 ?_; (case k1 => k_asm); (case k2 => k_asm); (case k3 => k_asm); (case k4 => k_asm); (case k5 => exact rfl); (case k6 => ktr_room); (case k7 => exact rfl); (case k8 => k_is); k_whole))
  have hnl' : nm.length ≤ sizeLine := Nat.le_trans hnl (Nat.le_of_ble_eq_true rfl)
  have hnl₁ : nm.length ≤ 1000 := Nat.le_trans hnl (by decide)
  have ha1 : (Str.empty ++ Str.ofString "the option :" ++ nm).length ≤ sizeLine := say2 (Nat.le_of_ble_eq_true rfl) hnl₁
  have ha2 : (Str.empty ++ Str.ofString "the option :" ++ nm ++ Str.ofString " is true or false").length ≤ sizeLine := say3 (Nat.le_of_ble_eq_true rfl) hnl₁ (Nat.le_of_ble_eq_true rfl)
  k_with "And" => (k_here; dsimp only; refine And.intro (by with_reducible assumption) ?_)
  k_with "CfTold" => (refine ⟨_, _, rfl, by k_asm, ?_⟩; intro h' e t' d' tk' hn he hk')
  k_with "formatField str" => (k_here; k_dflt (refine' PyProof.Rows.formatField_str ?k1 ?k2; (case k2 => exact hnl'); k_whole); intro t' tk')
  k_steps
  · intro hst
    have hS := same_of2 N hm (by assumption) (by first | exact fun _ hq => hq | exact sub3 (by k_mem) (by k_mem) (by k_mem) | (intro _ hq; simp only [List.mem_cons, List.not_mem_nil, or_false] at hq ⊢; rcases hq with rfl | rfl | rfl <;> simp)) hst
    exact hretT (by assumption) _ _ (by assumption) (news_keeps N hS) hS
  · intro hst
    have hS := same_of2 N hm (by assumption) (by first | exact fun _ hq => hq | exact sub3 (by k_mem) (by k_mem) (by k_mem) | (intro _ hq; simp only [List.mem_cons, List.not_mem_nil, or_false] at hq ⊢; rcases hq with rfl | rfl | rfl <;> simp)) hst
    exact hretF (by assumption) (by assumption) _ _ (by assumption) (news_keeps N hS) hS
  · have hq := gstill N hm hG' (by assumption) (fun q hq => (by assumption : News g' L' _ _) q ((by first | exact fun _ hq => hq | exact sub3 (by k_mem) (by k_mem) (by k_mem) | (intro _ hq; simp only [List.mem_cons, List.not_mem_nil, or_false] at hq ⊢; rcases hq with rfl | rfl | rfl <;> simp) : ∀ q ∈ [(x, instObj 170 dx), (dx, valsOf w tv vd), (vd, ov)], q ∈ _) q hq))
    exact leave_cf B' (by assumption) hq.1 hq.2 hn he hk' fun h'' R => hraise (by assumption) (by assumption) _ _ _ R
end
end

section
open PySem PySem.W PyProof.Rows PySem.Calls PySem.Spec
set_option maxRecDepth 100000
set_option maxHeartbeats 2000000

abbrev tupOf (vs : List Value) : Obj := { cls := .type "tuple", data := .seq vs.toArray }
section
variable {w : World} {vp : Program} {vl : List Str} {mean : ExcName → Option Value} {mg mb : Str → Option Value} {dp un : Nat} {gd : Option (List Code)} {cn : Str} {cs : Scope} {a : Addr} {ccd : Value} {cl : List (Str × Addr)} {outer : List Env} {A₀ : Around}
    {base h₀ : Heap} {L : Addr} {m : Str → Option Value} {s : Shared} {Q E : Value → Shared → Prop} {news : List (Addr × Obj)}
    (B : Below A₀ base outer h₀) (F : Fr h₀ L s.heap m) (X : (Mine.pre.heap_1 w.params).In h₀) (N : News h₀ L s.heap news) (T : Top vp vl mean mg mb h₀) (hk : cs.kind = .function)
include B F X N T hk

theorem value_num_none {x dx vd : Addr} {ov : Obj} {tv : Tok} {kvs : List (Str × Value)} {nm : Str} {tn : Tok} {n₀ : Int} {t₀ : Tok}
    (hm : ∀ q ∈ [(x, instObj 170 dx), (dx, valsOf w tv vd), (vd, ov)], q ∈ news) (hov : ov.IsDictOf (PySem.strKind Challenge.rw_rg0209_01.row.prog w) kvs) (hv : valueAt kvs nm = some (.int n₀ t₀)) (hvk : okv (.int n₀ t₀))
    (hnl : nm.length ≤ 100) (hd : dp + 5 < recursionLimit)
    (hraise : ∀ (h' : Heap) (tk' : Nat) (e : Addr), RaisedC base s.heap (envX cn cs L a ccd cl :: outer) 88 e h' → E (.ref e) { s with heap := h', toks := tk' }) :
    wpAny (model Challenge.rw_rg0209_01.row.prog w) (ktrTop dp un gd cn cs L a ccd cl outer) (call (.ref 146) [.ref x, .str nm tn, .none]) Q E s := by
  w_top off
  k_with_none
  refine wpAny_call ?_
  k_dflt cell_enter
  intro g' L' h' tk₁ FG' F' N' hG' B' X' T'
  try dsimp only
  try k_lift B'
  try (with_reducible change wpAny _ _ _ _ _ _)
  try k_fold
  k_with "call ref" => (k_here; k_dflt (refine' is_flag_ok (tv := tv) (vd := vd) (ov := ov) (dx := dx) (kvs := kvs) ?k1 ?k2 ?k3 ?k4 ?k5 ?k6 ?k7 ?k8 ?k9 ?k10 ?k11 ?_; (case k1 => k_asm); (case k2 => k_asm); (case k3 => k_asm); (case k4 => k_asm); (case k5 => k_asm); (case k6 => exact rfl); (case k7 => intro _ hq; first | exact hq | exact sub3 (by k_mem) (by k_mem) (by k_mem) _ hq | (simp only [List.mem_cons, List.not_mem_nil, or_false] at hq; rcases hq with rfl | rfl | rfl <;> k_mem)); (case k8 => assumption); (case k9 => assumption); (case k10 => first | assumption | exact .inl ⟨_, rfl⟩ | exact .inr ⟨_, _, rfl, by assumption⟩); (case k11 => ktr_room)); intro h' tk' F' N' _; (try dsimp only [flagOf]))
  k_with "exec Raise some none" => (k_here; k_dflt (refine' Raise_cf ?k1 ?k2 ?k3 ?k4 ?k5 ?k6 ?k7 ?k8 ?_; (case k1 => k_asm); (case k2 => k_asm); (case k3 => k_asm); (case k4 => k_asm); (case k5 => exact rfl); (case k6 => ktr_room); (case k7 => exact rfl); (case k8 => k_is); k_whole))
  have hnl' : nm.length ≤ sizeLine := Nat.le_trans hnl (Nat.le_of_ble_eq_true rfl)
  have hnl₁ : nm.length ≤ 1000 := Nat.le_trans hnl (by decide)
  have ha1 : (Str.empty ++ Str.ofString "the option :" ++ nm).length ≤ sizeLine := say2 (Nat.le_of_ble_eq_true rfl) hnl₁
  have ha2 : (Str.empty ++ Str.ofString "the option :" ++ nm ++ Str.ofString " is a numeral").length ≤ sizeLine := say3 (Nat.le_of_ble_eq_true rfl) hnl₁ (Nat.le_of_ble_eq_true rfl)
  k_with "And" => (k_here; dsimp only; refine And.intro (by with_reducible assumption) ?_)
  k_with "CfTold" => (refine ⟨_, _, rfl, by k_asm, ?_⟩; intro h' e t' d' tk' hn he hk')
  k_with "formatField str" => (k_here; k_dflt (refine' PyProof.Rows.formatField_str ?k1 ?k2; (case k2 => exact hnl'); k_whole); intro t' tk')
  k_steps
  · have hq := gstill N hm hG' (by assumption) (fun q hq => (by assumption : News g' L' _ _) q ((by first | exact fun _ hq => hq | exact sub3 (by k_mem) (by k_mem) (by k_mem) | (intro _ hq; simp only [List.mem_cons, List.not_mem_nil, or_false] at hq ⊢; rcases hq with rfl | rfl | rfl <;> simp) : ∀ q ∈ [(x, instObj 170 dx), (dx, valsOf w tv vd), (vd, ov)], q ∈ _) q hq))
    exact leave_cf B' (by assumption) hq.1 hq.2 hn he hk' fun h'' R => hraise  _ _ _ R
theorem value_num_other1 {x dx vd : Addr} {ov : Obj} {tv : Tok} {kvs : List (Str × Value)} {nm : Str} {tn : Tok} {n₀ : Int} {t₀ : Tok} {it : Addr} {kd : Str} {tk₀ : Tok} {r1 : Value}
    (hm : ∀ q ∈ [(x, instObj 170 dx), (dx, valsOf w tv vd), (vd, ov), (it, tupOf [.str kd tk₀, r1])], q ∈ news) (hov : ov.IsDictOf (PySem.strKind Challenge.rw_rg0209_01.row.prog w) kvs) (hv : valueAt kvs nm = some (.int n₀ t₀)) (hvk : okv (.int n₀ t₀))
    (hnl : nm.length ≤ 100) (hd : dp + 5 < recursionLimit)
    (hkd : (kd != Str.ofString "num") = true)
    (hraise : ∀ (h' : Heap) (tk' : Nat) (e : Addr), RaisedC base s.heap (envX cn cs L a ccd cl :: outer) 88 e h' → E (.ref e) { s with heap := h', toks := tk' }) :
    wpAny (model Challenge.rw_rg0209_01.row.prog w) (ktrTop dp un gd cn cs L a ccd cl outer) (call (.ref 146) [.ref x, .str nm tn, .ref it]) Q E s := by
  refine wpAny_call ?_
  k_dflt cell_enter
  intro g' L' h' tk₁ FG' F' N' hG' B' X' T'
  try dsimp only
  try k_lift B'
  try (with_reducible change wpAny _ _ _ _ _ _)
  try k_fold
  k_with "call ref" => (k_here; k_dflt (refine' is_flag_ok (tv := tv) (vd := vd) (ov := ov) (dx := dx) (kvs := kvs) ?k1 ?k2 ?k3 ?k4 ?k5 ?k6 ?k7 ?k8 ?k9 ?k10 ?k11 ?_; (case k1 => k_asm); (case k2 => k_asm); (case k3 => k_asm); (case k4 => k_asm); (case k5 => k_asm); (case k6 => exact rfl); (case k7 => intro _ hq; first | exact hq | exact sub3 (by k_mem) (by k_mem) (by k_mem) _ hq | (simp only [List.mem_cons, List.not_mem_nil, or_false] at hq; rcases hq with rfl | rfl | rfl <;> k_mem)); (case k8 => assumption); (case k9 => assumption); (case k10 => first | assumption | exact .inl ⟨_, rfl⟩ | exact .inr ⟨_, _, rfl, by assumption⟩); (case k11 => ktr_room)); intro h' tk' F' N' _; (try dsimp only [flagOf]))
  k_with "exec Raise some none" => (k_here; k_dflt (refine' Raise_cf ?k1 ?k2 ?k3 ?k4 ?k5 ?k6 ?k7 ?k8 ?_; (case k1 => k_asm); (case k2 => k_asm); (case k3 => k_asm); (case k4 => k_asm); (case k5 => exact rfl); (case k6 => ktr_room); (case k7 => exact rfl); (case k8 => k_is); k_whole))
  have hnl' : nm.length ≤ sizeLine := Nat.le_trans hnl (Nat.le_of_ble_eq_true rfl)
  have hnl₁ : nm.length ≤ 1000 := Nat.le_trans hnl (by decide)
  have ha1 : (Str.empty ++ Str.ofString "the option :" ++ nm).length ≤ sizeLine := say2 (Nat.le_of_ble_eq_true rfl) hnl₁
  have ha2 : (Str.empty ++ Str.ofString "the option :" ++ nm ++ Str.ofString " is a numeral").length ≤ sizeLine := say3 (Nat.le_of_ble_eq_true rfl) hnl₁ (Nat.le_of_ble_eq_true rfl)
  k_with "And" => (k_here; dsimp only; refine And.intro (by with_reducible assumption) ?_)
  k_with "CfTold" => (refine ⟨_, _, rfl, by k_asm, ?_⟩; intro h' e t' d' tk' hn he hk')
  k_with "formatField str" => (k_here; k_dflt (refine' PyProof.Rows.formatField_str ?k1 ?k2; (case k2 => exact hnl'); k_whole); intro t' tk')
  k_steps
  · have hq := gstill N hm hG' (by assumption) (fun q hq => (by assumption : News g' L' _ _) q ((by first | exact fun _ hq => hq | exact sub4 (by k_mem) (by k_mem) (by k_mem) (by k_mem) | (intro _ hq; simp only [List.mem_cons, List.not_mem_nil, or_false] at hq ⊢; rcases hq with rfl | rfl | rfl | rfl <;> simp) : ∀ q ∈ [(x, instObj 170 dx), (dx, valsOf w tv vd), (vd, ov), (it, tupOf [.str kd tk₀, r1])], q ∈ _) q hq))
    exact leave_cf B' (by assumption) hq.1 hq.2 hn he hk' fun h'' R => hraise _ _ _ R

theorem value_num_other2 {x dx vd : Addr} {ov : Obj} {tv : Tok} {kvs : List (Str × Value)} {nm : Str} {tn : Tok} {n₀ : Int} {t₀ : Tok} {it : Addr} {kd : Str} {tk₀ : Tok} {r1 r2 : Value}
    (hm : ∀ q ∈ [(x, instObj 170 dx), (dx, valsOf w tv vd), (vd, ov), (it, tupOf [.str kd tk₀, r1, r2])], q ∈ news) (hov : ov.IsDictOf (PySem.strKind Challenge.rw_rg0209_01.row.prog w) kvs) (hv : valueAt kvs nm = some (.int n₀ t₀)) (hvk : okv (.int n₀ t₀))
    (hnl : nm.length ≤ 100) (hd : dp + 5 < recursionLimit)
    (hkd : (kd != Str.ofString "num") = true)
    (hraise : ∀ (h' : Heap) (tk' : Nat) (e : Addr), RaisedC base s.heap (envX cn cs L a ccd cl :: outer) 88 e h' → E (.ref e) { s with heap := h', toks := tk' }) :
    wpAny (model Challenge.rw_rg0209_01.row.prog w) (ktrTop dp un gd cn cs L a ccd cl outer) (call (.ref 146) [.ref x, .str nm tn, .ref it]) Q E s := by
  refine wpAny_call ?_
  k_dflt cell_enter
  intro g' L' h' tk₁ FG' F' N' hG' B' X' T'
  try dsimp only
  try k_lift B'
  try (with_reducible change wpAny _ _ _ _ _ _)
  try k_fold
  k_with "call ref" => (k_here; k_dflt (refine' is_flag_ok (tv := tv) (vd := vd) (ov := ov) (dx := dx) (kvs := kvs) ?k1 ?k2 ?k3 ?k4 ?k5 ?k6 ?k7 ?k8 ?k9 ?k10 ?k11 ?_; (case k1 => k_asm); (case k2 => k_asm); (case k3 => k_asm); (case k4 => k_asm); (case k5 => k_asm); (case k6 => exact rfl); (case k7 => intro _ hq; first | exact hq | exact sub3 (by k_mem) (by k_mem) (by k_mem) _ hq | (simp only [List.mem_cons, List.not_mem_nil, or_false] at hq; rcases hq with rfl | rfl | rfl <;> k_mem)); (case k8 => assumption); (case k9 => assumption); (case k10 => first | assumption | exact .inl ⟨_, rfl⟩ | exact .inr ⟨_, _, rfl, by assumption⟩); (case k11 => ktr_room)); intro h' tk' F' N' _; (try dsimp only [flagOf]))
  k_with "exec Raise some none" => (k_here; k_dflt (refine' Raise_cf ?k1 ?k2 ?k3 ?k4 ?k5 ?k6 ?k7 ?k8 ?_; (case k1 => k_asm); (case k2 => k_asm); (case k3 => k_asm); (case k4 => k_asm); (case k5 => exact rfl); (case k6 => ktr_room); (case k7 => exact rfl); (case k8 => k_is); k_whole))
  have hnl' : nm.length ≤ sizeLine := Nat.le_trans hnl (Nat.le_of_ble_eq_true rfl)
  have hnl₁ : nm.length ≤ 1000 := Nat.le_trans hnl (by decide)
  have ha1 : (Str.empty ++ Str.ofString "the option :" ++ nm).length ≤ sizeLine := say2 (Nat.le_of_ble_eq_true rfl) hnl₁
  have ha2 : (Str.empty ++ Str.ofString "the option :" ++ nm ++ Str.ofString " is a numeral").length ≤ sizeLine := say3 (Nat.le_of_ble_eq_true rfl) hnl₁ (Nat.le_of_ble_eq_true rfl)
  k_with "And" => (k_here; dsimp only; refine And.intro (by with_reducible assumption) ?_)
  k_with "CfTold" => (refine ⟨_, _, rfl, by k_asm, ?_⟩; intro h' e t' d' tk' hn he hk')
  k_with "formatField str" => (k_here; k_dflt (refine' PyProof.Rows.formatField_str ?k1 ?k2; (case k2 => exact hnl'); k_whole); intro t' tk')
  k_steps
  · have hq := gstill N hm hG' (by assumption) (fun q hq => (by assumption : News g' L' _ _) q ((by first | exact fun _ hq => hq | exact sub4 (by k_mem) (by k_mem) (by k_mem) (by k_mem) | (intro _ hq; simp only [List.mem_cons, List.not_mem_nil, or_false] at hq ⊢; rcases hq with rfl | rfl | rfl | rfl <;> simp) : ∀ q ∈ [(x, instObj 170 dx), (dx, valsOf w tv vd), (vd, ov), (it, tupOf [.str kd tk₀, r1, r2])], q ∈ _) q hq))
    exact leave_cf B' (by assumption) hq.1 hq.2 hn he hk' fun h'' R => hraise _ _ _ R

theorem value_num_num {x dx vd : Addr} {ov : Obj} {tv : Tok} {kvs : List (Str × Value)} {nm : Str} {tn : Tok} {n₀ : Int} {t₀ : Tok} {it : Addr} {tk₀ : Tok} {n : Int} {tn' : Tok}
    (hm : ∀ q ∈ [(x, instObj 170 dx), (dx, valsOf w tv vd), (vd, ov), (it, tupOf [.str (Str.ofString "num") tk₀, .int n tn'])], q ∈ news) (hov : ov.IsDictOf (PySem.strKind Challenge.rw_rg0209_01.row.prog w) kvs) (hv : valueAt kvs nm = some (.int n₀ t₀)) (hvk : okv (.int n₀ t₀))
    (hnl : nm.length ≤ 100) (hd : dp + 5 < recursionLimit)
    (hret : 0 ≤ n → ∀ (h' : Heap) (tk' : Nat), Fr h₀ L h' m → News h₀ L h' news → Same s.heap h' → Q (.int n tn') { s with heap := h', toks := tk' })
    (hraise : n < 0 → ∀ (h' : Heap) (tk' : Nat) (e : Addr), RaisedC base s.heap (envX cn cs L a ccd cl :: outer) 88 e h' → E (.ref e) { s with heap := h', toks := tk' }) :
    wpAny (model Challenge.rw_rg0209_01.row.prog w) (ktrTop dp un gd cn cs L a ccd cl outer) (call (.ref 146) [.ref x, .str nm tn, .ref it]) Q E s := by
  refine wpAny_call ?_
  k_dflt cell_enter
  intro g' L' h' tk₁ FG' F' N' hG' B' X' T'
  try dsimp only
  try k_lift B'
  try (with_reducible change wpAny _ _ _ _ _ _)
  try k_fold
  k_with "call ref" => (k_here; k_dflt (refine' is_flag_ok (tv := tv) (vd := vd) (ov := ov) (dx := dx) (kvs := kvs) ?k1 ?k2 ?k3 ?k4 ?k5 ?k6 ?k7 ?k8 ?k9 ?k10 ?k11 ?_; (case k1 => k_asm); (case k2 => k_asm); (case k3 => k_asm); (case k4 => k_asm); (case k5 => k_asm); (case k6 => exact rfl); (case k7 => intro _ hq; first | exact hq | exact sub3 (by k_mem) (by k_mem) (by k_mem) _ hq | (simp only [List.mem_cons, List.not_mem_nil, or_false] at hq; rcases hq with rfl | rfl | rfl <;> k_mem)); (case k8 => assumption); (case k9 => assumption); (case k10 => first | assumption | exact .inl ⟨_, rfl⟩ | exact .inr ⟨_, _, rfl, by assumption⟩); (case k11 => ktr_room)); intro h' tk' F' N' _; (try dsimp only [flagOf]))
  k_with "exec Raise some none" => (k_here; k_dflt (refine' Raise_cf ?k1 ?k2 ?k3 ?k4 ?k5 ?k6 ?k7 ?k8 ?_; (case k1 => k_asm); (case k2 => k_asm); (case k3 => k_asm); (case k4 => k_asm); (case k5 => exact rfl); (case k6 => ktr_room); (case k7 => exact rfl); (case k8 => k_is); k_whole))
  have hnl' : nm.length ≤ sizeLine := Nat.le_trans hnl (Nat.le_of_ble_eq_true rfl)
  have hnl₁ : nm.length ≤ 1000 := Nat.le_trans hnl (by decide)
  have ha1 : (Str.empty ++ Str.ofString "the option :" ++ nm).length ≤ sizeLine := say2 (Nat.le_of_ble_eq_true rfl) hnl₁
  have ha2 : (Str.empty ++ Str.ofString "the option :" ++ nm ++ Str.ofString " is a numeral").length ≤ sizeLine := say3 (Nat.le_of_ble_eq_true rfl) hnl₁ (Nat.le_of_ble_eq_true rfl)
  k_with "And" => (k_here; dsimp only; refine And.intro (by with_reducible assumption) ?_)
  k_with "CfTold" => (refine ⟨_, _, rfl, by k_asm, ?_⟩; intro h' e t' d' tk' hn he hk')
  k_with "formatField str" => (k_here; k_dflt (refine' PyProof.Rows.formatField_str ?k1 ?k2; (case k2 => exact hnl'); k_whole); intro t' tk')
  k_steps
  · have hq := gstill N hm hG' (by assumption) (fun q hq => (by assumption : News g' L' _ _) q ((by first | exact fun _ hq => hq | exact sub4 (by k_mem) (by k_mem) (by k_mem) (by k_mem) | (intro _ hq; simp only [List.mem_cons, List.not_mem_nil, or_false] at hq ⊢; rcases hq with rfl | rfl | rfl | rfl <;> simp) : ∀ q ∈ [(x, instObj 170 dx), (dx, valsOf w tv vd), (vd, ov), (it, tupOf [.str (Str.ofString "num") tk₀, .int n tn'])], q ∈ _) q hq))
    exact leave_cf B' (by assumption) hq.1 hq.2 hn he hk' fun h'' R => hraise (by assumption) _ _ _ R
  · intro hst
    have hS := same_of2 N hm (by assumption) (by first | exact fun _ hq => hq | exact sub4 (by k_mem) (by k_mem) (by k_mem) (by k_mem) | (intro _ hq; simp only [List.mem_cons, List.not_mem_nil, or_false] at hq ⊢; rcases hq with rfl | rfl | rfl | rfl <;> simp)) hst
    exact hret (by omega) _ _ (by assumption) (news_keeps N hS) hS
end
end

section
open PySem PySem.W PyProof.Rows PySem.Calls PySem.Spec
set_option maxRecDepth 100000
set_option maxHeartbeats 2000000

/-- what the text of an item tells: a truth, a number or neither -/
def TellsTruth (h : Heap) (itv : Value) (tr : Option Bool) : Prop :=
  ∃ d as, Reads h itv d as ∧ PySem.SeqAt.shaped d = true ∧ (match tr with
    | some true => PyData.eqv d symT = true
    | some false => PyData.eqv d symT = false ∧ PyData.eqv d symF = true
    | none => PyData.eqv d symT = false ∧ PyData.eqv d symF = false)
def TellsNum (news : List (Addr × Obj)) (itv : Value) (nu : Option (Int × Tok)) : Prop :=
  (itv = .none ∧ nu = none) ∨
  (∃ it tk n t, itv = .ref it ∧ (it, tupOf [.str (Str.ofString "num") tk, .int n t]) ∈ news ∧ ((0 ≤ n ∧ nu = some (n, t)) ∨ (n < 0 ∧ nu = none))) ∨
  (∃ it kd tk r1, itv = .ref it ∧ (it, tupOf [.str kd tk, r1]) ∈ news ∧ (kd != Str.ofString "num") = true ∧ nu = none) ∨
  (∃ it kd tk r1 r2, itv = .ref it ∧ (it, tupOf [.str kd tk, r1, r2]) ∈ news ∧ (kd != Str.ofString "num") = true ∧ nu = none)
/-- what an option whose value is v takes of it -/
def due (v : Value) (tr : Option Bool) (nu : Option (Int × Tok)) : Option Value := if flagOf v then tr.map .bool else nu.map fun p => .int p.1 p.2
section
variable {w : World} {vp : Program} {vl : List Str} {mean : ExcName → Option Value} {mg mb : Str → Option Value} {dp un : Nat} {gd : Option (List Code)} {cn : Str} {cs : Scope} {a : Addr} {ccd : Value} {cl : List (Str × Addr)} {outer : List Env} {A₀ : Around}
    {base h₀ : Heap} {L : Addr} {m : Str → Option Value} {s : Shared} {Q E : Value → Shared → Prop} {news : List (Addr × Obj)}
    (B : Below A₀ base outer h₀) (F : Fr h₀ L s.heap m) (X : (Mine.pre.heap_1 w.params).In h₀) (N : News h₀ L s.heap news) (T : Top vp vl mean mg mb h₀) (hk : cs.kind = .function)
include B F X N T hk

theorem value_ok {x dx vd : Addr} {ov : Obj} {tv : Tok} {kvs : List (Str × Value)} {nm : Str} {tn : Tok} {v itv : Value} {tr : Option Bool} {nu : Option (Int × Tok)}
    (hm : ∀ q ∈ [(x, instObj 170 dx), (dx, valsOf w tv vd), (vd, ov)], q ∈ news) (hov : ov.IsDictOf (PySem.strKind Challenge.rw_rg0209_01.row.prog w) kvs) (hv : valueAt kvs nm = some v) (hvk : okv v)
    (hT : TellsTruth s.heap itv tr) (hN : TellsNum news itv nu)
    (hnl : nm.length ≤ 100) (hd : dp + 5 < recursionLimit) (hu : un + 128 < cLine)
    (hret : ∀ (r : Value) (h' : Heap) (tk' : Nat), due v tr nu = some r → Fr h₀ L h' m → News h₀ L h' news → Same s.heap h' → Q r { s with heap := h', toks := tk' })
    (hraise : due v tr nu = none → ∀ (h' : Heap) (tk' : Nat) (e : Addr), RaisedC base s.heap (envX cn cs L a ccd cl :: outer) 88 e h' → E (.ref e) { s with heap := h', toks := tk' }) :
    wpAny (model Challenge.rw_rg0209_01.row.prog w) (ktrTop dp un gd cn cs L a ccd cl outer) (call (.ref 146) [.ref x, .str nm tn, itv]) Q E s := by
  obtain ⟨b, rfl⟩ | ⟨n₀, t₀, rfl, hn₀⟩ := hvk
  · obtain ⟨d, as, hR, hsh, hc⟩ := hT
    refine value_flag_ok B F X N T hk hm hov hv hR hsh hnl hd hu ?_ ?_ ?_
    · intro h1 h' tk' F' N' S'
      rcases tr with _ | _ | _
      · exact absurd (h1.symm.trans hc.1) (by decide)
      · exact absurd (h1.symm.trans hc.1) (by decide)
      · exact hret _ _ _ rfl F' N' S'
    · intro h1 h2 h' tk' F' N' S'
      rcases tr with _ | _ | _
      · exact absurd (h2.symm.trans hc.2) (by decide)
      · exact hret _ _ _ rfl F' N' S'
      · exact absurd (h1.symm.trans hc) (by decide)
    · intro h1 h2
      rcases tr with _ | _ | _
      · exact hraise rfl
      · exact absurd (h2.symm.trans hc.2) (by decide)
      · exact absurd (h1.symm.trans hc) (by decide)
  · have hmem : ∀ {it o}, (it, o) ∈ news → ∀ q ∈ [(x, instObj 170 dx), (dx, valsOf w tv vd), (vd, ov), (it, o)], q ∈ news := by
      intro it o hio q hq
      simp only [List.mem_cons, List.not_mem_nil, or_false] at hq
      rcases hq with rfl | rfl | rfl | rfl
      · exact hm _ (by simp)
      · exact hm _ (by simp)
      · exact hm _ (by simp)
      · exact hio
    rcases hN with ⟨rfl, rfl⟩ | ⟨it, tk, n, t, rfl, hi, hc⟩ | ⟨it, kd, tk, r1, rfl, hi, hkd, rfl⟩ | ⟨it, kd, tk, r1, r2, rfl, hi, hkd, rfl⟩
    · exact value_num_none B F X N T hk hm hov hv (.inr ⟨_, _, rfl, hn₀⟩) hnl hd (hraise rfl)
    · refine value_num_num B F X N T hk (hmem hi) hov hv (.inr ⟨_, _, rfl, hn₀⟩) hnl hd (fun h0 h' tk' F' N' S' => ?_) fun h0 => ?_
      · rcases hc with ⟨_, rfl⟩ | ⟨h1, _⟩
        · exact hret _ _ _ rfl F' N' S'
        · omega
      · rcases hc with ⟨h1, _⟩ | ⟨_, rfl⟩
        · omega
        · exact hraise rfl
    · exact value_num_other1 B F X N T hk (hmem hi) hov hv (.inr ⟨_, _, rfl, hn₀⟩) hnl hd hkd (hraise rfl)
    · exact value_num_other2 B F X N T hk (hmem hi) hov hv (.inr ⟨_, _, rfl, hn₀⟩) hnl hd hkd (hraise rfl)
end
end

section
open PySem PySem.W PyProof.Rows PySem.Calls PySem.Spec
set_option maxRecDepth 100000
set_option maxHeartbeats 2000000

theorem TellsTruth.keeps {h h' : Heap} {itv : Value} {tr : Option Bool} (T : TellsTruth h itv tr) (k : Same h h') : TellsTruth h' itv tr := by
  obtain ⟨d, as, hR, r⟩ := T
  exact ⟨d, as, PyProof.Rows.Reads.keeps k hR, r⟩
theorem TellsNum.more {news news' : List (Addr × Obj)} {itv : Value} {nu : Option (Int × Tok)} (T : TellsNum news itv nu) (k : ∀ q ∈ news, q ∈ news') : TellsNum news' itv nu := by
  rcases T with h | ⟨it, tk, n, t, h1, h2, h3⟩ | ⟨it, kd, tk, r1, h1, h2, h3⟩ | ⟨it, kd, tk, r1, r2, h1, h2, h3⟩
  · exact .inl h
  · exact .inr (.inl ⟨it, tk, n, t, h1, k _ h2, h3⟩)
  · exact .inr (.inr (.inl ⟨it, kd, tk, r1, h1, k _ h2, h3⟩))
  · exact .inr (.inr (.inr ⟨it, kd, tk, r1, r2, h1, k _ h2, h3⟩))
def earlyNames : List Str := [Str.ofString "produce-models", Str.ofString "produce-unsat-cores", Str.ofString "minimal-unsat-cores", Str.ofString "produce-unsat-assumptions", Str.ofString "produce-proofs", Str.ofString "produce-assertions", Str.ofString "produce-assignments", Str.ofString "random-seed"]
theorem in_early {w : World} {A : Around} {E : Value → Shared → Prop} {s : Shared} {h₀ : Heap} {L : Addr} {m : Str → Option Value} {nm : Str} {t : Tok} {Q : Value → Shared → Prop} (F : Fr h₀ L s.heap m) (X : (Mine.pre.heap_1 w.params).In h₀)
    (h : Q (.bool (earlyNames.any (· == nm))) s) : wpAny (model Challenge.rw_rg0209_01.row.prog w) A (compareOp .In (.str nm t) (.ref 104)) Q E s := by
  obtain ⟨o, ho, hc, hd⟩ : ∃ o, (Mine.pre.heap_1 w.params).lookup 104 = some o ∧ o.cls = .type "tuple" ∧ o.data = .seq #[.str (Str.ofString "produce-models") 303, .str (Str.ofString "produce-unsat-cores") 304, .str (Str.ofString "minimal-unsat-cores") 305, .str (Str.ofString "produce-unsat-assumptions") 306, .str (Str.ofString "produce-proofs") 307, .str (Str.ofString "produce-assertions") 308, .str (Str.ofString "produce-assignments") 309, .str (Str.ofString "random-seed") 310] := ⟨_, rfl, rfl, rfl⟩
  exact in_tuple_strs (ys := earlyNames) ⟨o, F.keep _ _ (X _ _ ho), hc, _, hd⟩ (.cons _ _ (.cons _ _ (.cons _ _ (.cons _ _ (.cons _ _ (.cons _ _ (.cons _ _ (.cons _ _ .nil)))))))) h
theorem opt_set {w : World} {A : Around} {E : Value → Shared → Prop} {s : Shared} {h₀ : Heap} {L d : Addr} {m : Str → Option Value} {news : List (Addr × Obj)} {g : Obj → List (Addr × Obj)} {o : Obj} {kvs : List (Str × Value)} {k : Str} {t : Tok} {v : Value} {Q : Unit → Shared → Prop}
    (F : Fr h₀ L s.heap m) (N : News h₀ L s.heap news) (U : UpdF d o news g) (hd : o.IsDictOf (PySem.strKind Challenge.rw_rg0209_01.row.prog w) kvs) (hsz : kvs.length ≤ 100)
    (h : ∀ h' o', Fr h₀ L h' m → News h₀ L h' (g o') → o'.IsDictOf (PySem.strKind Challenge.rw_rg0209_01.row.prog w) (stored kvs k v) → Q () { s with heap := h', toks := s.toks + 1 }) : wpAny (model Challenge.rw_rg0209_01.row.prog w) A (setItem (.ref d) (.str k t) v) Q E s :=
  kda_set (knd := PySem.strKind Challenge.rw_rg0209_01.row.prog w) (k := k) F N U hd (by simp [PySem.strKind, Value.isStrOf]) (Nat.le_trans hsz (Nat.le_of_ble_eq_true rfl)) h
local macro_rules | `(tactic| k_extra "mine opt set") => `(tactic| (k_here; k_dflt (refine' opt_set ?k1 ?k2 ?k3 ?k4 ?k5 ?_; (case k1 | k2 => k_asm); (case k3 => exact UpdF.tail (by with_reducible assumption) (UpdF.tail (by with_reducible assumption) (UpdF.head (by with_reducible assumption)))); (case k4 => assumption); (case k5 => with_reducible assumption); k_whole)))
section
variable {w : World} {vp : Program} {vl : List Str} {mean : ExcName → Option Value} {mg mb : Str → Option Value} {dp un : Nat} {gd : Option (List Code)} {cn : Str} {cs : Scope} {a : Addr} {ccd : Value} {cl : List (Str × Addr)} {outer : List Env} {A₀ : Around}
    {base h₀ : Heap} {L : Addr} {m : Str → Option Value} {s : Shared} {Q E : Value → Shared → Prop} {news : List (Addr × Obj)}
    (B : Below A₀ base outer h₀) (F : Fr h₀ L s.heap m) (X : (Mine.pre.heap_1 w.params).In h₀) (N : News h₀ L s.heap news) (T : Top vp vl mean mg mb h₀) (hk : cs.kind = .function)
include B F X N T hk

theorem put_ok {x dx vd : Addr} {ov : Obj} {tv : Tok} {kvs : List (Str × Value)} {nm : Str} {tn : Tok} {v itv : Value} {tr : Option Bool} {nu : Option (Int × Tok)} {ib : Bool} {itp : List (Addr × Obj)} {gg : Obj → List (Addr × Obj)}
    (hm : ∀ q ∈ (x, instObj 170 dx) :: (dx, valsOf w tv vd) :: (vd, ov) :: itp, q ∈ news) (U : UpdF vd ov news gg) (hxv : x ≠ vd) (hdv : dx ≠ vd) (hiv : ∀ p ∈ itp, p.1 ≠ vd) (hov : ov.IsDictOf (PySem.strKind Challenge.rw_rg0209_01.row.prog w) kvs) (hv : valueAt kvs nm = some v) (hvk : okv v)
    (hT : TellsTruth s.heap itv tr) (hN : TellsNum itp itv nu) (hsz : kvs.length ≤ 100)
    (hnl : nm.length ≤ 100) (hd : dp + 6 < recursionLimit) (hu : un + 256 < cLine)
    (hret : ∀ (r : Value) (h' : Heap) (tk' : Nat) (ov' : Obj), due v tr nu = some r → (ib && earlyNames.any (· == nm)) = false → Fr h₀ L h' m → News h₀ L h' (gg ov') → ov'.IsDictOf (PySem.strKind Challenge.rw_rg0209_01.row.prog w) (stored kvs nm r) → Q .none { s with heap := h', toks := tk' })
    (hraise : due v tr nu = none ∨ (ib && earlyNames.any (· == nm)) = true → ∀ (h' : Heap) (tk' : Nat) (e : Addr), RaisedC base s.heap (envX cn cs L a ccd cl :: outer) 88 e h' → E (.ref e) { s with heap := h', toks := tk' }) :
    wpAny (model Challenge.rw_rg0209_01.row.prog w) (ktrTop dp un gd cn cs L a ccd cl outer) (call (.ref 153) [.ref x, .str nm tn, itv, .bool ib]) Q E s := by
  w_top off
  k_with_none
  have hnl' : nm.length ≤ sizeLine := Nat.le_trans hnl (Nat.le_of_ble_eq_true rfl)
  have hnl₁ : nm.length ≤ 1000 := Nat.le_trans hnl (by decide)
  have ha1 : (Str.empty ++ Str.ofString "the option :" ++ nm).length ≤ sizeLine := say2 (Nat.le_of_ble_eq_true rfl) hnl₁
  have ha2 : (Str.empty ++ Str.ofString "the option :" ++ nm ++ Str.ofString " has to be told first of all").length ≤ sizeLine := say3 (Nat.le_of_ble_eq_true rfl) hnl₁ (Nat.le_of_ble_eq_true rfl)
  k_with "exec Raise some none" => (k_here; k_dflt (refine' Raise_cf ?k1 ?k2 ?k3 ?k4 ?k5 ?k6 ?k7 ?k8 ?_; (case k1 => k_asm); (case k2 => k_asm); (case k3 => k_asm); (case k4 => k_asm); (case k5 => exact rfl); (case k6 => ktr_room); (case k7 => exact rfl); (case k8 => k_is); k_whole))
  k_with "And" => (k_here; dsimp only; refine And.intro (by with_reducible assumption) ?_)
  k_with "CfTold" => (refine ⟨_, _, rfl, by k_asm, ?_⟩; intro h' e t' d' tk' hn he hk')
  k_with "formatField str" => (k_here; k_dflt (refine' PyProof.Rows.formatField_str ?k1 ?k2; (case k2 => exact hnl'); k_whole); intro t' tk')
  k_with "call ref" => (k_here; k_dflt (refine' value_ok (tv := tv) (vd := vd) (ov := ov) (dx := dx) (kvs := kvs) (v := v) (tr := tr) (nu := nu) ?k1 ?k2 ?k3 ?k4 ?k5 ?k6 ?k7 ?k8 ?k9 ?k10 ?k11 ?k12 ?k13 ?k14 ?k15 ?_ ?kR; (case k1 => k_asm); (case k2 => k_asm); (case k3 => k_asm); (case k4 => k_asm); (case k5 => k_asm); (case k6 => exact rfl); (case k7 => intro _ hq; simp only [List.mem_cons, List.not_mem_nil, or_false] at hq ⊢; rcases hq with rfl | rfl | rfl <;> simp); (case k8 => assumption); (case k9 => assumption); (case k10 => assumption); (case k11 => exact hT.keeps (gstill N hm hG' (by assumption) (by assumption)).1); (case k12 => exact hN.more fun q hq => .tail _ (.tail _ (.tail _ hq))); (case k13 => exact hnl); (case k14 => ktr_room); (case k15 => ktr_units); (case kR => intro hdue h' tk' e R'; (have hq := gstill N hm hG' (by assumption) (by assumption)); exact leave_on_cf B' hq.1 hq.2 R' fun h'' R => hraise (.inl hdue) _ _ _ R)); intro r h' tk' hdue F' N' hS')
  k_with "compareOp In str ref" => (k_here; k_dflt (refine' in_early ?k1 ?k2 ?_; (case k1 => k_asm); (case k2 => k_asm); k_whole))
  k_with "setItem ref str" => (k_extra "mine opt set"; intro h' o' F' N' hd')
  refine wpAny_call ?_
  k_dflt cell_enter
  intro g' L' h' tk₁ FG' F' N' hG' B' X' T'
  try dsimp only
  try k_lift B'
  try (with_reducible change wpAny _ _ _ _ _ _)
  try k_fold
  have hend : ∀ (r : Value) (h' : Heap) (tk' : Nat) (o' : Obj), due v tr nu = some r → (ib && earlyNames.any (· == nm)) = false → Fr h₀ L h' m → News h₀ L h' ((x, instObj 170 dx) :: (dx, valsOf w tv vd) :: (vd, o') :: itp) → o'.IsDictOf (PySem.strKind Challenge.rw_rg0209_01.row.prog w) (stored kvs nm r) →
      (∀ b o, s.heap.get? b = some o → b ∉ ((x, instObj 170 dx) :: (dx, valsOf w tv vd) :: (vd, ov) :: itp).map (·.1) → h'.get? b = some o) → Q .none { s with heap := h', toks := tk' } := by
    intro r h' tk' o' h1 h2 F' N' hd' hst
    refine hret r h' tk' o' h1 h2 F' (news_one N U hm N' (by simp) (fun q hq hne => ?_) hst) hd'
    simp only [List.mem_cons] at hq ⊢
    rcases hq with rfl | rfl | rfl | hq
    · simp
    · simp
    · exact absurd rfl hne
    · simp [hq]
  cases ib
  · k_steps
    · intro hst
      exact hend _ _ _ _ (by assumption) rfl (by assumption) (by assumption) (by assumption) hst
  · k_steps
    · have hq := gstill N hm hG' (by assumption) (by assumption)
      exact leave_cf B' (by assumption) hq.1 hq.2 hn he hk' fun h'' R => hraise (.inr (by simp only [Bool.true_and]; assumption)) _ _ _ R
    · intro hst
      exact hend _ _ _ _ (by assumption) (by simp only [Bool.true_and]; assumption) (by assumption) (by assumption) (by assumption) hst
end
end

section
open PySem PySem.W PyProof.Rows PySem.Calls PySem.Spec
set_option maxRecDepth 100000
set_option maxHeartbeats 2000000
section
variable {prog : Program} {w : World} {A₀ A : Around} {s : Shared} {base h₀ : Heap} {L : Addr} {m mg mb : Str → Option Value} {env : Env} {news : List (Addr × Obj)} {K : Frag} {p : Program} {loose : List Str} {mean : ExcName → Option Value}
  {R : Result → Shared → Prop} {name qual : Str} {params : Arguments} {body : List Stmt} {scope : Scope} {dV kV doc pm cdv ct oc : Value} {an od : Option Addr} {osl : Array (Option Value)} {f : Addr} {args : Args} {binds : List (Str × Value)}
/-- what stands behind a call out of the lowest frame, in which something may have been caught -/
def StillL (h : Heap) (L : Addr) (prt : List (Addr × Obj)) (R : Result → Shared → Prop) (r : Result) (s' : Shared) : Prop :=
  (∀ b o, h.get? b = some o → b ∉ prt.map (·.1) → b ≠ L → s'.heap.get? b = some o) → R r s'
theorem code_part0 (prt : List (Addr × Obj)) (B : Below A₀ base [] h₀) (F : Fr h₀ L s.heap m) (X₀ : K.In h₀) (N : News h₀ L s.heap news) (T : Top p loose mean mg mb h₀) (hA : A.frames = some [env]) (hf : env.frame = some L) (hke : env.scope.kind = .function)
    (hm : ∀ q ∈ prt, q ∈ news)
    (ho : K.lookup f = some ⟨oc, od, .func (fnOf name qual params body scope dV kV doc pm an cdv ct), osl⟩) (hcd : codeIn K cdv qual = true) (hroom : A.depth < recursionLimit)
    (hbind : BindsTo s (fnOf name qual params body scope dV kV doc pm an cdv ct) args binds) (hloc : ∀ y ∈ binds, scope.names.lookup y.1 = some .local)
    (h : ∀ g L' h₁ (tk₁ : Nat), Fr h₀ L g m → Fr g L' h₁ (fun y => binds.reverse.lookup y) → News g L' h₁ prt → (∀ b o, s.heap.get? b = some o → b ∉ prt.map (·.1) → g.get? b = some o) → Below A h₀ [env] g → K.In g → Top p loose mean mg mb g →
      wpAny (model prog w) (A.deeper (envOf qual scope L' f cdv)) (execs body (envOf qual scope L' f cdv))
        (fun fl s' => LeaveS0 [L] h₀ L m g (StillL s.heap L prt R) (match fl with | .ret v => v | _ => .none) s')
        (fun e s' => wpAny (model prog w) (A.deeper (envOf qual scope L' f cdv)) (leaving (envOf qual scope L' f cdv) e) (fun _ s'' => R (.error e) s'') (fun e' s'' => R (.error e') s'') s')
        { s with heap := h₁, toks := tk₁ })
    (hco : scope.isCoroutine = false) (hgen : scope.isGenerator = false) (hk : scope.kind = .function)
    (hcell : ∀ x ∈ scope.names, x.2 ≠ .cell) : codeAny (model prog w) A (.call (.ref f) args) R s := by
  have N₁ : News h₀ L s.heap prt := fun q hq => N q (hm q hq)
  have B' : Below A₀ h₀ [] h₀ := ⟨B.stack, fun _ _ e => e, trivial⟩
  obtain ⟨FG, BG, st, -⟩ := groundX (R := R) B' F N₁ hA hf hke
  have ho' := (X₀.keeps F.keep) _ _ ho
  refine codeAny_call_def (fd := fnOf name qual params body scope dV kV doc pm an cdv ct) (body := body) (binds := binds) hroom ho' rfl (T.nolimit.keeps F.keep) (codeRec_of (X₀.keeps F.keep) hcd) rfl hbind hcell hloc (fun h₁ hns hk₁ => ?_) hco hgen hk
  have hkeep : ∀ b o, s.heap.get? b = some o → b ∉ prt.map (·.1) → (hideAll s.heap (prt.map (·.1))).get? b = some o := fun b o hb hn => hideAll_get _ hb hn
  refine wpAny_mono (h _ s.heap.objs.size h₁ _ FG ⟨hns, fun b o e => hk₁ b o (of_hideAll _ e), Nat.le_of_eq (hideAll_size _ _)⟩
    (fun q hq => ⟨hk₁ _ _ (N₁ q hq).1, Nat.ne_of_lt (Heap.lt_size (N₁ q hq).1), hideAll_none _ (List.mem_map_of_mem hq)⟩) hkeep BG (X₀.keeps st) (T.keeps st)) (fun fl s' hl => ?_) fun _ _ y => y
  obtain ⟨g', L', m', news', T', F', N', k⟩ := hl
  have nL₀ : h₀.get? L = none := kts_self F
  obtain ⟨oL, es, ep, hL, hLd, hLk, hLf⟩ := FG.ns
  obtain ⟨sl, hs⟩ := T'.up hL
  refine k ⟨⟨_, es, ep, F'.keep _ _ hs, hLd, hLk, hLf⟩, fun b o e => F'.keep b o (T'.other b o (st b o e) (fun q => by
    rw [List.mem_singleton.mp q, nL₀] at e; cases e)), F.above⟩ (fun q hq => ⟨(N' q hq).1, fun z => ?_, ?_⟩) fun b o hb hn hne => F'.keep _ _ (T'.other b o (hkeep b o hb hn) (by simpa using hne))
  · have := (N' q hq).2.2; rw [z, hs] at this; cases this
  · cases z : h₀.get? q.1 with
    | none => rfl
    | some o =>
      obtain ⟨sl', hs'⟩ := T'.up (st _ _ z)
      have := (N' q hq).2.2
      rw [hs'] at this
      cases this
end
theorem heard_end {h₀ h h' : Heap} {L D : Addr} {o : Obj} {news prt : List (Addr × Obj)} (N : News h₀ L h news) (hm : ∀ q ∈ prt, q ∈ news)
    (kN : News h₀ L h' ((D, o) :: prt)) (hst : ∀ b o, h.get? b = some o → b ∉ prt.map (·.1) → b ≠ L → h'.get? b = some o) :
    News h₀ L h' ((D, o) :: news) ∧ (∀ b o, h.get? b = some o → b ≠ L → h'.get? b = some o) := by
  have hS : ∀ b o, h.get? b = some o → b ≠ L → h'.get? b = some o := by
    intro b o hb hne
    by_cases hp : b ∈ prt.map (·.1)
    · obtain ⟨q, hq, rfl⟩ := List.mem_map.mp hp
      rw [(N _ (hm _ hq)).1] at hb; cases hb
      exact (kN _ (.tail _ hq)).1
    · exact hst b o hb hp hne
  refine ⟨fun q hq => ?_, hS⟩
  rcases List.mem_cons.mp hq with rfl | hq
  · exact kN _ (.head _)
  · exact ⟨hS _ _ (N q hq).1 (N q hq).2.1, (N q hq).2⟩
theorem news_oneL {h₀ h h' : Heap} {L d : Addr} {o o' : Obj} {news : List (Addr × Obj)} {gg : Obj → List (Addr × Obj)} {prt prt' : List (Addr × Obj)} (N : News h₀ L h news) (U : UpdF d o news gg) (hm : ∀ q ∈ prt, q ∈ news) (N' : News h₀ L h' prt') (hd : (d, o') ∈ prt')
    (hk : ∀ q ∈ prt, q.1 ≠ d → q ∈ prt') (hst : ∀ b o, h.get? b = some o → b ∉ prt.map (·.1) → b ≠ L → h'.get? b = some o) : News h₀ L h' (gg o') := by
  obtain ⟨pre, post, rfl, hg, a, b⟩ := U.split
  have old : ∀ q ∈ pre ++ (d, o) :: post, q.1 ≠ d → h'.get? q.1 = some q.2 ∧ q.1 ≠ L ∧ h₀.get? q.1 = none := by
    intro q hq hne
    by_cases h1 : q.1 ∈ prt.map (·.1)
    · obtain ⟨r, hr, e⟩ := List.mem_map.mp h1
      have : r = q := by
        obtain ⟨ra, ro⟩ := r
        obtain ⟨qa, qo⟩ := q
        dsimp only at e
        subst e
        rw [news_obj N (hm _ hr) hq]
      exact N' q (hk q (this ▸ hr) hne)
    · exact ⟨hst _ _ (N q hq).1 h1 (N q hq).2.1, (N q hq).2⟩
  rw [hg]
  intro q hq
  rcases List.mem_append.mp hq with hq | hq
  · exact old q (List.mem_append_left _ hq) (a q hq)
  · rcases List.mem_cons.mp hq with rfl | hq
    · exact N' _ hd
    · exact old q (List.mem_append_right _ (.tail _ hq)) (b q hq)
theorem news_sameL {h₀ h h' : Heap} {L : Addr} {news prt : List (Addr × Obj)} (N : News h₀ L h news) (hm : ∀ q ∈ prt, q ∈ news) (kN : News h₀ L h' prt) (hst : ∀ b o, h.get? b = some o → b ∉ prt.map (·.1) → b ≠ L → h'.get? b = some o) : News h₀ L h' news := by
  intro q hq
  refine ⟨?_, (N q hq).2⟩
  by_cases hp : q.1 ∈ prt.map (·.1)
  · obtain ⟨r, hr, e⟩ := List.mem_map.mp hp
    obtain ⟨ra, ro⟩ := r
    obtain ⟨qa, qo⟩ := q
    dsimp only at e
    subst e
    rw [news_obj N hq (hm _ hr)]
    exact (kN _ hr).1
  · exact hst _ _ (N q hq).1 hp (N q hq).2.1
local macro_rules | `(tactic| cell_enter) => `(tactic| (refine' code_part0 _ ?k1 ?k2 ?k3 ?k4 ?k5 ?kA ?kF ?kK ?hm ?k6 ?k7 ?k8 ?k9 ?kB ?_ ?c2 ?c3 ?c4 ?c5; (case kA | kF => exact rfl); (case kK => assumption); (case k1 | k2 | k3 | k4 | k5 => k_asm); (case hm => assumption); (case k6 | k7 => k_is); (case k8 => ktr_room); (case k9 => exact BindsTo.of_eq rfl); (case c5 => decide); (case kB => exact locs rfl); (case c2 | c3 | c4 => exact rfl); k_whole))
section
variable {w : World} {vp : Program} {vl : List Str} {mean : ExcName → Option Value} {mg mb : Str → Option Value} {dp un : Nat} {gd : Option (List Code)} {cn : Str} {cs : Scope} {a : Addr} {ccd : Value} {cl : List (Str × Addr)} {A₀ : Around}
    {base h₀ : Heap} {L : Addr} {m : Str → Option Value} {s : Shared} {Q E : Value → Shared → Prop} {news : List (Addr × Obj)}
    (B : Below A₀ base [] h₀) (F : Fr h₀ L s.heap m) (X : (Mine.pre.heap_1 w.params).In h₀) (N : News h₀ L s.heap news) (T : Top vp vl mean mg mb h₀) (hk : cs.kind = .function)
include B F X N T hk

theorem heard_ok {x dx vd : Addr} {ov : Obj} {tv : Tok} {kvs : List (Str × Value)} {nm : Str} {tn : Tok} {v itv : Value} {tr : Option Bool} {nu : Option (Int × Tok)} {itp : List (Addr × Obj)}
    (hm : ∀ q ∈ (x, instObj 170 dx) :: (dx, valsOf w tv vd) :: (vd, ov) :: itp, q ∈ news) (hov : ov.IsDictOf (PySem.strKind Challenge.rw_rg0209_01.row.prog w) kvs) (hv : valueAt kvs nm = some v) (hvk : okv v)
    (hT : TellsTruth s.heap itv tr) (hN : TellsNum itp itv nu)
    (hnl : nm.length ≤ 100) (hd : dp + 7 < recursionLimit) (hu : un + 256 < cLine)
    (hret : ∀ (D : Addr) (h' : Heap) (tk' : Nat), Fr h₀ L h' m → News h₀ L h' ((D, listOf (due v tr nu).toList.toArray 0) :: news) → (∀ b o, s.heap.get? b = some o → b ≠ L → h'.get? b = some o) → Q (.ref D) { s with heap := h', toks := tk' }) :
    wpAny (model Challenge.rw_rg0209_01.row.prog w) (ktrTop dp un gd cn cs L a ccd cl []) (call (.ref 364) [.ref x, .str nm tn, itv]) Q E s := by
  w_top off
  k_with_none
  refine wpAny_call ?_
  k_dflt cell_enter
  intro g' L' h' tk₁ FG' F' N' hG' B' X' T'
  try dsimp only
  try k_lift B'
  try (with_reducible change wpAny _ _ _ _ _ _)
  try k_fold
  k_with "call ref" => (k_here; k_dflt (refine' value_ok (tv := tv) (vd := vd) (ov := ov) (dx := dx) (kvs := kvs) (v := v) (tr := tr) (nu := nu) ?k1 ?k2 ?k3 ?k4 ?k5 ?k6 ?k7 ?k8 ?k9 ?k10 ?k11 ?k12 ?k13 ?k14 ?k15 ?_ ?_; (case k1 => k_asm); (case k2 => k_asm); (case k3 => k_asm); (case k4 => k_asm); (case k5 => k_asm); (case k6 => exact rfl); (case k7 => intro _ hq; simp only [List.mem_cons, List.not_mem_nil, or_false] at hq ⊢; rcases hq with rfl | rfl | rfl <;> simp); (case k8 => assumption); (case k9 => assumption); (case k10 => assumption); (case k11 => exact hT.keeps (gstill N hm hG' (by assumption) (by assumption)).1); (case k12 => exact hN.more fun q hq => .tail _ (.tail _ (.tail _ hq))); (case k13 => exact hnl); (case k14 => ktr_room); (case k15 => ktr_units)); rotate_left; (intro hdue h' tk' e R'; refine' caught_CF0 R' (by k_asm) (by k_asm) B' X T (by k_is) (by first | kts_isx | decide +kernel) ?_); (intro h' g' kT F' N' B' X' T'); rotate_left; (intro r h' tk' hdue F' N' hS'))
  k_steps
  · intro hst
    obtain ⟨r1, r3⟩ := heard_end N hm (by assumption) hst
    rw [hdue] at hret
    exact hret _ _ _ (by assumption) r1 r3
  · intro hst
    obtain ⟨r1, r3⟩ := heard_end N hm (by assumption) hst
    rw [hdue] at hret
    exact hret _ _ _ (by assumption) r1 r3

theorem given_ok {x dx vd : Addr} {ov : Obj} {tv : Tok} {kvs : List (Str × Value)} {nm : Str} {tn : Tok} {v itv : Value} {tr : Option Bool} {nu : Option (Int × Tok)} {ib : Bool} {itp : List (Addr × Obj)} {gg : Obj → List (Addr × Obj)}
    (hm : ∀ q ∈ (x, instObj 170 dx) :: (dx, valsOf w tv vd) :: (vd, ov) :: itp, q ∈ news) (U : UpdF vd ov news gg) (hxv : x ≠ vd) (hdv : dx ≠ vd) (hiv : ∀ p ∈ itp, p.1 ≠ vd) (hov : ov.IsDictOf (PySem.strKind Challenge.rw_rg0209_01.row.prog w) kvs) (hv : valueAt kvs nm = some v) (hvk : okv v)
    (hT : TellsTruth s.heap itv tr) (hN : TellsNum itp itv nu) (hsz : kvs.length ≤ 100)
    (hnl : nm.length ≤ 100) (hd : dp + 8 < recursionLimit) (hu : un + 512 < cLine)
    (hret : ∀ (r : Value) (h' : Heap) (tk' : Nat) (ov' : Obj), due v tr nu = some r → (ib && earlyNames.any (· == nm)) = false → Fr h₀ L h' m → News h₀ L h' (gg ov') → ov'.IsDictOf (PySem.strKind Challenge.rw_rg0209_01.row.prog w) (stored kvs nm r) → Q (.bool true) { s with heap := h', toks := tk' })
    (hno : due v tr nu = none ∨ (ib && earlyNames.any (· == nm)) = true → ∀ (h' : Heap) (tk' : Nat), Fr h₀ L h' m → News h₀ L h' news → Q (.bool false) { s with heap := h', toks := tk' }) :
    wpAny (model Challenge.rw_rg0209_01.row.prog w) (ktrTop dp un gd cn cs L a ccd cl []) (call (.ref 371) [.ref x, .str nm tn, itv, .bool ib]) Q E s := by
  have hend : ∀ (r : Value) (h' : Heap) (tk' : Nat) (o' : Obj), due v tr nu = some r → (ib && earlyNames.any (· == nm)) = false → Fr h₀ L h' m → News h₀ L h' ((x, instObj 170 dx) :: (dx, valsOf w tv vd) :: (vd, o') :: itp) → o'.IsDictOf (PySem.strKind Challenge.rw_rg0209_01.row.prog w) (stored kvs nm r) →
      (∀ b o, s.heap.get? b = some o → b ∉ ((x, instObj 170 dx) :: (dx, valsOf w tv vd) :: (vd, ov) :: itp).map (·.1) → b ≠ L → h'.get? b = some o) → Q (.bool true) { s with heap := h', toks := tk' } := by
    intro r h' tk' o' h1 h2 F' N' hd' hst
    refine hret r h' tk' o' h1 h2 F' (news_oneL N U hm N' (by simp) (fun q hq hne => ?_) hst) hd'
    simp only [List.mem_cons] at hq ⊢
    rcases hq with rfl | rfl | rfl | hq
    · simp
    · simp
    · exact absurd rfl hne
    · simp [hq]
  refine wpAny_call ?_
  k_dflt cell_enter
  intro g' L' h' tk₁ FG' F' N' hG' B' X' T'
  try dsimp only
  try k_lift B'
  try (with_reducible change wpAny _ _ _ _ _ _)
  try k_fold
  k_with "call ref" => (k_here; k_dflt (refine' put_ok (tv := tv) (vd := vd) (ov := ov) (dx := dx) (kvs := kvs) (v := v) (tr := tr) (nu := nu) (itp := itp) ?k1 ?k2 ?k3 ?k4 ?k5 ?k6 ?k7 ?kU ?ka ?kb ?kc ?k8 ?k9 ?k10 ?k11 ?k12 ?ks ?k13 ?k14 ?k15 ?_ ?_; (case k1 => k_asm); (case k2 => k_asm); (case k3 => k_asm); (case k4 => k_asm); (case k5 => k_asm); (case k6 => exact rfl); (case k7 => exact fun _ hq => hq); (case kU => exact UpdF.tail hxv (UpdF.tail hdv (UpdF.head hiv))); (case ka => exact hxv); (case kb => exact hdv); (case kc => exact hiv); (case k8 => assumption); (case k9 => assumption); (case k10 => assumption); (case k11 => exact hT.keeps (gstill N hm hG' (by assumption) (by assumption)).1); (case k12 => exact hN); (case ks => exact hsz); (case k13 => exact hnl); (case k14 => ktr_room); (case k15 => ktr_units)); rotate_left; (intro hdue h' tk' e R'; refine' caught_CF0 R' (by k_asm) (by k_asm) B' X T (by k_is) (by first | kts_isx | decide +kernel) ?_); (intro h' g' kT F' N' B' X' T'); rotate_left; (intro r h' tk' ov' hdue hib F' N' hd'))
  k_steps
  · intro hst
    exact hend _ _ _ _ hdue hib (by assumption) (by assumption) hd' hst
  · intro hst
    exact hno hdue _ _ (by assumption) (news_sameL N hm (by assumption) hst)
end
end

section
open PySem PySem.W PyProof.Rows PySem.Calls PySem.Spec
set_option maxRecDepth 100000
set_option maxHeartbeats 2000000
section
variable {prog : Program} {w : World} {A : Around} {E : Value → Shared → Prop} {s : Shared} {env : Env} {h₀ : Heap} {x : Str} {body : List Stmt} {Q : Flow → Shared → Prop}
/-- the end of one turn: what the local names are known to be but the loop's own, the ledger of the turn -/
def KTurn (h₀ : Heap) (L : Addr) (x : Str) (xs : List Str) (m0 : Str → Option Value) (own : List (Addr × Obj)) (adr : List Addr) (R : List (Addr × Obj) → Prop) (s₁ : Shared) (f : Flow) (s₂ : Shared) : Prop :=
  f = .next ∧ ∃ h' tk m' news' nx, s₂ = { s₁ with heap := h', toks := tk } ∧ Fr h₀ L h' m' ∧ (∀ z, z ≠ x → xs.contains z = false → m' z = m0 z) ∧ News h₀ L h' news' ∧ (∀ p ∈ nx, p ∈ news') ∧ (∀ p ∈ own, p ∈ news') ∧ nx.map (·.1) = adr ∧ R nx
theorem kturn_end {L : Addr} {xs : List Str} {m0 m' : Str → Option Value} {own news' nx : List (Addr × Obj)} {adr : List Addr} {R : List (Addr × Obj) → Prop} {s₁ : Shared} {h' : Heap} {tk : Nat} (F : Fr h₀ L h' m') (N : News h₀ L h' news') (hM : ∀ z, z ≠ x → xs.contains z = false → m' z = m0 z)
    (h1 : ∀ p ∈ nx, p ∈ news') (h2 : ∀ p ∈ own, p ∈ news') (h3 : nx.map (·.1) = adr) (h4 : R nx) : KTurn h₀ L x xs m0 own adr R s₁ .next { s₁ with heap := h', toks := tk } := ⟨rfl, _, _, _, _, nx, rfl, F, hM, N, h1, h2, h3, h4⟩
theorem loop_flat {I : Addr} {fp wr : List Addr} {n : Nat} {P : Nat → Value → Prop} {St : Nat → Heap → Prop} {m0 : Str → Option Value} {news : List (Addr × Obj)} (xs : List Str) (R : Nat → List (Addr × Obj) → Prop)
    (W : Walks prog w A I fp wr n P St) (hLf : env.locals ∉ fp) (hwr : ∀ b ∈ wr, h₀.get? b = none) (hnw : ∀ p ∈ news, p.1 ∉ wr) (hfp : ∀ q ∈ news, q.1 ∉ fp) (hst : St 0 s.heap) (F : Fr h₀ env.locals s.heap m0) (N : News h₀ env.locals s.heap news) (hj : R 0 news)
    (turn : ∀ i v nx h tk own (u : Str → Option Value), i < n → P i v → R i nx → nx.map (·.1) = news.map (·.1) → Fr h₀ env.locals h (fun y => if y = x then some v else if xs.contains y then u y else m0 y) → News h₀ env.locals h (nx ++ own) → OwnOff own (news.map (·.1)) →
      wpAny (model prog w) A (execs body env) (KTurn h₀ env.locals x xs m0 own (news.map (·.1)) (R (i + 1)) { s with heap := h, toks := tk }) E { s with heap := h, toks := tk })
    (done : ∀ (vo : Option Value) (u : Str → Option Value) nx h tk, R n nx → Fr h₀ env.locals h (fun y => if y = x then vo else if xs.contains y then u y else m0 y) → News h₀ env.locals h nx → Q .next { s with heap := h, toks := tk }) :
    LoopAtV prog w A h₀ env x body Q E (.ref I) s := by
  refine loop_invN (fun i m nx => (∀ z, z ≠ x → xs.contains z = false → m z = m0 z) ∧ R i nx) W hLf hwr hnw hfp hst F N ⟨fun _ _ _ => rfl, hj⟩ ?_ ?_
  · rintro i v m₁ nx h tk own hin hP hadr hsep ⟨hM, hR⟩ F₁ N₁
    have e : (fun y => if y = x then some v else m₁ y) = fun y => if y = x then some v else if xs.contains y then m₁ y else m0 y := by
      funext y
      by_cases hy : y = x
      · simp [hy]
      · cases hc : xs.contains y
        · simp only [if_neg hy, Bool.false_eq_true, if_false]; exact hM y hy hc
        · simp only [if_neg hy, if_true]
    rw [e] at F₁
    refine wpAny_mono (turn i v nx h tk own m₁ hin hP hR hadr F₁ N₁ hsep) (fun f s₂ p => ?_) fun _ _ e => e
    obtain ⟨rfl, h', tk', m', news', nx', rfl, F', hM', N', hn, ho, ha, hR'⟩ := p
    exact ⟨h', tk', _, news', nx', rfl, F', N', hn, ho, ha, hM', hR'⟩
  · rintro m₁ nx h tk ⟨hM, hR⟩ F₁ N₁
    have e : m₁ = fun y => if y = x then m₁ x else if xs.contains y then m₁ y else m0 y := by
      funext y
      by_cases hy : y = x
      · simp [hy]
      · cases hc : xs.contains y
        · simp only [if_neg hy, Bool.false_eq_true, if_false]; exact hM y hy hc
        · simp only [if_neg hy, if_true]
    rw [e] at F₁
    exact done _ _ nx h tk hR F₁ N₁

theorem iter_keys {d : Addr} {kvs : List (Str × Value)} {m0 : Str → Option Value} {news : List (Addr × Obj)} {od : Obj} (xs : List Str) (R : Nat → List (Addr × Obj) → Prop) (hh : A.handled = none) (hlo : (d == sysModules) = false)
    (hd : h₀.get? d = some od) (hod : od.IsDictOf (PySem.strKind prog w) kvs) (F : Fr h₀ env.locals s.heap m0) (N : News h₀ env.locals s.heap news) (hj : R 0 news)
    (turn : ∀ i nm t v nx h tk own (u : Str → Option Value), kvs[i]? = some (nm, v) → R i nx → nx.map (·.1) = news.map (·.1) → Fr h₀ env.locals h (fun y => if y = x then some (.str nm t) else if xs.contains y then u y else m0 y) → News h₀ env.locals h (nx ++ own) → OwnOff own (news.map (·.1)) →
      wpAny (model prog w) A (execs body env) (KTurn h₀ env.locals x xs m0 own (news.map (·.1)) (R (i + 1)) { s with heap := h, toks := tk }) E { s with heap := h, toks := tk })
    (done : ∀ (vo : Option Value) (u : Str → Option Value) nx h tk, R kvs.length nx → Fr h₀ env.locals h (fun y => if y = x then vo else if xs.contains y then u y else m0 y) → News h₀ env.locals h nx → Q .next { s with heap := h, toks := tk }) :
    wpAny (model prog w) A (pyIter (.ref d)) (fun it s₂ => LoopAtV prog w A h₀ env x body Q E it s₂) E s := by
  have hds : s.heap.get? d = some od := F.keep _ _ hd
  obtain ⟨es, ep, hx, hdat, hk, hp, hn⟩ := hod
  have hA : s.heap.DictAt (PySem.strKind prog w) d kvs ep := by exact ⟨od, es, hds, hx, hdat, hk, hp, hn⟩
  have hlt : d < h₀.objs.size := Heap.lt_size hd
  have hne : d ≠ s.heap.objs.size := Nat.ne_of_lt (Heap.lt_size hds)
  refine wpAny_pyIter_dict hlo hA ?_
  have W := Walks.dictKeys (prog := prog) (w := w) (knd := PySem.strKind prog w) hh s.heap.objs.size d hne kvs ep
  refine loop_flat (s := { s with heap := _ }) xs R W ?_ ?_ ?_ ?_ ⟨⟨_, Heap.get?_push_size _ rfl, rfl, rfl⟩, hA.at' fun o e => Heap.get?_push_of_some _ e⟩ (F.push _) (fun p hp => ⟨Heap.get?_push_of_some _ (N p hp).1, (N p hp).2⟩) hj ?_ ?_
  · intro hm
    rcases List.mem_cons.mp hm with e | hm
    · exact absurd F.ns.lt (e ▸ Nat.lt_irrefl _)
    · exact absurd (Nat.lt_of_lt_of_le hlt F.above) ((List.mem_singleton.mp hm) ▸ Nat.lt_irrefl _)
  · intro b hb
    rw [List.mem_singleton.mp hb]
    exact next_is_new F
  · intro p hp hI
    exact absurd (Heap.lt_size (N p hp).1) ((List.mem_singleton.mp hI) ▸ Nat.lt_irrefl _)
  · intro p hp hI
    rcases List.mem_cons.mp hI with e | hI
    · exact absurd (Heap.lt_size (N p hp).1) (e ▸ Nat.lt_irrefl _)
    · have := (N p hp).2.2
      rw [List.mem_singleton.mp hI, hd] at this; cases this
  · rintro i v nx h tk own u hin ⟨k, y, hk', hkey⟩ hR hadr F₁ N₁ hoff
    obtain ⟨t, rfl⟩ : ∃ t, v = .str k t := by
      cases v <;> simp [PySem.strKind, Value.isStrOf] at hkey
      exact ⟨_, by rw [hkey]⟩
    exact turn i k t y nx h tk own u hk' hR hadr F₁ N₁ hoff
  · exact done
end
theorem fresh_of {h₀ h g h' : Heap} {L L' D : Addr} {o : Obj} {news prt prt' : List (Addr × Obj)} (N : News h₀ L h news) (_hm : ∀ q ∈ prt, q ∈ news) (hG : ∀ b o, h.get? b = some o → b ∉ prt.map (·.1) → g.get? b = some o) (N' : News g L' h' ((D, o) :: prt')) (hp : ∀ p ∈ prt, p.1 ≠ D) : ∀ p ∈ news, p.1 ≠ D := by
  intro p hn he
  by_cases h1 : p.1 ∈ prt.map (·.1)
  · obtain ⟨r, hr, e⟩ := List.mem_map.mp h1
    exact hp r hr (e.trans he)
  · have h2 := hG _ _ (N p hn).1 h1
    have h3 := (N' _ (.head _)).2.2
    rw [he] at h2
    rw [h2] at h3; cases h3
theorem take_absent : ∀ {kvs : List (Str × Value)} {i : Nat} {k : Str} {v : Value}, (kvs.map (·.1)).Nodup → kvs[i]? = some (k, v) → valueAt (kvs.take i) k = none
  | [], _, _, _, _, h => by simp at h
  | p :: r, 0, _, _, _, _ => by simp [valueAt]
  | p :: r, i + 1, k, v, hn, h => by
    simp only [List.getElem?_cons_succ] at h
    simp only [List.map_cons, List.nodup_cons] at hn
    have hne : p.1 ≠ k := fun e => hn.1 (List.mem_map.mpr ⟨(k, v), List.mem_of_getElem? h, e.symm⟩)
    have ih := take_absent hn.2 h
    simp only [valueAt, List.take_succ_cons, List.find?_cons, decide_eq_false hne] at ih ⊢
    exact ih
theorem take_stored {kvs : List (Str × Value)} {i : Nat} {k : Str} {v : Value} (hn : (kvs.map (·.1)).Nodup) (h : kvs[i]? = some (k, v)) : stored (kvs.take i) k v = kvs.take (i + 1) := by
  rw [stored_absent (take_absent hn h), List.take_add_one, h]; rfl
theorem g_item {w : World} {A : Around} {E : Value → Shared → Prop} {s : Shared} {h₀ : Heap} {L d : Addr} {m : Str → Option Value} {o : Obj} {kvs : List (Str × Value)} {k : Str} {t : Tok} {v : Value} {Q : Value → Shared → Prop} {value slice : PySem.Expr}
    (F : Fr h₀ L s.heap m) (hg : h₀.get? d = some o) (ho : o.IsDictOf (PySem.strKind Challenge.rw_rg0209_01.row.prog w) kvs) (hl : valueAt kvs k = some v) (h : Q v { s with toks := s.toks + 1 })
    (hs : subscripted slice false (.ref d) (.str k t) = operate [.ref d, .str k t] (getItem (.ref d) (.str k t)) := by with_unfolding_all rfl) (hgo : ∀ r, letTemporaryGo value (.ref d) r = pure () := by intro _; with_unfolding_all rfl) :
    wpAny (model Challenge.rw_rg0209_01.row.prog w) A (subscriptTail value slice (.ref d) (.str k t)) Q E s :=
  have hD : s.heap.DictOf (PySem.strKind Challenge.rw_rg0209_01.row.prog w) d kvs := Heap.dictOf_iff.mpr ⟨o, F.keep _ _ hg, ho⟩
  subscriptTail_builtin hD.typeIs slot_dict_getitem.lookup (wpAny_getItem_of (knd := PySem.strKind Challenge.rw_rg0209_01.row.prog w) (k := k) (by simp [PySem.strKind, Value.isStrOf]) hD.mapOf hl h) hs hgo

section
variable {w : World} {vp : Program} {vl : List Str} {mean : ExcName → Option Value} {mg mb : Str → Option Value} {dp un : Nat} {gd : Option (List Code)} {cn : Str} {cs : Scope} {a : Addr} {ccd : Value} {cl : List (Str × Addr)} {outer : List Env} {A₀ : Around}
    {base h₀ : Heap} {L : Addr} {m : Str → Option Value} {s : Shared} {Q E : Value → Shared → Prop} {news : List (Addr × Obj)}
    (B : Below A₀ base outer h₀) (F : Fr h₀ L s.heap m) (X : (Mine.pre.heap_1 w.params).In h₀) (N : News h₀ L s.heap news) (T : Top vp vl mean mg mb h₀) (hk : cs.kind = .function)
include B F X N T hk

theorem copied_ok {x dx vd : Addr} {ov : Obj} {tv : Tok} {kvs : List (Str × Value)}
    (hm : ∀ q ∈ [(x, instObj 170 dx), (dx, valsOf w tv vd), (vd, ov)], q ∈ news) (hxv : x ≠ vd) (hdv : dx ≠ vd) (hlo : (vd == sysModules) = false) (hov : ov.IsDictOf (PySem.strKind Challenge.rw_rg0209_01.row.prog w) kvs) (hsz : kvs.length ≤ 100)
    (hd : dp + 1 < recursionLimit)
    (hret : ∀ (D : Addr) (o : Obj) (h' : Heap) (tk' : Nat), Fr h₀ L h' m → News h₀ L h' ((D, o) :: news) → (∀ p ∈ news, p.1 ≠ D) → o.IsDictOf (PySem.strKind Challenge.rw_rg0209_01.row.prog w) kvs → (D == sysModules) = false → Same s.heap h' → Q (.ref D) { s with heap := h', toks := tk' }) :
    wpAny (model Challenge.rw_rg0209_01.row.prog w) (ktrTop dp un gd cn cs L a ccd cl outer) (call (.ref 167) [.ref x]) Q E s := by
  w_top off
  k_with_none
  have hm2 : ∀ q ∈ [(x, instObj 170 dx), (dx, valsOf w tv vd)], q ∈ news := fun q hq => hm q (by simp only [List.mem_cons, List.not_mem_nil, or_false] at hq ⊢; rcases hq with rfl | rfl <;> simp)
  refine wpAny_call ?_
  k_dflt cell_enter
  intro g' L' h' tk₁ FG' F' N' hG' B' X' T'
  have hgv : g'.get? vd = some ov := hG' vd ov (N (vd, ov) (hm _ (by simp))).1 (by simp [Ne.symm hxv, Ne.symm hdv])
  try dsimp only
  try k_lift B'
  try (with_reducible change wpAny _ _ _ _ _ _)
  try k_fold
  k_steps
  rename_i D₀ _ o₀ hDlo hD0 _ _ _ l1 _ lF lN
  refine iter_keys (xs := []) (R := fun i nx => ∃ o, nx = [(D₀, o), (x, instObj 170 dx), (dx, valsOf w tv vd)] ∧ o.IsDictOf (PySem.strKind Challenge.rw_rg0209_01.row.prog w) (kvs.take i)) rfl hlo hgv hov lF lN ⟨_, rfl, by simpa using hD0⟩ ?_ ?_
  · rintro i nm t v nx h tk own u hkv ⟨o, rfl, ho⟩ hadr F₁ N₁ hoff
    have hv : valueAt kvs nm = some v := valueAt_of_get (by obtain ⟨_, _, _, _, _, _, hn⟩ := hov; exact hn) hkv
    have hsz' : (kvs.take i).length ≤ 100 := by rw [List.length_take]; omega
    have hU : UpdF D₀ o ((D₀, o) :: (x, instObj 170 dx) :: (dx, valsOf w tv vd) :: own) (fun o' => (D₀, o') :: (x, instObj 170 dx) :: (dx, valsOf w tv vd) :: own) := by
      refine UpdF.head fun p hp => ?_
      simp only [List.mem_cons] at hp
      rcases hp with rfl | rfl | hp
      · exact Nat.ne_of_lt l1.1
      · exact Nat.ne_of_lt l1.2
      · exact hoff p hp _ (by simp)
    k_with "subscriptTail" => (k_here; k_dflt (refine' g_item ?k1 ?k2 ?k3 ?k4 ?_; (case k1 => k_asm); (case k2 => assumption); (case k3 => assumption); (case k4 => assumption); k_whole))
    k_with "setItem ref str" => (k_here; k_dflt (refine' opt_set ?z1 ?z2 ?z3 ?z4 ?z5 ?_; (case z1 => k_asm); (case z2 => k_asm); (case z3 => exact hU); (case z4 => exact ho); (case z5 => exact hsz'); k_whole); intro h' o' F' N' hd')
    k_steps
    exact ⟨rfl, _, _, _, _, [(D₀, o'), (x, instObj 170 dx), (dx, valsOf w tv vd)], rfl, F', (by intro z hz _; simp [hz]), N', fun p hp => List.mem_append_left own hp, fun p hp => List.mem_append_right [(D₀, o'), (x, instObj 170 dx), (dx, valsOf w tv vd)] hp, rfl, o', rfl, by
      rw [← take_stored (by obtain ⟨_, _, _, _, _, _, hn⟩ := hov; exact hn) hkv]; exact hd'⟩
  · rintro vo u nx h tk ⟨o, rfl, ho⟩ F₁ N₁
    rw [List.take_length] at ho
    k_steps
    intro hst
    have kN : News h₀ L h [(D₀, o), (x, instObj 170 dx), (dx, valsOf w tv vd)] := by assumption
    have hS := same_of2 N hm2 kN (fun q hq => .tail _ hq) hst
    refine hret D₀ o h tk (by assumption) (fun q hq => ?_) (fresh_of N hm2 hG' N₁ ?_) ho hDlo hS
    · rcases List.mem_cons.mp hq with rfl | hq
      · exact kN _ (.head _)
      · exact news_keeps N hS q hq
    · intro p hp
      simp only [List.mem_cons, List.not_mem_nil, or_false] at hp
      rcases hp with rfl | rfl
      · exact Nat.ne_of_lt l1.1
      · exact Nat.ne_of_lt l1.2
end
end

section
open PySem PySem.W PyProof.Rows PySem.Calls PySem.Spec
set_option maxRecDepth 100000
set_option maxHeartbeats 2000000

def flagNames : List Str := [Str.ofString "print-success", Str.ofString "produce-models", Str.ofString "produce-unsat-cores", Str.ofString "minimal-unsat-cores", Str.ofString "produce-unsat-assumptions", Str.ofString "produce-proofs", Str.ofString "produce-assertions", Str.ofString "produce-assignments"]
def numNames : List Str := [Str.ofString "random-seed", Str.ofString "reproducible-resource-limit", Str.ofString "verbosity"]
/-- the same truth or the same number -/
def vsim (v v' : Value) : Prop := (∃ b, v = .bool b ∧ v' = .bool b) ∨ (∃ n t t', v = .int n t ∧ v' = .int n t')
inductive KSim : List (Str × Value) → List (Str × Value) → Prop
  | nil : KSim [] []
  | cons {k : Str} {v v' : Value} {r r' : List (Str × Value)} : vsim v v' → KSim r r' → KSim ((k, v) :: r) ((k, v') :: r')
theorem KSim.at {ka kb : List (Str × Value)} (h : KSim ka kb) (k : Str) : (valueAt ka k = none ∧ valueAt kb k = none) ∨ ∃ v v', valueAt ka k = some v ∧ valueAt kb k = some v' ∧ vsim v v' := by
  induction h with
  | nil => exact .inl ⟨rfl, rfl⟩
  | @cons k' v v' r r' hv _ ih =>
    by_cases e : k' = k
    · exact .inr ⟨v, v', by simp [valueAt, e], by simp [valueAt, e], hv⟩
    · simpa [valueAt, List.find?_cons, e] using ih
theorem KSim.keys {ka kb : List (Str × Value)} (h : KSim ka kb) : ka.map (·.1) = kb.map (·.1) := by
  induction h with
  | nil => rfl
  | cons _ _ ih => simp [ih]
theorem valueAt_mem {kvs : List (Str × Value)} {k : Str} (h : k ∈ kvs.map (·.1)) : ∃ v, valueAt kvs k = some v := by
  induction kvs with
  | nil => simp at h
  | cons p r ih =>
    by_cases e : p.1 = k
    · exact ⟨p.2, by simp [valueAt, e]⟩
    · obtain ⟨v, hv⟩ := ih (by simpa [Ne.symm e] using h)
      exact ⟨v, by simpa [valueAt, List.find?_cons, e] using hv⟩
theorem vsim.flat {v v' : Value} (h : vsim v v') : ∃ d, PyProof.V.Flat v d ∧ PyProof.V.Flat v' d ∧ PyData.eqv d d = true := by
  rcases h with ⟨b, rfl, rfl⟩ | ⟨n, t, t', rfl, rfl⟩
  · exact ⟨.bool b, .bool b, .bool b, by simp [PyData.eqv]⟩
  · exact ⟨.int n, .int n t, .int n t', by simp [PyData.eqv]⟩
theorem KSim.hits {A : Around} {s : Shared} {kb : List (Str × Value)} : ∀ {ka kb' : List (Str × Value)}, KSim ka kb' → (∀ k v v', (k, v) ∈ ka → vsim v v' → valueAt kb' k = some v' → valueAt kb k = some v') → (ka.map (·.1)).Nodup → KeqHits A s kb ka true
  | _, _, .nil, _, _ => .nil
  | _, _, .cons (k := k) (v := v) (v' := v') (r := r) (r' := r') hv hr, hk, hn => by
    obtain ⟨d, f, g, e⟩ := hv.flat
    have h1 := hk k v v' (List.Mem.head _) hv (by simp [valueAt])
    have h2 := hr.hits (A := A) (s := s) (kb := kb) (fun k₁ v₁ v₁' hm hs he => hk k₁ v₁ v₁' (.tail _ hm) hs (by
      have hne : k ≠ k₁ := by
        rintro rfl
        simp only [List.map_cons, List.nodup_cons] at hn
        exact hn.1 (List.mem_map.mpr ⟨_, hm, rfl⟩)
      simpa [valueAt, List.find?_cons, hne] using he)) (by simp only [List.map_cons, List.nodup_cons] at hn; exact hn.2)
    have := KeqHits.hit h1 (keq_flat (A := A) (s := s) f g) h2
    rw [e] at this
    exact this
theorem ne_held {w : World} {A : Around} {E : Value → Shared → Prop} {s : Shared} {h₀ : Heap} {L a b : Addr} {news : List (Addr × Obj)} {oa ob : Obj} {ka kb : List (Str × Value)} {Q : Value → Shared → Prop}
    (N : News h₀ L s.heap news) (pa : (a, oa) ∈ news) (pb : (b, ob) ∈ news) (da : oa.IsDictOf (PySem.strKind Challenge.rw_rg0209_01.row.prog w) ka) (db : ob.IsDictOf (PySem.strKind Challenge.rw_rg0209_01.row.prog w) kb) (la : (a == sysModules) = false) (lb : (b == sysModules) = false) (hs : KSim ka kb) (hu : A.units < cLine) (h : Q (.bool false) s) :
    wpAny (model Challenge.rw_rg0209_01.row.prog w) A (compareOp .NotEq (.ref a) (.ref b)) Q E s := by
  have hn : (ka.map (·.1)).Nodup := by obtain ⟨_, _, _, _, _, _, hn⟩ := da; exact hn
  exact kne_pairs (r := true) N pa pb da db la lb (by have := congrArg List.length hs.keys; simpa using this) hu (hs.hits (fun _ _ _ _ _ e => e) hn) h
theorem in_flags {w : World} {A : Around} {E : Value → Shared → Prop} {s : Shared} {h₀ : Heap} {L : Addr} {m : Str → Option Value} {nm : Str} {t : Tok} {fb : Bool} {Q : Value → Shared → Prop} (F : Fr h₀ L s.heap m) (X : (Mine.pre.heap_1 w.params).In h₀)
    (hf : flagNames.any (· == nm) = fb) (h : Q (.bool fb) s) : wpAny (model Challenge.rw_rg0209_01.row.prog w) A (compareOp .In (.str nm t) (.ref 323)) Q E s := by
  obtain ⟨o, ho, hc, hd⟩ : ∃ o, (Mine.pre.heap_1 w.params).lookup 323 = some o ∧ o.cls = .type "tuple" ∧ o.data = .seq #[.str (Str.ofString "print-success") 634, .str (Str.ofString "produce-models") 635, .str (Str.ofString "produce-unsat-cores") 636, .str (Str.ofString "minimal-unsat-cores") 637, .str (Str.ofString "produce-unsat-assumptions") 638, .str (Str.ofString "produce-proofs") 639, .str (Str.ofString "produce-assertions") 640, .str (Str.ofString "produce-assignments") 641] := ⟨_, rfl, rfl, rfl⟩
  exact in_tuple_strs (ys := flagNames) ⟨o, F.keep _ _ (X _ _ ho), hc, _, hd⟩ (.cons _ _ (.cons _ _ (.cons _ _ (.cons _ _ (.cons _ _ (.cons _ _ (.cons _ _ (.cons _ _ .nil)))))))) (by rw [hf]; exact h)
theorem opt_sub {w : World} {A : Around} {E : Value → Shared → Prop} {s : Shared} {h₀ : Heap} {L d : Addr} {news : List (Addr × Obj)} {o : Obj} {kvs : List (Str × Value)} {k : Str} {t : Tok} {v : Value} {Q : Value → Shared → Prop} {value slice : PySem.Expr}
    (N : News h₀ L s.heap news) (hp : (d, o) ∈ news) (ho : o.IsDictOf (PySem.strKind Challenge.rw_rg0209_01.row.prog w) kvs) (hl : valueAt kvs k = some v) (h : Q v { s with toks := s.toks + 1 })
    (hs : subscripted slice false (.ref d) (.str k t) = operate [.ref d, .str k t] (getItem (.ref d) (.str k t)) := by with_unfolding_all rfl) (hgo : ∀ r, letTemporaryGo value (.ref d) r = pure () := by intro _; with_unfolding_all rfl) :
    wpAny (model Challenge.rw_rg0209_01.row.prog w) A (subscriptTail value slice (.ref d) (.str k t)) Q E s :=
  kda_item (knd := PySem.strKind Challenge.rw_rg0209_01.row.prog w) (k := k) N hp ho (by simp [PySem.strKind, Value.isStrOf]) hl h hs hgo
end

local macro_rules | `(tactic| k_extra "mine subscriptTail") => `(tactic| (k_here; (with_reducible show wpAny _ _ (subscriptTail _ _ (Value.ref _) (Value.str _ _)) _ _ _); k_dflt (refine' opt_sub ?k1 ?k2 ?k3 ?k4 ?_; (case k1 => k_asm); (case k2 => k_mem); (case k3 | k4 => assumption); k_whole)))
local macro_rules | `(tactic| k_extra "mine compareOp In str ref") => `(tactic| (k_here; (with_reducible show wpAny _ _ (compareOp _ _ (Value.ref 323)) _ _ _); k_dflt (refine' in_flags ?k1 ?k2 ?k3 ?_; (case k1 | k2 => k_asm); (case k3 => assumption); k_whole)))
section
open PySem PySem.W PyProof.Rows PySem.Calls PySem.Spec
set_option maxRecDepth 100000
set_option maxHeartbeats 2000000
local macro_rules | `(tactic| k_extra "mine call type:str") => `(tactic| (k_here; k_dflt (refine' PySem.P.str_of_int ?k1 ?_; (case k1 => assumption); k_whole)))
theorem bne_absurd {x : Str} (h : (x != x) = true) : False := by simp at h
def OptsAre (kvs : List (Str × Value)) : Prop := kvs.map (·.1) = flagNames ++ numNames ∧ ∀ k v, valueAt kvs k = some v → okv v ∧ flagOf v = flagNames.any (· == k)
section
variable {prog : Program} {w : World} {A : Around} {E : Value → Shared → Prop} {s : Shared} {env : Env} {h₀ : Heap} {x : Str} {body : List Stmt} {Q : Flow → Shared → Prop}
theorem iter_tupF {D : Addr} {vs : List Value} {m0 : Str → Option Value} {news : List (Addr × Obj)} (xs : List Str) (R : Nat → List (Addr × Obj) → Prop) (hh : A.handled = none)
    (F : Fr h₀ env.locals s.heap m0) (N : News h₀ env.locals s.heap ((D, tupOf vs) :: news)) (hlt : ∀ p ∈ news, p.1 < D) (hj : R 0 news)
    (turn : ∀ i v nx h tk own (u : Str → Option Value), vs[i]? = some v → R i nx → nx.map (·.1) = news.map (·.1) → Fr h₀ env.locals h (fun y => if y = x then some v else if xs.contains y then u y else m0 y) → News h₀ env.locals h (nx ++ own) → OwnOff own (news.map (·.1)) →
      wpAny (model prog w) A (execs body env) (KTurn h₀ env.locals x xs m0 own (news.map (·.1)) (R (i + 1)) { s with heap := h, toks := tk }) E { s with heap := h, toks := tk })
    (done : ∀ (vo : Option Value) (u : Str → Option Value) nx h tk, R vs.length nx → Fr h₀ env.locals h (fun y => if y = x then vo else if xs.contains y then u y else m0 y) → News h₀ env.locals h nx → Q .next { s with heap := h, toks := tk }) :
    wpAny (model prog w) A (pyIter (.ref D)) (fun it s₂ => LoopAtV prog w A h₀ env x body Q E it s₂) E s := by
  have hD := N _ (List.Mem.head _)
  have hT : s.heap.IsTuple D vs.toArray := ⟨_, hD.1, rfl, _, rfl⟩
  have hne : D ≠ s.heap.objs.size := Nat.ne_of_lt (Heap.lt_size hD.1)
  refine wpAny_pyIter_tuple hT ?_
  have W := Walks.tuple (prog := prog) (w := w) hh s.heap.objs.size D hne vs.toArray
  have hlen : vs.toArray.size = vs.length := by simp
  rw [hlen] at W
  refine loop_flat (s := { s with heap := _ }) (news := news) xs R W ?_ ?_ ?_ ?_ ⟨⟨_, Heap.get?_push_size _ rfl, rfl, rfl⟩, hT.at fun o e => Heap.get?_push_of_some _ e⟩ (F.push _) (fun p hp => ⟨Heap.get?_push_of_some _ (N p (.tail _ hp)).1, (N p (.tail _ hp)).2⟩) hj ?_ ?_
  · intro hm
    rcases List.mem_cons.mp hm with e | hm
    · exact absurd F.ns.lt (e ▸ Nat.lt_irrefl _)
    · exact hD.2.1 (List.mem_singleton.mp hm).symm
  · intro b hb
    rw [List.mem_singleton.mp hb]
    exact next_is_new F
  · intro p hp hI
    exact absurd (Heap.lt_size (N p (.tail _ hp)).1) ((List.mem_singleton.mp hI) ▸ Nat.lt_irrefl _)
  · intro p hp hI
    rcases List.mem_cons.mp hI with e | hI
    · exact absurd (Heap.lt_size (N p (.tail _ hp)).1) (e ▸ Nat.lt_irrefl _)
    · exact absurd (hlt p hp) ((List.mem_singleton.mp hI) ▸ Nat.lt_irrefl _)
  · rintro i v nx h tk own u hin hP hR hadr F₁ N₁ hoff
    exact turn i v nx h tk own u (by simpa using hP) hR hadr F₁ N₁ hoff
  · exact done
end
theorem opt_in3 {w : World} {x dx vd : Addr} {ov : Obj} {tv : Tok} {news : List (Addr × Obj)} (h1 : (x, instObj 170 dx) ∈ news) (h2 : (dx, valsOf w tv vd) ∈ news) (h3 : (vd, ov) ∈ news) : ∀ q ∈ [(x, instObj 170 dx), (dx, valsOf w tv vd), (vd, ov)], q ∈ news := by
  intro q hq
  simp only [List.mem_cons, List.not_mem_nil, or_false] at hq
  rcases hq with rfl | rfl | rfl <;> assumption
local macro_rules | `(tactic| k_extra "mine call ref") => `(tactic| (k_here; (with_reducible show wpAny _ _ (call (Value.ref 160) _) _ _ _); k_dflt (refine' text_of_ok ?k1 ?k2 ?k3 ?k4 ?k5 ?k6 ?k7 ?h0 ?h1 ?h2 ?h3 ?_; (case k1 | k2 | k3 | k4 | k5 => k_asm); (case k6 => exact rfl); (case k7 => exact opt_in3 (by k_mem) (by k_mem) (by k_mem)); (case h0 | h1 => assumption); (case h2 => first | assumption | exact Or.inl ⟨_, rfl⟩ | exact Or.inr ⟨_, _, rfl, by assumption⟩); (case h3 => ktr_room)); intro h' tk' t' F' N' _; (try simp only [textOf, if_true, if_false, Bool.false_eq_true])))
local macro_rules | `(tactic| k_extra "mine call ref") => `(tactic| (k_here; (with_reducible show wpAny _ _ (call (Value.ref 125) _) _ _ _); k_dflt (refine' is_known_ok ?k1 ?k2 ?k3 ?k4 ?k5 ?k6 ?k7 ?h0 ?h1 ?h2 ?h3 ?_; (case k1 | k2 | k3 | k4 | k5 => k_asm); (case k6 => exact rfl); (case k7 => exact opt_in3 (by k_mem) (by k_mem) (by k_mem)); (case h0 | h1 | h2 => assumption); (case h3 => ktr_room)); intro h' tk' F' N' _))
local macro_rules | `(tactic| k_extra "mine call ref") => `(tactic| (k_here; (with_reducible show wpAny _ _ (call (Value.ref 139) _) _ _ _); k_dflt (refine' is_flag_ok ?k1 ?k2 ?k3 ?k4 ?k5 ?k6 ?k7 ?h0 ?h1 ?h2 ?h3 ?_; (case k1 | k2 | k3 | k4 | k5 => k_asm); (case k6 => exact rfl); (case k7 => exact opt_in3 (by k_mem) (by k_mem) (by k_mem)); (case h0 | h1 => assumption); (case h2 => first | assumption | exact Or.inl ⟨_, rfl⟩ | exact Or.inr ⟨_, _, rfl, by assumption⟩); (case h3 => ktr_room)); intro h' tk' F' N' _; (try dsimp only [flagOf])))
local macro_rules | `(tactic| k_extra "mine call ref") => `(tactic| (k_here; (with_reducible show wpAny _ _ (call (Value.ref 132) _) _ _ _); k_dflt (refine' is_on_ok ?k1 ?k2 ?k3 ?k4 ?k5 ?k6 ?k7 ?h0 ?h1 ?h2 ?h3 ?_; (case k1 | k2 | k3 | k4 | k5 => k_asm); (case k6 => exact rfl); (case k7 => exact opt_in3 (by k_mem) (by k_mem) (by k_mem)); (case h0 | h1 => assumption); (case h2 => first | assumption | exact Or.inl ⟨_, rfl⟩ | exact Or.inr ⟨_, _, rfl, by assumption⟩); (case h3 => ktr_room)); intro h' tk' F' N' _; (try dsimp only [onOf])))
section
variable {w : World} {vp : Program} {vl : List Str} {mean : ExcName → Option Value} {mg mb : Str → Option Value} {dp un : Nat} {gd : Option (List Code)} {cn : Str} {cs : Scope} {a : Addr} {ccd : Value} {cl : List (Str × Addr)} {outer : List Env} {A₀ : Around}
    {base h₀ : Heap} {L : Addr} {m : Str → Option Value} {s : Shared} {Q E : Value → Shared → Prop} {news : List (Addr × Obj)}
    (B : Below A₀ base outer h₀) (F : Fr h₀ L s.heap m) (X : (Mine.pre.heap_1 w.params).In h₀) (N : News h₀ L s.heap news) (T : Top vp vl mean mg mb h₀) (hk : cs.kind = .function)
include B F X N T hk

theorem stands_ok {x dx vd hd₀ : Addr} {ov oh : Obj} {tv : Tok} {kvs kvs' : List (Str × Value)}
    (hm : ∀ q ∈ [(x, instObj 170 dx), (dx, valsOf w tv vd), (vd, ov), (hd₀, oh)], q ∈ news) (hxv : x ≠ vd) (hdv : dx ≠ vd) (hhv : hd₀ ≠ vd) (hlo : (vd == sysModules) = false) (hlo' : (hd₀ == sysModules) = false)
    (hov : ov.IsDictOf (PySem.strKind Challenge.rw_rg0209_01.row.prog w) kvs) (hoh : oh.IsDictOf (PySem.strKind Challenge.rw_rg0209_01.row.prog w) kvs') (hsim : KSim kvs kvs') (hopts : OptsAre kvs)
    (hd : dp + 4 < recursionLimit) (hu : un + 512 < cLine)
    (hret : ∀ (h' : Heap) (tk' : Nat), Fr h₀ L h' m → News h₀ L h' news → Same s.heap h' → Q (.bool true) { s with heap := h', toks := tk' }) :
    wpAny (model Challenge.rw_rg0209_01.row.prog w) (ktrTop dp un gd cn cs L a ccd cl outer) (call (.ref 378) [.ref x, .ref hd₀]) Q E s := by
  w_top off
  k_with_none
  have hsz : kvs.length ≤ 100 := by have := congrArg List.length hopts.1; simp [flagNames, numNames] at this; omega
  k_with "call ref" => (k_here; k_dflt (refine' copied_ok (tv := tv) (vd := vd) (ov := ov) (dx := dx) (kvs := kvs) ?k1 ?k2 ?k3 ?k4 ?k5 ?k6 ?k7 ?k9 ?k10 ?k12 ?k13 ?k14 ?k15 ?_; (case k1 => k_asm); (case k2 => k_asm); (case k3 => k_asm); (case k4 => k_asm); (case k5 => k_asm); (case k6 => exact rfl); (case k7 => intro _ hq; simp only [List.mem_cons, List.not_mem_nil, or_false] at hq ⊢; rcases hq with rfl | rfl | rfl <;> simp); (case k9 => exact hxv); (case k10 => exact hdv); (case k12 => exact hlo); (case k13 => exact hov); (case k14 => exact hsz); (case k15 => ktr_room)); intro D o h' tk' F' N' hDne hDo hDlo hS')
  k_with "compareOp NotEq ref ref" => (k_here; k_dflt (refine' ne_held ?k1 ?k2 ?k3 ?k4 ?k5 ?k6 ?k7 ?k8 ?k9 ?_; (case k1 => k_asm); (case k2 => k_mem); (case k3 => k_mem); (case k4 => assumption); (case k5 => assumption); (case k6 => assumption); (case k7 => assumption); (case k8 => exact hsim); (case k9 => ktr_units); k_whole))
  k_with "setItem ref str" => (k_here; k_dflt (refine' opt_set ?z1 ?z2 ?z3 ?z4 ?z5 ?_; (case z1 => k_asm); (case z2 => k_asm); (case z3 => exact UpdF.head hDne); (case z4 => assumption); (case z5 => exact hsz); k_whole); intro h' o' F' N' hd')
  k_with "exec For Name BinOp cons nil" => (k_here; (rename Fr _ _ _ _ => lF'); (with_unfolding_all refine' For_invVF lF' ?f1 ?f2 ?_; (case f1 => exact rfl); (case f2 => exact rfl); k_whole))
  k_with "binaryOp Add ref ref" => (k_here; k_dflt (refine' kde_addT ?k1 ?k2 ?k3 ?k4 ?k5 ?k6 ?k7 ?k8 ?_; (case k1 => k_asm); (case k2 => k_asm); (case k3 => kun_tup); (case k4 => kun_tup); (case k5 => exact List.cons_ne_nil _ _); (case k6 => exact List.cons_ne_nil _ _); (case k7 => exact Nat.le_of_ble_eq_true rfl); (case k8 => kun_lit); k_whole); intro DT h' F' N' lT)
  refine wpAny_call ?_
  k_dflt cell_enter
  intro g' L' h' tk₁ FG' F' N' hG' B' X' T'
  try dsimp only
  try k_lift B'
  try (with_reducible change wpAny _ _ _ _ _ _)
  try k_fold
  k_steps
  have N2 : News g' L' h' ((DT, tupOf [.str (Str.ofString "print-success") 634, .str (Str.ofString "produce-models") 635, .str (Str.ofString "produce-unsat-cores") 636, .str (Str.ofString "minimal-unsat-cores") 637, .str (Str.ofString "produce-unsat-assumptions") 638, .str (Str.ofString "produce-proofs") 639, .str (Str.ofString "produce-assertions") 640, .str (Str.ofString "produce-assignments") 641, .str (Str.ofString "random-seed") 643, .str (Str.ofString "reproducible-resource-limit") 644, .str (Str.ofString "verbosity") 645]) :: [(x, instObj 170 dx), (dx, valsOf w tv vd), (vd, ov), (hd₀, oh)]) := fun q hq => N' q (by
    rcases List.mem_cons.mp hq with rfl | hq
    · exact .head _
    · exact .tail _ (.tail _ hq))
  refine' iter_tupF (xs := [Str.ofString "value", Str.ofString "is_flag"]) (R := fun _ nx => nx = [(x, instObj 170 dx), (dx, valsOf w tv vd), (vd, ov), (hd₀, oh)]) rfl ?xF ?xN ?xl ?xj ?_ ?_
  case xF => assumption
  case xN => exact N2
  case xl => exact fun p hp => lT p (.tail _ hp)
  case xj => rfl
  · rintro i v nx h tk own u hi rfl hadr F₁ N₁ hoff
    obtain ⟨nm, t, rfl, hnm, hnl⟩ : ∃ nm t, v = .str nm t ∧ nm ∈ flagNames ++ numNames ∧ nm.length ≤ 100 := by
      have := List.mem_of_getElem? hi
      simp only [List.mem_cons, List.not_mem_nil, or_false] at this
      rcases this with rfl | rfl | rfl | rfl | rfl | rfl | rfl | rfl | rfl | rfl | rfl <;> exact ⟨_, _, rfl, by decide, by decide⟩
    rcases hsim.at nm with ⟨h1, -⟩ | ⟨v₁, v₂, h1, h2, h3⟩
    · obtain ⟨v, hv⟩ := valueAt_mem (kvs := kvs) (k := nm) (by rw [hopts.1]; exact hnm)
      rw [hv] at h1; cases h1
    obtain ⟨hokv, hfl⟩ := hopts.2 nm v₁ h1
    rcases h3 with ⟨b, rfl, rfl⟩ | ⟨n, t1, t2, rfl, rfl⟩
    · have hfl' : flagNames.any (· == nm) = true := hfl.symm
      clear hi hnm
      cases b
      all_goals k_steps
      all_goals exact kturn_end (nx := [(x, instObj 170 dx), (dx, valsOf w tv vd), (vd, ov), (hd₀, oh)]) (by assumption) (by assumption) (by
        intro z hz hc
        simp only [List.contains_cons, List.contains_nil, Bool.or_false, Bool.or_eq_false_iff, beq_eq_false_iff_ne] at hc
        simp [hz, hc.1, hc.2]) (by intro p hp; simp only [List.mem_cons, List.not_mem_nil, or_false, List.mem_append] at hp ⊢; rcases hp with rfl | rfl | rfl | rfl <;> simp) (by intro p hp; simp [hp]) rfl rfl
    · have hfl' : flagNames.any (· == nm) = false := hfl.symm
      have hn : n.natAbs.log2 < 1920 := by
        rcases hokv with ⟨_, h⟩ | ⟨_, _, h, h'⟩
        · cases h
        · cases h; exact h'
      clear hi hnm
      k_steps
      · exact (bne_absurd (by assumption)).elim
      · exact kturn_end (nx := [(x, instObj 170 dx), (dx, valsOf w tv vd), (vd, ov), (hd₀, oh)]) (by assumption) (by assumption) (by
        intro z hz hc
        simp only [List.contains_cons, List.contains_nil, Bool.or_false, Bool.or_eq_false_iff, beq_eq_false_iff_ne] at hc
        simp [hz, hc.1, hc.2]) (by intro p hp; simp only [List.mem_cons, List.not_mem_nil, or_false, List.mem_append] at hp ⊢; rcases hp with rfl | rfl | rfl | rfl <;> simp) (by intro p hp; simp [hp]) rfl rfl
  · rintro vo u nx h tk rfl F₁ N₁
    k_steps
    intro hst
    have hS := same_of2 N hm (by assumption) (fun _ hq => hq) hst
    exact hret _ _ (by assumption) (news_keeps N hS) hS
end
end

section
open PySem PySem.W PyProof.Rows PySem.Calls PySem.Spec
set_option maxRecDepth 100000
set_option maxHeartbeats 2000000
section
variable {prog : Program} {w : World} {A : Around} {E : Value → Shared → Prop} {s : Shared}
theorem keys_miss_lk : typeLookup (.type "list") "keys" = pure none := am_miss_of_fast (by decide +kernel)
theorem keys_miss {a : Addr} {o : Obj} {xs : Array Value} {k : Nat} {Q : Option Value → Shared → Prop}
    (hx : s.heap.get? a = some o) (hc : o.cls = .type "list") (hdat : o.data = .seq xs k) (hd : o.dict = none) (hA : A.handled = none)
    (h : ∀ h' tk, (∀ b ob, s.heap.get? b = some ob → h'.get? b = some ob) → Q none { s with heap := h', toks := tk }) :
    wpAny (model prog w) A (getAttr? (.ref a) "keys") Q E s := by
  have hmiss := keys_miss_lk
  have hname : (["__module__", "__name__", "__qualname__", "__doc__", "__annotations__"] : List Str).contains ("keys" : Str) = false := by decide
  obtain ⟨c, dct, dat, sl⟩ := o
  simp only at hc hdat hd
  subst hc hdat hd
  obtain ⟨hp, g, d, tk, os⟩ := s
  have hT : ∀ tk', (⟨hp, g, d, tk', os⟩ : Shared).TypeIs (.ref a) "list" := fun _ => ⟨_, hx, rfl⟩
  have f1 := sub_AttributeError
  have f3 := F.slot_list_getattribute.lookup
  have f4 := F.slot_list_getattribute.bind (.ref a)
  have f5 := am_list_getattr_none
  unfold getAttr? getAttrBy? getAttrBy
  with_reducible refine wpAny_bind (wpAny_mkText ?_)
  with_reducible refine wpAny_bind (wpAny_attempt ?_)
  with_reducible refine wpAny_holding ?_
  with_reducible refine wpAny_bind (wpAny_typeOf (hT _) ?_)
  with_reducible refine wpAny_bind (wpAny_of_eq f3 ?_)
  show wpAny _ _ (getAttrByItsOwn (.ref a) (.str ("keys" : Str) tk) (.type "list") (.builtin "list.__getattribute__") false false) _ _ _
  unfold getAttrByItsOwn hookBefore callGetattribute boundAndCalled
  with_reducible refine wpAny_bind (wpAny_of_eq (show (if onTheHeap (.type "list") then typeLookup (.type "list") "__getattr__" else pure none) = pure none from rfl) ?_)
  with_reducible refine wpAny_bind (wpAny_attempt ?_)
  with_reducible refine wpAny_holding ?_
  show wpAny _ _ (bindSpecial (.builtin "list.__getattribute__") (.ref a) >>= _) _ _ _
  with_reducible refine wpAny_bind (wpAny_of_eq f4 ?_)
  refine call_meets F.slot_list_getattribute (hT _) am_entry_list_getattribute (F.args_list_getattribute_2 _ _) (meets_getattribute_miss_list a xs k sl ("keys" : Str) _ hmiss hname (by decide)) ⟨hx, hA, fun h' tk' e hx' => ?_⟩
  obtain ⟨t', u', he⟩ := hx'.there
  show wpAny _ _ (getattributeRaised _ _ _ _ _ _ _) _ _ _
  unfold getattributeRaised
  repeat (any_goals (first | assumption | wp_step))
  exact h _ _ hx'.keeps
theorem upd_entry : entryFor table "dict.update.loop" = some Builtin.«dict.update.loop» := entryFor_of_fast (by kernel_rfl)
theorem upd_plain : plainId "dict.update.loop" = true := by decide +kernel
/-- the items of a list are pairs -/
def PairsIn {K : Type} [DecidableEq K] (knd : KeyKind prog w K) (h : Heap) (its : Array Value) (more : List (K × Value)) : Prop :=
  its.size = more.length ∧ ∀ (i : Nat) v, its[i]? = some v → ∃ (t : Addr) (key x : Value) (k : K) (o : Obj) (n : Nat), v = .ref t ∧ h.get? t = some o ∧ o.cls = .type "tuple" ∧ o.data = .seq #[key, x] n ∧ more[i]? = some (k, x) ∧ knd.is k key = true
theorem upd_loop {K : Type} [DecidableEq K] {knd : KeyKind prog w K} {R : Result → Shared → Prop} (hh : A.in1.handled = none) {I ax D : Addr} {its : Array Value} {more : List (K × Value)} {s₀ : Heap}
    (haI : ax ≠ I) (hDI : D ≠ I) (hDa : D ≠ ax) (hP : PairsIn knd s₀ its more) (hDn : s₀.get? D = none) (hIn : s₀.get? I = none) (hsz : more.length ≤ 100) :
    ∀ (k i : Nat) (j : Int) (s : Shared) (t : Tok), its.size - i = k → i ≤ its.size → s.heap.IsListIter I ax i → s.heap.IsList ax its → s.heap.DictOf knd D (merged [] (more.take i)) → (∀ b o, s₀.get? b = some o → s.heap.get? b = some o) →
    (∀ h' tk, h'.DictOf knd D (merged [] more) → (∀ b o, b ≠ D → b ≠ I → s.heap.get? b = some o → h'.get? b = some o) → R (.ok (.ret .none)) { s with heap := h', toks := tk }) →
    codeAny (model prog w) A (.builtin "dict.update.loop" ⟨[.ref D, .ref I, .int j t, .none], []⟩) R s := by
  have W := Walks.list (prog := prog) (w := w) hh I ax haI its
  intro k
  induction k with
  | zero =>
    intro i j s t hk hi hI hax hD hkeep hR
    have hin : i = its.size := by omega
    subst hin
    refine codeAny_builtin upd_entry ?_
    rw [Around.under_plainId upd_plain _]
    show wpAny _ A.in1 (pyNext (.ref I) >>= _) _ _ s
    refine wpAny_bind (W.done s _ _ ⟨hI, hax⟩ fun h' tk hm => ?_)
    show wpAny _ _ (Builtin.Dict.addKeywords D [] >>= _) _ _ _
    refine wpAny_bind (wpAny_pure (wpAny_pure (hR h' tk ?_ fun b o _ hb e => hm b o (by simpa using hb) e)))
    rw [hP.1, List.take_length] at hD
    exact hD.at fun o e => hm D o (by simpa using hDI) e
  | succ k ih =>
    intro i j s t hk hi hI hax hD hkeep hR
    have hlt : i < its.size := by omega
    refine codeAny_builtin upd_entry ?_
    rw [Around.under_plainId upd_plain _]
    show wpAny _ A.in1 (pyNext (.ref I) >>= _) _ _ s
    refine wpAny_bind (W.item i s _ _ hlt ⟨hI, hax⟩ fun v h' tk hv st hm => ?_)
    obtain ⟨T, key, x, kk, o, n, rfl, hT, hTc, hTd, hmore, hkey⟩ := hP.2 i v hv
    have hTI : T ≠ I := by rintro rfl; rw [hIn] at hT; cases hT
    have hTD : T ≠ D := by rintro rfl; rw [hDn] at hT; cases hT
    have hT' : h'.get? T = some o := hm _ _ (by simpa using hTI) (hkeep _ _ hT)
    show wpAny _ A.in1 (holding [Value.ref T] _ >>= _) _ _ _
    refine wpAny_bind (wpAny_holding ?_)
    refine wpAny_bind (wpAny_tryCatch ?_)
    unfold Builtin.Dict.pairItems
    refine wpAny_bind (wpAny_typeOf (show Shared.TypeIs _ (.ref T) "tuple" from ⟨_, hT', hTc⟩) ?_)
    simp only [beq_self_eq_true, Bool.or_true, if_true]
    refine wpAny_bind (wpAny_seqItems hT' hTd (wpAny_pure ?_))
    show wpAny _ A.in1 (holding [key, x] (dictSet D key x)) _ _ _
    refine wpAny_holding ?_
    have hD' : h'.DictOf knd D (merged [] (more.take i)) := hD.at fun o e => hm D o (by simpa using hDI) e
    refine wpAny_dictSet_pairs hkey hD' (fun h'' hd'' hs'' => ?_) ?_
    · have hs2 : ∀ b o, b ≠ D → h'.get? b = some o → h''.get? b = some o := fun b o hb e => (hs''.2 b hb).trans e
      refine wpAny_pure ⟨plainId_quiet upd_plain _, ih (i + 1) _ _ _ (by omega) hlt (st.1.at fun o e => ?_) (st.2.at fun o e => ?_) ?_ (fun b o e => ?_) fun h₃ tk₃ hd₃ hk₃ => ?_⟩
      · exact hs2 _ _ (Ne.symm hDI) e
      · exact hs2 _ _ (Ne.symm hDa) e
      · rw [merged_take_succ _ _ _ _ hmore]; exact hd''
      · refine hs2 _ _ ?_ (hm b o ?_ (hkeep b o e))
        · rintro rfl; rw [hDn] at e; cases e
        · rintro hb; rw [List.mem_singleton.mp hb, hIn] at e; cases e
      · exact hR h₃ tk₃ hd₃ fun b o hb1 hb2 e => hk₃ b o hb1 hb2 (hs2 _ _ hb1 (hm b o (by simpa using hb2) e))
    · have h1 := merged_length_le ([] : List (K × Value)) (more.take i)
      have h2 : (more.take i).length ≤ more.length := by rw [List.length_take]; omega
      simp only [List.length_nil] at h1
      rw [sizeLine_eq]; omega

theorem call_dict_pairs {K : Type} [DecidableEq K] {knd : KeyKind prog w K} {ls : Addr} {lo : Obj} {its : Array Value} {n : Nat} {more : List (K × Value)} {Q : Value → Shared → Prop} (hA : A.handled = none)
    (hls : s.heap.get? ls = some lo) (hc : lo.cls = .type "list") (hdat : lo.data = .seq its n) (hd : lo.dict = none) (hP : PairsIn knd s.heap its more) (hsz : more.length ≤ 100)
    (h : ∀ h' tk, h'.DictOf knd s.heap.objs.size (merged [] more) → (∀ b o, s.heap.get? b = some o → h'.get? b = some o) → Q (.ref s.heap.objs.size) { s with heap := h', toks := tk }) :
    wpAny (model prog w) A (call (.type "dict") [.ref ls]) Q E s := by
  refine callType_codes (Q₁ := fun obj s₁ => obj = .ref s.heap.objs.size ∧ s₁ = { s with heap := s.heap.push { cls := .type "dict", data := .dict #[] } }) F.kt_called_dict (F.kt_typeCall_dict_1 _) F.entry_dict_init (kt_code_dict_new _ ⟨rfl, rfl⟩) ?_
  rintro obj s₁ ⟨rfl, rfl⟩
  have hnew : (s.heap.push { cls := .type "dict", data := .dict #[] }).DictOf knd s.heap.objs.size [] := Heap.DictOf.new s.heap
  have hls' : (s.heap.push { cls := .type "dict", data := .dict #[] }).get? ls = some lo := Heap.get?_push_of_some _ hls
  have hlt : ls < s.heap.objs.size := Heap.lt_size hls
  have hT : ∀ h₁ : Heap, ∀ tk, h₁.get? ls = some lo → Shared.TypeIs { s with heap := h₁, toks := tk } (.ref ls) "list" := fun _ _ e => ⟨_, e, hc⟩
  refine ⟨hnew.typeIs, F.args_dict_init_2 _ _, ?_⟩
  unfold Builtin.«dict.__init__»
  refine wpAny_bind ?_
  unfold Builtin.Dict.selfAndRest
  refine wpAny_bind (wpAny_notOrdered_dict hnew.typeIs ?_)
  show wpAny _ _ (pure (s.heap.objs.size, [Value.ref ls])) _ _ _
  refine wpAny_pure ?_
  show wpAny _ _ (Builtin.Dict.updateFrom "dict.__init__" s.heap.objs.size (.ref ls) [] .none) _ _ _
  unfold Builtin.Dict.updateFrom
  refine wpAny_bind (wpAny_typeOf (hT _ s.toks hls') ?_)
  rw [if_pos (by decide)]
  refine wpAny_bind (keys_miss hls' hc hdat hd hA fun h₁ tk₁ hk₁ => ?_)
  simp only [Option.isNone_none, if_true]
  refine wpAny_bind (wpAny_rule ?_)
  have hls₁ : h₁.get? ls = some lo := hk₁ _ _ hls'
  have hL₁ : h₁.IsList ls its := ⟨lo, hls₁, hc, n, hdat⟩
  refine wpAny_bind (wpAny_pyIter_list hL₁ ?_)
  have hDlt : s.heap.objs.size < h₁.objs.size := by
    obtain ⟨_, _, _, hg, _⟩ := hnew
    exact Heap.lt_size (hk₁ _ _ hg)
  have hup : ∀ b o, s.heap.get? b = some o → h₁.get? b = some o := fun b o e => hk₁ _ _ (Heap.get?_push_of_some _ e)
  refine wpAny_pure ?_
  refine ⟨plainId_quiet upd_plain _, upd_loop (A := A.in1) (knd := knd) (s₀ := s.heap) hA (I := h₁.objs.size) (ax := ls) (D := s.heap.objs.size) (its := its) (more := more) (Nat.ne_of_lt (Nat.lt_trans hlt hDlt)) (Nat.ne_of_lt hDlt) (Nat.ne_of_gt hlt) hP
    (Heap.get?_none_of_le (Nat.le_refl _)) (Heap.get?_none_of_le (Nat.le_of_lt hDlt)) hsz _ 0 0 _ _ rfl (Nat.zero_le _) ⟨_, Heap.get?_push_size _ rfl, rfl, rfl⟩ (hL₁.push _) ?_ (fun b o e => Heap.get?_push_of_some _ (hup b o e)) fun h' tk hd' hk' => ?_⟩
  · exact (hnew.at fun o e => Heap.get?_push_of_some _ (hk₁ _ _ e))
  · refine ⟨rfl, h h' tk hd' fun b o e => hk' b o ?_ ?_ (Heap.get?_push_of_some _ (hup b o e))⟩
    · exact Nat.ne_of_lt (Heap.lt_size e)
    · exact Nat.ne_of_lt (Nat.lt_trans (Heap.lt_size e) hDlt)
end
end

section
open PySem PySem.W PyProof.Rows PySem.Calls PySem.Spec
set_option maxRecDepth 100000
set_option maxHeartbeats 2000000
section
open LCg
variable {prog : Program} {w : World} {A : Around} {E : Value → Shared → Prop} {s : Shared} {h₀ : Heap} {L : Addr} {m : Str → Option Value} {env : Env}
def CompTup (prog : Program) (w : World) (A : Around) (h₀ : Heap) (L : Addr) (m : Str → Option Value) (env : Env) (elt : PySem.Expr) (x : Str) (scope : Scope) (cl : List (Str × Addr)) (Q : Value → Shared → Prop) (xv : Value) (s₁ : Shared) : Prop :=
  ∃ ax its news, xv = .ref ax ∧ A.handled = none ∧ Fr h₀ L s₁.heap m ∧ News h₀ L s₁.heap news ∧ h₀.IsTuple ax its ∧ its.size ≤ sizeLine ∧
    ∀ g, CompRest prog w A h₀ L m env elt x scope cl { s₁ with heap := g } (fun _ => True) (fun i v => its[i]? = some v) (FinE h₀ L m { s₁ with heap := g } Q) its.size 0 [] news
theorem CompTup.intro {elt : PySem.Expr} {x : Str} {scope : Scope} {cl : List (Str × Addr)} {Q : Value → Shared → Prop} {ax : Addr} {its : Array Value} {news : List (Addr × Obj)} {s₁ : Shared}
    (hh : A.handled = none) (F : Fr h₀ L s₁.heap m) (N : News h₀ L s₁.heap news) (ht : h₀.IsTuple ax its) (hsz : its.size ≤ sizeLine)
    (h : ∀ g, CompRest prog w A h₀ L m env elt x scope cl { s₁ with heap := g } (fun _ => True) (fun i v => its[i]? = some v) (FinE h₀ L m { s₁ with heap := g } Q) its.size 0 [] news) : CompTup prog w A h₀ L m env elt x scope cl Q (.ref ax) s₁ :=
  ⟨ax, its, news, rfl, hh, F, N, ht, hsz, h⟩
theorem ListComp_Tup {elt iter : PySem.Expr} {x : Str} {px : PySem.Pos} {scope : Scope} {cl : List (Str × Addr)} {pos : PySem.Pos} {Q : Value → Shared → Prop} (_F₀ : Fr h₀ L s.heap m)
    (hclos : closureFor scope env = pure cl) (hcell : ∀ y ∈ scope.names, y.2 ≠ .cell) (hkind : scope.kind = .function)
    (hnames : ∀ y ∈ scope.names, y.2 = .local → scope.names.lookup y.1 = some .local) (hx : scope.names.lookup x = some .local)
    (h : wpAny (model prog w) A (eval iter env) (CompTup prog w A h₀ L m env elt x scope cl Q) E s)
    (hs : ∀ x, foldedSetIterable iter env x = pure x := by intro _; rfl) :
    wpAny (model prog w) A (eval (.ListComp elt [⟨.Name x px, iter, [], 0⟩] scope pos) env) Q E s := by
  rw [eval_ListComp]
  refine wpAny_comprehension_free (use := none) rfl hs hclos hkind hnames (wpAny_mono h (fun xv s₁ h₁ => ?_) fun _ _ e => e)
  obtain ⟨ax, its, news, rfl, hh, F, N, hT, hsz, R⟩ := h₁
  have hl : s₁.heap.IsTuple ax its := by obtain ⟨o, ho, r⟩ := hT; exact ⟨o, F.keep _ _ ho, r⟩
  have hlt : ax < s₁.heap.objs.size := by obtain ⟨_, e, _⟩ := hl; exact Heap.lt_size e
  refine wpAny_pyIter_tuple hl ?_
  have up : ∀ b o, s₁.heap.get? b = some o → (s₁.heap.push { cls := .type "tuple_iterator", data := .fields #[.ref ax, .int 0 0] }).get? b = some o := fun b o e => Heap.get?_push_of_some _ e
  refine block_U (S := fun _ => True) (Walks.tuple hh s₁.heap.objs.size ax (Nat.ne_of_lt hlt) its) hsz (fun i h st => by obtain ⟨o, e, _⟩ := st.1; exact ⟨o, e⟩) (fun i h h' o nw st e e' k _ _ => ⟨by obtain ⟨o', q, r⟩ := st.1; rw [e] at q; cases q; exact ⟨o, e', r⟩, by obtain ⟨o', q, r⟩ := hT; exact ⟨o', k _ _ q, r⟩⟩) hcell hkind hx ⟨⟨_, Heap.get?_push_size _ rfl, rfl, rfl⟩, hl.at fun o e => up _ o e⟩ (fun b hb => ?_)
    (F.keeps up) (N.grown up) (Nat.ne_of_lt F.ns.lt) (next_is_new F) (fun p hp => Nat.ne_of_lt (Heap.lt_size (N p hp).1)) trivial (R _) ?_
  · show b < (s₁.heap.push _).objs.size
    rw [Heap.size_push]
    rcases List.mem_cons.mp hb with rfl | hb
    · exact Nat.lt_succ_self _
    · rw [List.mem_singleton.mp hb]; exact Nat.lt_succ_of_lt hlt
  · intro D C h tk m' ys news' F' N' o1 hn hC₀ hD₀ hCL hDL hCD offC fin
    refine ⟨m', hn, fun h'' hs'' => fin D h'' tk (F'.change hs'' hCL hC₀) (fun p hp => ?_) o1⟩
    refine ⟨hs''.extBut _ _ ?_ (N' p hp).1, (N' p hp).2⟩
    rcases List.mem_cons.mp hp with rfl | hp
    · exact Ne.symm hCD
    · exact offC p hp
end
theorem flags_tup {w : World} {h₀ : Heap} (X : (Mine.pre.heap_1 w.params).In h₀) : h₀.IsTuple 323 #[.str (Str.ofString "print-success") 634, .str (Str.ofString "produce-models") 635, .str (Str.ofString "produce-unsat-cores") 636, .str (Str.ofString "minimal-unsat-cores") 637, .str (Str.ofString "produce-unsat-assumptions") 638, .str (Str.ofString "produce-proofs") 639, .str (Str.ofString "produce-assertions") 640, .str (Str.ofString "produce-assignments") 641] := by
  obtain ⟨o, ho, hc, hd⟩ : ∃ o, (Mine.pre.heap_1 w.params).lookup 323 = some o ∧ o.cls = .type "tuple" ∧ o.data = .seq #[.str (Str.ofString "print-success") 634, .str (Str.ofString "produce-models") 635, .str (Str.ofString "produce-unsat-cores") 636, .str (Str.ofString "minimal-unsat-cores") 637, .str (Str.ofString "produce-unsat-assumptions") 638, .str (Str.ofString "produce-proofs") 639, .str (Str.ofString "produce-assertions") 640, .str (Str.ofString "produce-assignments") 641] := ⟨_, rfl, rfl, rfl⟩
  exact ⟨o, X _ _ ho, hc, _, hd⟩
theorem nums_tup {w : World} {h₀ : Heap} (X : (Mine.pre.heap_1 w.params).In h₀) : h₀.IsTuple 324 #[.str (Str.ofString "random-seed") 643, .str (Str.ofString "reproducible-resource-limit") 644, .str (Str.ofString "verbosity") 645] := by
  obtain ⟨o, ho, hc, hd⟩ : ∃ o, (Mine.pre.heap_1 w.params).lookup 324 = some o ∧ o.cls = .type "tuple" ∧ o.data = .seq #[.str (Str.ofString "random-seed") 643, .str (Str.ofString "reproducible-resource-limit") 644, .str (Str.ofString "verbosity") 645] := ⟨_, rfl, rfl, rfl⟩
  exact ⟨o, X _ _ ho, hc, _, hd⟩
end

section
open PySem PySem.W PyProof.Rows PySem.Calls PySem.Spec
set_option maxRecDepth 100000
set_option maxHeartbeats 2000000
/-- the items of a made list are made pairs of a text and a value -/
inductive PairsL (news : List (Addr × Obj)) : List Value → List (Str × Value) → Prop
  | nil : PairsL news [] []
  | cons {T : Addr} {k : Str} {t : Tok} {x : Value} {n : Nat} {vs : List Value} {more : List (Str × Value)} (h : (T, ({ cls := .type "tuple", data := .seq #[.str k t, x] n } : Obj)) ∈ news) (r : PairsL news vs more) : PairsL news (.ref T :: vs) ((k, x) :: more)
theorem PairsL.length {news : List (Addr × Obj)} {vs : List Value} {more : List (Str × Value)} (h : PairsL news vs more) : vs.length = more.length := by
  induction h with
  | nil => rfl
  | cons _ _ ih => simp [ih]
section
variable {prog : Program} {w : World} {A : Around} {E : Value → Shared → Prop} {s : Shared} {h₀ : Heap} {L : Addr} {m : Str → Option Value} {news : List (Addr × Obj)} {Q : Value → Shared → Prop}
theorem PairsL.at {vs : List Value} {more : List (Str × Value)} (N : News h₀ L s.heap news) (h : PairsL news vs more) : PairsIn (PySem.strKind prog w) s.heap vs.toArray more := by
  refine ⟨by simp [h.length], ?_⟩
  induction h with
  | nil => intro i v h; simp at h
  | @cons T k t x n vs more hm r ih =>
    intro i v hv
    cases i with
    | zero =>
      have : v = .ref T := by simpa using hv.symm
      exact ⟨T, .str k t, x, k, _, n, this, (N _ hm).1, rfl, rfl, rfl, strKind_is _ _ _ _⟩
    | succ i => exact ih i v (by simpa using hv)
theorem dict_pairs {ls : Addr} {vs : List Value} {n : Nat} {more : List (Str × Value)} (F : Fr h₀ L s.heap m) (N : News h₀ L s.heap news) (hbig : h₀.NoLimit) (hA : A.handled = none) (hm : (ls, ({ cls := .type "list", data := .seq vs.toArray n } : Obj)) ∈ news) (hP : PairsL news vs more) (hn : (more.map (·.1)).Nodup) (hsz : more.length ≤ 100)
    (h : ∀ (D : Addr) (h' : Heap) (o : Obj) (tk : Nat), Fr h₀ L h' m → News h₀ L h' ((D, o) :: news) → (∀ p ∈ news, p.1 < D) → (D == sysModules) = false → o.IsDictOf (PySem.strKind prog w) more → Q (.ref D) { s with heap := h', toks := tk }) :
    wpAny (model prog w) A (call (.type "dict") [.ref ls]) Q E s := by
  refine call_dict_pairs (knd := PySem.strKind prog w) hA (N _ hm).1 rfl rfl rfl (hP.at N) hsz fun h' tk hd' hk => ?_
  rw [merged_nil_of_nodup more hn] at hd'
  obtain ⟨o, ho, hd⟩ := Heap.dictOf_iff.mp hd'
  refine h _ h' o tk (F.keeps hk) (fun p hp => ?_) (fun p hp => Heap.lt_size (N p hp).1) (F.notModules (modules_low hbig)) hd
  rcases List.mem_cons.mp hp with rfl | hp
  · exact ⟨ho, Nat.ne_of_gt F.ns.lt, next_is_new F⟩
  · exact ⟨hk _ _ (N p hp).1, (N p hp).2⟩
theorem dict_copy {ds : Addr} {od : Obj} {kvs : List (Str × Value)} (F : Fr h₀ L s.heap m) (N : News h₀ L s.heap news) (hbig : h₀.NoLimit) (hm : (ds, od) ∈ news) (hlo : (ds == sysModules) = false) (hod : od.IsDictOf (PySem.strKind prog w) kvs) (hsz : kvs.length ≤ 100)
    (h : ∀ (D : Addr) (h' : Heap) (o : Obj), Fr h₀ L h' m → News h₀ L h' ((D, o) :: news) → (∀ p ∈ news, p.1 < D) → (D == sysModules) = false → o.IsDictOf (PySem.strKind prog w) kvs → Q (.ref D) { s with heap := h' }) :
    wpAny (model prog w) A (call (.type "dict") [.ref ds]) Q E s := by
  refine kt_call_dict (knd := PySem.strKind prog w) hlo (Heap.dictOf_iff.mpr ⟨od, (N _ hm).1, hod⟩) (by rw [sizeLine_eq]; omega) fun h' hd' hs => ?_
  obtain ⟨o, ho, hd⟩ := Heap.dictOf_iff.mp hd'
  have N1 := News.push F N { cls := .type "dict", data := .dict #[] }
  exact h _ h' o ((F.push _).change hs (N1 _ (.head _)).2.1 (N1.fresh (.head _))) (N1.setHead N.apart hs ho) (fun p hp => Heap.lt_size (N p hp).1) (F.notModules (modules_low hbig)) hd
end
theorem pairs11 {news : List (Addr × Obj)} {T0 : Addr} {k0 : Str} {t0 : Tok} {x0 : Value} {n0 : Nat} {T1 : Addr} {k1 : Str} {t1 : Tok} {x1 : Value} {n1 : Nat} {T2 : Addr} {k2 : Str} {t2 : Tok} {x2 : Value} {n2 : Nat} {T3 : Addr} {k3 : Str} {t3 : Tok} {x3 : Value} {n3 : Nat} {T4 : Addr} {k4 : Str} {t4 : Tok} {x4 : Value} {n4 : Nat} {T5 : Addr} {k5 : Str} {t5 : Tok} {x5 : Value} {n5 : Nat} {T6 : Addr} {k6 : Str} {t6 : Tok} {x6 : Value} {n6 : Nat} {T7 : Addr} {k7 : Str} {t7 : Tok} {x7 : Value} {n7 : Nat} {T8 : Addr} {k8 : Str} {t8 : Tok} {x8 : Value} {n8 : Nat} {T9 : Addr} {k9 : Str} {t9 : Tok} {x9 : Value} {n9 : Nat} {T10 : Addr} {k10 : Str} {t10 : Tok} {x10 : Value} {n10 : Nat} (h0 : (T0, ({ cls := .type "tuple", data := .seq #[.str k0 t0, x0] n0 } : Obj)) ∈ news) (h1 : (T1, ({ cls := .type "tuple", data := .seq #[.str k1 t1, x1] n1 } : Obj)) ∈ news) (h2 : (T2, ({ cls := .type "tuple", data := .seq #[.str k2 t2, x2] n2 } : Obj)) ∈ news) (h3 : (T3, ({ cls := .type "tuple", data := .seq #[.str k3 t3, x3] n3 } : Obj)) ∈ news) (h4 : (T4, ({ cls := .type "tuple", data := .seq #[.str k4 t4, x4] n4 } : Obj)) ∈ news) (h5 : (T5, ({ cls := .type "tuple", data := .seq #[.str k5 t5, x5] n5 } : Obj)) ∈ news) (h6 : (T6, ({ cls := .type "tuple", data := .seq #[.str k6 t6, x6] n6 } : Obj)) ∈ news) (h7 : (T7, ({ cls := .type "tuple", data := .seq #[.str k7 t7, x7] n7 } : Obj)) ∈ news) (h8 : (T8, ({ cls := .type "tuple", data := .seq #[.str k8 t8, x8] n8 } : Obj)) ∈ news) (h9 : (T9, ({ cls := .type "tuple", data := .seq #[.str k9 t9, x9] n9 } : Obj)) ∈ news) (h10 : (T10, ({ cls := .type "tuple", data := .seq #[.str k10 t10, x10] n10 } : Obj)) ∈ news) : PairsL news [.ref T0, .ref T1, .ref T2, .ref T3, .ref T4, .ref T5, .ref T6, .ref T7, .ref T8, .ref T9, .ref T10] [(k0, x0), (k1, x1), (k2, x2), (k3, x3), (k4, x4), (k5, x5), (k6, x6), (k7, x7), (k8, x8), (k9, x9), (k10, x10)] := (.cons h0 (.cons h1 (.cons h2 (.cons h3 (.cons h4 (.cons h5 (.cons h6 (.cons h7 (.cons h8 (.cons h9 (.cons h10 .nil)))))))))))
end

section
open PySem PySem.W PyProof.Rows PySem.Calls PySem.Spec
set_option maxRecDepth 100000
set_option maxHeartbeats 2000000

abbrev scD (w : World) (t1 t2 : Tok) (T : Str) (tt : Tok) (p : Int) (tp : Tok) : Obj := dictOf [{ hash := PyData.keyHash w.params (Str.ofString "text"), key := .str (Str.ofString "text") t1, val := .str T tt }, { hash := PyData.keyHash w.params (Str.ofString "spot"), key := .str (Str.ofString "spot") t2, val := .int p tp }] 2
theorem news_scan {h₀ h' : Heap} {L : Addr} {news : List (Addr × Obj)} {p1 p2 : Addr × Obj} (kN : News h₀ L h' [p1, p2]) (hr : News h₀ L h' news) : News h₀ L h' (p1 :: p2 :: news) := by
  intro q hq
  rcases List.mem_cons.mp hq with rfl | hq
  · exact kN _ (by simp)
  rcases List.mem_cons.mp hq with rfl | hq
  · exact kN _ (by simp)
  · exact hr q hq
section
variable {w : World} {vp : Program} {vl : List Str} {mean : ExcName → Option Value} {mg mb : Str → Option Value} {dp un : Nat} {gd : Option (List Code)} {cn : Str} {cs : Scope} {a : Addr} {ccd : Value} {cl : List (Str × Addr)} {outer : List Env} {A₀ : Around}
    {base h₀ : Heap} {L : Addr} {m : Str → Option Value} {s : Shared} {Q E : Value → Shared → Prop} {news : List (Addr × Obj)}
    (B : Below A₀ base outer h₀) (F : Fr h₀ L s.heap m) (X : (Mine.pre.heap_1 w.params).In h₀) (N : News h₀ L s.heap news) (T : Top vp vl mean mg mb h₀) (hk : cs.kind = .function)
include B F X N T hk

theorem scan_new {T : Str} {tt : Tok}
    (hd : dp + 1 < recursionLimit)
    (hret : ∀ (x dx : Addr) (t1 t2 t3 : Tok) (h' : Heap) (tk' : Nat), Fr h₀ L h' m → News h₀ L h' ((x, instObj 297 dx) :: (dx, scD w t1 t2 T tt 0 t3) :: news) →
      (∀ p ∈ news, p.1 < dx) → @LT.lt Nat _ dx x → Q (.ref x) { s with heap := h', toks := tk' }) :
    wpAny (model Challenge.rw_rg0209_01.row.prog w) (ktrTop dp un gd cn cs L a ccd cl outer) (call (.ref 297) [.str T tt]) Q E s := by
  w_top off
  k_with_none
  (refine' call_cls ?k1 ?k2 ?k3 ?k4 ?k5 ?k6 ?_; (case k1 => k_asm); (case k2 => k_asm); (case k3 => k_asm); (case k4 => k_is); (case k5 => k_is); (case k6 => k_is))
  intro x dx h₁ F₁ N₁ hl1 l2
  k_lt2 l2
  have hm : ∀ q ∈ [(x, instObj 297 dx), (dx, dictOf [] 0)], q ∈ (x, instObj 297 dx) :: (dx, dictOf [] 0) :: news := by simp
  k_dflt cell_enter
  intro g' L' h' tk₁ FG' F' N' hG' B' X' T'
  try dsimp only
  try k_lift B'
  try (with_reducible change wpAny _ _ _ _ _ _)
  try k_fold
  k_steps
  intro hst
  refine ⟨rfl, hret x dx _ _ _ _ _ (by assumption) (news_scan (by assumption) fun q hq => ⟨hst _ _ (N₁ q (.tail _ (.tail _ hq))).1 ?_, (N q hq).2⟩) hl1 l2⟩
  have h1 := ltN (hl1 q hq)
  intro h
  simp at h
  rcases h with h | h
  · rw [h] at h1; omega
  · rw [h] at h1; omega
end
end

section
open PySem PySem.W PyProof.Rows PySem.Calls PySem.Spec
set_option maxRecDepth 100000
set_option maxHeartbeats 2000000

theorem fits_small {p : Nat} (h : p ≤ 1000) : fitsSsize (p : Int) = true := by
  unfold fitsSsize
  simp only [Bool.not_eq_true', Bool.or_eq_false_iff, decide_eq_false_iff_not]
  constructor <;> omega
end

local macro_rules | `(tactic| k_extra "mine subscriptTail") => `(tactic| (k_here; (with_reducible show wpAny _ _ (subscriptTail _ _ (Value.str _ _) (Value.int _ _)) _ _ _); k_dflt (refine' item_str ?k1 ?k2 ?k3 ?_; (case k1 => exact fits_small (by omega)); (case k2 | k3 => omega); k_whole); intro _))
section
open PySem PySem.W PyProof.Rows PySem.Calls PySem.Spec
set_option maxRecDepth 100000
set_option maxHeartbeats 2000000
section
variable {w : World} {vp : Program} {vl : List Str} {mean : ExcName → Option Value} {mg mb : Str → Option Value} {dp un : Nat} {gd : Option (List Code)} {cn : Str} {cs : Scope} {a : Addr} {ccd : Value} {cl : List (Str × Addr)} {outer : List Env} {A₀ : Around}
    {base h₀ : Heap} {L : Addr} {m : Str → Option Value} {s : Shared} {Q E : Value → Shared → Prop} {news : List (Addr × Obj)}
    (B : Below A₀ base outer h₀) (F : Fr h₀ L s.heap m) (X : (Mine.pre.heap_1 w.params).In h₀) (N : News h₀ L s.heap news) (T : Top vp vl mean mg mb h₀) (hk : cs.kind = .function)
include B F X N T hk

theorem sign_in {x dx : Addr} {t1 t2 tt tp : Tok} {T c : Str} {p : Nat}
    (hm : ∀ q ∈ [(x, instObj 297 dx), (dx, scD w t1 t2 T tt p tp)], q ∈ news) (hp : p < T.length) (hT : T.length ≤ 1000) (hc : Txt.item T p = c)
    (hd : dp + 1 < recursionLimit)
    (hret : ∀ (h' : Heap) (tk' : Nat) (t' : Tok), Fr h₀ L h' m → News h₀ L h' news → Same s.heap h' → Q (.str c t') { s with heap := h', toks := tk' }) :
    wpAny (model Challenge.rw_rg0209_01.row.prog w) (ktrTop dp un gd cn cs L a ccd cl outer) (call (.ref 231) [.ref x]) Q E s := by
  w_top off
  k_with_none
  refine wpAny_call ?_
  k_dflt cell_enter
  intro g' L' h' tk₁ FG' F' N' hG' B' X' T'
  try dsimp only
  try k_lift B'
  try (with_reducible change wpAny _ _ _ _ _ _)
  try k_fold
  k_steps
  · intro hst
    have hS := same_of2 N hm (by assumption) (fun _ hq => hq) hst
    rw [← hc] at hret
    exact hret _ _ _ (by assumption) (news_keeps N hS) hS

theorem sign_end {x dx : Addr} {t1 t2 tt tp : Tok} {T : Str} {p : Nat}
    (hm : ∀ q ∈ [(x, instObj 297 dx), (dx, scD w t1 t2 T tt p tp)], q ∈ news) (hp : p = T.length) (hT : T.length ≤ 1000)
    (hd : dp + 1 < recursionLimit)
    (hret : ∀ (h' : Heap) (tk' : Nat) (t' : Tok), Fr h₀ L h' m → News h₀ L h' news → Same s.heap h' → Q (.str (Str.ofString "") t') { s with heap := h', toks := tk' }) :
    wpAny (model Challenge.rw_rg0209_01.row.prog w) (ktrTop dp un gd cn cs L a ccd cl outer) (call (.ref 231) [.ref x]) Q E s := by
  refine wpAny_call ?_
  k_dflt cell_enter
  intro g' L' h' tk₁ FG' F' N' hG' B' X' T'
  try dsimp only
  try k_lift B'
  try (with_reducible change wpAny _ _ _ _ _ _)
  try k_fold
  k_steps
  · intro hst
    have hS := same_of2 N hm (by assumption) (fun _ hq => hq) hst
    exact hret _ _ _ (by assumption) (news_keeps N hS) hS
end
end

section
open PySem PySem.W PyProof.Rows PySem.Calls PySem.Spec
set_option maxRecDepth 100000
set_option maxHeartbeats 2000000

section
variable {w : World} {vp : Program} {vl : List Str} {mean : ExcName → Option Value} {mg mb : Str → Option Value} {dp un : Nat} {gd : Option (List Code)} {cn : Str} {cs : Scope} {a : Addr} {ccd : Value} {cl : List (Str × Addr)} {outer : List Env} {A₀ : Around}
    {base h₀ : Heap} {L : Addr} {m : Str → Option Value} {s : Shared} {Q E : Value → Shared → Prop} {news : List (Addr × Obj)}
    (B : Below A₀ base outer h₀) (F : Fr h₀ L s.heap m) (X : (Mine.pre.heap_1 w.params).In h₀) (N : News h₀ L s.heap news) (T : Top vp vl mean mg mb h₀) (hk : cs.kind = .function)
include B F X N T hk

theorem skip_in {x dx : Addr} {t1 t2 tt tp : Tok} {T c : Str} {p : Nat}
    (hm : ∀ q ∈ [(x, instObj 297 dx), (dx, scD w t1 t2 T tt p tp)], q ∈ news) (hp : p < T.length) (hT : T.length ≤ 1000) (hc : Txt.item T p = c) (hc1 : (c == Str.ofString ";") = false) (hc2 : (Builtin.Str.occurrences (Str.ofString " \t\r\n") c 0 (Str.ofString " \t\r\n").length 1).isEmpty = true)
    (hd : dp + 1 < recursionLimit)
    (hret : ∀ (h' : Heap) (tk' : Nat), Fr h₀ L h' m → News h₀ L h' news → Same s.heap h' → Q .none { s with heap := h', toks := tk' }) :
    wpAny (model Challenge.rw_rg0209_01.row.prog w) (ktrTop dp un gd cn cs L a ccd cl outer) (call (.ref 238) [.ref x]) Q E s := by
  w_top off
  k_with_none
  refine wpAny_call ?_
  k_dflt cell_enter
  intro g' L' h' tk₁ FG' F' N' hG' B' X' T'
  try dsimp only
  try k_lift B'
  subst hc
  have hlt : decide ((p : Int) < T.length) = true := by simp; omega
  try (with_reducible change wpAny _ _ _ _ _ _)
  try k_fold
  k_steps
  rw [hlt]
  k_steps
  · intro hst
    have hS := same_of2 N hm (by assumption) (fun _ hq => hq) hst
    exact hret _ _ (by assumption) (news_keeps N hS) hS

theorem skip_end {x dx : Addr} {t1 t2 tt tp : Tok} {T : Str} {p : Nat}
    (hm : ∀ q ∈ [(x, instObj 297 dx), (dx, scD w t1 t2 T tt p tp)], q ∈ news) (hp : p = T.length) (hT : T.length ≤ 1000)
    (hd : dp + 1 < recursionLimit)
    (hret : ∀ (h' : Heap) (tk' : Nat), Fr h₀ L h' m → News h₀ L h' news → Same s.heap h' → Q .none { s with heap := h', toks := tk' }) :
    wpAny (model Challenge.rw_rg0209_01.row.prog w) (ktrTop dp un gd cn cs L a ccd cl outer) (call (.ref 238) [.ref x]) Q E s := by
  refine wpAny_call ?_
  k_dflt cell_enter
  intro g' L' h' tk₁ FG' F' N' hG' B' X' T'
  try dsimp only
  try k_lift B'
  have hlt : decide ((p : Int) < T.length) = false := by simp; omega
  try (with_reducible change wpAny _ _ _ _ _ _)
  try k_fold
  k_steps
  rw [hlt]
  k_steps
  · intro hst
    have hS := same_of2 N hm (by assumption) (fun _ hq => hq) hst
    exact hret _ _ (by assumption) (news_keeps N hS) hS
end
end

section
open PySem PySem.W PyProof.Rows PySem.Calls PySem.Spec
set_option maxRecDepth 100000
set_option maxHeartbeats 2000000

local macro_rules | `(tactic| k_extra "mine exec While BoolOp") => `(tactic| k_extra "my while")
section
variable {w : World} {vp : Program} {vl : List Str} {mean : ExcName → Option Value} {mg mb : Str → Option Value} {dp un : Nat} {gd : Option (List Code)} {cn : Str} {cs : Scope} {a : Addr} {ccd : Value} {cl : List (Str × Addr)} {outer : List Env} {A₀ : Around}
    {base h₀ : Heap} {L : Addr} {m : Str → Option Value} {s : Shared} {Q E : Value → Shared → Prop} {news : List (Addr × Obj)}
    (B : Below A₀ base outer h₀) (F : Fr h₀ L s.heap m) (X : (Mine.pre.heap_1 w.params).In h₀) (N : News h₀ L s.heap news) (T : Top vp vl mean mg mb h₀) (hk : cs.kind = .function)
include B F X N T hk

theorem run_of_ok {x dx : Addr} {t1 t2 tt tp ts : Tok} {T S : Str} {p q : Nat} {gg : Obj → List (Addr × Obj)}
    (hm : ∀ q ∈ [(x, instObj 297 dx), (dx, scD w t1 t2 T tt p tp)], q ∈ news) (U : UpdF dx (scD w t1 t2 T tt p tp) news gg) (hdx : @LT.lt Nat _ dx x) (hpq : p ≤ q) (hq : q ≤ T.length) (hT : T.length ≤ 1000)
    (hin : ∀ i, p ≤ i → i < q → (Builtin.Str.occurrences S (Txt.item T i) 0 S.length 1).isEmpty = false)
    (hout : q = T.length ∨ (q < T.length ∧ (Builtin.Str.occurrences S (Txt.item T q) 0 S.length 1).isEmpty = true))
    (hd : dp + 1 < recursionLimit)
    (hret : ∀ (h' : Heap) (tk' : Nat) (t' tp' : Tok), Fr h₀ L h' m → News h₀ L h' (gg (scD w t1 t2 T tt q tp')) → Q (.str (Txt.slice T (some p) (some q)) t') { s with heap := h', toks := tk' }) :
    wpAny (model Challenge.rw_rg0209_01.row.prog w) (ktrTop dp un gd cn cs L a ccd cl outer) (call (.ref 245) [.ref x, .str S ts]) Q E s := by
  w_top off
  k_with_none
  refine wpAny_call ?_
  k_dflt cell_enter
  intro g' L' h' tk₁ FG' F' N' hG' B' X' T'
  try dsimp only
  try k_lift B'
  k_with "my while" => (k_here; (with_reducible rename Fr _ _ _ _ => lF'); (with_reducible rename News _ _ _ _ => lN'); (refine While_inv2 (n₀ := q - p) (fun n m₁ ns => m₁ = _ ∧ ∃ (i : Nat) (tp' : Tok), i + n = q ∧ p ≤ i ∧ ns = [(x, instObj 297 dx), (dx, scD w t1 t2 T tt i tp')]) lF' lN' ⟨rfl, p, tp, by omega, Nat.le_refl _, rfl⟩ ?_); rintro n m₁ ns₁ h₁ tk₁ lF₁ lN₁ ⟨rfl, i, tp', hin', hpi, rfl⟩)
  have hend : ∀ (i : Nat) (h' : Heap) (tk' : Nat) (t' tp' : Tok), i = q → Fr h₀ L h' m → News h₀ L h' [(x, instObj 297 dx), (dx, scD w t1 t2 T tt i tp')] →
      (∀ b o, s.heap.get? b = some o → b ∉ [(x, instObj 297 dx), (dx, scD w t1 t2 T tt p tp)].map (·.1) → h'.get? b = some o) → Q (.str (Txt.slice T (some p) (some i)) t') { s with heap := h', toks := tk' } := by
    rintro i h' tk' t' tp' rfl F' N' hst
    refine hret h' tk' t' tp' F' (news_one N U hm N' (by simp) (fun r hr hne => ?_) hst)
    simp only [List.mem_cons, List.not_mem_nil, or_false] at hr ⊢
    rcases hr with rfl | rfl
    · simp
    · exact absurd rfl hne
  try (with_reducible change wpAny _ _ _ _ _ _)
  try k_fold
  k_steps
  · intro hst
    refine hend _ _ _ _ tp' ?_ (by assumption) (by assumption) hst
    have h9 : (Builtin.Str.occurrences S (Txt.item T i) 0 S.length 1).isEmpty = true := by assumption
    rcases Nat.lt_or_ge i q with hlt | hge
    · rw [hin i hpi hlt] at h9; cases h9
    · omega
  · have h9 : (Builtin.Str.occurrences S (Txt.item T i) 0 S.length 1).isEmpty = false := by assumption
    have hlt : i < q := by
      rcases Nat.lt_or_ge i q with hlt | hge
      · exact hlt
      · have e : i = q := by omega
        subst e
        rcases hout with e | ⟨-, h8⟩
        · omega
        · rw [h8] at h9; cases h9
    exact ⟨_, _, _, _, n - 1, rfl, by assumption, by assumption, by omega, rfl, i + 1, _, by omega, by omega, rfl⟩
  · intro hst
    refine hend _ _ _ _ tp' ?_ (by assumption) (by assumption) hst
    omega
end
end

section
open PySem PySem.W PyProof.Rows PySem.Calls PySem.Spec
set_option maxRecDepth 100000
set_option maxHeartbeats 2000000

theorem scan_two {x dx : Addr} {o : Obj} {news : List (Addr × Obj)} (h1 : (x, instObj 297 dx) ∈ news) (h2 : (dx, o) ∈ news) : ∀ q ∈ [(x, instObj 297 dx), (dx, o)], q ∈ news := by
  intro q hq
  simp only [List.mem_cons, List.not_mem_nil, or_false] at hq
  rcases hq with rfl | rfl <;> assumption
end

local macro_rules | `(tactic| k_extra "mine call ref") => `(tactic| (k_here; (with_reducible show wpAny _ _ (call (Value.ref 231) _) _ _ _); k_dflt (refine' sign_end ?k1 ?k2 ?k3 ?k4 ?k5 ?k6 ?k7 ?k8 ?k9 ?k10 ?_; (case k1 | k2 | k3 | k4 | k5 => k_asm); (case k6 => exact rfl); (case k7 => exact scan_two (by k_mem) (by k_mem)); (case k8 | k9 => assumption); (case k10 => ktr_room)); intro h' tk' t' F' N' _))
local macro_rules | `(tactic| k_extra "mine call ref") => `(tactic| (k_here; (with_reducible show wpAny _ _ (call (Value.ref 231) _) _ _ _); k_dflt (refine' sign_in ?k1 ?k2 ?k3 ?k4 ?k5 ?k6 ?k7 ?k8 ?k9 ?k10 ?k11 ?_; (case k1 | k2 | k3 | k4 | k5 => k_asm); (case k6 => exact rfl); (case k7 => exact scan_two (by k_mem) (by k_mem)); (case k8 | k9 | k10 => assumption); (case k11 => ktr_room)); intro h' tk' t' F' N' _))
section
open PySem PySem.W PyProof.Rows PySem.Calls PySem.Spec
set_option maxRecDepth 100000
set_option maxHeartbeats 2000000
section
variable {w : World} {vp : Program} {vl : List Str} {mean : ExcName → Option Value} {mg mb : Str → Option Value} {dp un : Nat} {gd : Option (List Code)} {cn : Str} {cs : Scope} {a : Addr} {ccd : Value} {cl : List (Str × Addr)} {outer : List Env} {A₀ : Around}
    {base h₀ : Heap} {L : Addr} {m : Str → Option Value} {s : Shared} {Q E : Value → Shared → Prop} {news : List (Addr × Obj)}
    (B : Below A₀ base outer h₀) (F : Fr h₀ L s.heap m) (X : (Mine.pre.heap_1 w.params).In h₀) (N : News h₀ L s.heap news) (T : Top vp vl mean mg mb h₀) (hk : cs.kind = .function)
include B F X N T hk

theorem ends_in {x dx : Addr} {t1 t2 tt tp tw tb : Tok} {T c W : Str} {p : Nat} {b : Int}
    (hm : ∀ q ∈ [(x, instObj 297 dx), (dx, scD w t1 t2 T tt p tp)], q ∈ news) (hp : p < T.length) (hT : T.length ≤ 1000) (hc : Txt.item T p = c) (hc1 : (c != Str.ofString "") = true) (hc2 : (Builtin.Str.occurrences (Str.ofString "abcdefghijklmnopqrstuvwxyzABCDEFGHIJKLMNOPQRSTUVWXYZ0123456789~!@$%^&*_-+=<>.?/") c 0 (Str.length (Str.ofString "abcdefghijklmnopqrstuvwxyzABCDEFGHIJKLMNOPQRSTUVWXYZ0123456789~!@$%^&*_-+=<>.?/")) 1).isEmpty = true)
    (hd : dp + 2 < recursionLimit)
    (hret : ∀ (h' : Heap) (tk' : Nat), Fr h₀ L h' m → News h₀ L h' news → Same s.heap h' → Q .none { s with heap := h', toks := tk' }) :
    wpAny (model Challenge.rw_rg0209_01.row.prog w) (ktrTop dp un gd cn cs L a ccd cl outer) (call (.ref 252) [.ref x, .str W tw, .int b tb]) Q E s := by
  w_top off
  k_with_none
  refine wpAny_call ?_
  k_dflt cell_enter
  intro g' L' h' tk₁ FG' F' N' hG' B' X' T'
  try dsimp only
  try k_lift B'
  try (with_reducible change wpAny _ _ _ _ _ _)
  try k_fold
  k_steps
  · intro hst
    have hS := same_of2 N hm (by assumption) (fun _ hq => hq) hst
    exact hret _ _ (by assumption) (news_keeps N hS) hS

theorem ends_end {x dx : Addr} {t1 t2 tt tp tw tb : Tok} {T W : Str} {p : Nat} {b : Int}
    (hm : ∀ q ∈ [(x, instObj 297 dx), (dx, scD w t1 t2 T tt p tp)], q ∈ news) (hp : p = T.length) (hT : T.length ≤ 1000)
    (hd : dp + 2 < recursionLimit)
    (hret : ∀ (h' : Heap) (tk' : Nat), Fr h₀ L h' m → News h₀ L h' news → Same s.heap h' → Q .none { s with heap := h', toks := tk' }) :
    wpAny (model Challenge.rw_rg0209_01.row.prog w) (ktrTop dp un gd cn cs L a ccd cl outer) (call (.ref 252) [.ref x, .str W tw, .int b tb]) Q E s := by
  refine wpAny_call ?_
  k_dflt cell_enter
  intro g' L' h' tk₁ FG' F' N' hG' B' X' T'
  try dsimp only
  try k_lift B'
  try (with_reducible change wpAny _ _ _ _ _ _)
  try k_fold
  k_steps
  · intro hst
    have hS := same_of2 N hm (by assumption) (fun _ hq => hq) hst
    exact hret _ _ (by assumption) (news_keeps N hS) hS
end
end

local macro_rules | `(tactic| k_extra "mine subscriptTail") => `(tactic| (k_here; (with_reducible show wpAny _ _ (subscriptTail _ _ (Value.str _ _) (Value.int _ _)) _ _ _); k_dflt (refine' item_str ?k1 ?k2 ?k3 ?_; (case k1 => first | decide | exact fits_small (by omega)); (case k2 | k3 => omega); k_whole); intro _))
local macro_rules | `(tactic| k_extra "mine call ref") => `(tactic| (k_here; (with_reducible show wpAny _ _ (call (Value.ref 238) _) _ _ _); k_dflt (refine' skip_end ?k1 ?k2 ?k3 ?k4 ?k5 ?k6 ?k7 ?h0 ?h1 ?h2 ?_; (case k1 | k2 | k3 | k4 | k5 => k_asm); (case k6 => exact rfl); (case k7 => exact scan_two (by k_mem) (by k_mem)); (case h0 | h1 => assumption); (case h2 => ktr_room)); intro h' tk' F' N' _))
local macro_rules | `(tactic| k_extra "mine call ref") => `(tactic| (k_here; (with_reducible show wpAny _ _ (call (Value.ref 238) _) _ _ _); k_dflt (refine' skip_in ?k1 ?k2 ?k3 ?k4 ?k5 ?k6 ?k7 ?h0 ?h1 ?h2 ?h3 ?h4 ?h5 ?_; (case k1 | k2 | k3 | k4 | k5 => k_asm); (case k6 => exact rfl); (case k7 => exact scan_two (by k_mem) (by k_mem)); (case h0 | h1 | h2 | h3 | h4 => assumption); (case h5 => ktr_room)); intro h' tk' F' N' _))
local macro_rules | `(tactic| k_extra "mine call ref") => `(tactic| (k_here; (with_reducible show wpAny _ _ (call (Value.ref 252) _) _ _ _); k_dflt (refine' ends_end ?k1 ?k2 ?k3 ?k4 ?k5 ?k6 ?k7 ?h0 ?h1 ?h2 ?_; (case k1 | k2 | k3 | k4 | k5 => k_asm); (case k6 => exact rfl); (case k7 => exact scan_two (by k_mem) (by k_mem)); (case h0 | h1 => assumption); (case h2 => ktr_room)); intro h' tk' F' N' _))
local macro_rules | `(tactic| k_extra "mine call ref") => `(tactic| (k_here; (with_reducible show wpAny _ _ (call (Value.ref 252) _) _ _ _); k_dflt (refine' ends_in ?k1 ?k2 ?k3 ?k4 ?k5 ?k6 ?k7 ?h0 ?h1 ?h2 ?h3 ?h4 ?h5 ?_; (case k1 | k2 | k3 | k4 | k5 => k_asm); (case k6 => exact rfl); (case k7 => exact scan_two (by k_mem) (by k_mem)); (case h0 | h1 | h2 | h3 | h4 => assumption); (case h5 => ktr_room)); intro h' tk' F' N' _))
section
open PySem PySem.W PyProof.Rows PySem.Calls PySem.Spec
set_option maxRecDepth 100000
set_option maxHeartbeats 2000000
theorem run_of_W {w : World} {vp : Program} {vl : List Str} {mean : ExcName → Option Value} {mg mb : Str → Option Value} {dp un : Nat} {gd : Option (List Code)} {cn : Str} {cs : Scope} {a : Addr} {ccd : Value} {cl : List (Str × Addr)} {outer : List Env} {A₀ : Around}
    {base h₀ : Heap} {L : Addr} {m : Str → Option Value} {s : Shared} {Q E : Value → Shared → Prop} {news : List (Addr × Obj)}
    (B : Below A₀ base outer h₀) (F : Fr h₀ L s.heap m) (X : (Mine.pre.heap_1 w.params).In h₀) (N : News h₀ L s.heap news) (T : Top vp vl mean mg mb h₀) (hk : cs.kind = .function)
    {x dx : Addr} {t1 t2 tt tp ts : Tok} {Tx S W : Str} {p q : Nat} {gg : Obj → List (Addr × Obj)}
    (hm : ∀ q ∈ [(x, instObj 297 dx), (dx, scD w t1 t2 Tx tt p tp)], q ∈ news) (U : UpdF dx (scD w t1 t2 Tx tt p tp) news gg) (hdx : @LT.lt Nat _ dx x) (hpq : p ≤ q) (hq : q ≤ Tx.length) (hT : Tx.length ≤ 1000)
    (hin : ∀ i, p ≤ i → i < q → (Builtin.Str.occurrences S (Txt.item Tx i) 0 S.length 1).isEmpty = false)
    (hout : q = Tx.length ∨ (q < Tx.length ∧ (Builtin.Str.occurrences S (Txt.item Tx q) 0 S.length 1).isEmpty = true))
    (hW : Txt.slice Tx (some p) (some q) = W)
    (hd : dp + 1 < recursionLimit)
    (hret : ∀ (h' : Heap) (tk' : Nat) (t' tp' : Tok), Fr h₀ L h' m → News h₀ L h' (gg (scD w t1 t2 Tx tt q tp')) → Q (.str W t') { s with heap := h', toks := tk' }) :
    wpAny (model Challenge.rw_rg0209_01.row.prog w) (ktrTop dp un gd cn cs L a ccd cl outer) (call (.ref 245) [.ref x, .str S ts]) Q E s := by
  subst hW
  exact run_of_ok B F X N T hk hm U hdx hpq hq hT hin hout hd hret
end

local macro_rules | `(tactic| k_extra "mine call ref") => `(tactic| (k_here; (with_reducible show wpAny _ _ (call (Value.ref 245) _) _ _ _); k_dflt (refine' run_of_W ?k1 ?k2 ?k3 ?k4 ?k5 ?k6 ?k7 ?kU ?kd ?kp ?kq ?kT ?ki ?ko ?kW ?kr ?_; (case k1 | k2 | k3 | k4 | k5 => k_asm); (case k6 => exact rfl); (case k7 => exact scan_two (by k_mem) (by k_mem)); (case kU => k_updF); (case kd => omega); (case kW | ki | ko => assumption); (case kp | kq => omega); (case kT => assumption); (case kr => ktr_room)); intro h' tk' t' tp' F' N'))
local macro_rules | `(tactic| k_extra "mine call type:int") => `(tactic| (k_here; (with_reducible show wpAny _ _ (call (Value.type "int") [Value.str _ _]) _ _ _); k_dflt (refine' PySem.W.KIN.call_text ?k1 ?k2 ?_; (case k1 => assumption); (case k2 => omega); k_whole)))
section
open PySem PySem.W PyProof.Rows PySem.Calls PySem.Spec
set_option maxRecDepth 100000
set_option maxHeartbeats 2000000
section
variable {w : World} {vp : Program} {vl : List Str} {mean : ExcName → Option Value} {mg mb : Str → Option Value} {dp un : Nat} {gd : Option (List Code)} {cn : Str} {cs : Scope} {a : Addr} {ccd : Value} {cl : List (Str × Addr)} {outer : List Env} {A₀ : Around}
    {base h₀ : Heap} {L : Addr} {m : Str → Option Value} {s : Shared} {Q E : Value → Shared → Prop} {news : List (Addr × Obj)}
    (B : Below A₀ base outer h₀) (F : Fr h₀ L s.heap m) (X : (Mine.pre.heap_1 w.params).In h₀) (N : News h₀ L s.heap news) (T : Top vp vl mean mg mb h₀) (hk : cs.kind = .function)
include B F X N T hk

theorem want_few_ok {W : Str} {tw tb : Tok} {b : Int} (hW : W.length ≤ 640)
    (hd : dp + 2 < recursionLimit)
    (hret : ∀ (h' : Heap) (tk' : Nat), Fr h₀ L h' m → News h₀ L h' news → Same s.heap h' → Q .none { s with heap := h', toks := tk' }) :
    wpAny (model Challenge.rw_rg0209_01.row.prog w) (ktrTop dp un gd cn cs L a ccd cl outer) (call (.ref 203) [.str W tw, .int b tb]) Q E s := by
  w_top off
  k_with_none
  have hm : ∀ q ∈ ([] : List (Addr × Obj)), q ∈ news := by simp
  refine wpAny_call ?_
  k_dflt cell_enter
  intro g' L' h' tk₁ FG' F' N' hG' B' X' T'
  try dsimp only
  try k_lift B'
  try (with_reducible change wpAny _ _ _ _ _ _)
  try k_fold
  k_steps
  · intro hst
    have hS := same_of2 N hm (by assumption) (fun _ hq => hq) hst
    exact hret _ _ (by assumption) (news_keeps N hS) hS

end
end

local macro_rules | `(tactic| k_extra "mine call ref") => `(tactic| (k_here; (with_reducible show wpAny _ _ (call (Value.ref 203) _) _ _ _); k_dflt (refine' want_few_ok ?k1 ?k2 ?k3 ?k4 ?k5 ?k6 ?k7 ?k8 ?_; (case k1 | k2 | k3 | k4 | k5 => k_asm); (case k6 => exact rfl); (case k7 => assumption); (case k8 => ktr_room)); intro h' tk' F' N' _))
section
open PySem PySem.W PyProof.Rows PySem.Calls PySem.Spec
set_option maxRecDepth 100000
set_option maxHeartbeats 2000000
theorem scan_fin {h₀ h g h' : Heap} {L L' x dx D : Addr} {i o o' d : Obj} {news : List (Addr × Obj)} {gg : Obj → List (Addr × Obj)} (N : News h₀ L h news) (U : UpdF dx o news gg) (hm : ∀ q ∈ [(x, i), (dx, o)], q ∈ news)
    (hG : ∀ b o₁, h.get? b = some o₁ → b ∉ [(x, i), (dx, o)].map (·.1) → g.get? b = some o₁) (kG : News g L' h' [(D, d), (x, i), (dx, o')])
    (hlt : @LT.lt Nat _ x D ∧ @LT.lt Nat _ dx D) (kN : News h₀ L h' [(D, d), (x, i), (dx, o')]) (hst : ∀ b o₁, h.get? b = some o₁ → b ∉ [(x, i), (dx, o)].map (·.1) → h'.get? b = some o₁) :
    News h₀ L h' ((D, d) :: gg o') ∧ ∀ p ∈ news, p.1 ≠ D := by
  have h1 := news_one (o' := o') N U hm kN (by simp) (fun r hr hne => by
    simp only [List.mem_cons, List.not_mem_nil, or_false] at hr ⊢
    rcases hr with rfl | rfl
    · simp
    · exact absurd rfl hne) hst
  refine ⟨fun q hq => ?_, fresh_of N hm hG kG fun p hp => ?_⟩
  · rcases List.mem_cons.mp hq with rfl | hq
    · exact kN _ (.head _)
    · exact h1 q hq
  · simp only [List.mem_cons, List.not_mem_nil, or_false] at hp
    rcases hp with rfl | rfl
    · exact Nat.ne_of_lt hlt.1
    · exact Nat.ne_of_lt hlt.2
section
variable {w : World} {vp : Program} {vl : List Str} {mean : ExcName → Option Value} {mg mb : Str → Option Value} {dp un : Nat} {gd : Option (List Code)} {cn : Str} {cs : Scope} {a : Addr} {ccd : Value} {cl : List (Str × Addr)} {outer : List Env} {A₀ : Around}
    {base h₀ : Heap} {L : Addr} {m : Str → Option Value} {s : Shared} {Q E : Value → Shared → Prop} {news : List (Addr × Obj)}
    (B : Below A₀ base outer h₀) (F : Fr h₀ L s.heap m) (X : (Mine.pre.heap_1 w.params).In h₀) (N : News h₀ L s.heap news) (T : Top vp vl mean mg mb h₀) (hk : cs.kind = .function)
include B F X N T hk

theorem number_ok {x dx : Addr} {t1 t2 tt tp : Tok} {Tx W : Str} {p q : Nat} {n : Int} {gg : Obj → List (Addr × Obj)}
    (hm : ∀ q ∈ [(x, instObj 297 dx), (dx, scD w t1 t2 Tx tt p tp)], q ∈ news) (U : UpdF dx (scD w t1 t2 Tx tt p tp) news gg) (hdx : @LT.lt Nat _ dx x) (hpq : p < q) (hq : q ≤ Tx.length) (hT : Tx.length ≤ 1000)
    (hin : ∀ i, p ≤ i → i < q → (Builtin.Str.occurrences (Str.ofString "0123456789") (Txt.item Tx i) 0 (Str.length (Str.ofString "0123456789")) 1).isEmpty = false)
    (hnext : q = Tx.length ∨ (q < Tx.length ∧ ∃ c, Txt.item Tx q = c ∧ (c != Str.ofString "") = true ∧ (c != Str.ofString ".") = true ∧ (Builtin.Str.occurrences (Str.ofString "0123456789") c 0 (Str.length (Str.ofString "0123456789")) 1).isEmpty = true ∧ (Builtin.Str.occurrences (Str.ofString "abcdefghijklmnopqrstuvwxyzABCDEFGHIJKLMNOPQRSTUVWXYZ0123456789~!@$%^&*_-+=<>.?/") c 0 (Str.length (Str.ofString "abcdefghijklmnopqrstuvwxyzABCDEFGHIJKLMNOPQRSTUVWXYZ0123456789~!@$%^&*_-+=<>.?/")) 1).isEmpty = true))
    (hW : Txt.slice Tx (some p) (some q) = W) (hWl : W.length ≤ 640) (hWz : W.length ≤ 1 ∨ (Txt.item W 0 == Str.ofString "0") = false) (hWn : PySem.intText? W = some n)
    (hd : dp + 3 < recursionLimit)
    (hret : ∀ (D : Addr) (h' : Heap) (tk' : Nat) (tp' ta tb : Tok), Fr h₀ L h' m → News h₀ L h' ((D, tupOf [.str (Str.ofString "num") ta, .int n tb]) :: gg (scD w t1 t2 Tx tt q tp')) → (∀ p ∈ news, p.1 ≠ D) → Q (.ref D) { s with heap := h', toks := tk' }) :
    wpAny (model Challenge.rw_rg0209_01.row.prog w) (ktrTop dp un gd cn cs L a ccd cl outer) (call (.ref 287) [.ref x]) Q E s := by
  have hout : q = Tx.length ∨ (q < Tx.length ∧ (Builtin.Str.occurrences (Str.ofString "0123456789") (Txt.item Tx q) 0 (Str.length (Str.ofString "0123456789")) 1).isEmpty = true) := by
    rcases hnext with h | ⟨h, c, rfl, -, -, h1, -⟩
    · exact .inl h
    · exact .inr ⟨h, h1⟩
  refine wpAny_call ?_
  k_dflt cell_enter
  intro g' L' h' tk₁ FG' F' N' hG' B' X' T'
  try dsimp only
  try k_lift B'
  try (with_reducible change wpAny _ _ _ _ _ _)
  try k_fold
  have hpq' : p ≤ q := by omega
  have hfin : ∀ (D : Addr) (h' : Heap) (tk' : Nat) (tp' ta tb : Tok), Fr h₀ L h' m → News h₀ L h' [(D, tupOf [.str (Str.ofString "num") ta, .int n tb]), (x, instObj 297 dx), (dx, scD w t1 t2 Tx tt q tp')] → News g' L' h' [(D, tupOf [.str (Str.ofString "num") ta, .int n tb]), (x, instObj 297 dx), (dx, scD w t1 t2 Tx tt q tp')] → (@LT.lt Nat _ x D ∧ @LT.lt Nat _ dx D) →
      (∀ b o₁, s.heap.get? b = some o₁ → b ∉ [(x, instObj 297 dx), (dx, scD w t1 t2 Tx tt p tp)].map (·.1) → h'.get? b = some o₁) → Q (.ref D) { s with heap := h', toks := tk' } := by
    intro D h' tk' tp' ta tb F' N' kG hl hst
    obtain ⟨r1, r2⟩ := scan_fin N U hm hG' kG hl N' hst
    exact hret D h' tk' tp' ta tb F' r1 r2
  rcases hnext with hend | ⟨hlt, c, hc, hc1, hc2, hc3, hc4⟩
  · rcases hWz with hWz | hWz
    · k_steps
      all_goals exact fun hst => hfin _ _ _ _ _ _ (by assumption) (by assumption) (by assumption) (by assumption) hst
    · k_steps
      all_goals exact fun hst => hfin _ _ _ _ _ _ (by assumption) (by assumption) (by assumption) (by assumption) hst
  · rcases hWz with hWz | hWz
    · k_steps
      all_goals exact fun hst => hfin _ _ _ _ _ _ (by assumption) (by assumption) (by assumption) (by assumption) hst
    · k_steps
      all_goals exact fun hst => hfin _ _ _ _ _ _ (by assumption) (by assumption) (by assumption) (by assumption) hst
end
end

section
open PySem PySem.W PyProof.Rows PySem.Calls PySem.Spec
set_option maxRecDepth 100000
set_option maxHeartbeats 2000000

local macro_rules | `(tactic| k_extra "mine call number") => `(tactic| (k_here; (with_reducible show wpAny _ _ (call (Value.ref 287) _) _ _ _); k_dflt (refine' number_ok ?k1 ?k2 ?k3 ?k4 ?k5 ?k6 ?k7 ?kU ?kd ?kp ?kq ?kT ?ki ?kn ?kW ?kl ?kz ?kv ?kr ?_; (case k1 | k2 | k3 | k4 | k5 => k_asm); (case k6 => exact rfl); (case k7 => exact scan_two (by k_mem) (by k_mem)); (case kU => k_updF); (case kd => omega); (case kW | ki | kn => assumption); (case kp | kq => omega); (case kT | kl | kz | kv => assumption); (case kr => ktr_room)); skip))
/-- what the objects of an item tell -/
def ItemIs (itp : List (Addr × Obj)) (itv : Value) (tr : Option Bool) (nu : Option (Int × Tok)) : Prop :=
  (∀ h : Heap, (∀ q ∈ itp, h.get? q.1 = some q.2) → TellsTruth h itv tr) ∧ TellsNum itp itv nu
/-- read_word reads the whole text as one item -/
def ReadOk (f : Addr) (kd ku : Nat) (Tx : Str) (tr : Option Bool) (nuP : Option Int) : Prop :=
  ∀ ⦃w : World⦄ ⦃vp : Program⦄ ⦃vl : List Str⦄ ⦃mean : ExcName → Option Value⦄ ⦃mg mb : Str → Option Value⦄ ⦃dp un : Nat⦄ ⦃gd : Option (List Code)⦄ ⦃cn : Str⦄ ⦃cs : Scope⦄ ⦃a : Addr⦄ ⦃ccd : Value⦄ ⦃cl : List (Str × Addr)⦄ ⦃outer : List Env⦄ ⦃A₀ : Around⦄
    ⦃base h₀ : Heap⦄ ⦃L : Addr⦄ ⦃m : Str → Option Value⦄ ⦃s : Shared⦄ ⦃Q E : Value → Shared → Prop⦄ ⦃news : List (Addr × Obj)⦄
    (_B : Below A₀ base outer h₀) (_F : Fr h₀ L s.heap m) (_X : (Mine.pre.heap_1 w.params).In h₀) (_N : News h₀ L s.heap news) (_T : Top vp vl mean mg mb h₀) (_hk : cs.kind = .function)
    ⦃x dx : Addr⦄ ⦃t1 t2 tt tp : Tok⦄ ⦃gg : Obj → List (Addr × Obj)⦄
    (_hm : ∀ q ∈ [(x, instObj 297 dx), (dx, scD w t1 t2 Tx tt (0 : Nat) tp)], q ∈ news) (_U : UpdF dx (scD w t1 t2 Tx tt (0 : Nat) tp) news gg) (_hdx : @LT.lt Nat _ dx x)
    (_hd : dp + kd < recursionLimit) (_hu : un + ku < cLine)
    (_hret : ∀ (itp : List (Addr × Obj)) (itv : Value) (nu : Option (Int × Tok)) (h' : Heap) (tk' : Nat) (tp' : Tok), nu.map (·.1) = nuP → ItemIs itp itv tr nu → Fr h₀ L h' m → News h₀ L h' (gg (scD w t1 t2 Tx tt Tx.length tp') ++ itp) → OwnOff itp (news.map (·.1)) → Q itv { s with heap := h', toks := tk' }),
    wpAny (model Challenge.rw_rg0209_01.row.prog w) (ktrTop dp un gd cn cs L a ccd cl outer) (call (.ref f) [.ref x]) Q E s
def WordOk (Tx : Str) (tr : Option Bool) (nuP : Option Int) : Prop := ReadOk 294 8 1024 Tx tr nuP
theorem scan_fin2 {h₀ h g h' : Heap} {L L' x dx : Addr} {i o o' : Obj} {itp news : List (Addr × Obj)} {gg : Obj → List (Addr × Obj)} (N : News h₀ L h news) (U : UpdF dx o news gg) (hm : ∀ q ∈ [(x, i), (dx, o)], q ∈ news)
    (hG : ∀ b o₁, h.get? b = some o₁ → b ∉ [(x, i), (dx, o)].map (·.1) → g.get? b = some o₁) (kG : News g L' h' itp) (hne : OwnOff itp [x, dx])
    (kN : News h₀ L h' (itp ++ [(x, i), (dx, o')])) (hst : ∀ b o₁, h.get? b = some o₁ → b ∉ [(x, i), (dx, o)].map (·.1) → h'.get? b = some o₁) :
    News h₀ L h' (gg o' ++ itp) ∧ OwnOff itp (news.map (·.1)) := by
  have h1 := news_one (o' := o') N U hm kN (by simp) (fun r hr hne => by
    simp only [List.mem_cons, List.not_mem_nil, or_false] at hr
    rcases hr with rfl | rfl
    · simp
    · exact absurd rfl hne) hst
  refine ⟨fun q hq => ?_, fun p hp b hb => ?_⟩
  · rcases List.mem_append.mp hq with hq | hq
    · exact h1 q hq
    · exact kN _ (List.mem_append_left _ hq)
  · obtain ⟨r, hr, rfl⟩ := List.mem_map.mp hb
    intro e
    have := fresh_of (D := p.1) (o := p.2) (prt' := []) N hm hG (fun q hq => kG q (by rw [List.mem_singleton.mp hq]; exact hp)) (fun t ht => by
      simp only [List.mem_cons, List.not_mem_nil, or_false] at ht
      rcases ht with rfl | rfl
      · exact Ne.symm (hne p hp _ (by simp))
      · exact Ne.symm (hne p hp _ (by simp))) r hr
    exact this e.symm
theorem item_num {D : Addr} {ta tb : Tok} {n : Int} (hn : 0 ≤ n) : ItemIs [(D, tupOf [.str (Str.ofString "num") ta, .int n tb])] (.ref D) none (some (n, tb)) := by
  refine ⟨fun h hh => ⟨.tuple [.str (Str.ofString "num"), .int n], [], ?_, by simp [SeqAt.shaped, PyData.canLay0, PyData.canLayAll0, PyData.depth, PyData.depthAll]; decide +kernel, ?_⟩, .inr (.inl ⟨D, ta, n, tb, rfl, List.mem_singleton.mpr rfl, .inl ⟨hn, rfl⟩⟩)⟩
  · exact .tuple (hh _ (List.mem_singleton.mpr rfl)) rfl rfl (.cons (.str _ _) (.cons (.int _ _) .nil))
  · constructor <;> simp [PyData.eqv, PyData.eqvAll]
/-- read_word reads the item that stands from p to q -/
def WordAt (kd ku : Nat) (Tx : Str) (p q : Nat) (P : List (Addr × Obj) → Value → Prop) : Prop :=
  ∀ ⦃w : World⦄ ⦃vp : Program⦄ ⦃vl : List Str⦄ ⦃mean : ExcName → Option Value⦄ ⦃mg mb : Str → Option Value⦄ ⦃dp un : Nat⦄ ⦃gd : Option (List Code)⦄ ⦃cn : Str⦄ ⦃cs : Scope⦄ ⦃a : Addr⦄ ⦃ccd : Value⦄ ⦃cl : List (Str × Addr)⦄ ⦃outer : List Env⦄ ⦃A₀ : Around⦄
    ⦃base h₀ : Heap⦄ ⦃L : Addr⦄ ⦃m : Str → Option Value⦄ ⦃s : Shared⦄ ⦃Q E : Value → Shared → Prop⦄ ⦃news : List (Addr × Obj)⦄
    (_B : Below A₀ base outer h₀) (_F : Fr h₀ L s.heap m) (_X : (Mine.pre.heap_1 w.params).In h₀) (_N : News h₀ L s.heap news) (_T : Top vp vl mean mg mb h₀) (_hk : cs.kind = .function)
    ⦃x dx : Addr⦄ ⦃t1 t2 tt tp : Tok⦄ ⦃gg : Obj → List (Addr × Obj)⦄
    (_hm : ∀ q ∈ [(x, instObj 297 dx), (dx, scD w t1 t2 Tx tt (p : Nat) tp)], q ∈ news) (_U : UpdF dx (scD w t1 t2 Tx tt (p : Nat) tp) news gg) (_hdx : @LT.lt Nat _ dx x)
    (_hd : dp + kd < recursionLimit) (_hu : un + ku < cLine)
    (_hret : ∀ (itp : List (Addr × Obj)) (itv : Value) (h' : Heap) (tk' : Nat) (tp' : Tok), P itp itv → Fr h₀ L h' m → News h₀ L h' (gg (scD w t1 t2 Tx tt (q : Nat) tp') ++ itp) → OwnOff itp (news.map (·.1)) → Q itv { s with heap := h', toks := tk' }),
    wpAny (model Challenge.rw_rg0209_01.row.prog w) (ktrTop dp un gd cn cs L a ccd cl outer) (call (.ref 294) [.ref x]) Q E s
theorem wat_num {Tx c W : Str} {p q : Nat} {n : Int} (hT : Tx.length ≤ 1000) (hpq : p < q) (hq : q ≤ Tx.length) (hc : Txt.item Tx (p : Nat) = c)
    (hc1 : (c == Str.ofString "") = false) (hc2 : (c == Str.ofString "\"") = false) (hc3 : (c == Str.ofString "|") = false) (hc4 : (c == Str.ofString ":") = false) (hc5 : (c == Str.ofString "#") = false)
    (hin : ∀ i, p ≤ i → i < q → (Builtin.Str.occurrences (Str.ofString "0123456789") (Txt.item Tx i) 0 (Str.length (Str.ofString "0123456789")) 1).isEmpty = false)
    (hnx : q = Tx.length ∨ (q < Tx.length ∧ ∃ c, Txt.item Tx q = c ∧ (c != Str.ofString "") = true ∧ (c != Str.ofString ".") = true ∧ (Builtin.Str.occurrences (Str.ofString "0123456789") c 0 (Str.length (Str.ofString "0123456789")) 1).isEmpty = true ∧ (Builtin.Str.occurrences (Str.ofString "abcdefghijklmnopqrstuvwxyzABCDEFGHIJKLMNOPQRSTUVWXYZ0123456789~!@$%^&*_-+=<>.?/") c 0 (Str.length (Str.ofString "abcdefghijklmnopqrstuvwxyzABCDEFGHIJKLMNOPQRSTUVWXYZ0123456789~!@$%^&*_-+=<>.?/")) 1).isEmpty = true))
    (hW : Txt.slice Tx (some (p : Nat)) (some q) = W) (hWl : W.length ≤ 640) (hWz : W.length ≤ 1 ∨ (Txt.item W 0 == Str.ofString "0") = false) (hWn : PySem.intText? W = some n) : WordAt 8 1024 Tx p q (fun itp v => ∃ D ta tb, itp = [(D, tupOf [.str (Str.ofString "num") ta, .int n tb])] ∧ v = .ref D) := by
  w_top off
  k_with_none
  intro w vp vl mean mg mb dp un gd cn cs a ccd cl outer A₀ base h₀ L m s Q E news B F X N T hk x dx t1 t2 tt tp gg hm U hdx hd hu hret
  have hc6 := hin p (Nat.le_refl _) hpq
  have hp9 : p < Tx.length := by omega
  rw [hc] at hc6
  k_with "call ref" => (k_extra "mine call number"; intro D h' tk' tp' ta tb F' N' hDne)
  refine wpAny_call ?_
  k_dflt cell_enter
  intro g' L' h' tk₁ FG' F' N' hG' B' X' T'
  try dsimp only
  try k_lift B'
  try (with_reducible change wpAny _ _ _ _ _ _)
  try k_fold
  k_steps
  intro hst
  obtain ⟨r1, r2⟩ := scan_fin2 (itp := [(D, tupOf [.str (Str.ofString "num") ta, .int n tb])]) N U hm hG' (fun q hq => N' q (by rw [List.mem_singleton.mp hq]; exact .head _)) (fun p hp b hb => by
    rw [List.mem_singleton.mp hp]
    simp only [List.mem_cons, List.not_mem_nil, or_false] at hb
    rcases hb with rfl | rfl
    · exact Ne.symm (hDne _ (.head _))
    · exact Ne.symm (hDne _ (.tail _ (.head _)))) (by assumption) hst
  exact hret _ _ _ _ _ ⟨D, ta, tb, rfl, rfl⟩ (by assumption) r1 r2
theorem word_num {Tx c : Str} {n : Int} (hT : Tx.length ≤ 1000) (hT0 : 0 < Tx.length) (hT2 : Tx.length ≤ 640) (hc : Txt.item Tx (0 : Nat) = c)
    (hc1 : (c == Str.ofString "") = false) (hc2 : (c == Str.ofString "\"") = false) (hc3 : (c == Str.ofString "|") = false) (hc4 : (c == Str.ofString ":") = false) (hc5 : (c == Str.ofString "#") = false)
    (hin : ∀ i, 0 ≤ i → i < Tx.length → (Builtin.Str.occurrences (Str.ofString "0123456789") (Txt.item Tx i) 0 (Str.length (Str.ofString "0123456789")) 1).isEmpty = false)
    (hW : Txt.slice Tx (some (0 : Nat)) (some Tx.length) = Tx) (hWz : Tx.length ≤ 1 ∨ (Txt.item Tx 0 == Str.ofString "0") = false) (hWn : PySem.intText? Tx = some n) (hn : 0 ≤ n) : WordOk Tx none (some n) := by
  intro w vp vl mean mg mb dp un gd cn cs a ccd cl outer A₀ base h₀ L m s Q E news B F X N T hk x dx t1 t2 tt tp gg hm U hdx hd hu hret
  exact wat_num hT hT0 (Nat.le_refl _) hc hc1 hc2 hc3 hc4 hc5 hin (.inl rfl) hW hT2 hWz hWn B F X N T hk hm U hdx hd hu fun _ _ h' tk' tp' ⟨_, _, _, e1, e2⟩ F' N' hoff => by
    subst e1 e2
    exact hret _ _ _ h' tk' tp' rfl (item_num hn) F' N' hoff
end

local macro_rules | `(tactic| k_extra "mine call run") => `(tactic| (k_here; (with_reducible show wpAny _ _ (call (Value.ref 245) _) _ _ _); k_dflt (refine' run_of_W ?k1 ?k2 ?k3 ?k4 ?k5 ?k6 ?k7 ?kU ?kd ?kp ?kq ?kT ?ki ?ko ?kW ?kr ?_; (case k1 | k2 | k3 | k4 | k5 => k_asm); (case k6 => exact rfl); (case k7 => exact scan_two (by k_mem) (by k_mem)); (case kU => k_updF); (case kd => omega); (case kW | ki | ko => assumption); (case kp | kq => omega); (case kT => assumption); (case kr => ktr_room)); skip))
section
open PySem PySem.W PyProof.Rows PySem.Calls PySem.Spec
set_option maxRecDepth 100000
set_option maxHeartbeats 2000000
theorem item_pair {D : Addr} {ta tb : Tok} {kd v : Str} {tr : Option Bool} (hk : (kd != Str.ofString "num") = true) (hs : PyData.strOk kd = true ∧ PyData.strOk v = true) (ht : match tr with
    | some true => PyData.eqv (.tuple [.str kd, .str v]) symT = true
    | some false => PyData.eqv (.tuple [.str kd, .str v]) symT = false ∧ PyData.eqv (.tuple [.str kd, .str v]) symF = true
    | none => PyData.eqv (.tuple [.str kd, .str v]) symT = false ∧ PyData.eqv (.tuple [.str kd, .str v]) symF = false) : ItemIs [(D, tupOf [.str kd ta, .str v tb])] (.ref D) tr none := by
  refine ⟨fun h hh => ⟨.tuple [.str kd, .str v], [], ?_, by simp [SeqAt.shaped, PyData.canLay0, PyData.canLayAll0, PyData.depth, PyData.depthAll, hs], ht⟩, .inr (.inr (.inl ⟨D, kd, ta, _, rfl, List.mem_singleton.mpr rfl, hk, rfl⟩))⟩
  exact .tuple (hh _ (List.mem_singleton.mpr rfl)) rfl rfl (.cons (.str _ _) (.cons (.str _ _) .nil))
theorem wat_sym {Tx c W : Str} {p q : Nat} (hT : Tx.length ≤ 1000) (hpq : p < q) (hq : q ≤ Tx.length) (hc : Txt.item Tx (p : Nat) = c)
    (hc1 : (c == Str.ofString "") = false) (hc2 : (c == Str.ofString "\"") = false) (hc3 : (c == Str.ofString "|") = false) (hc4 : (c == Str.ofString ":") = false) (hc5 : (c == Str.ofString "#") = false) (hc6 : (Builtin.Str.occurrences (Str.ofString "0123456789") c 0 (Str.length (Str.ofString "0123456789")) 1).isEmpty = true)
    (hin : ∀ i, p ≤ i → i < q → (Builtin.Str.occurrences (Str.ofString "abcdefghijklmnopqrstuvwxyzABCDEFGHIJKLMNOPQRSTUVWXYZ0123456789~!@$%^&*_-+=<>.?/") (Txt.item Tx i) 0 (Str.length (Str.ofString "abcdefghijklmnopqrstuvwxyzABCDEFGHIJKLMNOPQRSTUVWXYZ0123456789~!@$%^&*_-+=<>.?/")) 1).isEmpty = false) (hnx : q = Tx.length ∨ (q < Tx.length ∧ (Builtin.Str.occurrences (Str.ofString "abcdefghijklmnopqrstuvwxyzABCDEFGHIJKLMNOPQRSTUVWXYZ0123456789~!@$%^&*_-+=<>.?/") (Txt.item Tx q) 0 (Str.length (Str.ofString "abcdefghijklmnopqrstuvwxyzABCDEFGHIJKLMNOPQRSTUVWXYZ0123456789~!@$%^&*_-+=<>.?/")) 1).isEmpty = true))
    (hW : Txt.slice Tx (some (p : Nat)) (some q) = W) : WordAt 8 1024 Tx p q (fun itp v => ∃ D ta tb, itp = [(D, tupOf [.str (Str.ofString "sym") ta, .str W tb])] ∧ v = .ref D) := by
  w_top off
  k_with_none
  intro w vp vl mean mg mb dp un gd cn cs a ccd cl outer A₀ base h₀ L m s Q E news B F X N T hk x dx t1 t2 tt tp gg hm U hdx hd hu hret
  have hc7 := hin p (Nat.le_refl _) hpq
  have hp9 : p < Tx.length := by omega
  rw [hc] at hc7
  k_with "call ref" => (k_extra "mine call run"; intro h' tk' t' tp' F' N')
  refine wpAny_call ?_
  k_dflt cell_enter
  intro g' L' h' tk₁ FG' F' N' hG' B' X' T'
  try dsimp only
  try k_lift B'
  have hfin : ∀ (D : Addr) (h' : Heap) (tk' : Nat) (tp' ta tb : Tok) (sp : Int), Fr h₀ L h' m → News h₀ L h' [(D, tupOf [.str (Str.ofString "sym") ta, .str W tb]), (x, instObj 297 dx), (dx, scD w t1 t2 Tx tt sp tp')] → News g' L' h' [(D, tupOf [.str (Str.ofString "sym") ta, .str W tb]), (x, instObj 297 dx), (dx, scD w t1 t2 Tx tt sp tp')] → (@LT.lt Nat _ x D ∧ @LT.lt Nat _ dx D) →
      (∀ b o₁, s.heap.get? b = some o₁ → b ∉ [(x, instObj 297 dx), (dx, scD w t1 t2 Tx tt (p : Nat) tp)].map (·.1) → h'.get? b = some o₁) → sp = (q : Int) → Q (.ref D) { s with heap := h', toks := tk' } := by
    intro D h' tk' tp' ta tb sp F' N' kG hl hst hsp
    subst hsp
    obtain ⟨r1, r2⟩ := scan_fin2 (itp := [(D, tupOf [.str (Str.ofString "sym") ta, .str W tb])]) N U hm hG' (fun q hq => kG q (by rw [List.mem_singleton.mp hq]; exact .head _)) (fun p hp b hb => by
      rw [List.mem_singleton.mp hp]
      simp only [List.mem_cons, List.not_mem_nil, or_false] at hb
      rcases hb with rfl | rfl
      · exact Nat.ne_of_gt hl.1
      · exact Nat.ne_of_gt hl.2) N' hst
    exact hret _ _ _ _ _ ⟨D, ta, tb, rfl, rfl⟩ F' r1 r2
  try (with_reducible change wpAny _ _ _ _ _ _)
  try k_fold
  k_steps
  exact fun hst => hfin _ _ _ _ _ _ _ (by assumption) (by assumption) (by assumption) (by assumption) hst (by omega)
theorem word_sym {Tx c : Str} {tr : Option Bool} (hT : Tx.length ≤ 1000) (hT0 : 0 < Tx.length) (hc : Txt.item Tx (0 : Nat) = c)
    (hc1 : (c == Str.ofString "") = false) (hc2 : (c == Str.ofString "\"") = false) (hc3 : (c == Str.ofString "|") = false) (hc4 : (c == Str.ofString ":") = false) (hc5 : (c == Str.ofString "#") = false) (hc6 : (Builtin.Str.occurrences (Str.ofString "0123456789") c 0 (Str.length (Str.ofString "0123456789")) 1).isEmpty = true)
    (hin : ∀ i, 0 ≤ i → i < Tx.length → (Builtin.Str.occurrences (Str.ofString "abcdefghijklmnopqrstuvwxyzABCDEFGHIJKLMNOPQRSTUVWXYZ0123456789~!@$%^&*_-+=<>.?/") (Txt.item Tx i) 0 (Str.length (Str.ofString "abcdefghijklmnopqrstuvwxyzABCDEFGHIJKLMNOPQRSTUVWXYZ0123456789~!@$%^&*_-+=<>.?/")) 1).isEmpty = false)
    (hW : Txt.slice Tx (some (0 : Nat)) (some Tx.length) = Tx) (hit : ∀ D ta tb, ItemIs [(D, tupOf [.str (Str.ofString "sym") ta, .str Tx tb])] (.ref D) tr none) : WordOk Tx tr none := by
  intro w vp vl mean mg mb dp un gd cn cs a ccd cl outer A₀ base h₀ L m s Q E news B F X N T hk x dx t1 t2 tt tp gg hm U hdx hd hu hret
  exact wat_sym hT hT0 (Nat.le_refl _) hc hc1 hc2 hc3 hc4 hc5 hc6 hin (.inl rfl) hW B F X N T hk hm U hdx hd hu fun _ _ h' tk' tp' ⟨D, ta, tb, e1, e2⟩ F' N' hoff => by
    subst e1 e2
    exact hret _ _ _ h' tk' tp' rfl (hit D ta tb) F' N' hoff
theorem word_bar {Tx : Str} {tr : Option Bool} {nuP : Option Int} (hT : Tx.length ≤ 1000) (hT0 : 0 < Tx.length) (hc : Txt.item Tx (0 : Nat) = Str.ofString "|") (hR : ReadOk 266 6 512 Tx tr nuP) : WordOk Tx tr nuP := by
  intro w vp vl mean mg mb dp un gd cn cs a ccd cl outer A₀ base h₀ L m s Q E news B F X N T hk x dx t1 t2 tt tp gg hm U hdx hd hu hret
  k_with "call ref" => (k_here; (with_reducible show wpAny _ _ (call (Value.ref 266) _) _ _ _); k_dflt (refine' hR ?k1 ?k2 ?k3 ?k4 ?k5 ?k6 ?k7 ?kU ?kd ?kr ?ku ?_; (case k1 => k_asm); (case k2 => k_asm); (case k3 => k_asm); (case k4 => k_asm); (case k5 => k_asm); (case k6 => exact rfl); (case k7 => exact scan_two (by k_mem) (by k_mem)); (case kU => k_updF); (case kd => omega); (case kr => ktr_room); (case ku => ktr_units)); intro itp itv nu h' tk' tp' hnu hit F' N' hoff)
  refine wpAny_call ?_
  k_dflt cell_enter
  intro g' L' h' tk₁ FG' F' N' hG' B' X' T'
  try dsimp only
  try k_lift B'
  try (with_reducible change wpAny _ _ _ _ _ _)
  try k_fold
  k_steps
  intro hst
  have kN : News h₀ L h' ([(x, instObj 297 dx), (dx, scD w t1 t2 Tx tt Tx.length tp')] ++ itp) := by assumption
  obtain ⟨r1, r2⟩ := scan_fin2 (itp := itp) N U hm hG' (fun q hq => N' q (List.mem_append_right _ hq)) hoff (fun q hq => kN q ((List.mem_append.mp hq).elim (List.mem_append_right _) (List.mem_append_left _))) hst
  exact hret _ _ _ _ _ _ hnu hit (by assumption) r1 r2
theorem word_quote {Tx : Str} {tr : Option Bool} {nuP : Option Int} (hT : Tx.length ≤ 1000) (hT0 : 0 < Tx.length) (hc : Txt.item Tx (0 : Nat) = Str.ofString "\"") (hR : ReadOk 259 6 512 Tx tr nuP) : WordOk Tx tr nuP := by
  intro w vp vl mean mg mb dp un gd cn cs a ccd cl outer A₀ base h₀ L m s Q E news B F X N T hk x dx t1 t2 tt tp gg hm U hdx hd hu hret
  k_with "call ref" => (k_here; (with_reducible show wpAny _ _ (call (Value.ref 259) _) _ _ _); k_dflt (refine' hR ?k1 ?k2 ?k3 ?k4 ?k5 ?k6 ?k7 ?kU ?kd ?kr ?ku ?_; (case k1 => k_asm); (case k2 => k_asm); (case k3 => k_asm); (case k4 => k_asm); (case k5 => k_asm); (case k6 => exact rfl); (case k7 => exact scan_two (by k_mem) (by k_mem)); (case kU => k_updF); (case kd => omega); (case kr => ktr_room); (case ku => ktr_units)); intro itp itv nu h' tk' tp' hnu hit F' N' hoff)
  refine wpAny_call ?_
  k_dflt cell_enter
  intro g' L' h' tk₁ FG' F' N' hG' B' X' T'
  try dsimp only
  try k_lift B'
  try (with_reducible change wpAny _ _ _ _ _ _)
  try k_fold
  k_steps
  intro hst
  have kN : News h₀ L h' ([(x, instObj 297 dx), (dx, scD w t1 t2 Tx tt Tx.length tp')] ++ itp) := by assumption
  obtain ⟨r1, r2⟩ := scan_fin2 (itp := itp) N U hm hG' (fun q hq => N' q (List.mem_append_right _ hq)) hoff (fun q hq => kN q ((List.mem_append.mp hq).elim (List.mem_append_right _) (List.mem_append_left _))) hst
  exact hret _ _ _ _ _ _ hnu hit (by assumption) r1 r2
theorem word_colon {Tx : Str} {tr : Option Bool} {nuP : Option Int} (hT : Tx.length ≤ 1000) (hT0 : 0 < Tx.length) (hc : Txt.item Tx (0 : Nat) = Str.ofString ":") (hR : ReadOk 273 6 512 Tx tr nuP) : WordOk Tx tr nuP := by
  intro w vp vl mean mg mb dp un gd cn cs a ccd cl outer A₀ base h₀ L m s Q E news B F X N T hk x dx t1 t2 tt tp gg hm U hdx hd hu hret
  k_with "call ref" => (k_here; (with_reducible show wpAny _ _ (call (Value.ref 273) _) _ _ _); k_dflt (refine' hR ?k1 ?k2 ?k3 ?k4 ?k5 ?k6 ?k7 ?kU ?kd ?kr ?ku ?_; (case k1 => k_asm); (case k2 => k_asm); (case k3 => k_asm); (case k4 => k_asm); (case k5 => k_asm); (case k6 => exact rfl); (case k7 => exact scan_two (by k_mem) (by k_mem)); (case kU => k_updF); (case kd => omega); (case kr => ktr_room); (case ku => ktr_units)); intro itp itv nu h' tk' tp' hnu hit F' N' hoff)
  refine wpAny_call ?_
  k_dflt cell_enter
  intro g' L' h' tk₁ FG' F' N' hG' B' X' T'
  try dsimp only
  try k_lift B'
  try (with_reducible change wpAny _ _ _ _ _ _)
  try k_fold
  k_steps
  intro hst
  have kN : News h₀ L h' ([(x, instObj 297 dx), (dx, scD w t1 t2 Tx tt Tx.length tp')] ++ itp) := by assumption
  obtain ⟨r1, r2⟩ := scan_fin2 (itp := itp) N U hm hG' (fun q hq => N' q (List.mem_append_right _ hq)) hoff (fun q hq => kN q ((List.mem_append.mp hq).elim (List.mem_append_right _) (List.mem_append_left _))) hst
  exact hret _ _ _ _ _ _ hnu hit (by assumption) r1 r2
theorem word_hash {Tx : Str} {tr : Option Bool} {nuP : Option Int} (hT : Tx.length ≤ 1000) (hT0 : 0 < Tx.length) (hc : Txt.item Tx (0 : Nat) = Str.ofString "#") (hR : ReadOk 280 6 512 Tx tr nuP) : WordOk Tx tr nuP := by
  intro w vp vl mean mg mb dp un gd cn cs a ccd cl outer A₀ base h₀ L m s Q E news B F X N T hk x dx t1 t2 tt tp gg hm U hdx hd hu hret
  k_with "call ref" => (k_here; (with_reducible show wpAny _ _ (call (Value.ref 280) _) _ _ _); k_dflt (refine' hR ?k1 ?k2 ?k3 ?k4 ?k5 ?k6 ?k7 ?kU ?kd ?kr ?ku ?_; (case k1 => k_asm); (case k2 => k_asm); (case k3 => k_asm); (case k4 => k_asm); (case k5 => k_asm); (case k6 => exact rfl); (case k7 => exact scan_two (by k_mem) (by k_mem)); (case kU => k_updF); (case kd => omega); (case kr => ktr_room); (case ku => ktr_units)); intro itp itv nu h' tk' tp' hnu hit F' N' hoff)
  refine wpAny_call ?_
  k_dflt cell_enter
  intro g' L' h' tk₁ FG' F' N' hG' B' X' T'
  try dsimp only
  try k_lift B'
  try (with_reducible change wpAny _ _ _ _ _ _)
  try k_fold
  k_steps
  intro hst
  have kN : News h₀ L h' ([(x, instObj 297 dx), (dx, scD w t1 t2 Tx tt Tx.length tp')] ++ itp) := by assumption
  obtain ⟨r1, r2⟩ := scan_fin2 (itp := itp) N U hm hG' (fun q hq => N' q (List.mem_append_right _ hq)) hoff (fun q hq => kN q ((List.mem_append.mp hq).elim (List.mem_append_right _) (List.mem_append_left _))) hst
  exact hret _ _ _ _ _ _ hnu hit (by assumption) r1 r2
end

section
open PySem PySem.W PyProof.Rows PySem.Calls PySem.Spec
set_option maxRecDepth 100000
set_option maxHeartbeats 2000000

def reservedNames : List Str := [Str.ofString "!", Str.ofString "_", Str.ofString "as", Str.ofString "BINARY", Str.ofString "DECIMAL", Str.ofString "exists", Str.ofString "forall", Str.ofString "HEXADECIMAL", Str.ofString "let", Str.ofString "match", Str.ofString "NUMERAL", Str.ofString "par", Str.ofString "STRING"]
theorem in_reserved {w : World} {A : Around} {E : Value → Shared → Prop} {s : Shared} {h₀ : Heap} {L : Addr} {m : Str → Option Value} {nm : Str} {t : Tok} {fb : Bool} {Q : Value → Shared → Prop} (F : Fr h₀ L s.heap m) (X : (Mine.pre.heap_1 w.params).In h₀)
    (hf : reservedNames.any (· == nm) = fb) (h : Q (.bool fb) s) : wpAny (model Challenge.rw_rg0209_01.row.prog w) A (compareOp .In (.str nm t) (.ref 196)) Q E s := by
  obtain ⟨o, vs, ho, hc, hd, hv⟩ : ∃ o vs, (Mine.pre.heap_1 w.params).lookup 196 = some o ∧ o.cls = .type "tuple" ∧ o.data = .seq vs ∧ StrsAre vs.toList reservedNames := ⟨_, _, rfl, rfl, rfl, by repeat constructor⟩
  exact in_tuple_strs (ys := reservedNames) ⟨o, F.keep _ _ (X _ _ ho), hc, _, hd⟩ hv (by rw [hf]; exact h)
local macro_rules | `(tactic| k_extra "mine compareOp In str ref") => `(tactic| (k_here; (with_reducible show wpAny _ _ (compareOp _ _ (Value.ref 196)) _ _ _); k_dflt (refine' in_reserved ?k1 ?k2 ?k3 ?_; (case k1 | k2 => k_asm); (case k3 => assumption); k_whole)))
theorem quoted_ok {Tx V : Str} {tr : Option Bool} (hT : Tx.length ≤ 1000) (hT0 : 0 < Tx.length) (hf : Txt.find3 Tx (Str.ofString "|") (((0 : Nat) : Int) + 1) = (Tx.length : Int) - 1)
    (hV : Txt.slice Tx (some (((0 : Nat) : Int) + 1)) (some (Txt.find3 Tx (Str.ofString "|") (((0 : Nat) : Int) + 1))) = V) (hb : Txt.find V (Str.ofString "\\") = -1) (hr : reservedNames.any (· == V) = false)
    (hit : ∀ D ta tb, ItemIs [(D, tupOf [.str (Str.ofString "sym") ta, .str V tb])] (.ref D) tr none) : ReadOk 266 6 512 Tx tr none := by
  w_top off
  k_with_none
  subst hV
  intro w vp vl mean mg mb dp un gd cn cs a ccd cl outer A₀ base h₀ L m s Q E news B F X N T hk x dx t1 t2 tt tp gg hm U hdx hd hu hret
  refine wpAny_call ?_
  k_dflt cell_enter
  intro g' L' h' tk₁ FG' F' N' hG' B' X' T'
  try dsimp only
  try k_lift B'
  have hfin : ∀ (D : Addr) (h' : Heap) (tk' : Nat) (tp' ta tb : Tok) (sp : Int), Fr h₀ L h' m → News h₀ L h' [(D, tupOf [.str (Str.ofString "sym") ta, .str (Txt.slice Tx (some (((0 : Nat) : Int) + 1)) (some (Txt.find3 Tx (Str.ofString "|") (((0 : Nat) : Int) + 1)))) tb]), (x, instObj 297 dx), (dx, scD w t1 t2 Tx tt sp tp')] → News g' L' h' [(D, tupOf [.str (Str.ofString "sym") ta, .str (Txt.slice Tx (some (((0 : Nat) : Int) + 1)) (some (Txt.find3 Tx (Str.ofString "|") (((0 : Nat) : Int) + 1)))) tb]), (x, instObj 297 dx), (dx, scD w t1 t2 Tx tt sp tp')] → (@LT.lt Nat _ x D ∧ @LT.lt Nat _ dx D) →
      (∀ b o₁, s.heap.get? b = some o₁ → b ∉ [(x, instObj 297 dx), (dx, scD w t1 t2 Tx tt (0 : Nat) tp)].map (·.1) → h'.get? b = some o₁) → sp = (Tx.length : Int) → Q (.ref D) { s with heap := h', toks := tk' } := by
    intro D h' tk' tp' ta tb sp F' N' kG hl hst hsp
    subst hsp
    obtain ⟨r1, r2⟩ := scan_fin2 (itp := [(D, tupOf [.str (Str.ofString "sym") ta, .str (Txt.slice Tx (some (((0 : Nat) : Int) + 1)) (some (Txt.find3 Tx (Str.ofString "|") (((0 : Nat) : Int) + 1)))) tb])]) N U hm hG' (fun q hq => kG q (by rw [List.mem_singleton.mp hq]; exact .head _)) (fun p hp b hb => by
      rw [List.mem_singleton.mp hp]
      simp only [List.mem_cons, List.not_mem_nil, or_false] at hb
      rcases hb with rfl | rfl
      · exact Nat.ne_of_gt hl.1
      · exact Nat.ne_of_gt hl.2) N' hst
    exact hret _ _ _ _ _ _ rfl (hit D ta tb) F' r1 r2
  try (with_reducible change wpAny _ _ _ _ _ _)
  try k_fold
  k_steps
  exact fun hst => hfin _ _ _ _ _ _ _ (by assumption) (by assumption) (by assumption) (by assumption) hst (by omega)
theorem string_ok {Tx V : Str} {tr : Option Bool} (hT : Tx.length ≤ 1000) (hT0 : 0 < Tx.length) (hf : Txt.find3 Tx (Str.ofString "\"") (((0 : Nat) : Int) + 1) = (Tx.length : Int) - 1)
    (hV : (Txt.join (Str.ofString "") [(Txt.slice Tx (some (((0 : Nat) : Int) + 1)) (some (Txt.find3 Tx (Str.ofString "\"") (((0 : Nat) : Int) + 1))))]) = V)
    (hit : ∀ D ta tb, ItemIs [(D, tupOf [.str (Str.ofString "str") ta, .str V tb])] (.ref D) tr none) : ReadOk 259 6 512 Tx tr none := by
  subst hV
  intro w vp vl mean mg mb dp un gd cn cs a ccd cl outer A₀ base h₀ L m s Q E news B F X N T hk x dx t1 t2 tt tp gg hm U hdx hd hu hret
  refine wpAny_call ?_
  k_dflt cell_enter
  intro g' L' h' tk₁ FG' F' N' hG' B' X' T'
  try dsimp only
  try k_lift B'
  have hfin : ∀ (D : Addr) (h' : Heap) (tk' : Nat) (tp' ta tb : Tok) (sp : Int) (l : Addr) (ol : Obj), Fr h₀ L h' m → News h₀ L h' [(D, tupOf [.str (Str.ofString "str") ta, .str (Txt.join (Str.ofString "") [(Txt.slice Tx (some (((0 : Nat) : Int) + 1)) (some (Txt.find3 Tx (Str.ofString "\"") (((0 : Nat) : Int) + 1))))]) tb]), (l, ol), (x, instObj 297 dx), (dx, scD w t1 t2 Tx tt sp tp')] → News g' L' h' [(D, tupOf [.str (Str.ofString "str") ta, .str (Txt.join (Str.ofString "") [(Txt.slice Tx (some (((0 : Nat) : Int) + 1)) (some (Txt.find3 Tx (Str.ofString "\"") (((0 : Nat) : Int) + 1))))]) tb]), (l, ol), (x, instObj 297 dx), (dx, scD w t1 t2 Tx tt sp tp')] → (@LT.lt Nat _ l D ∧ @LT.lt Nat _ x D ∧ @LT.lt Nat _ dx D) →
      (∀ b o₁, s.heap.get? b = some o₁ → b ∉ [(x, instObj 297 dx), (dx, scD w t1 t2 Tx tt (0 : Nat) tp)].map (·.1) → h'.get? b = some o₁) → sp = (Tx.length : Int) → Q (.ref D) { s with heap := h', toks := tk' } := by
    intro D h' tk' tp' ta tb sp l ol F' N' kG hl hst hsp
    subst hsp
    obtain ⟨r1, r2⟩ := scan_fin2 (itp := [(D, tupOf [.str (Str.ofString "str") ta, .str (Txt.join (Str.ofString "") [(Txt.slice Tx (some (((0 : Nat) : Int) + 1)) (some (Txt.find3 Tx (Str.ofString "\"") (((0 : Nat) : Int) + 1))))]) tb])]) N U hm hG' (fun q hq => kG q (by rw [List.mem_singleton.mp hq]; exact .head _)) (fun p hp b hb => by
      rw [List.mem_singleton.mp hp]
      simp only [List.mem_cons, List.not_mem_nil, or_false] at hb
      rcases hb with rfl | rfl
      · exact Nat.ne_of_gt hl.2.1
      · exact Nat.ne_of_gt hl.2.2) (fun q hq => N' q (by
      rcases List.mem_cons.mp hq with rfl | hq
      · exact .head _
      · exact .tail _ (.tail _ hq))) hst
    exact hret _ _ _ _ _ _ rfl (hit D ta tb) F' r1 r2
  have hsp9 : Txt.find3 Tx (Str.ofString "\"") (((0 : Nat) : Int) + 1) + 1 = (Tx.length : Int) := by omega
  have hrefl : Tx.length = Tx.length := rfl
  k_with "call ref" => ((with_reducible rename News _ _ _ _ => kN9); rw [hsp9] at kN9; (refine' sign_end ?k1 ?k2 ?k3 ?k4 ?k5 ?k6 ?k7 ?k8 ?k9 ?k10 ?_; (case k1 => k_asm); (case k2 => k_asm); (case k3 => k_asm); (case k4 => exact kN9); (case k5 => k_asm); (case k6 => exact rfl); (case k7 => exact scan_two (by k_mem) (by k_mem)); (case k8 => assumption); (case k9 => assumption); (case k10 => ktr_room)); intro h' tk' t' F' N' _)
  try (with_reducible change wpAny _ _ _ _ _ _)
  try k_fold
  k_steps
  exact fun hst => hfin _ _ _ _ _ _ _ _ _ (by assumption) (by assumption) (by assumption) (by assumption) hst (by omega)
end

section
open PySem PySem.W PyProof.Rows PySem.Calls PySem.Spec
set_option maxRecDepth 100000
set_option maxHeartbeats 2000000

theorem key_ok {Tx V : Str} {tr : Option Bool} (hT : Tx.length ≤ 1000) (hT0 : 1 < Tx.length) (hV : Txt.slice Tx (some ((1 : Nat) : Int)) (some Tx.length) = V) (hV0 : 0 < V.length) (hV1 : (V == Str.ofString "") = false) (hV2 : (Builtin.Str.occurrences (Str.ofString "0123456789") (Txt.item V 0) 0 (Str.length (Str.ofString "0123456789")) 1).isEmpty = true)
    (hin : ∀ i, 1 ≤ i → i < Tx.length → (Builtin.Str.occurrences (Str.ofString "abcdefghijklmnopqrstuvwxyzABCDEFGHIJKLMNOPQRSTUVWXYZ0123456789~!@$%^&*_-+=<>.?/") (Txt.item Tx i) 0 (Str.length (Str.ofString "abcdefghijklmnopqrstuvwxyzABCDEFGHIJKLMNOPQRSTUVWXYZ0123456789~!@$%^&*_-+=<>.?/")) 1).isEmpty = false)
    (hit : ∀ D ta tb, ItemIs [(D, tupOf [.str (Str.ofString "key") ta, .str V tb])] (.ref D) tr none) : ReadOk 273 6 512 Tx tr none := by
  w_top off
  k_with_none
  intro w vp vl mean mg mb dp un gd cn cs a ccd cl outer A₀ base h₀ L m s Q E news B F X N T hk x dx t1 t2 tt tp gg hm U hdx hd hu hret
  refine wpAny_call ?_
  k_dflt cell_enter
  intro g' L' h' tk₁ FG' F' N' hG' B' X' T'
  try dsimp only
  try k_lift B'
  have hfin : ∀ (D : Addr) (h' : Heap) (tk' : Nat) (tp' ta tb : Tok) (sp : Int), Fr h₀ L h' m → News h₀ L h' [(D, tupOf [.str (Str.ofString "key") ta, .str V tb]), (x, instObj 297 dx), (dx, scD w t1 t2 Tx tt sp tp')] → News g' L' h' [(D, tupOf [.str (Str.ofString "key") ta, .str V tb]), (x, instObj 297 dx), (dx, scD w t1 t2 Tx tt sp tp')] → (@LT.lt Nat _ x D ∧ @LT.lt Nat _ dx D) →
      (∀ b o₁, s.heap.get? b = some o₁ → b ∉ [(x, instObj 297 dx), (dx, scD w t1 t2 Tx tt (0 : Nat) tp)].map (·.1) → h'.get? b = some o₁) → sp = (Tx.length : Int) → Q (.ref D) { s with heap := h', toks := tk' } := by
    intro D h' tk' tp' ta tb sp F' N' kG hl hst hsp
    subst hsp
    obtain ⟨r1, r2⟩ := scan_fin2 (itp := [(D, tupOf [.str (Str.ofString "key") ta, .str V tb])]) N U hm hG' (fun q hq => kG q (by rw [List.mem_singleton.mp hq]; exact .head _)) (fun p hp b hb => by
      rw [List.mem_singleton.mp hp]
      simp only [List.mem_cons, List.not_mem_nil, or_false] at hb
      rcases hb with rfl | rfl
      · exact Nat.ne_of_gt hl.1
      · exact Nat.ne_of_gt hl.2) N' hst
    exact hret _ _ _ _ _ _ rfl (hit D ta tb) F' r1 r2
  have hnx : Tx.length = Tx.length ∨ (Tx.length < Tx.length ∧ (Builtin.Str.occurrences (Str.ofString "abcdefghijklmnopqrstuvwxyzABCDEFGHIJKLMNOPQRSTUVWXYZ0123456789~!@$%^&*_-+=<>.?/") (Txt.item Tx Tx.length) 0 (Str.length (Str.ofString "abcdefghijklmnopqrstuvwxyzABCDEFGHIJKLMNOPQRSTUVWXYZ0123456789~!@$%^&*_-+=<>.?/")) 1).isEmpty = true) := .inl rfl
  have e1 : (((0 : Nat) : Int) + 1) = ((1 : Nat) : Int) := rfl
  k_with "call ref" => ((with_reducible rename News _ _ _ _ => kN9); rw [e1] at kN9; k_extra "mine call run"; intro h' tk' t' tp' F' N')
  try (with_reducible change wpAny _ _ _ _ _ _)
  try k_fold
  k_steps
  exact fun hst => hfin _ _ _ _ _ _ _ (by assumption) (by assumption) (by assumption) (by assumption) hst (by omega)
section
variable {w : World} {vp : Program} {vl : List Str} {mean : ExcName → Option Value} {mg mb : Str → Option Value} {dp un : Nat} {gd : Option (List Code)} {cn : Str} {cs : Scope} {a : Addr} {ccd : Value} {cl : List (Str × Addr)} {outer : List Env} {A₀ : Around}
    {base h₀ : Heap} {L : Addr} {m : Str → Option Value} {s : Shared} {Q E : Value → Shared → Prop} {news : List (Addr × Obj)}
    (B : Below A₀ base outer h₀) (F : Fr h₀ L s.heap m) (X : (Mine.pre.heap_1 w.params).In h₀) (N : News h₀ L s.heap news) (T : Top vp vl mean mg mb h₀) (hk : cs.kind = .function)
include B F X N T hk

theorem value_one {t t' : Tok}
    (hd : dp + 1 < recursionLimit)
    (hret : ∀ (h' : Heap) (tk' : Nat) (t' : Tok), Fr h₀ L h' m → News h₀ L h' news → Same s.heap h' → Q (.int 1 t') { s with heap := h', toks := tk' }) :
    wpAny (model Challenge.rw_rg0209_01.row.prog w) (ktrTop dp un gd cn cs L a ccd cl outer) (call (.ref 210) [.str (Str.ofString "1") t, .int 2 t']) Q E s := by
  have hm : ∀ q ∈ ([] : List (Addr × Obj)), q ∈ news := by simp
  refine wpAny_call ?_
  k_dflt cell_enter
  intro g' L' h' tk₁ FG' F' N' hG' B' X' T'
  try dsimp only
  try k_lift B'
  try (with_reducible change wpAny _ _ _ _ _ _)
  try k_fold
  k_steps
  intro hst
  have hS := same_of2 N hm (by assumption) (fun _ hq => hq) hst
  exact hret _ _ _ (by assumption) (news_keeps N hS) hS
end
local macro_rules | `(tactic| k_extra "mine call ref") => `(tactic| (k_here; (with_reducible show wpAny _ _ (call (Value.ref 210) _) _ _ _); k_dflt (refine' value_one ?k1 ?k2 ?k3 ?k4 ?k5 ?k6 ?k7 ?_; (case k1 | k2 | k3 | k4 | k5 => k_asm); (case k6 => exact rfl); (case k7 => ktr_room)); intro h' tk' t' F' N' _))
theorem bits_ok {Tx : Str} {tr : Option Bool} (hT : Tx.length = 3) (hkb : Txt.slice Tx (some (((0 : Nat) : Int) + 1)) (some (((0 : Nat) : Int) + 2)) = Str.ofString "b")
    (hV : Txt.slice Tx (some ((2 : Nat) : Int)) (some Tx.length) = Str.ofString "1")
    (hin : ∀ i, 2 ≤ i → i < Tx.length → (Builtin.Str.occurrences (Str.ofString "01") (Txt.item Tx i) 0 (Str.length (Str.ofString "01")) 1).isEmpty = false)
    (hit : ∀ D ta tb tc, ItemIs [(D, tupOf [.str (Str.ofString "bits") ta, .int 1 tb, .int 1 tc])] (.ref D) tr none) : ReadOk 280 6 512 Tx tr none := by
  intro w vp vl mean mg mb dp un gd cn cs a ccd cl outer A₀ base h₀ L m s Q E news B F X N T hk x dx t1 t2 tt tp gg hm U hdx hd hu hret
  refine wpAny_call ?_
  k_dflt cell_enter
  intro g' L' h' tk₁ FG' F' N' hG' B' X' T'
  try dsimp only
  try k_lift B'
  have hfin : ∀ (D : Addr) (h' : Heap) (tk' : Nat) (tp' ta tb tc : Tok) (sp : Int) (l : Addr) (ol : Obj), Fr h₀ L h' m → News h₀ L h' [(D, tupOf [.str (Str.ofString "bits") ta, .int 1 tb, .int 1 tc]), (l, ol), (x, instObj 297 dx), (dx, scD w t1 t2 Tx tt sp tp')] → News g' L' h' [(D, tupOf [.str (Str.ofString "bits") ta, .int 1 tb, .int 1 tc]), (l, ol), (x, instObj 297 dx), (dx, scD w t1 t2 Tx tt sp tp')] → (@LT.lt Nat _ l D ∧ @LT.lt Nat _ x D ∧ @LT.lt Nat _ dx D) →
      (∀ b o₁, s.heap.get? b = some o₁ → b ∉ [(x, instObj 297 dx), (dx, scD w t1 t2 Tx tt (0 : Nat) tp)].map (·.1) → h'.get? b = some o₁) → sp = (Tx.length : Int) → Q (.ref D) { s with heap := h', toks := tk' } := by
    intro D h' tk' tp' ta tb tc sp l ol F' N' kG hl hst hsp
    subst hsp
    obtain ⟨r1, r2⟩ := scan_fin2 (itp := [(D, tupOf [.str (Str.ofString "bits") ta, .int 1 tb, .int 1 tc])]) N U hm hG' (fun q hq => kG q (by rw [List.mem_singleton.mp hq]; exact .head _)) (fun p hp b hb => by
      rw [List.mem_singleton.mp hp]
      simp only [List.mem_cons, List.not_mem_nil, or_false] at hb
      rcases hb with rfl | rfl
      · exact Nat.ne_of_gt hl.2.1
      · exact Nat.ne_of_gt hl.2.2) (fun q hq => N' q (by
      rcases List.mem_cons.mp hq with rfl | hq
      · exact .head _
      · exact .tail _ (.tail _ hq))) hst
    exact hret _ _ _ _ _ _ rfl (hit D ta tb tc) F' r1 r2
  have hk1 : (Txt.slice Tx (some (((0 : Nat) : Int) + 1)) (some (((0 : Nat) : Int) + 2)) == Str.ofString "b") = true := by rw [hkb]; decide
  have hk3 : ([Str.ofString "b", Str.ofString "x"].any fun x => x == Txt.slice Tx (some (((0 : Nat) : Int) + 1)) (some (((0 : Nat) : Int) + 2))) = true := by rw [hkb]; decide
  have hT1 : Tx.length ≤ 1000 := by omega
  have hrefl : Tx.length = Tx.length := rfl
  have hnx : Tx.length = Tx.length ∨ (Tx.length < Tx.length ∧ (Builtin.Str.occurrences (Str.ofString "01") (Txt.item Tx Tx.length) 0 (Str.length (Str.ofString "01")) 1).isEmpty = true) := .inl rfl
  have e1 : (((0 : Nat) : Int) + 2) = ((2 : Nat) : Int) := rfl
  k_with "call ref" => ((with_reducible rename News _ _ _ _ => kN9); rw [e1] at kN9; k_extra "mine call run"; intro h' tk' t' tp' F' N')
  try (with_reducible change wpAny _ _ _ _ _ _)
  try k_fold
  k_steps
  exact fun hst => hfin _ _ _ _ _ _ _ _ _ _ (by assumption) (by assumption) (by assumption) (by assumption) hst (by omega)
end

section
open PySem PySem.W PyProof.Rows PySem.Calls PySem.Spec
set_option maxRecDepth 100000
set_option maxHeartbeats 2000000

section
variable {w : World} {vp : Program} {vl : List Str} {mean : ExcName → Option Value} {mg mb : Str → Option Value} {dp un : Nat} {gd : Option (List Code)} {cn : Str} {cs : Scope} {a : Addr} {ccd : Value} {cl : List (Str × Addr)} {outer : List Env} {A₀ : Around}
    {base h₀ : Heap} {L : Addr} {m : Str → Option Value} {s : Shared} {Q E : Value → Shared → Prop} {news : List (Addr × Obj)}
    (B : Below A₀ base outer h₀) (F : Fr h₀ L s.heap m) (X : (Mine.pre.heap_1 w.params).In h₀) (N : News h₀ L s.heap news) (T : Top vp vl mean mg mb h₀) (hk : cs.kind = .function)
include B F X N T hk

theorem gcd_ten {t t' : Tok}
    (hd : dp + 1 < recursionLimit)
    (hret : ∀ (h' : Heap) (tk' : Nat) (t' : Tok), Fr h₀ L h' m → News h₀ L h' news → Same s.heap h' → Q (.int 10 t') { s with heap := h', toks := tk' }) :
    wpAny (model Challenge.rw_rg0209_01.row.prog w) (ktrTop dp un gd cn cs L a ccd cl outer) (call (.ref 181) [.int 10 t, .int 10 t']) Q E s := by
  w_top off
  k_with_none
  have hm : ∀ q ∈ ([] : List (Addr × Obj)), q ∈ news := by simp
  refine wpAny_call ?_
  k_dflt cell_enter
  intro g' L' h' tk₁ FG' F' N' hG' B' X' T'
  try dsimp only
  try k_lift B'
  try (with_reducible change wpAny _ _ _ _ _ _)
  try k_fold
  k_steps
  intro hst
  have hS := same_of2 N hm (by assumption) (fun _ hq => by cases hq) hst
  exact hret _ _ _ (by assumption) (news_keeps N hS) hS
end
local macro_rules | `(tactic| k_extra "mine call ref") => `(tactic| (k_here; (with_reducible show wpAny _ _ (call (Value.ref 181) _) _ _ _); k_dflt (refine' gcd_ten ?k1 ?k2 ?k3 ?k4 ?k5 ?k6 ?k7 ?_; (case k1 | k2 | k3 | k4 | k5 => k_asm); (case k6 => exact rfl); (case k7 => ktr_room)); intro h' tk' t' F' N' _))
section
variable {w : World} {vp : Program} {vl : List Str} {mean : ExcName → Option Value} {mg mb : Str → Option Value} {dp un : Nat} {gd : Option (List Code)} {cn : Str} {cs : Scope} {a : Addr} {ccd : Value} {cl : List (Str × Addr)} {outer : List Env} {A₀ : Around}
    {base h₀ : Heap} {L : Addr} {m : Str → Option Value} {s : Shared} {Q E : Value → Shared → Prop} {news : List (Addr × Obj)}
    (B : Below A₀ base outer h₀) (F : Fr h₀ L s.heap m) (X : (Mine.pre.heap_1 w.params).In h₀) (N : News h₀ L s.heap news) (T : Top vp vl mean mg mb h₀) (hk : cs.kind = .function)
include B F X N T hk

theorem ratio_ten {t t' : Tok}
    (hd : dp + 2 < recursionLimit)
    (hret : ∀ (D : Addr) (h' : Heap) (tk' : Nat) (ta tb : Tok), Fr h₀ L h' m → News h₀ L h' ((D, tupOf [.int 1 ta, .int 1 tb]) :: news) → (∀ p ∈ news, p.1 ≠ D) → Same s.heap h' → Q (.ref D) { s with heap := h', toks := tk' }) :
    wpAny (model Challenge.rw_rg0209_01.row.prog w) (ktrTop dp un gd cn cs L a ccd cl outer) (call (.ref 188) [.int 10 t, .int 10 t']) Q E s := by
  have hm : ∀ q ∈ ([] : List (Addr × Obj)), q ∈ news := by simp
  refine wpAny_call ?_
  k_dflt cell_enter
  intro g' L' h' tk₁ FG' F' N' hG' B' X' T'
  try dsimp only
  try k_lift B'
  have hfin : ∀ (D : Addr) (h' : Heap) (tk' : Nat) (ta tb : Tok), Fr h₀ L h' m → News h₀ L h' [(D, tupOf [.int 1 ta, .int 1 tb])] → News g' L' h' [(D, tupOf [.int 1 ta, .int 1 tb])] → (∀ b o₁, s.heap.get? b = some o₁ → b ∉ ([] : List (Addr × Obj)).map (·.1) → h'.get? b = some o₁) → Q (.ref D) { s with heap := h', toks := tk' } := by
    intro D h' tk' ta tb F' N' kG hst
    have hS := same_of2 N hm N' (fun _ hq => by cases hq) hst
    refine hret D h' tk' ta tb F' (fun q hq => ?_) (fresh_of N hm hG' kG (fun _ hp => by cases hp)) hS
    rcases List.mem_cons.mp hq with rfl | hq
    · exact N' _ (.head _)
    · exact news_keeps N hS q hq
  try (with_reducible change wpAny _ _ _ _ _ _)
  try k_fold
  k_steps
  exact fun hst => hfin _ _ _ _ _ (by assumption) (by assumption) (by assumption) hst
end
local macro_rules | `(tactic| k_extra "mine call ref") => `(tactic| (k_here; (with_reducible show wpAny _ _ (call (Value.ref 188) _) _ _ _); k_dflt (refine' ratio_ten ?k1 ?k2 ?k3 ?k4 ?k5 ?k6 ?k7 ?_; (case k1 | k2 | k3 | k4 | k5 => k_asm); (case k6 => exact rfl); (case k7 => ktr_room)); intro D h' tk' ta tb F' N' _ _))
section
variable {w : World} {vp : Program} {vl : List Str} {mean : ExcName → Option Value} {mg mb : Str → Option Value} {dp un : Nat} {gd : Option (List Code)} {cn : Str} {cs : Scope} {a : Addr} {ccd : Value} {cl : List (Str × Addr)} {outer : List Env} {A₀ : Around}
    {base h₀ : Heap} {L : Addr} {m : Str → Option Value} {s : Shared} {Q E : Value → Shared → Prop} {news : List (Addr × Obj)}
    (B : Below A₀ base outer h₀) (F : Fr h₀ L s.heap m) (X : (Mine.pre.heap_1 w.params).In h₀) (N : News h₀ L s.heap news) (T : Top vp vl mean mg mb h₀) (hk : cs.kind = .function)
include B F X N T hk

theorem rod_ok {t t' : Tok}
    (hd : dp + 3 < recursionLimit)
    (hret : ∀ (D : Addr) (h' : Heap) (tk' : Nat) (ta tb : Tok), Fr h₀ L h' m → News h₀ L h' ((D, tupOf [.int 1 ta, .int 1 tb]) :: news) → (∀ p ∈ news, p.1 ≠ D) → Same s.heap h' → Q (.ref D) { s with heap := h', toks := tk' }) :
    wpAny (model Challenge.rw_rg0209_01.row.prog w) (ktrTop dp un gd cn cs L a ccd cl outer) (call (.ref 195) [.str (Str.ofString "1") t, .str (Str.ofString "0") t']) Q E s := by
  have hm : ∀ q ∈ ([] : List (Addr × Obj)), q ∈ news := by simp
  refine wpAny_call ?_
  k_dflt cell_enter
  intro g' L' h' tk₁ FG' F' N' hG' B' X' T'
  try dsimp only
  try k_lift B'
  have hfin : ∀ (D : Addr) (h' : Heap) (tk' : Nat) (ta tb : Tok), Fr h₀ L h' m → News h₀ L h' [(D, tupOf [.int 1 ta, .int 1 tb])] → News g' L' h' [(D, tupOf [.int 1 ta, .int 1 tb])] → (∀ b o₁, s.heap.get? b = some o₁ → b ∉ ([] : List (Addr × Obj)).map (·.1) → h'.get? b = some o₁) → Q (.ref D) { s with heap := h', toks := tk' } := by
    intro D h' tk' ta tb F' N' kG hst
    have hS := same_of2 N hm N' (fun _ hq => by cases hq) hst
    refine hret D h' tk' ta tb F' (fun q hq => ?_) (fresh_of N hm hG' kG (fun _ hp => by cases hp)) hS
    rcases List.mem_cons.mp hq with rfl | hq
    · exact N' _ (.head _)
    · exact news_keeps N hS q hq
  try (with_reducible change wpAny _ _ _ _ _ _)
  try k_fold
  k_steps
  exact fun hst => hfin _ _ _ _ _ (by assumption) (by assumption) (by assumption) hst
end
local macro_rules | `(tactic| k_extra "mine call ref") => `(tactic| (k_here; (with_reducible show wpAny _ _ (call (Value.ref 195) _) _ _ _); k_dflt (refine' rod_ok ?k1 ?k2 ?k3 ?k4 ?k5 ?k6 ?k7 ?_; (case k1 | k2 | k3 | k4 | k5 => k_asm); (case k6 => exact rfl); (case k7 => ktr_room)); intro D h' tk' ta tb F' N' _ _))
theorem dec_ok {Tx : Str} {tr : Option Bool} (hT : Tx.length = 3) (hW1 : Txt.slice Tx (some ((0 : Nat) : Int)) (some ((1 : Nat) : Int)) = Str.ofString "1") (hW2 : Txt.slice Tx (some ((2 : Nat) : Int)) (some Tx.length) = Str.ofString "0") (hc : Txt.item Tx ((1 : Nat) : Int) = Str.ofString ".")
    (hin1 : ∀ i, 0 ≤ i → i < 1 → (Builtin.Str.occurrences (Str.ofString "0123456789") (Txt.item Tx (i : Nat)) 0 (Str.length (Str.ofString "0123456789")) 1).isEmpty = false)
    (hin2 : ∀ i, 2 ≤ i → i < Tx.length → (Builtin.Str.occurrences (Str.ofString "0123456789") (Txt.item Tx (i : Nat)) 0 (Str.length (Str.ofString "0123456789")) 1).isEmpty = false)
    (hit : ∀ D D₂ ta tb tc, ItemIs [(D, tupOf [.str (Str.ofString "dec") ta, .ref D₂]), (D₂, tupOf [.int 1 tb, .int 1 tc])] (.ref D) tr none) : ReadOk 287 6 512 Tx tr none := by
  intro w vp vl mean mg mb dp un gd cn cs a ccd cl outer A₀ base h₀ L m s Q E news B F X N T hk x dx t1 t2 tt tp gg hm U hdx hd hu hret
  refine wpAny_call ?_
  k_dflt cell_enter
  intro g' L' h' tk₁ FG' F' N' hG' B' X' T'
  try dsimp only
  try k_lift B'
  have hT1 : Tx.length ≤ 1000 := by omega
  have hlt1 : 1 < Tx.length := by omega
  have hrefl : Tx.length = Tx.length := rfl
  have hw : (Str.ofString "1" ++ Str.ofString "0").length ≤ 640 := by decide
  have hnx1 : 1 = Tx.length ∨ (1 < Tx.length ∧ (Builtin.Str.occurrences (Str.ofString "0123456789") (Txt.item Tx ((1 : Nat) : Int)) 0 (Str.length (Str.ofString "0123456789")) 1).isEmpty = true) := .inr ⟨hlt1, by rw [hc]; decide +kernel⟩
  have hnx2 : Tx.length = Tx.length ∨ (Tx.length < Tx.length ∧ (Builtin.Str.occurrences (Str.ofString "0123456789") (Txt.item Tx Tx.length) 0 (Str.length (Str.ofString "0123456789")) 1).isEmpty = true) := .inl rfl
  have e1 : (((1 : Nat) : Int) + 1) = ((2 : Nat) : Int) := rfl
  k_with "call ref" => ((with_reducible rename News _ _ _ _ => kN9); rw [e1] at kN9; k_extra "mine call run"; intro h' tk' t' tp' F' N')
  k_with "call ref" => (k_extra "mine call run"; intro h' tk' t' tp' F' N')
  have hfin : ∀ (D D₂ : Addr) (h' : Heap) (tk' : Nat) (tp' ta tb tc : Tok), Fr h₀ L h' m → News h₀ L h' [(D, tupOf [.str (Str.ofString "dec") ta, .ref D₂]), (D₂, tupOf [.int 1 tb, .int 1 tc]), (x, instObj 297 dx), (dx, scD w t1 t2 Tx tt Tx.length tp')] → News g' L' h' [(D, tupOf [.str (Str.ofString "dec") ta, .ref D₂]), (D₂, tupOf [.int 1 tb, .int 1 tc]), (x, instObj 297 dx), (dx, scD w t1 t2 Tx tt Tx.length tp')] → (@LT.lt Nat _ D₂ D ∧ @LT.lt Nat _ x D ∧ @LT.lt Nat _ dx D) → (∀ p ∈ [(x, instObj 297 dx), (dx, scD w t1 t2 Tx tt Tx.length tp')], p.1 ≠ D₂) →
      (∀ b o₁, s.heap.get? b = some o₁ → b ∉ [(x, instObj 297 dx), (dx, scD w t1 t2 Tx tt (0 : Nat) tp)].map (·.1) → h'.get? b = some o₁) → Q (.ref D) { s with heap := h', toks := tk' } := by
    intro D D₂ h' tk' tp' ta tb tc F' N' kG hl hne hst
    obtain ⟨r1, r2⟩ := scan_fin2 (itp := [(D, tupOf [.str (Str.ofString "dec") ta, .ref D₂]), (D₂, tupOf [.int 1 tb, .int 1 tc])]) N U hm hG' (fun q hq => kG q (List.mem_append_left _ hq)) (fun p hp b hb => by
      simp only [List.mem_cons, List.not_mem_nil, or_false] at hp hb
      rcases hp with rfl | rfl
      · rcases hb with rfl | rfl
        · exact Nat.ne_of_gt hl.2.1
        · exact Nat.ne_of_gt hl.2.2
      · rcases hb with rfl | rfl
        · exact Ne.symm (hne _ (.head _))
        · exact Ne.symm (hne _ (.tail _ (.head _)))) N' hst
    exact hret _ _ _ _ _ _ rfl (hit D D₂ ta tb tc) F' r1 r2
  try (with_reducible change wpAny _ _ _ _ _ _)
  try k_fold
  k_steps
  exact fun hst => hfin _ _ _ _ _ _ _ _ (by assumption) (by assumption) (by assumption) (by assumption) (by assumption) hst
end

section
open PySem PySem.W PyProof.Rows PySem.Calls PySem.Spec
set_option maxRecDepth 100000
set_option maxHeartbeats 2000000

theorem word_digit {Tx : Str} {tr : Option Bool} {nuP : Option Int} (hT : Tx.length ≤ 1000) (hT0 : 0 < Tx.length) {c : Str} (hc : Txt.item Tx (0 : Nat) = c)
    (hc1 : (c == Str.ofString "") = false) (hc2 : (c == Str.ofString "\"") = false) (hc3 : (c == Str.ofString "|") = false) (hc4 : (c == Str.ofString ":") = false) (hc5 : (c == Str.ofString "#") = false) (hc6 : (Builtin.Str.occurrences (Str.ofString "0123456789") c 0 (Str.length (Str.ofString "0123456789")) 1).isEmpty = false) (hR : ReadOk 287 6 512 Tx tr nuP) : WordOk Tx tr nuP := by
  w_top off
  k_with_none
  intro w vp vl mean mg mb dp un gd cn cs a ccd cl outer A₀ base h₀ L m s Q E news B F X N T hk x dx t1 t2 tt tp gg hm U hdx hd hu hret
  k_with "call ref" => (k_here; (with_reducible show wpAny _ _ (call (Value.ref 287) _) _ _ _); k_dflt (refine' hR ?k1 ?k2 ?k3 ?k4 ?k5 ?k6 ?k7 ?kU ?kd ?kr ?ku ?_; (case k1 => k_asm); (case k2 => k_asm); (case k3 => k_asm); (case k4 => k_asm); (case k5 => k_asm); (case k6 => exact rfl); (case k7 => exact scan_two (by k_mem) (by k_mem)); (case kU => k_updF); (case kd => omega); (case kr => ktr_room); (case ku => ktr_units)); intro itp itv nu h' tk' tp' hnu hit F' N' hoff)
  refine wpAny_call ?_
  k_dflt cell_enter
  intro g' L' h' tk₁ FG' F' N' hG' B' X' T'
  try dsimp only
  try k_lift B'
  try (with_reducible change wpAny _ _ _ _ _ _)
  try k_fold
  k_steps
  intro hst
  have kN : News h₀ L h' ([(x, instObj 297 dx), (dx, scD w t1 t2 Tx tt Tx.length tp')] ++ itp) := by assumption
  obtain ⟨r1, r2⟩ := scan_fin2 (itp := itp) N U hm hG' (fun q hq => N' q (List.mem_append_right _ hq)) hoff (fun q hq => kN q ((List.mem_append.mp hq).elim (List.mem_append_right _) (List.mem_append_left _))) hst
  exact hret _ _ _ _ _ _ hnu hit (by assumption) r1 r2
end

section
open PySem PySem.W PyProof.Rows PySem.Calls PySem.Spec
set_option maxRecDepth 100000
set_option maxHeartbeats 2000000

section
variable {w : World} {vp : Program} {vl : List Str} {mean : ExcName → Option Value} {mg mb : Str → Option Value} {dp un : Nat} {gd : Option (List Code)} {cn : Str} {cs : Scope} {a : Addr} {ccd : Value} {cl : List (Str × Addr)} {outer : List Env} {A₀ : Around}
    {base h₀ : Heap} {L : Addr} {m : Str → Option Value} {s : Shared} {Q E : Value → Shared → Prop} {news : List (Addr × Obj)}
    (B : Below A₀ base outer h₀) (F : Fr h₀ L s.heap m) (X : (Mine.pre.heap_1 w.params).In h₀) (N : News h₀ L s.heap news) (T : Top vp vl mean mg mb h₀) (hk : cs.kind = .function)
include B F X N T hk

theorem up_to_ok {Tx c : Str} {tt : Tok} {tr : Option Bool} {nuP : Option Int} (hT : Tx.length ≤ 1000) (hT0 : 0 < Tx.length) (hc : Txt.item Tx ((0 : Nat) : Int) = c) (hR : WordOk Tx tr nuP)
    (hc0 : (c != Str.ofString "") = true) (hc1 : (c == Str.ofString ";") = false) (hc2 : (Builtin.Str.occurrences (Str.ofString " \t\r\n") c 0 (Str.length (Str.ofString " \t\r\n")) 1).isEmpty = true) (hc3 : (c == Str.ofString "(") = false) (hc4 : (c == Str.ofString ")") = false)
    (hd : dp + 10 < recursionLimit) (hu : un + 2048 < cLine)
    (hret : ∀ (D l : Addr) (lo : Obj) (itp : List (Addr × Obj)) (itv : Value) (nu : Option (Int × Tok)) (h' : Heap) (tk' n : Nat), lo = listOf #[itv] n → nu.map (·.1) = nuP → ItemIs itp itv tr nu → Fr h₀ L h' m → News h₀ L h' ((D, tupOf [.ref l, .none]) :: (l, lo) :: (news ++ itp)) → OwnOff itp (news.map (·.1)) → Q (.ref D) { s with heap := h', toks := tk' }) :
    wpAny (model Challenge.rw_rg0209_01.row.prog w) (ktrTop dp un gd cn cs L a ccd cl outer) (call (.ref 308) [.str Tx tt]) Q E s := by
  w_top off
  k_with_none
  have hm : ∀ q ∈ ([] : List (Addr × Obj)), q ∈ news := by simp
  k_with "call ref" => (k_here; k_dflt (refine' scan_new ?k1 ?k2 ?k3 ?k4 ?k5 ?k6 ?k7 ?_; (case k1 => k_asm); (case k2 => k_asm); (case k3 => k_asm); (case k4 => k_asm); (case k5 => k_asm); (case k6 => exact rfl); (case k7 => ktr_room)); intro xS dS u1 u2 u3 h' tk' F' N' l1 l2; k_lt l1; k_lt2 l2; (have e0 : (0 : Int) = ((0 : Nat) : Int) := rfl); rw [e0] at N')
  k_with "call ref" => (k_here; (with_reducible show wpAny _ _ (call (Value.ref 294) _) _ _ _); k_dflt (refine' hR ?m1 ?m2 ?m3 ?m4 ?m5 ?m6 ?m7 ?mU ?md ?mr ?mu ?_; (case m1 => k_asm); (case m2 => k_asm); (case m3 => k_asm); (case m4 => k_asm); (case m5 => k_asm); (case m6 => exact rfl); (case m7 => exact scan_two (by k_mem) (by k_mem)); (case mU => k_updF); (case md => omega); (case mr => ktr_room); (case mu => ktr_units)); intro itp itv nu h' tk' tp' hnu hit F' N' hoff)
  refine wpAny_call ?_
  k_dflt cell_enter
  intro g' L' h' tk₁ FG' F' N' hG' B' X' T'
  try dsimp only
  try k_lift B'
  try (with_reducible change wpAny _ _ _ _ _ _)
  try k_fold
  have hfin : ∀ (D l l2 xs ds : Addr) (o2 ox od : Obj) (itp : List (Addr × Obj)) (itv : Value) (nu : Option (Int × Tok)) (h' : Heap) (tk' n : Nat), nu.map (·.1) = nuP → ItemIs itp itv tr nu → Fr h₀ L h' m → News h₀ L h' ((D, tupOf [.ref l, .none]) :: (l2, o2) :: (l, listOf #[itv] n) :: (xs, ox) :: (ds, od) :: itp) →
      News g' L' h' ((D, tupOf [.ref l, .none]) :: (l2, o2) :: (l, listOf #[itv] n) :: (xs, ox) :: (ds, od) :: itp) → (∀ b o₁, s.heap.get? b = some o₁ → b ∉ ([] : List (Addr × Obj)).map (·.1) → h'.get? b = some o₁) → Q (.ref D) { s with heap := h', toks := tk' } := by
    intro D l l2 xs ds o2 ox od itp itv nu h' tk' n hnu hit F' N' kG hst
    have hS := same_of2 N hm N' (fun _ hq => by cases hq) hst
    refine hret D l _ itp itv nu h' tk' n rfl hnu hit F' (fun q hq => ?_) fun p hp b hb e => ?_
    · rcases List.mem_cons.mp hq with rfl | hq
      · exact N' _ (.head _)
      rcases List.mem_cons.mp hq with rfl | hq
      · exact N' _ (.tail _ (.tail _ (.head _)))
      rcases List.mem_append.mp hq with hq | hq
      · exact news_keeps N hS q hq
      · exact N' _ (.tail _ (.tail _ (.tail _ (.tail _ (.tail _ hq)))))
    · obtain ⟨r, hr, rfl⟩ := List.mem_map.mp hb
      exact fresh_of (D := p.1) (o := p.2) (prt' := []) N hm hG' (fun q hq => kG q (by rw [List.mem_singleton.mp hq]; exact .tail _ (.tail _ (.tail _ (.tail _ (.tail _ hp)))))) (fun _ hp => by cases hp) r hr e.symm
  have hrefl : Tx.length = Tx.length := rfl
  k_steps
  rw [hc0]
  k_steps
  exact fun hst => hfin _ _ _ _ _ _ _ _ _ _ _ _ _ _ hnu hit (by assumption) (by assumption) (by assumption) hst
end
end

section
open PySem PySem.W PyProof.Rows PySem.Calls PySem.Spec
set_option maxRecDepth 100000
set_option maxHeartbeats 2000000

/-- read_one(Tx) gives the item -/
def OneOk (f : Addr) (kd ku : Nat) (Tx : Str) (P : List (Addr × Obj) → Value → Prop) : Prop :=
  ∀ ⦃w : World⦄ ⦃vp : Program⦄ ⦃vl : List Str⦄ ⦃mean : ExcName → Option Value⦄ ⦃mg mb : Str → Option Value⦄ ⦃dp un : Nat⦄ ⦃gd : Option (List Code)⦄ ⦃cn : Str⦄ ⦃cs : Scope⦄ ⦃a : Addr⦄ ⦃ccd : Value⦄ ⦃cl : List (Str × Addr)⦄ ⦃outer : List Env⦄ ⦃A₀ : Around⦄
    ⦃base h₀ : Heap⦄ ⦃L : Addr⦄ ⦃m : Str → Option Value⦄ ⦃s : Shared⦄ ⦃Q E : Value → Shared → Prop⦄ ⦃news : List (Addr × Obj)⦄
    (_B : Below A₀ base outer h₀) (_F : Fr h₀ L s.heap m) (_X : (Mine.pre.heap_1 w.params).In h₀) (_N : News h₀ L s.heap news) (_T : Top vp vl mean mg mb h₀) (_hk : cs.kind = .function)
    ⦃tt : Tok⦄ (_hd : dp + kd < recursionLimit) (_hu : un + ku < cLine)
    (_hret : ∀ (itp : List (Addr × Obj)) (v : Value) (h' : Heap) (tk' : Nat), P itp v → Fr h₀ L h' m → News h₀ L h' (news ++ itp) → OwnOff itp (news.map (·.1)) → Q v { s with heap := h', toks := tk' }),
    wpAny (model Challenge.rw_rg0209_01.row.prog w) (ktrTop dp un gd cn cs L a ccd cl outer) (call (.ref f) [.str Tx tt]) Q E s
theorem one_fin {h₀ g h h' : Heap} {L L' : Addr} {news itp : List (Addr × Obj)} (N : News h₀ L h news) (hG : ∀ b o, h.get? b = some o → b ∉ ([] : List (Addr × Obj)).map (·.1) → g.get? b = some o) (kG : News g L' h' itp) (kN : News h₀ L h' itp)
    (hst : ∀ b o, h.get? b = some o → b ∉ ([] : List (Addr × Obj)).map (·.1) → h'.get? b = some o) : News h₀ L h' (news ++ itp) ∧ OwnOff itp (news.map (·.1)) := by
  have hm : ∀ q ∈ ([] : List (Addr × Obj)), q ∈ news := by simp
  have hS : Same h h' := fun b o hb => hst b o hb (by simp)
  refine ⟨fun q hq => ?_, fun p hp b hb e => ?_⟩
  · rcases List.mem_append.mp hq with hq | hq
    · exact news_keeps N hS q hq
    · exact kN _ hq
  · obtain ⟨r, hr, rfl⟩ := List.mem_map.mp hb
    exact fresh_of (D := p.1) (o := p.2) (prt' := []) N hm hG (fun q hq => kG q (by rw [List.mem_singleton.mp hq]; exact hp)) (fun _ hp => by cases hp) r hr e.symm
/-- the list that read_all gives -/
def ListIs (tr : Option Bool) (nuP : Option Int) (itp : List (Addr × Obj)) (v : Value) : Prop :=
  ∃ l n itv nu itq, v = .ref l ∧ itp = (l, listOf #[itv] n) :: itq ∧ nu.map (·.1) = nuP ∧ ItemIs itq itv tr nu
def ItemP (tr : Option Bool) (nuP : Option Int) (itp : List (Addr × Obj)) (v : Value) : Prop := ∃ nu, nu.map (·.1) = nuP ∧ ItemIs itp v tr nu
theorem all_ok {Tx c : Str} {tr : Option Bool} {nuP : Option Int} (hT : Tx.length ≤ 1000) (hT0 : 0 < Tx.length) (hc : Txt.item Tx ((0 : Nat) : Int) = c) (hR : WordOk Tx tr nuP)
    (hc0 : (c != Str.ofString "") = true) (hc1 : (c == Str.ofString ";") = false) (hc2 : (Builtin.Str.occurrences (Str.ofString " \t\r\n") c 0 (Str.length (Str.ofString " \t\r\n")) 1).isEmpty = true) (hc3 : (c == Str.ofString "(") = false) (hc4 : (c == Str.ofString ")") = false) : OneOk 315 11 2100 Tx (ListIs tr nuP) := by
  w_top off
  k_with_none
  intro w vp vl mean mg mb dp un gd cn cs a ccd cl outer A₀ base h₀ L m s Q E news B F X N T hk tt hd hu hret
  have hm : ∀ q ∈ ([] : List (Addr × Obj)), q ∈ news := by simp
  k_with "call ref" => (k_here; (with_reducible show wpAny _ _ (call (Value.ref 308) _) _ _ _); k_dflt (refine' up_to_ok ?m1 ?m2 ?m3 ?m4 ?m5 ?m6 hT hT0 hc hR hc0 hc1 hc2 hc3 hc4 ?mr ?mu ?_; (case m1 => k_asm); (case m2 => k_asm); (case m3 => k_asm); (case m4 => k_asm); (case m5 => k_asm); (case m6 => exact rfl); (case mr => ktr_room); (case mu => ktr_units)); intro D l lo itp itv nu h' tk' n hlo hnu hit F' N' hoff; subst hlo)
  refine wpAny_call ?_
  k_dflt cell_enter
  intro g' L' h' tk₁ FG' F' N' hG' B' X' T'
  try dsimp only
  try k_lift B'
  try (with_reducible change wpAny _ _ _ _ _ _)
  try k_fold
  have hfin : ∀ (D l : Addr) (o : Obj) (n : Nat) (itq : List (Addr × Obj)) (itv : Value) (nu : Option (Int × Tok)) (h' : Heap) (tk' : Nat), nu.map (·.1) = nuP → ItemIs itq itv tr nu → Fr h₀ L h' m → News h₀ L h' ((D, o) :: (l, listOf #[itv] n) :: itq) → News g' L' h' ((D, o) :: (l, listOf #[itv] n) :: itq) →
      (∀ b o₁, s.heap.get? b = some o₁ → b ∉ ([] : List (Addr × Obj)).map (·.1) → h'.get? b = some o₁) → Q (.ref l) { s with heap := h', toks := tk' } := by
    intro D l o n itq itv nu h' tk' hnu hit F' N' kG hst
    obtain ⟨r1, r2⟩ := one_fin (itp := (l, listOf #[itv] n) :: itq) N hG' (fun q hq => kG q (.tail _ hq)) (fun q hq => N' q (.tail _ hq)) hst
    exact hret _ _ _ _ ⟨l, n, itv, nu, itq, rfl, rfl, hnu, hit⟩ F' r1 r2
  k_steps
  exact fun hst => hfin _ _ _ _ _ _ _ _ _ hnu hit (by assumption) (by assumption) (by assumption) hst
theorem OneOk.mono {f : Addr} {kd ku : Nat} {Tx : Str} {P P' : List (Addr × Obj) → Value → Prop} (h : OneOk f kd ku Tx P) (hP : ∀ itp v, P itp v → P' itp v) : OneOk f kd ku Tx P' := by
  intro w vp vl mean mg mb dp un gd cn cs a ccd cl outer A₀ base h₀ L m s Q E news B F X N T hk tt hd hu hret
  exact h B F X N T hk hd hu fun itp v h' tk' hp => hret itp v h' tk' (hP _ _ hp)
def ListP (P : List (Addr × Obj) → Value → Prop) (itp : List (Addr × Obj)) (v : Value) : Prop := ∃ l n itv itq, v = .ref l ∧ itp = (l, listOf #[itv] n) :: itq ∧ P itq itv
theorem one_okP {Tx : Str} {P : List (Addr × Obj) → Value → Prop} (hA : OneOk 315 11 2100 Tx (ListP P)) : OneOk 322 12 2200 Tx P := by
  intro w vp vl mean mg mb dp un gd cn cs a ccd cl outer A₀ base h₀ L m s Q E news B F X N T hk tt hd hu hret
  have hm : ∀ q ∈ ([] : List (Addr × Obj)), q ∈ news := by simp
  k_with "call ref" => (k_here; (with_reducible show wpAny _ _ (call (Value.ref 315) _) _ _ _); k_dflt (refine' hA ?m1 ?m2 ?m3 ?m4 ?m5 ?m6 ?mr ?mu ?_; (case m1 => k_asm); (case m2 => k_asm); (case m3 => k_asm); (case m4 => k_asm); (case m5 => k_asm); (case m6 => exact rfl); (case mr => ktr_room); (case mu => ktr_units)); rintro itp₀ v₀ h' tk' ⟨l, n, itv, itq, rfl, rfl, hP⟩ F' N' hoff; rw [List.nil_append] at N')
  refine wpAny_call ?_
  k_dflt cell_enter
  intro g' L' h' tk₁ FG' F' N' hG' B' X' T'
  try dsimp only
  try k_lift B'
  try (with_reducible change wpAny _ _ _ _ _ _)
  try k_fold
  have hfin : ∀ (l : Addr) (o : Obj) (itq : List (Addr × Obj)) (itv : Value) (h' : Heap) (tk' : Nat), P itq itv → Fr h₀ L h' m → News h₀ L h' ((l, o) :: itq) → News g' L' h' ((l, o) :: itq) →
      (∀ b o₁, s.heap.get? b = some o₁ → b ∉ ([] : List (Addr × Obj)).map (·.1) → h'.get? b = some o₁) → Q itv { s with heap := h', toks := tk' } := by
    intro l o itq itv h' tk' hP F' N' kG hst
    obtain ⟨r1, r2⟩ := one_fin (itp := itq) N hG' (fun q hq => kG q (.tail _ hq)) (fun q hq => N' q (.tail _ hq)) hst
    exact hret _ _ _ _ hP F' r1 r2
  k_steps
  exact fun hst => hfin _ _ _ _ _ _ hP (by assumption) (by assumption) (by assumption) hst
theorem one_ok {Tx : Str} {tr : Option Bool} {nuP : Option Int} (hA : OneOk 315 11 2100 Tx (ListIs tr nuP)) : OneOk 322 12 2200 Tx (ItemP tr nuP) :=
  one_okP (hA.mono fun _ _ ⟨l, n, itv, nu, itq, e1, e2, hnu, hit⟩ => ⟨l, n, itv, itq, e1, e2, nu, hnu, hit⟩)
end

section
open PySem PySem.W PyProof.Rows PySem.Calls PySem.Spec
set_option maxRecDepth 100000
set_option maxHeartbeats 2000000
/-- the first sign of a text begins an item, not a list, a blank or a remark -/
def headCheck (Tx : Str) : Bool := decide (Tx.length ≤ 640) && decide (0 < Tx.length) && (Txt.item Tx ((0 : Nat) : Int) != Str.ofString "") && !(Txt.item Tx ((0 : Nat) : Int) == Str.ofString ";") && (Builtin.Str.occurrences (Str.ofString " \t\r\n") (Txt.item Tx ((0 : Nat) : Int)) 0 (Str.length (Str.ofString " \t\r\n")) 1).isEmpty &&
  !(Txt.item Tx ((0 : Nat) : Int) == Str.ofString "(") && !(Txt.item Tx ((0 : Nat) : Int) == Str.ofString ")")
/-- it is none of the signs that begin a string, a quoted symbol, a key or bits -/
def plainCheck (Tx : Str) : Bool := !(Txt.item Tx ((0 : Nat) : Int) == Str.ofString "\"") && !(Txt.item Tx ((0 : Nat) : Int) == Str.ofString "|") && !(Txt.item Tx ((0 : Nat) : Int) == Str.ofString ":") && !(Txt.item Tx ((0 : Nat) : Int) == Str.ofString "#")
def allIn (S Tx : Str) (p : Nat) : Bool := (List.range Tx.length).all fun i => decide (i < p) || !(Builtin.Str.occurrences S (Txt.item Tx (i : Nat)) 0 (Str.length S) 1).isEmpty
theorem allIn.at {S Tx : Str} {p : Nat} (h : allIn S Tx p = true) : ∀ i, p ≤ i → i < Tx.length → (Builtin.Str.occurrences S (Txt.item Tx (i : Nat)) 0 (Str.length S) 1).isEmpty = false := by
  intro i hp hi
  have := List.all_eq_true.mp h i (List.mem_range.mpr hi)
  simp only [Bool.or_eq_true, decide_eq_true_eq, Bool.not_eq_true'] at this
  rcases this with h | h
  · omega
  · exact h
theorem one_of {Tx : Str} {tr : Option Bool} {nuP : Option Int} (h : headCheck Tx = true) (hR : WordOk Tx tr nuP) : OneOk 322 12 2200 Tx (ItemP tr nuP) := by
  simp only [headCheck, Bool.and_eq_true, decide_eq_true_eq, Bool.not_eq_true'] at h
  obtain ⟨⟨⟨⟨⟨⟨h1, h2⟩, h3⟩, h4⟩, h5⟩, h6⟩, h7⟩ := h
  exact one_ok (all_ok (Nat.le_trans h1 (by decide)) h2 rfl hR h3 h4 h5 h6 h7)
def numCheck (Tx : Str) (n : Int) : Bool := headCheck Tx && plainCheck Tx && allIn (Str.ofString "0123456789") Tx 0 && decide (Txt.slice Tx (some ((0 : Nat) : Int)) (some Tx.length) = Tx) && (decide (Tx.length ≤ 1) || !(Txt.item Tx 0 == Str.ofString "0")) && decide (PySem.intText? Tx = some n) && decide (0 ≤ n)
theorem num_one {Tx : Str} {n : Int} (h : numCheck Tx n = true) : OneOk 322 12 2200 Tx (ItemP none (some n)) := by
  simp only [numCheck, plainCheck, Bool.and_eq_true, decide_eq_true_eq, Bool.or_eq_true, Bool.not_eq_true'] at h
  obtain ⟨⟨⟨⟨⟨⟨h0, ⟨⟨⟨p1, p2⟩, p3⟩, p4⟩⟩, h2⟩, h3⟩, h4⟩, h5⟩, h6⟩ := h
  have h0' := h0
  simp only [headCheck, Bool.and_eq_true, decide_eq_true_eq, Bool.not_eq_true'] at h0'
  obtain ⟨⟨⟨⟨⟨⟨q1, q2⟩, q3⟩, -⟩, -⟩, -⟩, -⟩ := h0'
  exact one_of h0 (word_num (Nat.le_trans q1 (by decide)) q2 q1 rfl (by simpa using q3) p1 p2 p3 p4 (allIn.at h2) h3 h4 h5 h6)
def symCheck (Tx : Str) : Bool := headCheck Tx && plainCheck Tx && (Builtin.Str.occurrences (Str.ofString "0123456789") (Txt.item Tx ((0 : Nat) : Int)) 0 (Str.length (Str.ofString "0123456789")) 1).isEmpty && allIn (Str.ofString "abcdefghijklmnopqrstuvwxyzABCDEFGHIJKLMNOPQRSTUVWXYZ0123456789~!@$%^&*_-+=<>.?/") Tx 0 && decide (Txt.slice Tx (some ((0 : Nat) : Int)) (some Tx.length) = Tx)
theorem sym_one {Tx : Str} {tr : Option Bool} (h : symCheck Tx = true) (hit : ∀ D ta tb, ItemIs [(D, tupOf [.str (Str.ofString "sym") ta, .str Tx tb])] (.ref D) tr none) : OneOk 322 12 2200 Tx (ItemP tr none) := by
  simp only [symCheck, plainCheck, Bool.and_eq_true, decide_eq_true_eq, Bool.not_eq_true'] at h
  obtain ⟨⟨⟨⟨h0, ⟨⟨⟨p1, p2⟩, p3⟩, p4⟩⟩, h1⟩, h2⟩, h3⟩ := h
  have h0' := h0
  simp only [headCheck, Bool.and_eq_true, decide_eq_true_eq, Bool.not_eq_true'] at h0'
  obtain ⟨⟨⟨⟨⟨⟨q1, q2⟩, q3⟩, -⟩, -⟩, -⟩, -⟩ := h0'
  exact one_of h0 (word_sym (Nat.le_trans q1 (by decide)) q2 rfl (by simpa using q3) p1 p2 p3 p4 h1 (allIn.at h2) h3 hit)
theorem bar_one {Tx V : Str} {tr : Option Bool} (h : headCheck Tx = true) (hc : Txt.item Tx ((0 : Nat) : Int) = Str.ofString "|") (hf : Txt.find3 Tx (Str.ofString "|") (((0 : Nat) : Int) + 1) = (Tx.length : Int) - 1)
    (hV : Txt.slice Tx (some (((0 : Nat) : Int) + 1)) (some (Txt.find3 Tx (Str.ofString "|") (((0 : Nat) : Int) + 1))) = V) (hb : Txt.find V (Str.ofString "\\") = -1) (hr : reservedNames.any (· == V) = false)
    (hit : ∀ D ta tb, ItemIs [(D, tupOf [.str (Str.ofString "sym") ta, .str V tb])] (.ref D) tr none) : OneOk 322 12 2200 Tx (ItemP tr none) := by
  have h0' := h
  simp only [headCheck, Bool.and_eq_true, decide_eq_true_eq, Bool.not_eq_true'] at h0'
  obtain ⟨⟨⟨⟨⟨⟨q1, q2⟩, -⟩, -⟩, -⟩, -⟩, -⟩ := h0'
  have q3 : Tx.length ≤ 1000 := Nat.le_trans q1 (by decide)
  exact one_of h (word_bar q3 q2 hc (quoted_ok q3 q2 hf hV hb hr hit))
theorem str_one {Tx V : Str} {tr : Option Bool} (h : headCheck Tx = true) (hc : Txt.item Tx ((0 : Nat) : Int) = Str.ofString "\"") (hf : Txt.find3 Tx (Str.ofString "\"") (((0 : Nat) : Int) + 1) = (Tx.length : Int) - 1)
    (hV : Txt.join (Str.ofString "") [Txt.slice Tx (some (((0 : Nat) : Int) + 1)) (some (Txt.find3 Tx (Str.ofString "\"") (((0 : Nat) : Int) + 1)))] = V)
    (hit : ∀ D ta tb, ItemIs [(D, tupOf [.str (Str.ofString "str") ta, .str V tb])] (.ref D) tr none) : OneOk 322 12 2200 Tx (ItemP tr none) := by
  have h0' := h
  simp only [headCheck, Bool.and_eq_true, decide_eq_true_eq, Bool.not_eq_true'] at h0'
  obtain ⟨⟨⟨⟨⟨⟨q1, q2⟩, -⟩, -⟩, -⟩, -⟩, -⟩ := h0'
  have q3 : Tx.length ≤ 1000 := Nat.le_trans q1 (by decide)
  exact one_of h (word_quote q3 q2 hc (string_ok q3 q2 hf hV hit))
theorem key_one {Tx V : Str} {tr : Option Bool} (h : headCheck Tx = true) (hT0 : 1 < Tx.length) (hc : Txt.item Tx ((0 : Nat) : Int) = Str.ofString ":") (hV : Txt.slice Tx (some ((1 : Nat) : Int)) (some Tx.length) = V) (hV0 : 0 < V.length) (hV1 : (V == Str.ofString "") = false) (hV2 : (Builtin.Str.occurrences (Str.ofString "0123456789") (Txt.item V 0) 0 (Str.length (Str.ofString "0123456789")) 1).isEmpty = true)
    (hin : allIn (Str.ofString "abcdefghijklmnopqrstuvwxyzABCDEFGHIJKLMNOPQRSTUVWXYZ0123456789~!@$%^&*_-+=<>.?/") Tx 1 = true)
    (hit : ∀ D ta tb, ItemIs [(D, tupOf [.str (Str.ofString "key") ta, .str V tb])] (.ref D) tr none) : OneOk 322 12 2200 Tx (ItemP tr none) := by
  have h0' := h
  simp only [headCheck, Bool.and_eq_true, decide_eq_true_eq, Bool.not_eq_true'] at h0'
  obtain ⟨⟨⟨⟨⟨⟨q1, q2⟩, -⟩, -⟩, -⟩, -⟩, -⟩ := h0'
  have q3 : Tx.length ≤ 1000 := Nat.le_trans q1 (by decide)
  exact one_of h (word_colon q3 q2 hc (key_ok q3 hT0 hV hV0 hV1 hV2 (allIn.at hin) hit))
theorem w_true : OneOk 322 12 2200 (Str.ofString "true") (ItemP (some true) none) := sym_one (by decide +kernel) fun _ _ _ => item_pair (by decide) (by decide +kernel) (by decide +kernel)
theorem w_false : OneOk 322 12 2200 (Str.ofString "false") (ItemP (some false) none) := sym_one (by decide +kernel) fun _ _ _ => item_pair (by decide) (by decide +kernel) (by decide +kernel)
theorem w_True : OneOk 322 12 2200 (Str.ofString "True") (ItemP none none) := sym_one (by decide +kernel) fun _ _ _ => item_pair (by decide) (by decide +kernel) (by decide +kernel)
theorem w_truest : OneOk 322 12 2200 (Str.ofString "truest") (ItemP none none) := sym_one (by decide +kernel) fun _ _ _ => item_pair (by decide) (by decide +kernel) (by decide +kernel)
theorem w_False : OneOk 322 12 2200 (Str.ofString "False") (ItemP none none) := sym_one (by decide +kernel) fun _ _ _ => item_pair (by decide) (by decide +kernel) (by decide +kernel)
theorem w_btrue : OneOk 322 12 2200 (Str.ofString "|true|") (ItemP (some true) none) := bar_one (V := Str.ofString "true") (by decide +kernel) (by decide +kernel) (by decide +kernel) (by decide +kernel) (by decide +kernel) (by decide +kernel) fun _ _ _ => item_pair (by decide) (by decide +kernel) (by decide +kernel)
theorem w_bfalse : OneOk 322 12 2200 (Str.ofString "|false|") (ItemP (some false) none) := bar_one (V := Str.ofString "false") (by decide +kernel) (by decide +kernel) (by decide +kernel) (by decide +kernel) (by decide +kernel) (by decide +kernel) fun _ _ _ => item_pair (by decide) (by decide +kernel) (by decide +kernel)
theorem w_b7 : OneOk 322 12 2200 (Str.ofString "|7|") (ItemP none none) := bar_one (V := Str.ofString "7") (by decide +kernel) (by decide +kernel) (by decide +kernel) (by decide +kernel) (by decide +kernel) (by decide +kernel) fun _ _ _ => item_pair (by decide) (by decide +kernel) (by decide +kernel)
theorem w_strue : OneOk 322 12 2200 (Str.ofString "\"true\"") (ItemP none none) := str_one (V := Str.ofString "true") (by decide +kernel) (by decide +kernel) (by decide +kernel) (by decide +kernel) fun _ _ _ => item_pair (by decide) (by decide +kernel) (by decide +kernel)
theorem w_sfalse : OneOk 322 12 2200 (Str.ofString "\"false\"") (ItemP none none) := str_one (V := Str.ofString "false") (by decide +kernel) (by decide +kernel) (by decide +kernel) (by decide +kernel) fun _ _ _ => item_pair (by decide) (by decide +kernel) (by decide +kernel)
theorem w_s7 : OneOk 322 12 2200 (Str.ofString "\"7\"") (ItemP none none) := str_one (V := Str.ofString "7") (by decide +kernel) (by decide +kernel) (by decide +kernel) (by decide +kernel) fun _ _ _ => item_pair (by decide) (by decide +kernel) (by decide +kernel)
theorem w_ktrue : OneOk 322 12 2200 (Str.ofString ":true") (ItemP none none) := key_one (V := Str.ofString "true") (by decide +kernel) (by decide +kernel) (by decide +kernel) (by decide +kernel) (by decide +kernel) (by decide +kernel) (by decide +kernel) (by decide +kernel) fun _ _ _ => item_pair (by decide) (by decide +kernel) (by decide +kernel)
theorem w_kfalse : OneOk 322 12 2200 (Str.ofString ":false") (ItemP none none) := key_one (V := Str.ofString "false") (by decide +kernel) (by decide +kernel) (by decide +kernel) (by decide +kernel) (by decide +kernel) (by decide +kernel) (by decide +kernel) (by decide +kernel) fun _ _ _ => item_pair (by decide) (by decide +kernel) (by decide +kernel)
theorem w_bits : OneOk 322 12 2200 (Str.ofString "#b1") (ItemP none none) := one_of (by decide +kernel) (word_hash (by decide) (by decide) (by decide +kernel) (bits_ok (by decide) (by decide +kernel) (by decide +kernel) (allIn.at (p := 2) (by decide +kernel)) fun D ta tb tc =>
  ⟨fun h hh => ⟨.tuple [.str (Str.ofString "bits"), .int 1, .int 1], [], .tuple (hh _ (List.mem_singleton.mpr rfl)) rfl rfl (.cons (.str _ _) (.cons (.int _ _) (.cons (.int _ _) .nil))), by decide +kernel, by decide +kernel⟩, .inr (.inr (.inr ⟨D, _, ta, _, _, rfl, List.mem_singleton.mpr rfl, by decide, rfl⟩))⟩))
theorem w_dec : OneOk 322 12 2200 (Str.ofString "1.0") (ItemP none none) := one_of (by decide +kernel) (word_digit (by decide) (by decide) rfl (by decide +kernel) (by decide +kernel) (by decide +kernel) (by decide +kernel) (by decide +kernel) (by decide +kernel)
  (dec_ok (by decide) (by decide +kernel) (by decide +kernel) (by decide +kernel) (fun i _ h => by (have e : i = 0 := by omega); subst e; decide +kernel) (allIn.at (p := 2) (by decide +kernel)) fun D D₂ ta tb tc =>
  ⟨fun h hh => ⟨.tuple [.str (Str.ofString "dec"), .tuple [.int 1, .int 1]], [], .tuple (hh _ (List.mem_cons_self ..)) rfl rfl (.cons (.str _ _) (.cons (.tuple (hh _ (.tail _ (.head _))) rfl rfl (.cons (.int _ _) (.cons (.int _ _) .nil))) .nil)), by decide +kernel, by decide +kernel⟩, .inr (.inr (.inl ⟨D, _, ta, _, rfl, List.mem_cons_self .., by decide, rfl⟩))⟩))
end

section
open PySem PySem.W PyProof.Rows PySem.Calls PySem.Spec
set_option maxRecDepth 100000
set_option maxHeartbeats 2000000

section
variable {w : World} {vp : Program} {vl : List Str} {mean : ExcName → Option Value} {mg mb : Str → Option Value} {dp un : Nat} {gd : Option (List Code)} {cn : Str} {cs : Scope} {a : Addr} {ccd : Value} {cl : List (Str × Addr)} {outer : List Env} {A₀ : Around}
    {base h₀ : Heap} {L : Addr} {m : Str → Option Value} {s : Shared} {Q E : Value → Shared → Prop} {news : List (Addr × Obj)}
    (B : Below A₀ base outer h₀) (F : Fr h₀ L s.heap m) (X : (Mine.pre.heap_1 w.params).In h₀) (N : News h₀ L s.heap news) (T : Top vp vl mean mg mb h₀) (hk : cs.kind = .function)
include B F X N T hk

theorem up_list_ok {Tx c : Str} {tt : Tok} {P : List (Addr × Obj) → Value → Prop} {q : Nat} (hT : Tx.length ≤ 1000) (hq1 : 1 < q) (hq : q + 1 = Tx.length) (hb : Txt.item Tx ((0 : Nat) : Int) = Str.ofString "(") (he : Txt.item Tx ((q : Nat) : Int) = Str.ofString ")") (hc : Txt.item Tx ((1 : Nat) : Int) = c) (hR : WordAt 8 1024 Tx 1 q P)
    (hc0 : (c != Str.ofString "") = true) (hc1 : (c == Str.ofString ";") = false) (hc2 : (Builtin.Str.occurrences (Str.ofString " \t\r\n") c 0 (Str.length (Str.ofString " \t\r\n")) 1).isEmpty = true) (hc3 : (c == Str.ofString "(") = false) (hc4 : (c == Str.ofString ")") = false)
    (hd : dp + 10 < recursionLimit) (hu : un + 2048 < cLine)
    (hret : ∀ (D l D₁ D₂ : Addr) (ta : Tok) (itp : List (Addr × Obj)) (itv : Value) (h' : Heap) (tk' n : Nat), P itp itv → Fr h₀ L h' m → News h₀ L h' ((D, tupOf [.ref l, .none]) :: (l, listOf #[.ref D₁] n) :: (news ++ (D₁, tupOf [.str (Str.ofString "list") ta, .ref D₂]) :: (D₂, tupOf [itv]) :: itp)) →
      OwnOff ((D₁, tupOf [.str (Str.ofString "list") ta, .ref D₂]) :: (D₂, tupOf [itv]) :: itp) (news.map (·.1)) → Q (.ref D) { s with heap := h', toks := tk' }) :
    wpAny (model Challenge.rw_rg0209_01.row.prog w) (ktrTop dp un gd cn cs L a ccd cl outer) (call (.ref 308) [.str Tx tt]) Q E s := by
  w_top off
  k_with_none
  have hm : ∀ q ∈ ([] : List (Addr × Obj)), q ∈ news := by simp
  k_with "call ref" => (k_here; k_dflt (refine' scan_new ?k1 ?k2 ?k3 ?k4 ?k5 ?k6 ?k7 ?_; (case k1 => k_asm); (case k2 => k_asm); (case k3 => k_asm); (case k4 => k_asm); (case k5 => k_asm); (case k6 => exact rfl); (case k7 => ktr_room)); intro xS dS u1 u2 u3 h' tk' F' N' l1 l2; k_lt l1; k_lt2 l2; (have e0 : (0 : Int) = ((0 : Nat) : Int) := rfl); rw [e0] at N')
  k_with "call ref" => (k_here; (with_reducible show wpAny _ _ (call (Value.ref 294) _) _ _ _); k_dflt (refine' hR ?m1 ?m2 ?m3 ?m4 ?m5 ?m6 ?m7 ?mU ?md ?mr ?mu ?_; (case m1 => k_asm); (case m2 => k_asm); (case m3 => k_asm); (case m4 => k_asm); (case m5 => k_asm); (case m6 => exact rfl); (case m7 => exact scan_two (by k_mem) (by k_mem)); (case mU => k_updF); (case md => omega); (case mr => ktr_room); (case mu => ktr_units)); intro itp itv h' tk' tp' hP F' N' hoff)
  refine wpAny_call ?_
  k_dflt cell_enter
  intro g' L' h' tk₁ FG' F' N' hG' B' X' T'
  try dsimp only
  try k_lift B'
  try (with_reducible change wpAny _ _ _ _ _ _)
  try k_fold
  have hfin : ∀ (D l D₁ D₂ a3 a4 a5 a6 a7 : Addr) (o3 o4 o5 o6 o7 : Obj) (ta : Tok) (itp : List (Addr × Obj)) (itv : Value) (h' : Heap) (tk' n : Nat), P itp itv → Fr h₀ L h' m → News h₀ L h' ((D, tupOf [.ref l, .none]) :: (D₁, tupOf [.str (Str.ofString "list") ta, .ref D₂]) :: (D₂, tupOf [itv]) :: (a3, o3) :: (a4, o4) :: (a5, o5) :: (l, listOf #[.ref D₁] n) :: (a6, o6) :: (a7, o7) :: itp) → News g' L' h' ((D, tupOf [.ref l, .none]) :: (D₁, tupOf [.str (Str.ofString "list") ta, .ref D₂]) :: (D₂, tupOf [itv]) :: (a3, o3) :: (a4, o4) :: (a5, o5) :: (l, listOf #[.ref D₁] n) :: (a6, o6) :: (a7, o7) :: itp) → (∀ b o₁, s.heap.get? b = some o₁ → b ∉ ([] : List (Addr × Obj)).map (·.1) → h'.get? b = some o₁) → Q (.ref D) { s with heap := h', toks := tk' } := by
    intro D l D₁ D₂ a3 a4 a5 a6 a7 o3 o4 o5 o6 o7 ta itp itv h' tk' n hP F' N' kG hst
    have hsub : ∀ p ∈ ((D₁, tupOf [.str (Str.ofString "list") ta, .ref D₂]) :: (D₂, tupOf [itv]) :: itp), p ∈ ((D, tupOf [.ref l, .none]) :: (D₁, tupOf [.str (Str.ofString "list") ta, .ref D₂]) :: (D₂, tupOf [itv]) :: (a3, o3) :: (a4, o4) :: (a5, o5) :: (l, listOf #[.ref D₁] n) :: (a6, o6) :: (a7, o7) :: itp) := fun p hp => by
      rcases List.mem_cons.mp hp with rfl | hp
      · exact .tail _ (.head _)
      rcases List.mem_cons.mp hp with rfl | hp
      · exact .tail _ (.tail _ (.head _))
      · exact .tail _ (.tail _ (.tail _ (.tail _ (.tail _ (.tail _ (.tail _ (.tail _ (.tail _ hp))))))))
    obtain ⟨r1, r2⟩ := one_fin N hG' (fun q hq => kG q (hsub q hq)) (fun q hq => N' q (hsub q hq)) hst
    refine hret D l D₁ D₂ ta itp itv h' tk' n hP F' (fun q hq => ?_) r2
    rcases List.mem_cons.mp hq with rfl | hq
    · exact N' _ (.head _)
    rcases List.mem_cons.mp hq with rfl | hq
    · exact N' _ (.tail _ (.tail _ (.tail _ (.tail _ (.tail _ (.tail _ (.head _)))))))
    · exact r1 q hq
  have hrefl : Tx.length = Tx.length := rfl
  have p0 : 0 < Tx.length := by omega
  have p1 : 1 < Tx.length := by omega
  have pq : q < Tx.length := by omega
  have e1 : (((0 : Nat) : Int) + 1) = ((1 : Nat) : Int) := rfl
  have e2 : ((q : Nat) : Int) + 1 = (Tx.length : Int) := by omega
  have b0 : (Str.ofString "(" != Str.ofString "") = true := by decide
  have b1 : (Str.ofString "(" == Str.ofString ";") = false := by decide
  have b2 : (Builtin.Str.occurrences (Str.ofString " \t\r\n") (Str.ofString "(") 0 (Str.length (Str.ofString " \t\r\n")) 1).isEmpty = true := by decide +kernel
  have b3 : (Str.ofString ")" == Str.ofString ";") = false := by decide
  have b4 : (Builtin.Str.occurrences (Str.ofString " \t\r\n") (Str.ofString ")") 0 (Str.length (Str.ofString " \t\r\n")) 1).isEmpty = true := by decide +kernel
  k_steps
  rw [hc0]
  k_steps
  exact fun hst => hfin _ _ _ _ _ _ _ _ _ _ _ _ _ _ _ _ _ _ _ _ hP (by assumption) (by assumption) (by assumption) hst
end
end

section
open PySem PySem.W PyProof.Rows PySem.Calls PySem.Spec
set_option maxRecDepth 100000
set_option maxHeartbeats 2000000

/-- the item of a list of one item -/
def InList (P : List (Addr × Obj) → Value → Prop) (itp : List (Addr × Obj)) (v : Value) : Prop := ∃ D₁ D₂ ta itv itq, v = .ref D₁ ∧ itp = (D₁, tupOf [.str (Str.ofString "list") ta, .ref D₂]) :: (D₂, tupOf [itv]) :: itq ∧ P itq itv
theorem all_list {Tx c : Str} {P : List (Addr × Obj) → Value → Prop} {q : Nat} (hT : Tx.length ≤ 1000) (hq1 : 1 < q) (hq : q + 1 = Tx.length) (hb : Txt.item Tx ((0 : Nat) : Int) = Str.ofString "(") (he : Txt.item Tx ((q : Nat) : Int) = Str.ofString ")") (hc : Txt.item Tx ((1 : Nat) : Int) = c) (hR : WordAt 8 1024 Tx 1 q P)
    (hc0 : (c != Str.ofString "") = true) (hc1 : (c == Str.ofString ";") = false) (hc2 : (Builtin.Str.occurrences (Str.ofString " \t\r\n") c 0 (Str.length (Str.ofString " \t\r\n")) 1).isEmpty = true) (hc3 : (c == Str.ofString "(") = false) (hc4 : (c == Str.ofString ")") = false) : OneOk 315 11 2100 Tx (ListP (InList P)) := by
  w_top off
  k_with_none
  intro w vp vl mean mg mb dp un gd cn cs a ccd cl outer A₀ base h₀ L m s Q E news B F X N T hk tt hd hu hret
  have hm : ∀ q ∈ ([] : List (Addr × Obj)), q ∈ news := by simp
  k_with "call ref" => (k_here; (with_reducible show wpAny _ _ (call (Value.ref 308) _) _ _ _); k_dflt (refine' up_list_ok ?m1 ?m2 ?m3 ?m4 ?m5 ?m6 hT hq1 hq hb he hc hR hc0 hc1 hc2 hc3 hc4 ?mr ?mu ?_; (case m1 => k_asm); (case m2 => k_asm); (case m3 => k_asm); (case m4 => k_asm); (case m5 => k_asm); (case m6 => exact rfl); (case mr => ktr_room); (case mu => ktr_units)); intro D l D₁ D₂ ta itp itv h' tk' n hP F' N' hoff)
  refine wpAny_call ?_
  k_dflt cell_enter
  intro g' L' h' tk₁ FG' F' N' hG' B' X' T'
  try dsimp only
  try k_lift B'
  try (with_reducible change wpAny _ _ _ _ _ _)
  try k_fold
  have hfin : ∀ (D l D₁ D₂ : Addr) (ta : Tok) (o : Obj) (n : Nat) (itq : List (Addr × Obj)) (itv : Value) (h' : Heap) (tk' : Nat), P itq itv → Fr h₀ L h' m → News h₀ L h' ((D, o) :: (l, listOf #[.ref D₁] n) :: (D₁, tupOf [.str (Str.ofString "list") ta, .ref D₂]) :: (D₂, tupOf [itv]) :: itq) → News g' L' h' ((D, o) :: (l, listOf #[.ref D₁] n) :: (D₁, tupOf [.str (Str.ofString "list") ta, .ref D₂]) :: (D₂, tupOf [itv]) :: itq) →
      (∀ b o₁, s.heap.get? b = some o₁ → b ∉ ([] : List (Addr × Obj)).map (·.1) → h'.get? b = some o₁) → Q (.ref l) { s with heap := h', toks := tk' } := by
    intro D l D₁ D₂ ta o n itq itv h' tk' hP F' N' kG hst
    obtain ⟨r1, r2⟩ := one_fin (itp := (l, listOf #[.ref D₁] n) :: (D₁, tupOf [.str (Str.ofString "list") ta, .ref D₂]) :: (D₂, tupOf [itv]) :: itq) N hG' (fun q hq => kG q (.tail _ hq)) (fun q hq => N' q (.tail _ hq)) hst
    exact hret _ _ _ _ ⟨l, n, .ref D₁, _, rfl, rfl, D₁, D₂, ta, itv, itq, rfl, rfl, hP⟩ F' r1 r2
  k_steps
  exact fun hst => hfin _ _ _ _ _ _ _ _ _ _ _ hP (by assumption) (by assumption) (by assumption) hst
end

section
open PySem PySem.W PyProof.Rows PySem.Calls PySem.Spec
set_option maxRecDepth 100000
set_option maxHeartbeats 2000000
theorem w_ltrue : OneOk 322 12 2200 (Str.ofString "(true)") (ItemP none none) :=
  (one_okP (all_list (Tx := Str.ofString "(true)") (q := 5) (by decide) (by decide) (by decide) (by decide +kernel) (by decide +kernel) (c := Str.ofString "t") (by decide +kernel)
    (wat_sym (c := Str.ofString "t") (W := Str.ofString "true") (by decide) (by decide) (by decide) (by decide +kernel) (by decide) (by decide) (by decide) (by decide) (by decide) (by decide +kernel)
      (fun i h1 h2 => by
        have : i = 1 ∨ i = 2 ∨ i = 3 ∨ i = 4 := by omega
        rcases this with rfl | rfl | rfl | rfl <;> decide +kernel) (.inr ⟨by decide, by decide +kernel⟩) (by decide +kernel)) (by decide) (by decide) (by decide +kernel) (by decide) (by decide))).mono (by
    rintro itp v ⟨D₁, D₂, ta, itv, itq, rfl, rfl, D, tb, tc, rfl, rfl⟩
    exact ⟨none, rfl, fun h hh => ⟨.tuple [.str (Str.ofString "list"), .tuple [.tuple [.str (Str.ofString "sym"), .str (Str.ofString "true")]]], [], .tuple (hh _ (.head _)) rfl rfl (.cons (.str _ _) (.cons (.tuple (hh _ (.tail _ (.head _))) rfl rfl (.cons (.tuple (hh _ (.tail _ (.tail _ (.head _)))) rfl rfl (.cons (.str _ _) (.cons (.str _ _) .nil))) .nil)) .nil)), by decide +kernel, by decide +kernel⟩,
      .inr (.inr (.inl ⟨D₁, _, ta, _, rfl, .head _, by decide, rfl⟩))⟩)
theorem w_l1 : OneOk 322 12 2200 (Str.ofString "(1)") (ItemP none none) :=
  (one_okP (all_list (Tx := Str.ofString "(1)") (q := 2) (by decide) (by decide) (by decide) (by decide +kernel) (by decide +kernel) (c := Str.ofString "1") (by decide +kernel)
    (wat_num (c := Str.ofString "1") (W := Str.ofString "1") (n := 1) (by decide) (by decide) (by decide) (by decide +kernel) (by decide) (by decide) (by decide) (by decide) (by decide)
      (fun i h1 h2 => by
        have : i = 1 := by omega
        subst this; decide +kernel) (.inr ⟨by decide, Str.ofString ")", by decide +kernel, by decide, by decide, by decide +kernel, by decide +kernel⟩) (by decide +kernel) (by decide) (.inl (by decide)) (by decide +kernel)) (by decide) (by decide) (by decide +kernel) (by decide) (by decide))).mono (by
    rintro itp v ⟨D₁, D₂, ta, itv, itq, rfl, rfl, D, tb, tc, rfl, rfl⟩
    exact ⟨none, rfl, fun h hh => ⟨.tuple [.str (Str.ofString "list"), .tuple [.tuple [.str (Str.ofString "num"), .int 1]]], [], .tuple (hh _ (.head _)) rfl rfl (.cons (.str _ _) (.cons (.tuple (hh _ (.tail _ (.head _))) rfl rfl (.cons (.tuple (hh _ (.tail _ (.tail _ (.head _)))) rfl rfl (.cons (.str _ _) (.cons (.int _ _) .nil))) .nil)) .nil)), by decide +kernel, by decide +kernel⟩,
      .inr (.inr (.inl ⟨D₁, _, ta, _, rfl, .head _, by decide, rfl⟩))⟩)
/-- the numerals that the law writes -/
theorem num_any {b d : Int} (hb : b = 0 ∨ b = 1 ∨ b = 7 ∨ b = 10 ^ 20 ∨ b = 10 ^ 40 ∨ b = 10005) (hd0 : 0 ≤ d) (hd1 : d < 3) : OneOk 322 12 2200 ((toString (b + d) : String) : Str) (ItemP none (some (b + d))) := by
  have : d = 0 ∨ d = 1 ∨ d = 2 := by omega
  rcases hb with rfl | rfl | rfl | rfl | rfl | rfl <;> rcases this with rfl | rfl | rfl <;> exact num_one (by decide +kernel)
end

section
open PySem PySem.W PyProof.Rows PySem.Calls PySem.Spec
set_option maxRecDepth 100000
set_option maxHeartbeats 2000000
def truthV : Option Bool → Value
  | some b => .bool b
  | none => .none
def numIs (nuP : Option Int) (v : Value) : Prop := (nuP = none ∧ v = .none) ∨ ∃ n t, nuP = some n ∧ v = .int n t ∧ 0 ≤ n ∧ n.natAbs.log2 < 1920
end

section
open PySem PySem.W PyProof.Rows PySem.Calls PySem.Spec
set_option maxRecDepth 100000
set_option maxHeartbeats 2000000
theorem item_neg {D : Addr} {ta tb : Tok} {n : Int} (hn : n < 0) : ItemIs [(D, tupOf [.str (Str.ofString "num") ta, .int n tb])] (.ref D) none none := by
  refine ⟨fun h hh => ⟨.tuple [.str (Str.ofString "num"), .int n], [], ?_, by simp [SeqAt.shaped, PyData.canLay0, PyData.canLayAll0, PyData.depth, PyData.depthAll]; decide +kernel, ?_⟩, .inr (.inl ⟨D, ta, n, tb, rfl, List.mem_singleton.mpr rfl, .inr ⟨hn, rfl⟩⟩)⟩
  · exact .tuple (hh _ (List.mem_singleton.mpr rfl)) rfl rfl (.cons (.str _ _) (.cons (.int _ _) .nil))
  · constructor <;> simp [PyData.eqv, PyData.eqvAll]
theorem item_nothing : ItemIs [] .none none none := ⟨fun h _ => ⟨.none, [], .none, by decide +kernel, by decide +kernel⟩, .inl ⟨rfl, rfl⟩⟩
theorem tup_in {w : World} {h₀ : Heap} {k : Addr} {o : Obj} {its : Array Value} {n : Nat} (X : (Mine.pre.heap_1 w.params).In h₀) (ho : (Mine.pre.heap_1 w.params).lookup k = some o) (hc : o.cls = .type "tuple") (hd : o.data = .seq its n) : IsTup h₀ k its := ⟨o, X _ _ ho, hc, n, hd⟩
theorem words_tup {w : World} {h₀ : Heap} (X : (Mine.pre.heap_1 w.params).In h₀) : IsTup h₀ 343 #[.ref 326, .ref 327, .ref 328, .ref 329, .ref 330, .ref 331, .ref 332, .ref 333, .ref 334, .ref 335, .ref 336, .ref 337, .ref 338, .ref 339, .ref 340, .ref 341, .ref 342] := by
  obtain ⟨o, ho, hc, hd⟩ : ∃ o, (Mine.pre.heap_1 w.params).lookup 343 = some o ∧ o.cls = .type "tuple" ∧ o.data = .seq #[.ref 326, .ref 327, .ref 328, .ref 329, .ref 330, .ref 331, .ref 332, .ref 333, .ref 334, .ref 335, .ref 336, .ref 337, .ref 338, .ref 339, .ref 340, .ref 341, .ref 342] := ⟨_, rfl, rfl, rfl⟩
  exact ⟨o, X _ _ ho, hc, _, hd⟩
theorem word_at {w : World} {A : Around} {E : Value → Shared → Prop} {s : Shared} {h₀ : Heap} {L : Addr} {m : Str → Option Value} {r : Int} {t : Tok} {Q : Value → Shared → Prop} {value slice : PySem.Expr} (F : Fr h₀ L s.heap m) (X : (Mine.pre.heap_1 w.params).In h₀) (h0 : 0 ≤ r) (h1 : r < 17)
    (h : ∀ (T : Addr) (tx : Str) (t1 : Tok) (tr : Option Bool), IsTup s.heap T #[.str tx t1, truthV tr] → OneOk 322 12 2200 tx (ItemP tr none) → Q (.ref T) s)
    (hs : subscripted slice false (.ref 343) (.int r t) = operate [.ref 343, .int r t] (getItem (.ref 343) (.int r t)) := by with_unfolding_all rfl) (hg : ∀ r, letTemporaryGo value (.ref 343) r = pure () := by intro _; with_unfolding_all rfl) :
    wpAny (model Challenge.rw_rg0209_01.row.prog w) A (subscriptTail value slice (.ref 343) (.int r t)) Q E s := by
  have hW : IsTup s.heap 343 _ := IsTup.keeps (words_tup X) F.keep
  revert hs
  refine AllFrom.pick (n := 17) (P := fun r => subscripted slice false (.ref 343) (.int r t) = operate [.ref 343, .int r t] (getItem (.ref 343) (.int r t)) → wpAny (model Challenge.rw_rg0209_01.row.prog w) A (subscriptTail value slice (.ref 343) (.int r t)) Q E s) (AllFrom.step ?_ (AllFrom.step ?_ (AllFrom.step ?_ (AllFrom.step ?_ (AllFrom.step ?_ (AllFrom.step ?_ (AllFrom.step ?_ (AllFrom.step ?_ (AllFrom.step ?_ (AllFrom.step ?_ (AllFrom.step ?_ (AllFrom.step ?_ (AllFrom.step ?_ (AllFrom.step ?_ (AllFrom.step ?_ (AllFrom.step ?_ (AllFrom.step ?_ trivial))))))))))))))))) h0 h1 <;> intro hs
  · obtain ⟨o, t1, ho, hc, hd⟩ : ∃ o t1, (Mine.pre.heap_1 w.params).lookup 326 = some o ∧ o.cls = .type "tuple" ∧ o.data = .seq #[.str (Str.ofString "true") t1, .bool true] := ⟨_, _, rfl, rfl, rfl⟩
    exact item_tuple hW (by decide) (by decide) (j := 0) (by rfl) (by rfl) (h 326 (Str.ofString "true") t1 (some true) (IsTup.keeps (tup_in X ho hc hd) F.keep) w_true) hs hg
  · obtain ⟨o, t1, ho, hc, hd⟩ : ∃ o t1, (Mine.pre.heap_1 w.params).lookup 327 = some o ∧ o.cls = .type "tuple" ∧ o.data = .seq #[.str (Str.ofString "false") t1, .bool false] := ⟨_, _, rfl, rfl, rfl⟩
    exact item_tuple hW (by decide) (by decide) (j := 1) (by rfl) (by rfl) (h 327 (Str.ofString "false") t1 (some false) (IsTup.keeps (tup_in X ho hc hd) F.keep) w_false) hs hg
  · obtain ⟨o, t1, ho, hc, hd⟩ : ∃ o t1, (Mine.pre.heap_1 w.params).lookup 328 = some o ∧ o.cls = .type "tuple" ∧ o.data = .seq #[.str (Str.ofString "|true|") t1, .bool true] := ⟨_, _, rfl, rfl, rfl⟩
    exact item_tuple hW (by decide) (by decide) (j := 2) (by rfl) (by rfl) (h 328 (Str.ofString "|true|") t1 (some true) (IsTup.keeps (tup_in X ho hc hd) F.keep) w_btrue) hs hg
  · obtain ⟨o, t1, ho, hc, hd⟩ : ∃ o t1, (Mine.pre.heap_1 w.params).lookup 329 = some o ∧ o.cls = .type "tuple" ∧ o.data = .seq #[.str (Str.ofString "|false|") t1, .bool false] := ⟨_, _, rfl, rfl, rfl⟩
    exact item_tuple hW (by decide) (by decide) (j := 3) (by rfl) (by rfl) (h 329 (Str.ofString "|false|") t1 (some false) (IsTup.keeps (tup_in X ho hc hd) F.keep) w_bfalse) hs hg
  · obtain ⟨o, t1, ho, hc, hd⟩ : ∃ o t1, (Mine.pre.heap_1 w.params).lookup 330 = some o ∧ o.cls = .type "tuple" ∧ o.data = .seq #[.str (Str.ofString "True") t1, .none] := ⟨_, _, rfl, rfl, rfl⟩
    exact item_tuple hW (by decide) (by decide) (j := 4) (by rfl) (by rfl) (h 330 (Str.ofString "True") t1 (none) (IsTup.keeps (tup_in X ho hc hd) F.keep) w_True) hs hg
  · obtain ⟨o, t1, ho, hc, hd⟩ : ∃ o t1, (Mine.pre.heap_1 w.params).lookup 331 = some o ∧ o.cls = .type "tuple" ∧ o.data = .seq #[.str (Str.ofString "\"true\"") t1, .none] := ⟨_, _, rfl, rfl, rfl⟩
    exact item_tuple hW (by decide) (by decide) (j := 5) (by rfl) (by rfl) (h 331 (Str.ofString "\"true\"") t1 (none) (IsTup.keeps (tup_in X ho hc hd) F.keep) w_strue) hs hg
  · obtain ⟨o, t1, ho, hc, hd⟩ : ∃ o t1, (Mine.pre.heap_1 w.params).lookup 332 = some o ∧ o.cls = .type "tuple" ∧ o.data = .seq #[.str (Str.ofString ":true") t1, .none] := ⟨_, _, rfl, rfl, rfl⟩
    exact item_tuple hW (by decide) (by decide) (j := 6) (by rfl) (by rfl) (h 332 (Str.ofString ":true") t1 (none) (IsTup.keeps (tup_in X ho hc hd) F.keep) w_ktrue) hs hg
  · obtain ⟨o, t1, ho, hc, hd⟩ : ∃ o t1, (Mine.pre.heap_1 w.params).lookup 333 = some o ∧ o.cls = .type "tuple" ∧ o.data = .seq #[.str (Str.ofString "#b1") t1, .none] := ⟨_, _, rfl, rfl, rfl⟩
    exact item_tuple hW (by decide) (by decide) (j := 7) (by rfl) (by rfl) (h 333 (Str.ofString "#b1") t1 (none) (IsTup.keeps (tup_in X ho hc hd) F.keep) w_bits) hs hg
  · obtain ⟨o, t1, ho, hc, hd⟩ : ∃ o t1, (Mine.pre.heap_1 w.params).lookup 334 = some o ∧ o.cls = .type "tuple" ∧ o.data = .seq #[.str (Str.ofString "1.0") t1, .none] := ⟨_, _, rfl, rfl, rfl⟩
    exact item_tuple hW (by decide) (by decide) (j := 8) (by rfl) (by rfl) (h 334 (Str.ofString "1.0") t1 (none) (IsTup.keeps (tup_in X ho hc hd) F.keep) w_dec) hs hg
  · obtain ⟨o, t1, ho, hc, hd⟩ : ∃ o t1, (Mine.pre.heap_1 w.params).lookup 335 = some o ∧ o.cls = .type "tuple" ∧ o.data = .seq #[.str (Str.ofString "(true)") t1, .none] := ⟨_, _, rfl, rfl, rfl⟩
    exact item_tuple hW (by decide) (by decide) (j := 9) (by rfl) (by rfl) (h 335 (Str.ofString "(true)") t1 (none) (IsTup.keeps (tup_in X ho hc hd) F.keep) w_ltrue) hs hg
  · obtain ⟨o, t1, ho, hc, hd⟩ : ∃ o t1, (Mine.pre.heap_1 w.params).lookup 336 = some o ∧ o.cls = .type "tuple" ∧ o.data = .seq #[.str (Str.ofString "truest") t1, .none] := ⟨_, _, rfl, rfl, rfl⟩
    exact item_tuple hW (by decide) (by decide) (j := 10) (by rfl) (by rfl) (h 336 (Str.ofString "truest") t1 (none) (IsTup.keeps (tup_in X ho hc hd) F.keep) w_truest) hs hg
  · obtain ⟨o, t1, ho, hc, hd⟩ : ∃ o t1, (Mine.pre.heap_1 w.params).lookup 337 = some o ∧ o.cls = .type "tuple" ∧ o.data = .seq #[.str (Str.ofString "(1)") t1, .none] := ⟨_, _, rfl, rfl, rfl⟩
    exact item_tuple hW (by decide) (by decide) (j := 11) (by rfl) (by rfl) (h 337 (Str.ofString "(1)") t1 (none) (IsTup.keeps (tup_in X ho hc hd) F.keep) w_l1) hs hg
  · obtain ⟨o, t1, ho, hc, hd⟩ : ∃ o t1, (Mine.pre.heap_1 w.params).lookup 338 = some o ∧ o.cls = .type "tuple" ∧ o.data = .seq #[.str (Str.ofString "\"false\"") t1, .none] := ⟨_, _, rfl, rfl, rfl⟩
    exact item_tuple hW (by decide) (by decide) (j := 12) (by rfl) (by rfl) (h 338 (Str.ofString "\"false\"") t1 (none) (IsTup.keeps (tup_in X ho hc hd) F.keep) w_sfalse) hs hg
  · obtain ⟨o, t1, ho, hc, hd⟩ : ∃ o t1, (Mine.pre.heap_1 w.params).lookup 339 = some o ∧ o.cls = .type "tuple" ∧ o.data = .seq #[.str (Str.ofString ":false") t1, .none] := ⟨_, _, rfl, rfl, rfl⟩
    exact item_tuple hW (by decide) (by decide) (j := 13) (by rfl) (by rfl) (h 339 (Str.ofString ":false") t1 (none) (IsTup.keeps (tup_in X ho hc hd) F.keep) w_kfalse) hs hg
  · obtain ⟨o, t1, ho, hc, hd⟩ : ∃ o t1, (Mine.pre.heap_1 w.params).lookup 340 = some o ∧ o.cls = .type "tuple" ∧ o.data = .seq #[.str (Str.ofString "False") t1, .none] := ⟨_, _, rfl, rfl, rfl⟩
    exact item_tuple hW (by decide) (by decide) (j := 14) (by rfl) (by rfl) (h 340 (Str.ofString "False") t1 (none) (IsTup.keeps (tup_in X ho hc hd) F.keep) w_False) hs hg
  · obtain ⟨o, t1, ho, hc, hd⟩ : ∃ o t1, (Mine.pre.heap_1 w.params).lookup 341 = some o ∧ o.cls = .type "tuple" ∧ o.data = .seq #[.str (Str.ofString "|7|") t1, .none] := ⟨_, _, rfl, rfl, rfl⟩
    exact item_tuple hW (by decide) (by decide) (j := 15) (by rfl) (by rfl) (h 341 (Str.ofString "|7|") t1 (none) (IsTup.keeps (tup_in X ho hc hd) F.keep) w_b7) hs hg
  · obtain ⟨o, t1, ho, hc, hd⟩ : ∃ o t1, (Mine.pre.heap_1 w.params).lookup 342 = some o ∧ o.cls = .type "tuple" ∧ o.data = .seq #[.str (Str.ofString "\"7\"") t1, .none] := ⟨_, _, rfl, rfl, rfl⟩
    exact item_tuple hW (by decide) (by decide) (j := 16) (by rfl) (by rfl) (h 342 (Str.ofString "\"7\"") t1 (none) (IsTup.keeps (tup_in X ho hc hd) F.keep) w_s7) hs hg
end

section
open PySem PySem.W PyProof.Rows PySem.Calls PySem.Spec
set_option maxRecDepth 100000
set_option maxHeartbeats 2000000

local macro_rules | `(tactic| k_extra "mine call pour") => `(tactic| (k_here; (with_reducible show wpAny _ _ (call (Value.ref 350) _) _ _ _); k_dflt (refine' pour_ok ?k1 ?k2 ?k3 ?k4 ?k5 ?k6 ?kU ?kc ?h1 ?h2 ?h3 ?h4 ?h5 ?h6 ?h7 ?h8 ?h9 ?h10 ?_; (case k1 | k2 | k3 | k4 | k5 => k_asm); (case k6 => exact rfl); (case kU => k_updF); (case h2 => assumption); (case kc => k_mem); (case h1 | h3 | h4 => assumption); (case h5 | h6 => omega); (case h7 | h8 => decide); (case h9 => ktr_room); (case h10 => ktr_units)); skip))
theorem getD_six {r : Int} (h0 : 0 ≤ r) (h1 : r < 6) : [0, 1, 7, 10 ^ Int.toNat 20, 10 ^ Int.toNat 40, (10005 : Int)].getD r.toNat 0 = 0 ∨ [0, 1, 7, 10 ^ Int.toNat 20, 10 ^ Int.toNat 40, (10005 : Int)].getD r.toNat 0 = 1 ∨ [0, 1, 7, 10 ^ Int.toNat 20, 10 ^ Int.toNat 40, (10005 : Int)].getD r.toNat 0 = 7 ∨
    [0, 1, 7, 10 ^ Int.toNat 20, 10 ^ Int.toNat 40, (10005 : Int)].getD r.toNat 0 = 10 ^ 20 ∨ [0, 1, 7, 10 ^ Int.toNat 20, 10 ^ Int.toNat 40, (10005 : Int)].getD r.toNat 0 = 10 ^ 40 ∨ [0, 1, 7, 10 ^ Int.toNat 20, 10 ^ Int.toNat 40, (10005 : Int)].getD r.toNat 0 = 10005 := by
  refine AllFrom.pick (n := 6) (P := fun r => [0, 1, 7, 10 ^ Int.toNat 20, 10 ^ Int.toNat 40, (10005 : Int)].getD r.toNat 0 = 0 ∨ [0, 1, 7, 10 ^ Int.toNat 20, 10 ^ Int.toNat 40, (10005 : Int)].getD r.toNat 0 = 1 ∨ [0, 1, 7, 10 ^ Int.toNat 20, 10 ^ Int.toNat 40, (10005 : Int)].getD r.toNat 0 = 7 ∨
    [0, 1, 7, 10 ^ Int.toNat 20, 10 ^ Int.toNat 40, (10005 : Int)].getD r.toNat 0 = 10 ^ 20 ∨ [0, 1, 7, 10 ^ Int.toNat 20, 10 ^ Int.toNat 40, (10005 : Int)].getD r.toNat 0 = 10 ^ 40 ∨ [0, 1, 7, 10 ^ Int.toNat 20, 10 ^ Int.toNat 40, (10005 : Int)].getD r.toNat 0 = 10005)
    (AllFrom.step ?_ (AllFrom.step ?_ (AllFrom.step ?_ (AllFrom.step ?_ (AllFrom.step ?_ (AllFrom.step ?_ trivial)))))) h0 h1 <;> decide +kernel
theorem num_log {b d : Int} (hb : b = 0 ∨ b = 1 ∨ b = 7 ∨ b = 10 ^ 20 ∨ b = 10 ^ 40 ∨ b = 10005) (hd0 : 0 ≤ d) (hd1 : d < 3) : 0 ≤ b + d ∧ (b + d).natAbs.log2 < 1920 := by
  have hD : d.natAbs = d := Int.natAbs_of_nonneg hd0
  have hB : 0 ≤ b ∧ b ≤ 10 ^ 40 := by rcases hb with rfl | rfl | rfl | rfl | rfl | rfl <;> decide
  refine ⟨Int.add_nonneg hB.1 hd0, ?_⟩
  have h3 : (b + d).natAbs < 2 ^ 1920 := by
    have h4 : b + d ≤ 10 ^ 40 + 3 := by omega
    have h5 : ((b + d).natAbs : Int) = b + d := Int.natAbs_of_nonneg (Int.add_nonneg hB.1 hd0)
    exact Int.ofNat_lt.mp (Int.lt_of_le_of_lt (h5 ▸ h4) (by decide +kernel))
  by_cases h6 : (b + d).natAbs = 0
  · rw [h6]; decide
  · exact (Nat.log2_lt h6).mpr h3
local macro_rules | `(tactic| k_extra "mine call type:str") => `(tactic| (k_here; (with_reducible show wpAny _ _ (call (Value.type "str") [Value.int _ _]) _ _ _); k_dflt (refine' PySem.P.str_of_int ?k1 ?_; (case k1 => exact (num_log (getD_six (by assumption) (by assumption)) (by assumption) (by assumption)).2); k_whole)))
local macro_rules | `(tactic| k_extra "mine one num") => `(tactic| (k_here; (with_reducible show wpAny _ _ (call (Value.ref 322) _) _ _ _); k_dflt (refine' num_any (getD_six (by assumption) (by assumption)) (by assumption) (by assumption) ?k1 ?k2 ?k3 ?k4 ?k5 ?k6 ?k7 ?k8 ?_; (case k1 | k2 | k3 | k4 | k5 => k_asm); (case k6 => exact rfl); (case k7 => ktr_room); (case k8 => ktr_units))))
local macro_rules | `(tactic| k_extra "mine one word") => `(tactic| (k_here; (with_reducible show wpAny _ _ (call (Value.ref 322) _) _ _ _); (rename OneOk _ _ _ _ _ => lOne'); k_dflt (refine' lOne' ?k1 ?k2 ?k3 ?k4 ?k5 ?k6 ?k7 ?k8 ?_; (case k1 | k2 | k3 | k4 | k5 => k_asm); (case k6 => exact rfl); (case k7 => ktr_room); (case k8 => ktr_units))))
local macro_rules | `(tactic| k_extra "mine subscriptTail") => `(tactic| (k_here; (with_reducible show wpAny _ _ (subscriptTail _ _ (Value.ref 343) (Value.int _ _)) _ _ _); k_dflt (refine' word_at ?k1 ?k2 ?k3 ?k4 ?_; (case k1 | k2 => k_asm); (case k3 | k4 => assumption); k_whole); intro T tx t1 tr hT hOne; dsimp only at hT))
section
variable {w : World} {vp : Program} {vl : List Str} {mean : ExcName → Option Value} {mg mb : Str → Option Value} {dp un : Nat} {gd : Option (List Code)} {cn : Str} {cs : Scope} {a : Addr} {ccd : Value} {cl : List (Str × Addr)} {outer : List Env} {A₀ : Around}
    {base h₀ : Heap} {L : Addr} {m : Str → Option Value} {s : Shared} {Q E : Value → Shared → Prop} {news : List (Addr × Obj)}
    (B : Below A₀ base outer h₀) (F : Fr h₀ L s.heap m) (X : (Mine.pre.heap_1 w.params).In h₀) (N : News h₀ L s.heap news) (T : Top vp vl mean mg mb h₀) (hk : cs.kind = .function)
include B F X N T hk

theorem item_ok {gg : Obj → List (Addr × Obj)} {mug c : Addr} {om : Obj} {k : Int} {tk : Tok} {cvs : List Value} {ns : List Int} {nc : Nat}
    (U : UpdF mug om news gg) (hcm : (c, listOf cvs.toArray nc) ∈ news) (hne : @Ne Nat mug c)
    (hlo : (mug == sysModules) = false) (hom : om.IsDictOf (PySem.strKind Challenge.rw_rg0209_01.row.prog w) [(Str.ofString "cells", .ref c), (Str.ofString "at", .int k tk)]) (hI : IntsAre cvs ns) (hlen : ns.length ≤ 63)
    (hk0 : 0 ≤ k) (hk1 : k ≤ 900) (hd : dp + 14 < recursionLimit) (hu : un + 3000 < cLine)
    (hret : ∀ (D : Addr) (itp : List (Addr × Obj)) (itv nv : Value) (tr : Option Bool) (nuP : Option Int) (h' : Heap) (tk' : Nat) (om' : Obj) (k' : Int) (t' : Tok), ItemP tr nuP itp itv → numIs nuP nv → k ≤ k' → k' ≤ k + 4 → Fr h₀ L h' m → om'.IsDictOf (PySem.strKind Challenge.rw_rg0209_01.row.prog w) [(Str.ofString "cells", .ref c), (Str.ofString "at", .int k' t')] →
      News h₀ L h' ((D, tupOf [itv, truthV tr, nv]) :: (gg om' ++ itp)) → OwnOff itp (news.map (·.1)) → Q (.ref D) { s with heap := h', toks := tk' }) :
    wpAny (model Challenge.rw_rg0209_01.row.prog w) (ktrTop dp un gd cn cs L a ccd cl outer) (call (.ref 357) [.ref mug]) Q E s := by
  w_top off
  k_with_none
  have hmug : (mug, om) ∈ news := by obtain ⟨pre, post, rfl, -, -, -⟩ := U.split; simp
  have hm : ∀ q ∈ [(mug, om), (c, listOf cvs.toArray nc)], q ∈ news := by
    intro q hq
    simp only [List.mem_cons, List.not_mem_nil, or_false] at hq
    rcases hq with rfl | rfl <;> assumption
  k_with "call ref" => (k_extra "mine one word"; intro itp itv h' tk' hP F' N' hoff)
  k_with "call ref" => (k_extra "mine one num"; intro itp itv h' tk' hP F' N' hoff)
  k_with "call ref" => (k_extra "mine call pour"; intro r t t' h' tk' om' hr0 hr1 F' hd' N')
  refine wpAny_call ?_
  k_dflt cell_enter
  intro g' L' h' tk₁ FG' F' N' hG' B' X' T'
  try dsimp only
  try k_lift B'
  try (with_reducible change wpAny _ _ _ _ _ _)
  try k_fold
  have hfin : ∀ (D : Addr) (led itp : List (Addr × Obj)) (itv nv : Value) (tr : Option Bool) (nuP : Option Int) (h' : Heap) (tk' : Nat) (om' : Obj) (k' : Int) (t' : Tok), Fr h₀ L h' m → News h₀ L h' led → News g' L' h' led →
      (∀ b o₁, s.heap.get? b = some o₁ → b ∉ [(mug, om), (c, listOf cvs.toArray nc)].map (·.1) → h'.get? b = some o₁) → (∀ q ∈ (D, tupOf [itv, truthV tr, nv]) :: (mug, om') :: (c, listOf cvs.toArray nc) :: itp, q ∈ led) → om'.IsDictOf (PySem.strKind Challenge.rw_rg0209_01.row.prog w) [(Str.ofString "cells", .ref c), (Str.ofString "at", .int k' t')] → ItemP tr nuP itp itv → numIs nuP nv → OwnOff itp [mug, c] → k ≤ k' → k' ≤ k + 4 →
      Q (.ref D) { s with heap := h', toks := tk' } := by
    intro D led itp itv nv tr nuP h' tk' om' k' t' F' N' kG hst hsub hd' hP hn hoff h1 h2
    have hg := news_one (o' := om') N U hm N' (hsub _ (by simp)) (fun r hr hne' => by
      simp only [List.mem_cons, List.not_mem_nil, or_false] at hr
      rcases hr with rfl | rfl
      · exact absurd rfl hne'
      · exact hsub _ (by simp)) hst
    refine hret D itp itv nv tr nuP h' tk' om' k' t' hP hn h1 h2 F' hd' (fun q hq => ?_) fun p hp b hb e => ?_
    · rcases List.mem_cons.mp hq with rfl | hq
      · exact N' _ (hsub _ (.head _))
      rcases List.mem_append.mp hq with hq | hq
      · exact hg q hq
      · exact N' _ (hsub _ (.tail _ (.tail _ (.tail _ hq))))
    · obtain ⟨r, hr, rfl⟩ := List.mem_map.mp hb
      exact fresh_of (D := p.1) (o := p.2) (prt' := []) N hm hG' (fun q hq => kG q (by rw [List.mem_singleton.mp hq]; exact hsub _ (.tail _ (.tail _ (.tail _ hp))))) (fun t ht => by
        simp only [List.mem_cons, List.not_mem_nil, or_false] at ht
        rcases ht with rfl | rfl
        · exact Ne.symm (hoff p hp _ (by simp))
        · exact Ne.symm (hoff p hp _ (by simp))) r hr e.symm
  k_steps
  · exact fun hst => hfin _ _ itp _ _ none _ _ _ _ _ _ (by assumption) (by assumption) (by assumption) hst (by exact List.forall_mem_cons.mpr ⟨.head _, fun q hq => .tail _ (.tail _ hq)⟩) (by assumption) hP (.inr ⟨_, _, rfl, rfl, num_log (getD_six (by assumption) (by assumption)) (by assumption) (by assumption)⟩) (fun p hp b hb => hoff p hp b (.tail _ hb)) (by omega) (by omega)
  · refine fun hst => hfin _ _ _ _ .none none none _ _ _ _ _ (by assumption) (by assumption) (by assumption) hst (List.forall_mem_cons.mpr ⟨.head _, List.forall_mem_cons.mpr ⟨.tail _ (.tail _ (.head _)), List.forall_mem_cons.mpr ⟨.tail _ (.tail _ (.tail _ (.head _))), List.forall_mem_cons.mpr ⟨.tail _ (.head _), List.forall_mem_nil _⟩⟩⟩⟩) (by assumption) ⟨none, rfl, item_neg (by omega)⟩ (.inl ⟨rfl, rfl⟩) ?_ (by omega) (by omega)
    intro p hp b hb
    rw [List.mem_singleton.mp hp]
    simp only [List.mem_cons, List.not_mem_nil, or_false] at hb
    rcases hb with rfl | rfl
    · exact Nat.ne_of_gt (And.left (by assumption))
    · exact Nat.ne_of_gt (And.right (by assumption))
  · exact fun hst => hfin _ _ [] .none .none none none _ _ _ _ _ (by assumption) (by assumption) (by assumption) hst (fun q hq => hq) (by assumption) ⟨none, rfl, item_nothing⟩ (.inl ⟨rfl, rfl⟩) (fun _ h => by cases h) (by omega) (by omega)
  all_goals exact fun hst => hfin _ _ itp _ .none _ none _ _ _ _ _ (by assumption) (by assumption) (by assumption) hst (fun q hq => hq) (by assumption) hP (.inl ⟨rfl, rfl⟩) hoff (by omega) (by omega)
end
end

section
open PySem PySem.W PyProof.Rows PySem.Calls PySem.Spec
set_option maxRecDepth 100000
set_option maxHeartbeats 2000000
noncomputable def lawPack : {x : DefRec × List (Str × PySem.Expr) // defOf Challenge.pw_rg0209_01 Challenge.rw_rg0209_01.row.name = some x} := ⟨(_, _), by rfl⟩
noncomputable def lawFd : DefRec := lawPack.val.1
noncomputable def lapBody : List Stmt := match lawFd.body with | [_, _, _, _, .For _ _ b _ _, _] => b | _ => []
noncomputable def lapFor : Stmt := match lawFd.body with | [_, _, _, _, b, _] => b | _ => .Pass default
noncomputable def oneFor : Stmt := match lapBody with | _ :: _ :: b :: _ => b | _ => .Pass default
section
variable {prog : Program} {w : World} {A : Around} {E : Value → Shared → Prop} {s : Shared} {env : Env} {h₀ : Heap} {x : Str} {target : PySem.Expr} {body : List Stmt} {Q : Flow → Shared → Prop}
/-- a loop over a made tuple whose target is no plain local name -/
theorem iter_tupC {D : Addr} {vs : List Value} {m0 : Str → Option Value} {news : List (Addr × Obj)} (x : Str) (xs : List Str) (R : Nat → List (Addr × Obj) → Prop) (hh : A.handled = none) (hgo : ∀ (I : Addr) (v : Value), letOwnedTupleGo target (.ref I) v = pure ())
    (F : Fr h₀ env.locals s.heap m0) (N : News h₀ env.locals s.heap ((D, tupOf vs) :: news)) (hlt : ∀ p ∈ news, p.1 < D) (hj : R 0 news)
    (turn : ∀ i v nx h tk own (u : Str → Option Value), vs[i]? = some v → R i nx → nx.map (·.1) = news.map (·.1) → Fr h₀ env.locals h (fun y => if y = x then u x else if xs.contains y then u y else m0 y) → News h₀ env.locals h (nx ++ own) → OwnOff own (news.map (·.1)) →
      wpAny (model prog w) A (assign target env v) (fun _ s₃ => wpAny (model prog w) A (execs body env) (KTurn h₀ env.locals x xs m0 own (news.map (·.1)) (R (i + 1)) { s with heap := h, toks := tk }) E s₃) E { s with heap := h, toks := tk })
    (done : ∀ (u : Str → Option Value) nx h tk, R vs.length nx → Fr h₀ env.locals h (fun y => if y = x then u x else if xs.contains y then u y else m0 y) → News h₀ env.locals h nx → nx.map (·.1) = news.map (·.1) → Q .next { s with heap := h, toks := tk }) :
    wpAny (model prog w) A (pyIter (.ref D)) (fun it s₂ => TurnsAt prog w A h₀ env target body Q E it s₂) E s := by
  have hD := N _ (List.Mem.head _)
  have hT : s.heap.IsTuple D vs.toArray := ⟨_, hD.1, rfl, _, rfl⟩
  have hne : D ≠ s.heap.objs.size := Nat.ne_of_lt (Heap.lt_size hD.1)
  have hmm : ∀ m₁ : Str → Option Value, (∀ z, z ≠ x → xs.contains z = false → m₁ z = m0 z) → m₁ = fun y => if y = x then m₁ x else if xs.contains y then m₁ y else m0 y := by
    intro m₁ hM
    funext y
    by_cases hy : y = x
    · simp [hy]
    · cases hc : xs.contains y
      · simp only [if_neg hy, Bool.false_eq_true, if_false]; exact hM y hy hc
      · simp only [if_neg hy, if_true]
  refine wpAny_pyIter_tuple hT ?_
  have W := Walks.tuple (prog := prog) (w := w) hh s.heap.objs.size D hne vs.toArray
  have hlen : vs.toArray.size = vs.length := by simp
  rw [hlen] at W
  let J : Nat → (Str → Option Value) → List (Addr × Obj) → Prop := fun i m₁ nx => (∀ z, z ≠ x → xs.contains z = false → m₁ z = m0 z) ∧ nx.map (·.1) = news.map (·.1) ∧ R i nx
  refine ⟨_, _, _, vs.length, _, _, _, m0, news, J, rfl, KTurns.ofWalks W (fun i v s Q E _ h => by rw [hgo]; exact wpAny_pure h), ?_, ?_, ?_, ⟨⟨_, Heap.get?_push_size _ rfl, rfl, rfl⟩, hT.at fun o e => Heap.get?_push_of_some _ e⟩, F.push _,
    (fun p hp => ⟨Heap.get?_push_of_some _ (N p (.tail _ hp)).1, (N p (.tail _ hp)).2⟩), ⟨fun _ _ _ => rfl, rfl, hj⟩, ?_, ?_⟩
  · intro hm
    rcases List.mem_cons.mp hm with e | hm
    · exact absurd F.ns.lt (e ▸ Nat.lt_irrefl _)
    · exact hD.2.1 (List.mem_singleton.mp hm).symm
  · intro b hb
    rw [List.mem_singleton.mp hb]
    exact next_is_new F
  · intro p hp hI
    exact absurd (Heap.lt_size (N p (.tail _ hp)).1) ((List.mem_singleton.mp hI) ▸ Nat.lt_irrefl _)
  · rintro i v m₁ nx h₁ tk₁ own hin hP ⟨hM, hadr, hR⟩ hoffw hown _ _ _ F₁ N₁
    have hfp : ∀ q ∈ news, q.1 ∉ [s.heap.objs.size, D] := by
      intro p hp hI
      rcases List.mem_cons.mp hI with e | hI
      · exact absurd (Heap.lt_size (N p (.tail _ hp)).1) (e ▸ Nat.lt_irrefl _)
      · exact absurd (hlt p hp) ((List.mem_singleton.mp hI) ▸ Nat.lt_irrefl _)
    have hsep : OwnOff own (news.map (·.1)) := by
      intro p hp b hb e
      obtain ⟨q, hq, rfl⟩ := List.mem_map.mp hb
      exact hfp q hq (e ▸ hown p hp)
    have N₂ : News h₀ env.locals h₁ (nx ++ own) := fun p hp => N₁ p ((List.mem_append.mp hp).elim (fun h => List.mem_append.mpr (.inr h)) fun h => List.mem_append.mpr (.inl h))
    rw [hmm m₁ hM] at F₁
    refine wpAny_mono (turn i v nx h₁ tk₁ own m₁ (by simpa using hP) hR hadr F₁ N₂ hsep) (fun _ s₃ k => wpAny_mono k (fun f s₂ p => ?_) fun _ _ e => e) fun _ _ e => e
    obtain ⟨rfl, h', tk', m', news', nx', rfl, F', hM', N', hn, ho, ha, hR'⟩ := p
    refine ⟨rfl, h', tk', m', nx', rfl, F', fun p hp => N' p ((List.mem_append.mp hp).elim (ho p) (hn p)), fun p hp hq => ?_, hM', ha, hR'⟩
    have h1 : p.1 ∈ nx'.map (·.1) := List.mem_map.mpr ⟨p, hp, rfl⟩
    rw [ha, ← hadr] at h1
    obtain ⟨q, hq1, hq2⟩ := List.mem_map.mp h1
    exact hoffw q hq1 (by rw [hq2]; exact hq)
  · rintro h' tk' m' nx F' N' _ ⟨hM, ha, hR⟩
    rw [hmm m' hM] at F'
    exact done m' nx h' tk' hR F' N' ha
end
theorem fr_seen {h₀ h : Heap} {L : Addr} {m : Str → Option Value} {y : Str} {v : Value} (F : Fr h₀ L h m) (e : m y = some v) : Fr h₀ L h (fun z => if z = y then some v else m z) := by
  have : (fun z => if z = y then some v else m z) = m := by
    funext z
    by_cases hz : z = y
    · rw [if_pos hz, hz, e]
    · rw [if_neg hz]
  rw [this]; exact F
end

section
open PySem PySem.W PyProof.Rows PySem.Calls PySem.Spec
set_option maxRecDepth 100000
set_option maxHeartbeats 2000000
section
variable {w : World} {vp : Program} {vl : List Str} {mean : ExcName → Option Value} {mg mb : Str → Option Value} {dp un : Nat} {gd : Option (List Code)} {a c : Addr} {ccd : Value} {A₀ : Around}
    {base h₀ : Heap} {L : Addr} {m : Str → Option Value} {s : Shared} {Q E : Value → Shared → Prop} {news : List (Addr × Obj)}
theorem item_truth {itp : List (Addr × Obj)} {itv : Value} {tr : Option Bool} {nu : Option (Int × Tok)} {h : Heap} (N : News h₀ L h news) (hm : ∀ q ∈ itp, q ∈ news) (hI : ItemIs itp itv tr nu) : TellsTruth h itv tr := hI.1 h fun q hq => (N q (hm q hq)).1
end
section
variable {w : World} {vp : Program} {vl : List Str} {mean : ExcName → Option Value} {mg mb : Str → Option Value} {dp un : Nat} {gd : Option (List Code)} {cn : Str} {cs : Scope} {a : Addr} {ccd : Value} {cl : List (Str × Addr)} {A₀ : Around}
    {base h₀ : Heap} {L : Addr} {m : Str → Option Value} {s : Shared} {Q E : Value → Shared → Prop} {news : List (Addr × Obj)}
    (B : Below A₀ base [] h₀) (F : Fr h₀ L s.heap m) (X : (Mine.pre.heap_1 w.params).In h₀) (N : News h₀ L s.heap news) (T : Top vp vl mean mg mb h₀) (hk : cs.kind = .function)
include B F X N T hk

theorem heard_some {x dx vd : Addr} {ov : Obj} {tv : Tok} {kvs : List (Str × Value)} {nm : Str} {tn : Tok} {v r itv : Value} {tr : Option Bool} {nu : Option (Int × Tok)} {itp : List (Addr × Obj)}
    (hdue : due v tr nu = some r) (hm : ∀ q ∈ (x, instObj 170 dx) :: (dx, valsOf w tv vd) :: (vd, ov) :: itp, q ∈ news) (hov : ov.IsDictOf (PySem.strKind Challenge.rw_rg0209_01.row.prog w) kvs) (hv : valueAt kvs nm = some v) (hvk : okv v)
    (hI : ItemIs itp itv tr nu) (hnl : nm.length ≤ 100) (hd : dp + 7 < recursionLimit) (hu : un + 256 < cLine)
    (hret : ∀ (D : Addr) (h' : Heap) (tk' : Nat), Fr h₀ L h' m → News h₀ L h' ((D, listOf #[r] 0) :: news) → Q (.ref D) { s with heap := h', toks := tk' }) :
    wpAny (model Challenge.rw_rg0209_01.row.prog w) (ktrTop dp un gd cn cs L a ccd cl []) (call (.ref 364) [.ref x, .str nm tn, itv]) Q E s :=
  heard_ok B F X N T hk hm hov hv hvk (item_truth N (fun q hq => hm q (by simp [hq])) hI) hI.2 hnl hd hu (by rw [hdue]; exact fun D h' tk' F' N' _ => hret D h' tk' F' N')
theorem heard_none {x dx vd : Addr} {ov : Obj} {tv : Tok} {kvs : List (Str × Value)} {nm : Str} {tn : Tok} {v itv : Value} {tr : Option Bool} {nu : Option (Int × Tok)} {itp : List (Addr × Obj)}
    (hdue : due v tr nu = none) (hm : ∀ q ∈ (x, instObj 170 dx) :: (dx, valsOf w tv vd) :: (vd, ov) :: itp, q ∈ news) (hov : ov.IsDictOf (PySem.strKind Challenge.rw_rg0209_01.row.prog w) kvs) (hv : valueAt kvs nm = some v) (hvk : okv v)
    (hI : ItemIs itp itv tr nu) (hnl : nm.length ≤ 100) (hd : dp + 7 < recursionLimit) (hu : un + 256 < cLine)
    (hret : ∀ (D : Addr) (h' : Heap) (tk' : Nat), Fr h₀ L h' m → News h₀ L h' ((D, listOf #[] 0) :: news) → Q (.ref D) { s with heap := h', toks := tk' }) :
    wpAny (model Challenge.rw_rg0209_01.row.prog w) (ktrTop dp un gd cn cs L a ccd cl []) (call (.ref 364) [.ref x, .str nm tn, itv]) Q E s :=
  heard_ok B F X N T hk hm hov hv hvk (item_truth N (fun q hq => hm q (by simp [hq])) hI) hI.2 hnl hd hu (by rw [hdue]; exact fun D h' tk' F' N' _ => hret D h' tk' F' N')
end
local macro_rules | `(tactic| k_extra "mine call ref") => `(tactic| (k_here; (with_reducible show wpAny _ _ (call (Value.ref 364) _) _ _ _); k_dflt (first | refine' heard_some ?k1 ?k2 ?k3 ?k4 ?k5 ?k6 ?h0 ?h1 ?h2 ?h3 ?h4 ?h5 ?h6 ?h7 ?h8 ?_ | refine' heard_none ?k1 ?k2 ?k3 ?k4 ?k5 ?k6 ?h0 ?h1 ?h2 ?h3 ?h4 ?h5 ?h6 ?h7 ?h8 ?_); (case k1 | k2 | k3 | k4 | k5 => k_asm); (case k6 => exact rfl); (case h0 | h2 | h3 | h4 | h5 | h6 => assumption); (case h7 => ktr_room); (case h8 => ktr_units); (case h1 => intro q hq; have hq' := hmR q hq; simp only [List.cons_append, List.mem_cons, List.mem_append, hq', true_or, or_true]); k_whole))
end

section
open PySem PySem.W PyProof.Rows PySem.Calls PySem.Spec
set_option maxRecDepth 100000
set_option maxHeartbeats 2000000
theorem sub_in {l rest own : List (Addr × Obj)} {p : Addr × Obj} (h : ∀ q ∈ l, q ∈ rest) : ∀ q ∈ l, q ∈ p :: (rest ++ own) := fun q hq => .tail _ (List.mem_append_left _ (h q hq))
theorem comp_end {h₀ : Heap} {L I C D : Addr} {m : Str → Option Value} {s₁ : Shared} {oI oC oD : Obj} {S : List (Addr × Obj) → Prop} {rst : Value → List (Addr × Obj) → Prop} {y : Value} {h' : Heap} {tk : Nat} {all : List (Addr × Obj)}
    (F : Fr h₀ L h' m) (N : News h₀ L h' ((I, oI) :: (C, oC) :: (D, oD) :: all)) (off : LCg.Off3 I C D all) (hS : S all) (r : rst y all) : LCg.CompEnd h₀ L m s₁ I oI C oC D oD S rst y { s₁ with heap := h', toks := tk } := LCg.CompEnd.intro F N all (fun _ h => h) off hS r
end

local macro_rules | `(tactic| k_extra "mine CompSrc") => `(tactic| (k_here; k_dflt (refine LCg.CompSrc.ledger (by rfl) (by k_asm) (by k_asm) (by k_mem) (Nat.le_of_ble_eq_true rfl) ?_; intro g'; lcg_lit)))
local macro_rules | `(tactic| k_extra "mine CompRest") => `(tactic| (with_unfolding_all first
  | (refine LCg.CompRest.succ ?_; intro v' I' oI' C' oC' D' m' h' tk' E' hv' hC' hx' F' N' off' ne'; (first | lcg_open hv' | (obtain ⟨t9', hv9'⟩ := hv'; subst hv9')))
  | refine LCg.CompRest.zero ?_))
section
open PySem PySem.W PyProof.Rows PySem.Calls PySem.Spec
set_option maxRecDepth 100000
set_option maxHeartbeats 2000000
local macro_rules | `(tactic| k_extra "mine CompEnd") => `(tactic| (refine comp_end (by assumption) (by assumption) (by assumption) (by lcg_src) ?_))
local macro_rules | `(tactic| k_extra "mine eval ListComp") => `(tactic| (k_here; lcg_look; k_dflt (refine LCg.ListComp_U (F₀ := by k_asm) (by rfl) (by decide) (by rfl) (by decide) (by rfl) ?_); k_dflt lcg_toSrc))
local macro_rules | `(tactic| k_extra "mine eval ListComp") => `(tactic| (k_here; lcf_look; k_dflt (refine LCg.ListComp_U (F₀ := by k_asm) (by with_unfolding_all rfl) (by decide) (by rfl) (by decide) (by rfl) ?_); k_dflt lcg_toSrc))
local macro_rules | `(tactic| k_extra "mine call ref") => `(tactic| (k_here; (with_reducible show wpAny _ _ (call (Value.ref 364) _) _ _ _); k_dflt (refine' heard_some ?k1 ?k2 ?k3 ?k4 ?k5 ?k6 ?h0 ?h1 ?h2 ?h3 ?h4 ?h5 ?h6 ?h7 ?h8 ?_; (case k1 | k2 | k3 | k4 | k5 => k_asm); (case k6 => exact rfl); (case h0 | h2 | h3 | h4 | h5 | h6 => assumption); (case h7 => ktr_room); (case h8 => ktr_units); (case h1 => exact sub_in (by assumption)); k_whole); intro D h' tk' F' N'))
local macro_rules | `(tactic| k_extra "mine call ref") => `(tactic| (k_here; (with_reducible show wpAny _ _ (call (Value.ref 364) _) _ _ _); k_dflt (refine' heard_none ?k1 ?k2 ?k3 ?k4 ?k5 ?k6 ?h0 ?h1 ?h2 ?h3 ?h4 ?h5 ?h6 ?h7 ?h8 ?_; (case k1 | k2 | k3 | k4 | k5 => k_asm); (case k6 => exact rfl); (case h0 | h2 | h3 | h4 | h5 | h6 => assumption); (case h7 => ktr_room); (case h8 => ktr_units); (case h1 => exact sub_in (by assumption)); k_whole); intro D h' tk' F' N'))
local macro_rules | `(tactic| k_extra "mine storeName") => `(tactic| (k_here; k_dflt (refine' storeX_C ?F ?N ?c ?U ?d ?_ ?a ?b; (case a | b => rfl); (case F | N => k_asm); (case c => rfl); (case U | d => assumption); k_whole); intro h' o' F' N' hd'))
section
variable {w : World} {vp : Program} {vl : List Str} {mean : ExcName → Option Value} {mg mb : Str → Option Value} {dp un : Nat} {gd : Option (List Code)} {a c : Addr} {ccd : Value} {A₀ : Around}
    {base h₀ : Heap} {L : Addr} {m : Str → Option Value} {s : Shared} {Q : Flow → Shared → Prop} {rest : List (Addr × Obj)}
theorem asked_ok {x dx vd : Addr} {ov co : Obj} {tv : Tok} {kvs : List (Str × Value)} {itv nv : Value} {tr : Option Bool} {nuP : Option Int} {nu : Option (Int × Tok)} {itp : List (Addr × Obj)} {cv : Option Value}
    (B : Below A₀ base [] h₀) (F : Fr h₀ L s.heap m) (X : (Mine.pre.heap_1 w.params).In h₀) (N : News h₀ L s.heap ((c, co) :: rest)) (T : Top vp vl mean mg mb h₀)
    (hcr : ∀ p ∈ rest, p.1 ≠ c) (hco : co.data = .cell cv) (hm : ∀ q ∈ (x, instObj 170 dx) :: (dx, valsOf w tv vd) :: (vd, ov) :: itp, q ∈ rest) (hov : ov.IsDictOf (PySem.strKind Challenge.rw_rg0209_01.row.prog w) kvs) (hopts : OptsAre kvs)
    (hI : ItemIs itp itv tr nu) (hnu : nu.map (·.1) = nuP) (hnv : numIs nuP nv)
    (mo : m (Str.ofString "options") = some (.ref x)) (mi : m (Str.ofString "item") = some itv) (mt : m (Str.ofString "truth") = some (truthV tr)) (mn : m (Str.ofString "number") = some nv)
    (hd : dp + 7 < recursionLimit) (hu : un + 512 < cLine)
    (hret : ∀ (h' : Heap) (tk' : Nat) (u : Str → Option Value) (co' : Obj) (cv' : Option Value), Fr h₀ L h' (fun y => if y = Str.ofString "due" then u y else if y = Str.ofString "told" then u y else m y) → News h₀ L h' ((c, co') :: rest) → co'.data = .cell cv' → Q .next { s with heap := h', toks := tk' }) :
    wpAny (model Challenge.rw_rg0209_01.row.prog w) (ktrTop dp un gd lawFd.name lawFd.scope L a ccd [(Str.ofString "one", c)] []) (exec oneFor (envX lawFd.name lawFd.scope L a ccd [(Str.ofString "one", c)])) Q (fun _ _ => False) s := by
  w_top off
  k_with_none
  have F4 := fr_seen (fr_seen (fr_seen (fr_seen F mo) ((if_neg (by decide)).trans mi)) ((if_neg (by decide)).trans ((if_neg (by decide)).trans mt))) ((if_neg (by decide)).trans ((if_neg (by decide)).trans ((if_neg (by decide)).trans mn)))
  clear F
  k_with "binaryOp Add ref ref" => (k_here; k_dflt (refine' kde_addT ?k1 ?k2 ?k3 ?k4 ?k5 ?k6 ?k7 ?k8 ?_; (case k1 => k_asm); (case k2 => k_asm); (case k3 => kun_tup); (case k4 => kun_tup); (case k5 => exact List.cons_ne_nil _ _); (case k6 => exact List.cons_ne_nil _ _); (case k7 => exact Nat.le_of_ble_eq_true rfl); (case k8 => kun_lit); k_whole); intro DT h' F' N' lT)
  dsimp only [oneFor, lapBody, lawFd, lawPack]
  with_unfolding_all refine' For_turns F4 ?_
  k_steps
  have N2 : News h₀ L h' ((DT, tupOf [.str (Str.ofString "print-success") 634, .str (Str.ofString "produce-models") 635, .str (Str.ofString "produce-unsat-cores") 636, .str (Str.ofString "minimal-unsat-cores") 637, .str (Str.ofString "produce-unsat-assumptions") 638, .str (Str.ofString "produce-proofs") 639, .str (Str.ofString "produce-assertions") 640, .str (Str.ofString "produce-assignments") 641, .str (Str.ofString "random-seed") 643, .str (Str.ofString "reproducible-resource-limit") 644, .str (Str.ofString "verbosity") 645]) :: (c, co) :: rest) := N'
  refine' iter_tupC (x := Str.ofString "due") (xs := [Str.ofString "told"]) (R := fun _ nx => ∃ co cv, nx = (c, co) :: rest ∧ co.data = .cell cv) rfl ?xg ?xF ?xN ?xl ?xj ?_ ?_
  case xg => intro _ _; with_unfolding_all rfl
  case xF => assumption
  case xN => exact N2
  case xl => exact lT
  case xj => exact ⟨co, cv, rfl, hco⟩
  · rintro i v nx h tk own u hi ⟨co, cv, rfl, hco⟩ hadr F₁ N₁ hoff
    obtain ⟨nm, t, rfl, hnm, hnl⟩ : ∃ nm t, v = .str nm t ∧ nm ∈ flagNames ++ numNames ∧ nm.length ≤ 100 := by
      have := List.mem_of_getElem? hi
      simp only [List.mem_cons, List.not_mem_nil, or_false] at this
      rcases this with rfl | rfl | rfl | rfl | rfl | rfl | rfl | rfl | rfl | rfl | rfl <;> exact ⟨_, _, rfl, by decide, by decide⟩
    obtain ⟨v, hv⟩ := valueAt_mem (kvs := kvs) (k := nm) (by rw [hopts.1]; exact hnm)
    obtain ⟨hokv, hfl⟩ := hopts.2 nm v hv
    have hU : UpdF c co (((c, co) :: rest) ++ own) (fun o' => (c, o') :: (rest ++ own)) := UpdF.head fun p hp => by
      rcases List.mem_append.mp hp with hp | hp
      · exact hcr p hp
      · exact hoff p hp _ (by simp)
    have hmR := hm
    clear hi hnm hopts
    have hend : ∀ (h' : Heap) (tk' : Nat) (m' : Str → Option Value) (co' : Obj) (cv' : Option Value) (news' : List (Addr × Obj)), Fr h₀ L h' m' → News h₀ L h' news' → (∀ q ∈ (c, co') :: (rest ++ own), q ∈ news') → co'.data = .cell cv' → (∀ z, z ≠ Str.ofString "due" → [Str.ofString "told"].contains z = false → m' z = (fun z => if z = Str.ofString "number" then some nv else if z = Str.ofString "truth" then some (truthV tr) else if z = Str.ofString "item" then some itv else if z = Str.ofString "options" then some (Value.ref x) else m z) z) →
        KTurn h₀ L (Str.ofString "due") [Str.ofString "told"] (fun z => if z = Str.ofString "number" then some nv else if z = Str.ofString "truth" then some (truthV tr) else if z = Str.ofString "item" then some itv else if z = Str.ofString "options" then some (Value.ref x) else m z) own (((c, co) :: rest).map (·.1)) (fun nx => ∃ co cv, nx = (c, co) :: rest ∧ co.data = .cell cv) { s with heap := h, toks := tk } .next { s with heap := h', toks := tk' } := by
      intro h' tk' m' co' cv' news' F' N' hsub hc hM
      exact kturn_end (nx := (c, co') :: rest) F' N' hM (fun p hp => hsub p ((List.mem_cons.mp hp).elim (fun e => e ▸ .head _) (fun hp => .tail _ (List.mem_append_left _ hp)))) (fun p hp => hsub p (.tail _ (List.mem_append_right _ hp))) rfl ⟨co', cv', rfl, hc⟩
    rcases hb : flagNames.any (· == nm) with _ | _
    · rcases nu with _ | ⟨n, tn⟩
      · have hdue : due v tr none = none := by unfold due; rw [hfl, hb]; rfl
        have hnv' : nv = .none := by
          rcases hnv with ⟨_, h⟩ | ⟨n, _, h, _⟩
          · exact h
          · rw [← hnu] at h; cases h
        subst hnv'
        k_steps
        all_goals exact hend _ _ _ _ _ _ (by assumption) (by assumption) (by
          intro q hq
          repeat (first | exact hq | refine List.Mem.tail _ ?_)) (by assumption) (by
          intro z hz hc
          simp only [List.contains_cons, List.contains_nil, Bool.or_false, beq_eq_false_iff_ne] at hc
          simp [hz, hc, truthV])
      · have hdue : due v tr (some (n, tn)) = some (.int n tn) := by unfold due; rw [hfl, hb]; rfl
        obtain ⟨t', rfl⟩ : ∃ t', nv = .int n t' := by
          rcases hnv with ⟨h, _⟩ | ⟨n', t', h, h', _⟩
          · rw [← hnu] at h; cases h
          · rw [← hnu] at h; cases h; exact ⟨t', h'⟩
        k_steps
        all_goals exact hend _ _ _ _ _ _ (by assumption) (by assumption) (by
          intro q hq
          repeat (first | exact hq | refine List.Mem.tail _ ?_)) (by assumption) (by
          intro z hz hc
          simp only [List.contains_cons, List.contains_nil, Bool.or_false, beq_eq_false_iff_ne] at hc
          simp [hz, hc, truthV])
    · rcases tr with _ | b
      · have hdue : due v none nu = none := by unfold due; rw [hfl, hb]; rfl
        dsimp only [truthV] at F₁ ⊢
        k_steps
        all_goals exact hend _ _ _ _ _ _ (by assumption) (by assumption) (by
          intro q hq
          repeat (first | exact hq | refine List.Mem.tail _ ?_)) (by assumption) (by
          intro z hz hc
          simp only [List.contains_cons, List.contains_nil, Bool.or_false, beq_eq_false_iff_ne] at hc
          simp [hz, hc, truthV])
      · have hdue : due v (some b) nu = some (.bool b) := by unfold due; rw [hfl, hb]; rfl
        dsimp only [truthV] at F₁ ⊢
        k_steps
        all_goals exact hend _ _ _ _ _ _ (by assumption) (by assumption) (by
          intro q hq
          repeat (first | exact hq | refine List.Mem.tail _ ?_)) (by assumption) (by
          intro z hz hc
          simp only [List.contains_cons, List.contains_nil, Bool.or_false, beq_eq_false_iff_ne] at hc
          simp [hz, hc, truthV])
  · rintro u nx h tk ⟨co, cv, rfl, hco⟩ F₁ N₁ hadr
    have e4 : (fun z => if z = Str.ofString "number" then some nv else if z = Str.ofString "truth" then some (truthV tr) else if z = Str.ofString "item" then some itv else if z = Str.ofString "options" then some (Value.ref x) else m z) = m := by
      funext z
      by_cases h1 : z = Str.ofString "number"
      · rw [if_pos h1, h1, mn]
      rw [if_neg h1]
      by_cases h2 : z = Str.ofString "truth"
      · rw [if_pos h2, h2, mt]
      rw [if_neg h2]
      by_cases h3 : z = Str.ofString "item"
      · rw [if_pos h3, h3, mi]
      rw [if_neg h3]
      by_cases h4 : z = Str.ofString "options"
      · rw [if_pos h4, h4, mo]
      rw [if_neg h4]
    refine hret h tk u co cv ?_ N₁ hco
    have eF : (fun y => if y = Str.ofString "due" then u y else if y = Str.ofString "told" then u y else m y) = (fun y => if y = Str.ofString "due" then u (Str.ofString "due") else if [Str.ofString "told"].contains y then u y else (fun z => if z = Str.ofString "number" then some nv else if z = Str.ofString "truth" then some (truthV tr) else if z = Str.ofString "item" then some itv else if z = Str.ofString "options" then some (Value.ref x) else m z) y) := by
      rw [e4]
      funext y
      by_cases hy : y = Str.ofString "due"
      · rw [if_pos hy, if_pos hy, hy]
      rw [if_neg hy, if_neg hy]
      by_cases hz : y = Str.ofString "told"
      · rw [if_pos hz, if_pos (by simp [hz])]
      · rw [if_neg hz, if_neg (by simpa using hz)]
    rw [eF]; exact F₁
end
end

section
open PySem PySem.W PyProof.Rows PySem.Calls PySem.Spec
set_option maxRecDepth 100000
set_option maxHeartbeats 2000000
local macro_rules | `(tactic| k_extra "mine eval ListComp") => `(tactic| (k_here; lcg_look; k_dflt (refine ListComp_Tup (_F₀ := by k_asm) (by rfl) (by decide) (by rfl) (by decide) (by rfl) ?_); walk1; (try dsimp only); k_dflt (refine CompTup.intro (by rfl) (by k_asm) (by k_asm) (by first | exact flags_tup (by k_asm) | exact nums_tup (by k_asm)) (Nat.le_of_ble_eq_true rfl) ?_); intro g'; lcg_lit))
theorem comp_endT {h₀ : Heap} {L I C D T : Addr} {m : Str → Option Value} {s₁ : Shared} {oI oC oD oT : Obj} {S : List (Addr × Obj) → Prop} {rst : Value → List (Addr × Obj) → Prop} {y : Value} {h' : Heap} {tk : Nat} {all : List (Addr × Obj)}
    (F : Fr h₀ L h' m) (N : News h₀ L h' ((T, oT) :: (I, oI) :: (C, oC) :: (D, oD) :: all)) (off : LCg.Off3 I C D all) (n1 : T ≠ I) (n2 : T ≠ C) (n3 : T ≠ D) (hS : S ((T, oT) :: all)) (r : rst y ((T, oT) :: all)) : LCg.CompEnd h₀ L m s₁ I oI C oC D oD S rst y { s₁ with heap := h', toks := tk } :=
  LCg.CompEnd.intro F N ((T, oT) :: all) (fun q hq => by
    simp only [List.mem_cons] at hq ⊢
    rcases hq with h | h | h | h | h <;> simp [h]) ⟨⟨n1, n2, n3⟩, off⟩ hS r
local macro_rules | `(tactic| k_extra "mine CompEnd") => `(tactic| (refine comp_endT (by assumption) (by assumption) (by assumption) (by k_ne) (by k_ne) (by k_ne) trivial ?_))
local macro_rules | `(tactic| k_extra "mine call type:dict") => `(tactic| (k_here; (with_reducible show wpAny _ _ (call (Value.type "dict") [Value.ref _]) _ _ _); k_dflt (refine' dict_pairs ?k1 ?k2 ?k3 ?k4 ?k5 ?k6 ?k7 ?k8 ?_; (case k1 | k2 => k_asm); (case k3 => exact Top.nolimit (by k_asm)); (case k4 => rfl); (case k5 => k_mem); (case k6 => exact pairs11 (by with_reducible (repeat (first | apply List.mem_cons_self | apply List.mem_cons_of_mem))) (by with_reducible (repeat (first | apply List.mem_cons_self | apply List.mem_cons_of_mem))) (by with_reducible (repeat (first | apply List.mem_cons_self | apply List.mem_cons_of_mem))) (by with_reducible (repeat (first | apply List.mem_cons_self | apply List.mem_cons_of_mem))) (by with_reducible (repeat (first | apply List.mem_cons_self | apply List.mem_cons_of_mem))) (by with_reducible (repeat (first | apply List.mem_cons_self | apply List.mem_cons_of_mem))) (by with_reducible (repeat (first | apply List.mem_cons_self | apply List.mem_cons_of_mem))) (by with_reducible (repeat (first | apply List.mem_cons_self | apply List.mem_cons_of_mem))) (by with_reducible (repeat (first | apply List.mem_cons_self | apply List.mem_cons_of_mem))) (by with_reducible (repeat (first | apply List.mem_cons_self | apply List.mem_cons_of_mem))) (by with_reducible (repeat (first | apply List.mem_cons_self | apply List.mem_cons_of_mem)))); (case k7 => (simp only [List.map_cons, List.map_nil]; decide +kernel)); (case k8 => exact Nat.le_of_ble_eq_true rfl); k_whole); intro D h' o tk F' N' l1 hlo hod))
noncomputable def startStmt : Stmt := match lawFd.body with | [_, _, b, _, _, _] => b | _ => .Pass default
theorem start_kv {w : World} {o : Obj} {t0 t1 t2 : Tok} (h : o.IsDictOf (PySem.strKind Challenge.rw_rg0209_01.row.prog w) [(Str.ofString "print-success", .bool (Str.ofString "print-success" == Str.ofString "produce-models")), (Str.ofString "produce-models", .bool (Str.ofString "produce-models" == Str.ofString "produce-models")), (Str.ofString "produce-unsat-cores", .bool (Str.ofString "produce-unsat-cores" == Str.ofString "produce-models")), (Str.ofString "minimal-unsat-cores", .bool (Str.ofString "minimal-unsat-cores" == Str.ofString "produce-models")), (Str.ofString "produce-unsat-assumptions", .bool (Str.ofString "produce-unsat-assumptions" == Str.ofString "produce-models")), (Str.ofString "produce-proofs", .bool (Str.ofString "produce-proofs" == Str.ofString "produce-models")), (Str.ofString "produce-assertions", .bool (Str.ofString "produce-assertions" == Str.ofString "produce-models")), (Str.ofString "produce-assignments", .bool (Str.ofString "produce-assignments" == Str.ofString "produce-models")), (Str.ofString "random-seed", .int 0 t0), (Str.ofString "reproducible-resource-limit", .int 0 t1), (Str.ofString "verbosity", .int 0 t2)]) : ∃ t, o.IsDictOf (PySem.strKind Challenge.rw_rg0209_01.row.prog w) (optKv (fun i => i == 1) (fun _ => 0) t) := ⟨fun i => if i = 0 then t0 else if i = 1 then t1 else t2, by with_unfolding_all exact h⟩
section
variable {w : World} {vp : Program} {vl : List Str} {mean : ExcName → Option Value} {mg mb : Str → Option Value} {dp un : Nat} {gd : Option (List Code)} {a : Addr} {ccd : Value} {cl : List (Str × Addr)} {A₀ : Around}
    {base h₀ : Heap} {L : Addr} {m : Str → Option Value} {s : Shared} {Q : Flow → Shared → Prop} {E : Value → Shared → Prop} {news : List (Addr × Obj)}
set_option maxHeartbeats 1000000 in
theorem start_ok
    (B : Below A₀ base [] h₀) (F : Fr h₀ L s.heap m) (X : (Mine.pre.heap_1 w.params).In h₀) (N : News h₀ L s.heap news) (T : Top vp vl mean mg mb h₀)
    (hret : ∀ (st : Addr) (h' : Heap) (so : Obj) (tk' : Nat) (t : Nat → Tok), Fr h₀ L h' (fun y => if y = Str.ofString "start" then some (.ref st) else m y) → News h₀ L h' ((st, so) :: news) → (∀ p ∈ news, p.1 < st) → (st == sysModules) = false → so.IsDictOf (PySem.strKind Challenge.rw_rg0209_01.row.prog w) (optKv (fun i => i == 1) (fun _ => 0) t) → Q .next { s with heap := h', toks := tk' }) :
    wpAny (model Challenge.rw_rg0209_01.row.prog w) (ktrTop dp un gd lawFd.name lawFd.scope L a ccd cl []) (exec startStmt (envX lawFd.name lawFd.scope L a ccd cl)) Q E s := by
  w_top off
  k_with_none
  dsimp only [startStmt, lawFd, lawPack]
  k_steps
  rename_i D h1 o tk l1 hlo hod h2 F2 N2
  obtain ⟨t, hod'⟩ := start_kv hod
  refine hret D _ o _ t F2 (fun q hq => ?_) (fun p hp => l1 p ?_) hlo hod'
  · rcases List.mem_cons.mp hq with rfl | hq
    · exact N2 _ (List.mem_cons_self ..)
    · refine N2 q ?_
      repeat (first | exact hq | apply List.mem_cons_of_mem)
  · repeat (first | exact hp | apply List.mem_cons_of_mem)
end
end

section
open PySem PySem.W PyProof.Rows PySem.Calls PySem.Spec
set_option maxRecDepth 100000
set_option maxHeartbeats 2000000
theorem range_five {r : Int} (h : 0 ≤ r) (h1 : r < 5) : Builtin.Range.small 0 (4 + r) 1 = true ∧ Builtin.Range.rangeSize 0 (4 + r) 1 = (((4 + r).toNat : Nat) : Int) := by
  refine AllFrom.pick (n := 5) (P := fun r => Builtin.Range.small 0 (4 + r) 1 = true ∧ Builtin.Range.rangeSize 0 (4 + r) 1 = (((4 + r).toNat : Nat) : Int)) (AllFrom.step ?_ (AllFrom.step ?_ (AllFrom.step ?_ (AllFrom.step ?_ (AllFrom.step ?_ trivial))))) h h1 <;> exact ⟨by decide +kernel, by decide +kernel⟩
theorem valueAt_cons {p : Str × Value} {r : List (Str × Value)} {k : Str} : valueAt (p :: r) k = if p.1 = k then some p.2 else valueAt r k := by
  unfold valueAt
  rw [List.find?_cons]
  by_cases e : p.1 = k <;> simp [e]
theorem stored_in {kvs : List (Str × Value)} {k : Str} {v : Value} (h : k ∈ kvs.map (·.1)) : stored kvs k v = kvs.map (fun kv => if kv.1 = k then (kv.1, v) else kv) := by
  unfold stored
  rw [if_pos]
  rw [List.any_eq_true]
  obtain ⟨p, hp, e⟩ := List.mem_map.mp h
  exact ⟨p, hp, by simpa using e⟩
theorem put_keys (kvs : List (Str × Value)) (k : Str) (v : Value) : (kvs.map (fun kv => if kv.1 = k then (kv.1, v) else kv)).map (·.1) = kvs.map (·.1) := by
  rw [List.map_map]
  refine List.map_congr_left fun p _ => ?_
  show (if p.1 = k then (p.1, v) else p).1 = p.1
  by_cases e : p.1 = k <;> simp [e]
theorem put_at (k : Str) (v : Value) (k' : Str) : ∀ kvs : List (Str × Value), k ∈ kvs.map (·.1) → valueAt (kvs.map (fun kv => if kv.1 = k then (kv.1, v) else kv)) k' = if k' = k then some v else valueAt kvs k'
  | [], h => by simp at h
  | p :: r, h => by
    rw [List.map_cons, valueAt_cons, valueAt_cons]
    by_cases e : p.1 = k
    · rw [if_pos e]
      by_cases e' : k' = k
      · rw [if_pos e', if_pos (e.trans e'.symm)]
      · rw [if_neg e', if_neg (fun x => e' (x.symm.trans e)), if_neg (fun x => e' (x.symm.trans e))]
        by_cases hr : k ∈ r.map (·.1)
        · rw [put_at k v k' r hr, if_neg e']
        · have : r.map (fun kv => if kv.1 = k then (kv.1, v) else kv) = r := by
            conv => rhs; rw [← List.map_id r]
            refine List.map_congr_left fun q hq => ?_
            have : q.1 ≠ k := fun x => hr (x ▸ List.mem_map_of_mem hq)
            simp [this]
          rw [this]
    · rw [if_neg e]
      have hr : k ∈ r.map (·.1) := by simpa [Ne.symm e] using h
      rw [put_at k v k' r hr]
      by_cases e' : k' = k
      · rw [if_pos e', if_neg (fun x => e (x.trans e')), if_pos e']
      · rw [if_neg e', if_neg e']
theorem KSim.put {k : Str} {v v' : Value} (hv : vsim v v') : ∀ {ka kb : List (Str × Value)}, KSim ka kb → KSim (ka.map (fun kv => if kv.1 = k then (kv.1, v) else kv)) (kb.map (fun kv => if kv.1 = k then (kv.1, v') else kv))
  | _, _, .nil => .nil
  | _, _, .cons (k := k₁) h r => by
    rw [List.map_cons, List.map_cons]
    by_cases e : k₁ = k
    · rw [if_pos e, if_pos e]; exact .cons hv (r.put hv)
    · rw [if_neg e, if_neg e]; exact .cons h (r.put hv)
theorem KSim.stored {ka kb : List (Str × Value)} {k : Str} {v v' : Value} (h : KSim ka kb) (hk : k ∈ ka.map (·.1)) (hv : vsim v v') : KSim (stored ka k v) (stored kb k v') := by
  rw [stored_in hk, stored_in (h.keys ▸ hk)]
  exact h.put hv
theorem OptsAre.stored {kvs : List (Str × Value)} {k : Str} {v : Value} (h : OptsAre kvs) (hk : k ∈ flagNames ++ numNames) (hv : okv v) (hf : flagOf v = flagNames.any (· == k)) : OptsAre (stored kvs k v) := by
  have hk' : k ∈ kvs.map (·.1) := h.1 ▸ hk
  rw [stored_in hk']
  refine ⟨(put_keys _ _ _).trans h.1, fun k' v' e => ?_⟩
  rw [put_at k v k' kvs hk'] at e
  by_cases e' : k' = k
  · rw [if_pos e'] at e; cases e; rw [e']; exact ⟨hv, hf⟩
  · rw [if_neg e'] at e; exact h.2 k' v' e
theorem valueAt_in {kvs : List (Str × Value)} {k : Str} {v : Value} (h : valueAt kvs k = some v) : (k, v) ∈ kvs := by
  unfold valueAt at h
  obtain ⟨p, hp, rfl⟩ := Option.map_eq_some_iff.mp h
  have hk : p.1 = k := by simpa using List.find?_some hp
  exact hk ▸ List.mem_of_find?_eq_some hp
theorem all_in {kvs : List (Str × Value)} {R : Str → Value → Prop} (h : ∀ p ∈ kvs, R p.1 p.2) (k : Str) (v : Value) (e : valueAt kvs k = some v) : R k v := h _ (valueAt_in e)
theorem allC {α : Type} {R : α → Prop} {a : α} {l : List α} (h : R a) (t : ∀ p ∈ l, R p) : ∀ p ∈ a :: l, R p := List.forall_mem_cons.mpr ⟨h, t⟩
theorem opts_start (t : Nat → Tok) : OptsAre (optKv (fun i => i == 1) (fun _ => 0) t) := by
  refine ⟨rfl, all_in (R := fun k v => okv v ∧ flagOf v = flagNames.any (· == k)) ?_⟩
  have hb : ∀ (b : Bool) (k : Str), (true = flagNames.any (· == k)) → okv (.bool b) ∧ flagOf (.bool b) = flagNames.any (· == k) := fun b k h => ⟨.inl ⟨_, rfl⟩, h⟩
  have hn : ∀ (t : Tok) (k : Str), (false = flagNames.any (· == k)) → okv (.int 0 t) ∧ flagOf (.int 0 t) = flagNames.any (· == k) := fun t k h => ⟨.inr ⟨_, _, rfl, by decide +kernel⟩, h⟩
  exact allC (hb _ _ (by decide +kernel)) (allC (hb _ _ (by decide +kernel)) (allC (hb _ _ (by decide +kernel)) (allC (hb _ _ (by decide +kernel)) (allC (hb _ _ (by decide +kernel)) (allC (hb _ _ (by decide +kernel)) (allC (hb _ _ (by decide +kernel)) (allC (hb _ _ (by decide +kernel))
    (allC (hn _ (Str.ofString "random-seed") (by decide +kernel)) (allC (hn _ (Str.ofString "reproducible-resource-limit") (by decide +kernel)) (allC (hn _ (Str.ofString "verbosity") (by decide +kernel)) (List.forall_mem_nil _)))))))))))
theorem sim_start (t t' : Nat → Tok) : KSim (optKv (fun i => i == 1) (fun _ => 0) t) (optKv (fun i => i == 1) (fun _ => 0) t') := by
  unfold optKv
  repeat (first | exact .nil | refine .cons (.inl ⟨_, rfl, rfl⟩) ?_ | refine .cons (.inr ⟨_, _, _, rfl, rfl⟩) ?_)
def anyNames : List Str := [Str.ofString "print-success", Str.ofString "reproducible-resource-limit", Str.ofString "verbosity"]
theorem any_early {nm : Str} (h : nm ∈ flagNames ++ numNames) : anyNames.any (· == nm) = !(earlyNames.any (· == nm)) := by
  simp only [flagNames, numNames, List.cons_append, List.nil_append, List.mem_cons, List.not_mem_nil, or_false] at h
  rcases h with rfl | rfl | rfl | rfl | rfl | rfl | rfl | rfl | rfl | rfl | rfl <;> decide +kernel
theorem in_any {w : World} {A : Around} {E : Value → Shared → Prop} {s : Shared} {h₀ : Heap} {L : Addr} {m : Str → Option Value} {nm : Str} {t : Tok} {Q : Value → Shared → Prop} (F : Fr h₀ L s.heap m) (X : (Mine.pre.heap_1 w.params).In h₀) (hn : nm ∈ flagNames ++ numNames)
    (h : Q (.bool (!(earlyNames.any (· == nm)))) s) : wpAny (model Challenge.rw_rg0209_01.row.prog w) A (compareOp .In (.str nm t) (.ref 325)) Q E s := by
  obtain ⟨o, ho, hc, hd⟩ : ∃ o, (Mine.pre.heap_1 w.params).lookup 325 = some o ∧ o.cls = .type "tuple" ∧ o.data = .seq #[.str (Str.ofString "print-success") 647, .str (Str.ofString "reproducible-resource-limit") 648, .str (Str.ofString "verbosity") 649] := ⟨_, rfl, rfl, rfl⟩
  exact in_tuple_strs (ys := anyNames) ⟨o, F.keep _ _ (X _ _ ho), hc, _, hd⟩ (.cons _ _ (.cons _ _ (.cons _ _ .nil))) (by rw [any_early hn]; exact h)
/-- one of the eleven names -/
theorem name_at {w : World} {A : Around} {E : Value → Shared → Prop} {s : Shared} {D : Addr} {r : Int} {t : Tok} {Q : Value → Shared → Prop} {value slice : PySem.Expr} {h₀ : Heap} {L : Addr} {news : List (Addr × Obj)} (N : News h₀ L s.heap news)
    (hm : (D, tupOf [.str (Str.ofString "print-success") 634, .str (Str.ofString "produce-models") 635, .str (Str.ofString "produce-unsat-cores") 636, .str (Str.ofString "minimal-unsat-cores") 637, .str (Str.ofString "produce-unsat-assumptions") 638, .str (Str.ofString "produce-proofs") 639, .str (Str.ofString "produce-assertions") 640, .str (Str.ofString "produce-assignments") 641, .str (Str.ofString "random-seed") 643, .str (Str.ofString "reproducible-resource-limit") 644, .str (Str.ofString "verbosity") 645]) ∈ news) (h0 : 0 ≤ r) (h1 : r < 11)
    (h : ∀ nm t, nm ∈ flagNames ++ numNames → nm.length ≤ 100 → Q (.str nm t) s)
    (hs : subscripted slice false (.ref D) (.int r t) = operate [.ref D, .int r t] (getItem (.ref D) (.int r t)) := by with_unfolding_all rfl) (hg : ∀ r, letTemporaryGo value (.ref D) r = pure () := by intro _; with_unfolding_all rfl) :
    wpAny (model Challenge.rw_rg0209_01.row.prog w) A (subscriptTail value slice (.ref D) (.int r t)) Q E s := by
  have hW : IsTup s.heap D _ := ⟨_, (N _ hm).1, rfl, _, rfl⟩
  revert hs
  refine AllFrom.pick (n := 11) (P := fun r => subscripted slice false (.ref D) (.int r t) = operate [.ref D, .int r t] (getItem (.ref D) (.int r t)) → wpAny (model Challenge.rw_rg0209_01.row.prog w) A (subscriptTail value slice (.ref D) (.int r t)) Q E s) (AllFrom.step ?_ (AllFrom.step ?_ (AllFrom.step ?_ (AllFrom.step ?_ (AllFrom.step ?_ (AllFrom.step ?_ (AllFrom.step ?_ (AllFrom.step ?_ (AllFrom.step ?_ (AllFrom.step ?_ (AllFrom.step ?_ trivial))))))))))) h0 h1 <;> intro hs
  · exact item_tuple hW (by decide) (by decide) (j := 0) (by rfl) (by rfl) (h _ _ (by decide) (by decide)) hs hg
  · exact item_tuple hW (by decide) (by decide) (j := 1) (by rfl) (by rfl) (h _ _ (by decide) (by decide)) hs hg
  · exact item_tuple hW (by decide) (by decide) (j := 2) (by rfl) (by rfl) (h _ _ (by decide) (by decide)) hs hg
  · exact item_tuple hW (by decide) (by decide) (j := 3) (by rfl) (by rfl) (h _ _ (by decide) (by decide)) hs hg
  · exact item_tuple hW (by decide) (by decide) (j := 4) (by rfl) (by rfl) (h _ _ (by decide) (by decide)) hs hg
  · exact item_tuple hW (by decide) (by decide) (j := 5) (by rfl) (by rfl) (h _ _ (by decide) (by decide)) hs hg
  · exact item_tuple hW (by decide) (by decide) (j := 6) (by rfl) (by rfl) (h _ _ (by decide) (by decide)) hs hg
  · exact item_tuple hW (by decide) (by decide) (j := 7) (by rfl) (by rfl) (h _ _ (by decide) (by decide)) hs hg
  · exact item_tuple hW (by decide) (by decide) (j := 8) (by rfl) (by rfl) (h _ _ (by decide) (by decide)) hs hg
  · exact item_tuple hW (by decide) (by decide) (j := 9) (by rfl) (by rfl) (h _ _ (by decide) (by decide)) hs hg
  · exact item_tuple hW (by decide) (by decide) (j := 10) (by rfl) (by rfl) (h _ _ (by decide) (by decide)) hs hg
section
variable {prog : Program} {w : World} {A : Around} {E : Value → Shared → Prop} {s : Shared} {env : Env} {h₀ : Heap} {x : Str} {body : List Stmt} {Q : Flow → Shared → Prop}
theorem iter_rangeF {r : Addr} {a₀ b₀ : Int} {t₀ u₀ v₀ : Tok} {n : Nat} {m0 : Str → Option Value} {news : List (Addr × Obj)} (xs : List Str) (R : Nat → List (Addr × Obj) → Prop) (hh : A.handled = none)
    (hr : IsRange s.heap r a₀ b₀ 1 t₀ u₀ v₀) (hsmall : Builtin.Range.small a₀ b₀ 1 = true) (hn : Builtin.Range.rangeSize a₀ b₀ 1 = (n : Int)) (F : Fr h₀ env.locals s.heap m0) (N : News h₀ env.locals s.heap news) (hj : R 0 news)
    (turn : ∀ i v nx h tk own (u : Str → Option Value), i < n → R i nx → nx.map (·.1) = news.map (·.1) → Fr h₀ env.locals h (fun y => if y = x then some v else if xs.contains y then u y else m0 y) → News h₀ env.locals h (nx ++ own) → OwnOff own (news.map (·.1)) →
      wpAny (model prog w) A (execs body env) (KTurn h₀ env.locals x xs m0 own (news.map (·.1)) (R (i + 1)) { s with heap := h, toks := tk }) E { s with heap := h, toks := tk })
    (done : ∀ (vo : Option Value) (u : Str → Option Value) nx h tk, R n nx → Fr h₀ env.locals h (fun y => if y = x then vo else if xs.contains y then u y else m0 y) → News h₀ env.locals h nx → Q .next { s with heap := h, toks := tk }) :
    wpAny (model prog w) A (pyIter (.ref r)) (fun it s₂ => LoopAtV prog w A h₀ env x body Q E it s₂) E s := by
  refine wpAny_pyIter_range hr hsmall ?_
  have W : Walks prog w A s.heap.objs.size [s.heap.objs.size] [s.heap.objs.size] n (fun i v => i < n ∧ ∃ t, v = .int (a₀ + i * 1) t)
      (fun i h => IsRangeIter h s.heap.objs.size (a₀ + (i : Nat) * 1) ((n : Int) - (i : Nat)) 1) := (Walks.range hh _ a₀ 1 n).bound
  refine loop_flat (s := { s with heap := _ }) xs R W ?_ ?_ ?_ ?_ (by show IsRangeIter _ _ _ _ _; rw [hn]; simpa using Heap.get?_push_size _ rfl) (F.push _) (fun p hp => ⟨Heap.get?_push_of_some _ (N p hp).1, (N p hp).2⟩) hj ?_ ?_
  · intro hm
    exact absurd F.ns.lt ((List.mem_singleton.mp hm) ▸ Nat.lt_irrefl _)
  · intro b hb
    rw [List.mem_singleton.mp hb]
    exact next_is_new F
  · intro p hp hI
    exact absurd (Heap.lt_size (N p hp).1) ((List.mem_singleton.mp hI) ▸ Nat.lt_irrefl _)
  · intro p hp hI
    exact absurd (Heap.lt_size (N p hp).1) ((List.mem_singleton.mp hI) ▸ Nat.lt_irrefl _)
  · rintro i v nx h tk own u hin _ hR hadr F₁ N₁ hoff
    exact turn i v nx h tk own u hin hR hadr F₁ N₁ hoff
  · exact done
end
end

section
open PySem PySem.W PyProof.Rows PySem.Calls PySem.Spec
set_option maxRecDepth 100000
set_option maxHeartbeats 2000000
noncomputable def lapTail : List Stmt := match lapBody with | _ :: _ :: _ :: _ :: r => r | _ => []
noncomputable def dueExpr : PySem.Expr := match lapTail with | .Assign _ (.Tuple (e :: _) _ _) _ :: _ => e | _ => .Constant .none 0 default
noncomputable def isDueExpr : PySem.Expr := match lapTail with | _ :: .Assign _ e _ :: _ => e | _ => .Constant .none 0 default
local macro_rules | `(tactic| k_extra "mine compareOp In str ref") => `(tactic| (k_here; (with_reducible show wpAny _ _ (compareOp _ _ (Value.ref 325)) _ _ _); k_dflt (refine' in_any ?k1 ?k2 ?k3 ?_; (case k1 | k2 => k_asm); (case k3 => assumption); k_whole)))
section
variable {w : World} {vp : Program} {vl : List Str} {mean : ExcName → Option Value} {mg mb : Str → Option Value} {dp un : Nat} {gd : Option (List Code)} {a : Addr} {ccd : Value} {cl : List (Str × Addr)} {A₀ : Around}
    {base h₀ : Heap} {L : Addr} {m : Str → Option Value} {s : Shared} {Q : Value → Shared → Prop} {E : Value → Shared → Prop} {news : List (Addr × Obj)}
theorem due_eval {tr : Option Bool} {nv dv : Value} {nm : Str} {tn : Tok}
    (B : Below A₀ base [] h₀) (F : Fr h₀ L s.heap m) (X : (Mine.pre.heap_1 w.params).In h₀) (N : News h₀ L s.heap news) (T : Top vp vl mean mg mb h₀)
    (mo : m (Str.ofString "name") = some (.str nm tn)) (mt : m (Str.ofString "truth") = some (truthV tr)) (mn : m (Str.ofString "number") = some nv) (hdv : (if flagNames.any (· == nm) then truthV tr else nv) = dv)
    (h : ∀ tk, Q dv { s with toks := tk }) :
    wpAny (model Challenge.rw_rg0209_01.row.prog w) (ktrTop dp un gd lawFd.name lawFd.scope L a ccd cl []) (eval dueExpr (envX lawFd.name lawFd.scope L a ccd cl)) Q E s := by
  w_top off
  k_with_none
  have F4 := fr_seen (fr_seen (fr_seen F mo) ((if_neg (by decide)).trans mt)) ((if_neg (by decide)).trans ((if_neg (by decide)).trans mn))
  clear F
  subst hdv
  dsimp only [dueExpr, lapTail, lapBody, lawFd, lawPack]
  rcases hb : flagNames.any (· == nm) with _ | _
  · simp only [hb, Bool.false_eq_true, if_false] at h
    k_steps
    all_goals exact h _
  · simp only [hb, if_true] at h
    k_steps
    all_goals exact h _
theorem isdue_eval {dv : Value} {nm : Str} {tn : Tok} {ib di : Bool}
    (B : Below A₀ base [] h₀) (F : Fr h₀ L s.heap m) (X : (Mine.pre.heap_1 w.params).In h₀) (N : News h₀ L s.heap news) (T : Top vp vl mean mg mb h₀)
    (mo : m (Str.ofString "name") = some (.str nm tn)) (mt : m (Str.ofString "due") = some dv) (mn : m (Str.ofString "is_begun") = some (.bool ib)) (hnm : nm ∈ flagNames ++ numNames)
    (hdi : (dv = .none ∧ di = false) ∨ ((∃ v, vsim v dv) ∧ di = !(ib && earlyNames.any (· == nm))))
    (h : ∀ tk, Q (.bool di) { s with toks := tk }) :
    wpAny (model Challenge.rw_rg0209_01.row.prog w) (ktrTop dp un gd lawFd.name lawFd.scope L a ccd cl []) (eval isDueExpr (envX lawFd.name lawFd.scope L a ccd cl)) Q E s := by
  have F4 := fr_seen (fr_seen (fr_seen F mo) ((if_neg (by decide)).trans mt)) ((if_neg (by decide)).trans ((if_neg (by decide)).trans mn))
  clear F
  dsimp only [isDueExpr, lapTail, lapBody, lawFd, lawPack]
  rcases hdi with ⟨rfl, rfl⟩ | ⟨⟨v, ⟨b, -, rfl⟩ | ⟨n, -, t, -, rfl⟩⟩, rfl⟩
  · k_steps
    all_goals exact h _
  · rcases ib with _ | _
    · k_steps
      all_goals exact h _
    · k_steps
      all_goals exact h _
  · rcases ib with _ | _
    · k_steps
      all_goals exact h _
    · k_steps
      all_goals exact h _
end
end

section
open PySem PySem.W PyProof.Rows PySem.Calls PySem.Spec
set_option maxRecDepth 100000
set_option maxHeartbeats 2000000
/-- the order in which the law's objects were made -/
structure LawOrd (c mug cc dx x vd hl : Nat) : Prop where
  o1 : c < mug
  o2 : c ≠ cc ∧ mug ≠ cc
  o3 : c < dx ∧ mug < dx ∧ cc < dx
  o4 : c < x ∧ mug < x ∧ cc < x ∧ dx < x
  o5 : c < vd ∧ mug < vd ∧ cc < vd ∧ dx < vd ∧ x < vd
  o6 : c < hl ∧ mug < hl ∧ cc < hl ∧ dx < hl ∧ x < hl ∧ vd < hl
def dueB : Value → Bool
  | .none => false
  | _ => true
/-- what the item gives an option whose value is v, and what the law takes it for -/
def DueRel (v : Value) (tr : Option Bool) (nu : Option (Int × Tok)) (dv : Value) : Prop := (due v tr nu = none ∧ dv = .none) ∨ (∃ r, due v tr nu = some r ∧ vsim r dv ∧ okv r ∧ flagOf r = flagOf v)
theorem due_rel {v nv : Value} {tr : Option Bool} {nu : Option (Int × Tok)} {nuP : Option Int} {b : Bool} (hf : flagOf v = b) (hnu : nu.map (·.1) = nuP) (hnv : numIs nuP nv) : DueRel v tr nu (if b then truthV tr else nv) := by
  subst hf
  unfold DueRel due
  cases h : flagOf v
  · simp only [Bool.false_eq_true, if_false]
    rcases nu with _ | ⟨n, t⟩
    · rcases hnv with ⟨_, h⟩ | ⟨n, _, h, _⟩
      · exact .inl ⟨rfl, h⟩
      · rw [← hnu] at h; cases h
    · rcases hnv with ⟨h, _⟩ | ⟨n', t', h, h', _, hl⟩
      · rw [← hnu] at h; cases h
      · rw [← hnu] at h; cases h
        exact .inr ⟨_, rfl, .inr ⟨_, _, _, rfl, h'⟩, .inr ⟨_, _, rfl, hl⟩, rfl⟩
  · simp only [if_true]
    rcases tr with _ | b
    · exact .inl ⟨rfl, rfl⟩
    · exact .inr ⟨_, rfl, .inl ⟨b, rfl, rfl⟩, .inl ⟨b, rfl⟩, rfl⟩
theorem dueB_of {r dv : Value} (h : vsim r dv) : dueB dv = true := by
  rcases h with ⟨b, -, rfl⟩ | ⟨n, _, t, -, rfl⟩ <;> rfl
theorem di_of {v dv : Value} {tr : Option Bool} {nu : Option (Int × Tok)} (h : DueRel v tr nu dv) (b : Bool) : (dv = .none ∧ (dueB dv && !b) = false) ∨ ((∃ r, vsim r dv) ∧ (dueB dv && !b) = !b) := by
  rcases h with ⟨_, rfl⟩ | ⟨r, _, hs, _⟩
  · exact .inl ⟨rfl, rfl⟩
  · exact .inr ⟨⟨r, hs⟩, by rw [dueB_of hs]; rfl⟩
theorem di_true {v dv r : Value} {tr : Option Bool} {nu : Option (Int × Tok)} {b : Bool} (h : DueRel v tr nu dv) (hr : due v tr nu = some r) (hb : b = false) : (dueB dv && !b) = true ∧ vsim r dv ∧ okv r ∧ flagOf r = flagOf v := by
  rcases h with ⟨h, _⟩ | ⟨r', h, hs, hk, hf⟩
  · rw [hr] at h; cases h
  · rw [hr] at h; cases h
    exact ⟨by rw [dueB_of hs, hb]; rfl, hs, hk, hf⟩
theorem di_false {v dv : Value} {tr : Option Bool} {nu : Option (Int × Tok)} {b : Bool} (h : DueRel v tr nu dv) (hc : due v tr nu = none ∨ b = true) : (dueB dv && !b) = false := by
  rcases hc with hc | rfl
  · rcases h with ⟨_, rfl⟩ | ⟨r', h, _⟩
    · rfl
    · rw [hc] at h; cases h
  · cases dueB dv <;> rfl
theorem seen_eq {m : Str → Option Value} {y : Str} {v : Value} (e : m y = some v) : (fun z => if z = y then some v else m z) = m := by
  funext z
  by_cases hz : z = y
  · rw [if_pos hz, hz, e]
  · rw [if_neg hz]
theorem subT {l R : List (Addr × Obj)} {p : Addr × Obj} (h : ∀ q ∈ l, q ∈ R) : ∀ q ∈ l, q ∈ p :: R := fun q hq => .tail _ (h q hq)
theorem given_in {w : World} {x dx vd : Addr} {ov : Obj} {tv : Tok} {news itp : List (Addr × Obj)} (h1 : (x, instObj 170 dx) ∈ news) (h2 : (dx, valsOf w tv vd) ∈ news) (h3 : (vd, ov) ∈ news) (h : ∀ q ∈ itp, q ∈ news) : ∀ q ∈ (x, instObj 170 dx) :: (dx, valsOf w tv vd) :: (vd, ov) :: itp, q ∈ news := by
  intro q hq
  simp only [List.mem_cons] at hq
  rcases hq with rfl | rfl | rfl | hq
  · exact h1
  · exact h2
  · exact h3
  · exact h q hq
theorem stands_in {w : World} {x dx vd hl : Addr} {ov oh : Obj} {tv : Tok} {news : List (Addr × Obj)} (h1 : (x, instObj 170 dx) ∈ news) (h2 : (dx, valsOf w tv vd) ∈ news) (h3 : (vd, ov) ∈ news) (h4 : (hl, oh) ∈ news) : ∀ q ∈ [(x, instObj 170 dx), (dx, valsOf w tv vd), (vd, ov), (hl, oh)], q ∈ news := by
  intro q hq
  simp only [List.mem_cons, List.not_mem_nil, or_false] at hq
  rcases hq with rfl | rfl | rfl | rfl <;> assumption
end

section
open PySem PySem.W PyProof.Rows PySem.Calls PySem.Spec
set_option maxRecDepth 100000
set_option maxHeartbeats 2000000
theorem news_tail {h₀ h : Heap} {L : Addr} {p : Addr × Obj} {R : List (Addr × Obj)} (N : News h₀ L h (p :: R)) : News h₀ L h R := fun q hq => N q (.tail _ hq)
end

local macro_rules | `(tactic| k_extra "mine call ref") => `(tactic| (k_here; (with_reducible show wpAny _ _ (call (Value.ref 350) _) _ _ _); k_dflt (refine' pour_ok ?k1 ?k2 ?k3 ?k4 ?k5 ?k6 ?kU ?kc ?h1 ?h2 ?h3 ?h4 ?h5 ?h6 ?h7 ?h8 ?h9 ?h10 ?_; (case k1 | k2 | k3 | k4 | k5 => k_asm); (case k6 => exact rfl); (case kU => k_updF); (case h2 => assumption); (case kc => k_mem); (case h1 | h3 | h4 => assumption); (case h5 | h6 => omega); (case h7 | h8 => decide); (case h9 => ktr_room); (case h10 => ktr_units)); intro r t t' h' tk' om' hr0 hr1 F' hd' N'))
local macro_rules | `(tactic| k_extra "mine call ref") => `(tactic| (k_here; (with_reducible show wpAny _ _ (call (Value.ref 378) _) _ _ _); k_dflt (refine' stands_ok ?k1 ?k2 ?k3 ?k4 ?k5 ?k6 ?hm ?h1 ?h2 ?h3 ?h4 ?h5 ?h6 ?h7 ?h8 ?h9 ?h10 ?h11 ?_; (case k1 | k2 | k3 | k4 | k5 => k_asm); (case k6 => exact rfl); (case hm => exact stands_in (by k_mem) (by k_mem) (by k_mem) (by k_mem)); (case h1 | h2 | h3 => k_ne); (case h4 | h5 | h6 | h7 | h8 | h9 => assumption); (case h10 => ktr_room); (case h11 => ktr_units)); intro h' tk' F' N' hS))
section
open PySem PySem.W PyProof.Rows PySem.Calls PySem.Spec
set_option maxRecDepth 100000
set_option maxHeartbeats 2000000
local macro_rules | `(tactic| k_extra "mine eval IfExp") => `(tactic| (k_here; (with_unfolding_all refine' due_eval ?k1 ?k2 ?k3 ?k4 ?k5 ?mo ?mt ?mn ?hdv ?_; (case k1 | k2 | k3 | k4 | k5 => k_asm); (case mo | mt | mn => exact rfl); (case hdv => assumption); k_whole); intro tk))
local macro_rules | `(tactic| k_extra "mine eval BoolOp") => `(tactic| (k_here; (with_unfolding_all refine' isdue_eval ?k1 ?k2 ?k3 ?k4 ?k5 ?mo ?mt ?mn ?hn ?hdi ?_; (case k1 | k2 | k3 | k4 | k5 => k_asm); (case mo | mt | mn => exact rfl); (case hn => assumption); (case hdi => exact di_of (by assumption) _); k_whole); intro tk))
section
variable {w : World} {vp : Program} {vl : List Str} {mean : ExcName → Option Value} {mg mb : Str → Option Value} {dp un : Nat} {gd : Option (List Code)} {a : Addr} {ccd : Value} {A₀ : Around}
    {base h₀ : Heap} {L : Addr} {m : Str → Option Value} {s : Shared} {Q : Flow → Shared → Prop} {rest : List (Addr × Obj)}
theorem tail_ok {c mug cc dx x vd hl : Addr} {co om ov ho : Obj} {tv : Tok} {k : Int} {tk : Tok} {cvs : List Value} {ns : List Int} {nc : Nat} {kvs kvs' : List (Str × Value)} {nm : Str} {tn : Tok} {itv nv : Value} {tr : Option Bool} {nuP : Option Int} {nu : Option (Int × Tok)} {itp : List (Addr × Obj)}
    (B : Below A₀ base [] h₀) (F : Fr h₀ L s.heap m) (X : (Mine.pre.heap_1 w.params).In h₀) (N : News h₀ L s.heap ((c, co) :: (mug, om) :: (vd, ov) :: (hl, ho) :: (x, instObj 170 dx) :: (dx, valsOf w tv vd) :: (cc, listOf cvs.toArray nc) :: rest)) (T : Top vp vl mean mg mb h₀)
    (hO : LawOrd c mug cc dx x vd hl) (hoff : OwnOff rest [c, mug, cc, dx, x, vd, hl]) (hlm : (mug == sysModules) = false) (hlv : (vd == sysModules) = false) (hlh : (hl == sysModules) = false)
    (hom : om.IsDictOf (PySem.strKind Challenge.rw_rg0209_01.row.prog w) [(Str.ofString "cells", .ref cc), (Str.ofString "at", .int k tk)]) (hI : IntsAre cvs ns) (hlen : ns.length ≤ 63) (hk0 : 0 ≤ k) (hk1 : k ≤ 900)
    (hov : ov.IsDictOf (PySem.strKind Challenge.rw_rg0209_01.row.prog w) kvs) (hho : ho.IsDictOf (PySem.strKind Challenge.rw_rg0209_01.row.prog w) kvs') (hsim : KSim kvs kvs') (hopts : OptsAre kvs)
    (hit : ItemIs itp itv tr nu) (hnu : nu.map (·.1) = nuP) (hnv : numIs nuP nv) (hitr : ∀ q ∈ itp, q ∈ rest) (hnm : nm ∈ flagNames ++ numNames) (hnl : nm.length ≤ 100)
    (e1 : m (Str.ofString "options") = some (.ref x)) (e2 : m (Str.ofString "item") = some itv) (e3 : m (Str.ofString "truth") = some (truthV tr)) (e4 : m (Str.ofString "number") = some nv) (e5 : m (Str.ofString "name") = some (.str nm tn)) (e6 : m (Str.ofString "mug") = some (.ref mug)) (e7 : m (Str.ofString "held") = some (.ref hl))
    (hd : dp + 8 < recursionLimit) (hu : un + 512 < cLine)
    (hret : ∀ (h' : Heap) (tk' : Nat) (m' : Str → Option Value) (om' ov' ho' : Obj) (t' : Tok) (kvs₂ kvs₂' : List (Str × Value)), Fr h₀ L h' m' → (∀ z, z ≠ Str.ofString "due" → z ≠ Str.ofString "is_begun" → z ≠ Str.ofString "is_due" → m' z = m z) →
      News h₀ L h' ((c, co) :: (mug, om') :: (vd, ov') :: (hl, ho') :: (x, instObj 170 dx) :: (dx, valsOf w tv vd) :: (cc, listOf cvs.toArray nc) :: rest) → om'.IsDictOf (PySem.strKind Challenge.rw_rg0209_01.row.prog w) [(Str.ofString "cells", .ref cc), (Str.ofString "at", .int (k + 1) t')] →
      ov'.IsDictOf (PySem.strKind Challenge.rw_rg0209_01.row.prog w) kvs₂ → ho'.IsDictOf (PySem.strKind Challenge.rw_rg0209_01.row.prog w) kvs₂' → KSim kvs₂ kvs₂' → OptsAre kvs₂ → Q .next { s with heap := h', toks := tk' }) :
    wpAny (model Challenge.rw_rg0209_01.row.prog w) (ktrTop dp un gd lawFd.name lawFd.scope L a ccd [(Str.ofString "one", c)] []) (execs lapTail (envX lawFd.name lawFd.scope L a ccd [(Str.ofString "one", c)])) Q (fun _ _ => False) s := by
  w_top off
  k_with_none
  obtain ⟨v, hv⟩ := valueAt_mem (kvs := kvs) (k := nm) (by rw [hopts.1]; exact hnm)
  obtain ⟨hokv, hfl⟩ := hopts.2 nm v hv
  have hsz : kvs.length ≤ 100 := by have := congrArg List.length hopts.1; simp [flagNames, numNames] at this; omega
  have hsz' : kvs'.length ≤ 100 := by have := congrArg List.length hsim.keys; simp at this; omega
  obtain ⟨dv, hdv⟩ : ∃ dv, (if flagNames.any (· == nm) then truthV tr else nv) = dv := ⟨_, rfl⟩
  have hrel : DueRel v tr nu dv := hdv ▸ due_rel hfl hnu hnv
  obtain ⟨o1, o2, o3, o4, o5, o6⟩ := hO
  have F7 := fr_seen (fr_seen (fr_seen (fr_seen (fr_seen (fr_seen (fr_seen F e1) ((if_neg (by decide)).trans e2)) ((if_neg (by decide)).trans ((if_neg (by decide)).trans e3))) ((if_neg (by decide)).trans ((if_neg (by decide)).trans ((if_neg (by decide)).trans e4)))) ((if_neg (by decide)).trans ((if_neg (by decide)).trans ((if_neg (by decide)).trans ((if_neg (by decide)).trans e5))))) ((if_neg (by decide)).trans ((if_neg (by decide)).trans ((if_neg (by decide)).trans ((if_neg (by decide)).trans ((if_neg (by decide)).trans e6)))))) ((if_neg (by decide)).trans ((if_neg (by decide)).trans ((if_neg (by decide)).trans ((if_neg (by decide)).trans ((if_neg (by decide)).trans ((if_neg (by decide)).trans e7))))))
  clear F
  have hch : (fun z => if z = Str.ofString "held" then some (.ref hl) else if z = Str.ofString "mug" then some (.ref mug) else if z = Str.ofString "name" then some (.str nm tn) else if z = Str.ofString "number" then some nv else if z = Str.ofString "truth" then some (truthV tr) else if z = Str.ofString "item" then some itv else if z = Str.ofString "options" then some (.ref x) else m z) = m := by
    funext z
    by_cases h_held : z = Str.ofString "held"
    · rw [if_pos h_held, h_held, e7]
    rw [if_neg h_held]
    by_cases h_mug : z = Str.ofString "mug"
    · rw [if_pos h_mug, h_mug, e6]
    rw [if_neg h_mug]
    by_cases h_name : z = Str.ofString "name"
    · rw [if_pos h_name, h_name, e5]
    rw [if_neg h_name]
    by_cases h_number : z = Str.ofString "number"
    · rw [if_pos h_number, h_number, e4]
    rw [if_neg h_number]
    by_cases h_truth : z = Str.ofString "truth"
    · rw [if_pos h_truth, h_truth, e3]
    rw [if_neg h_truth]
    by_cases h_item : z = Str.ofString "item"
    · rw [if_pos h_item, h_item, e2]
    rw [if_neg h_item]
    by_cases h_options : z = Str.ofString "options"
    · rw [if_pos h_options, h_options, e1]
    rw [if_neg h_options]
  k_with "call ref" => (k_here; (with_reducible show wpAny _ _ (call (Value.ref 371) _) _ _ _); k_dflt (refine' given_ok (itp := itp) ?k1 ?k2 ?k3 ?k4 ?k5 ?k6 ?hm ?U ?h1 ?h2 ?h3 ?h4 ?h5 ?h6 ?h7 ?h8 ?h9 ?h10 ?h11 ?h12 ?_ ?_; (case k1 => k_asm); (case k2 => k_asm); (case k3 => k_asm); (case k4 => k_asm); (case k5 => k_asm); (case k6 => exact rfl); (case hm => exact given_in (by k_mem) (by k_mem) (by k_mem) (by repeat (first | exact hitr | refine subT ?_))); (case U => k_updF); (case h1 => k_ne); (case h2 => k_ne); (case h3 => exact fun p hp => hoff p (hitr p hp) _ (by simp)); (case h4 => assumption); (case h5 => exact hv); (case h6 => exact hokv); (case h7 => exact item_truth (by k_asm) (by repeat (first | exact hitr | refine subT ?_)) hit); (case h8 => exact hit.2); (case h9 => exact hsz); (case h10 => exact hnl); (case h11 => ktr_room); (case h12 => ktr_units)); rotate_left; (intro hc h' tk' F' N'; have hdi := di_false hrel hc; rw [hdi] at F'); rotate_left; (intro rv h' tk' ov' hdue hib F' N' hd'; obtain ⟨hdi, hvs, hkr, hfr⟩ := di_true hrel hdue hib; rw [hdi] at F'; have hsim2 := hsim.stored (hopts.1.symm ▸ hnm) hvs; have hopts2 := hopts.stored hnm hkr (hfr.trans hfl)))
  k_with "setItem ref str" => (k_here; k_dflt (refine' opt_set ?z1 ?z2 ?z3 ?z4 ?z5 ?_; (case z1 => k_asm); (case z2 => k_asm); (case z3 => k_updF); (case z4 => assumption); (case z5 => exact hsz'); k_whole); intro h' o' F' N' hd')
  dsimp only [lapTail, lapBody, lawFd, lawPack]
  k_steps
  all_goals exact hret _ _ _ _ _ _ _ _ _ (by assumption) (by
    intro z h1 h2 h3
    simp only [h1, h2, h3, if_false]
    exact congrFun hch z) (by first | assumption | exact news_tail (by assumption) | exact news_tail (news_tail (by assumption))) (by assumption) (by assumption) (by assumption) (by assumption) (by assumption)
end
end

section
open PySem PySem.W PyProof.Rows PySem.Calls PySem.Spec
set_option maxRecDepth 100000
set_option maxHeartbeats 2000000
local macro_rules | `(tactic| k_extra "mine call ref") => `(tactic| (k_here; (with_reducible show wpAny _ _ (call (Value.ref 350) _) _ _ _); k_dflt (refine' pour_ok ?k1 ?k2 ?k3 ?k4 ?k5 ?k6 ?kU ?kc ?h1 ?h2 ?h3 ?h4 ?h5 ?h6 ?h7 ?h8 ?h9 ?h10 ?_; (case k1 | k2 | k3 | k4 | k5 => k_asm); (case k6 => exact rfl); (case kU | h2 | kc | h1 | h3 | h4 => assumption); (case h5 | h6 => omega); (case h7 | h8 => decide); (case h9 => ktr_room); (case h10 => ktr_units)); intro r t t' h' tk' om' hr0 hr1 F' hd' N'))
noncomputable def lapsExpr : PySem.Expr := match lapFor with | .For _ e _ _ _ => e | _ => .Constant .none 0 default
section
variable {w : World} {vp : Program} {vl : List Str} {mean : ExcName → Option Value} {mg mb : Str → Option Value} {dp un : Nat} {gd : Option (List Code)} {a : Addr} {ccd : Value} {cl : List (Str × Addr)} {A₀ : Around}
    {base h₀ : Heap} {L : Addr} {m : Str → Option Value} {s : Shared} {Q : Value → Shared → Prop} {E : Value → Shared → Prop} {R : List (Addr × Obj)}
theorem laps_eval {c mug cc : Addr} {co om : Obj} {k : Int} {tk : Tok} {cvs : List Value} {ns : List Int} {nc : Nat}
    (B : Below A₀ base [] h₀) (F : Fr h₀ L s.heap m) (X : (Mine.pre.heap_1 w.params).In h₀) (N : News h₀ L s.heap ((c, co) :: (mug, om) :: R)) (T : Top vp vl mean mg mb h₀)
    (ho : @LT.lt Nat _ c mug) (hoff : ∀ p ∈ R, p.1 ≠ mug) (hcc : (cc, listOf cvs.toArray nc) ∈ R) (hlm : (mug == sysModules) = false)
    (hom : om.IsDictOf (PySem.strKind Challenge.rw_rg0209_01.row.prog w) [(Str.ofString "cells", .ref cc), (Str.ofString "at", .int k tk)]) (hI : IntsAre cvs ns) (hlen : ns.length ≤ 63) (hk0 : 0 ≤ k) (hk1 : k ≤ 900)
    (e6 : m (Str.ofString "mug") = some (.ref mug)) (hd : dp + 1 < recursionLimit) (hu : un + 16 < cLine)
    (hret : ∀ (I : Addr) (r : Int) (t u v t' : Tok) (h' : Heap) (tk' : Nat) (om' : Obj), 0 ≤ r → r < 5 → IsRange h' I 0 (4 + r) 1 t u v → Fr h₀ L h' m → News h₀ L h' ((c, co) :: (mug, om') :: R) → om'.IsDictOf (PySem.strKind Challenge.rw_rg0209_01.row.prog w) [(Str.ofString "cells", .ref cc), (Str.ofString "at", .int (k + 1) t')] → Q (.ref I) { s with heap := h', toks := tk' }) :
    wpAny (model Challenge.rw_rg0209_01.row.prog w) (ktrTop dp un gd lawFd.name lawFd.scope L a ccd cl []) (eval lapsExpr (envX lawFd.name lawFd.scope L a ccd cl)) Q E s := by
  w_top off
  k_with_none
  have F3 := fr_seen F e6
  clear F
  have hU : UpdF mug om ((c, co) :: (mug, om) :: R) (fun o' => (c, co) :: (mug, o') :: R) := UpdF.tail (Nat.ne_of_lt ho) (UpdF.head hoff)
  have hm : (cc, listOf cvs.toArray nc) ∈ (c, co) :: (mug, om) :: R := .tail _ (.tail _ hcc)
  dsimp only [lapsExpr, lapFor, lawFd, lawPack]
  k_steps
  exact hret _ _ _ _ _ _ _ _ _ (by assumption) (by assumption) (by assumption) (by rw [← seen_eq e6]; assumption) (by assumption) (by assumption)
end
end

section
open PySem PySem.W PyProof.Rows PySem.Calls PySem.Spec
set_option maxRecDepth 100000
set_option maxHeartbeats 2000000
local macro_rules | `(tactic| k_extra "mine subscriptTail") => `(tactic| (k_here; (with_reducible show wpAny _ _ (subscriptTail _ _ (Value.ref _) (Value.int _ _)) _ _ _); k_dflt (refine' name_at ?N ?m ?h0 ?h1 ?_; (case N => k_asm); (case m => k_mem); (case h0 | h1 => assumption); k_whole); intro nm t hnm hnl))
local macro_rules | `(tactic| k_extra "mine binaryOp Add ref ref") => `(tactic| (k_here; k_dflt (refine' kde_addT ?k1 ?k2 ?k3 ?k4 ?k5 ?k6 ?k7 ?k8 ?_; (case k1 | k2 => k_asm); (case k3 | k4 => kun_tup); (case k5 | k6 => exact List.cons_ne_nil _ _); (case k7 => exact Nat.le_of_ble_eq_true rfl); (case k8 => kun_lit); k_whole); intro DT h' F' N' lT; (try k_lt lT)))
local macro_rules | `(tactic| k_extra "mine execs") => `(tactic| (k_here; (with_reducible show wpAny _ _ (execs lapTail _) _ _ _); (with_unfolding_all refine' tail_ok ?B ?F ?X ?N ?T ?hO ?h0 ?h1 ?h2 ?h3 ?h4 ?h5 ?h6 ?h7 ?h8 ?h9 ?h10 ?h11 ?h12 ?h13 ?h14 ?h15 ?h16 ?h17 ?h18 ?e1 ?e2 ?e3 ?e4 ?e5 ?e6 ?e7 ?hd ?hu ?_; (case B | F | X => k_asm); (case N => assumption); (case T => k_asm); (case hO | h0 | h1 | h2 | h3 | h4 | h5 | h6 => assumption); (case h7 | h8 => omega); (case h9 | h10 | h11 | h12 | h13 | h14 | h15 | h16 | h17 | h18 => assumption); (case e1 | e2 | e3 | e4 | e5 | e6 | e7 => exact rfl); (case hd | hu => omega); k_whole)))
theorem off_more {oth own itp : List (Addr × Obj)} {l : List Addr} (h : OwnOff (oth ++ own) l) (h' : OwnOff itp l) : OwnOff (oth ++ (own ++ itp)) l := by
  intro p hp b hb
  rw [← List.append_assoc] at hp
  exact (List.mem_append.mp hp).elim (fun q => h p q b hb) (fun q => h' p q b hb)
section
variable {w : World} {vp : Program} {vl : List Str} {mean : ExcName → Option Value} {mg mb : Str → Option Value} {dp un : Nat} {gd : Option (List Code)} {a : Addr} {ccd : Value} {A₀ : Around}
    {base h₀ : Heap} {L : Addr} {m : Str → Option Value} {s : Shared} {Q : Flow → Shared → Prop} {oth : List (Addr × Obj)}
theorem lap_ok {c mug cc dx x vd hl : Addr} {co om ov ho : Obj} {tv : Tok} {k : Int} {tk : Tok} {cvs : List Value} {ns : List Int} {nc : Nat} {kvs kvs' : List (Str × Value)} {cv : Option Value}
    (B : Below A₀ base [] h₀) (F : Fr h₀ L s.heap m) (X : (Mine.pre.heap_1 w.params).In h₀) (N : News h₀ L s.heap ((c, co) :: (mug, om) :: (vd, ov) :: (hl, ho) :: (x, instObj 170 dx) :: (dx, valsOf w tv vd) :: (cc, listOf cvs.toArray nc) :: oth)) (T : Top vp vl mean mg mb h₀)
    (hO : LawOrd c mug cc dx x vd hl) (hoff : OwnOff oth [c, mug, cc, dx, x, vd, hl]) (hlm : (mug == sysModules) = false) (hlv : (vd == sysModules) = false) (hlh : (hl == sysModules) = false)
    (hco : co.data = .cell cv) (hom : om.IsDictOf (PySem.strKind Challenge.rw_rg0209_01.row.prog w) [(Str.ofString "cells", .ref cc), (Str.ofString "at", .int k tk)]) (hI : IntsAre cvs ns) (hlen : ns.length ≤ 63) (hk0 : 0 ≤ k) (hk1 : k ≤ 1)
    (hov : ov.IsDictOf (PySem.strKind Challenge.rw_rg0209_01.row.prog w) kvs) (hho : ho.IsDictOf (PySem.strKind Challenge.rw_rg0209_01.row.prog w) kvs') (hsim : KSim kvs kvs') (hopts : OptsAre kvs)
    (e1 : m (Str.ofString "options") = some (.ref x)) (e6 : m (Str.ofString "mug") = some (.ref mug)) (e7 : m (Str.ofString "held") = some (.ref hl))
    (hd : dp + 20 < recursionLimit) (hu : un + 4000 < cLine)
    (hret : ∀ (h' : Heap) (tk' : Nat) (m' : Str → Option Value) (om' ov' ho' co' : Obj), Fr h₀ L h' m' → (∀ z, z ≠ Str.ofString "lap" → [Str.ofString "name", Str.ofString "item", Str.ofString "truth", Str.ofString "number", Str.ofString "due", Str.ofString "told", Str.ofString "is_begun", Str.ofString "is_due"].contains z = false → m' z = m z) →
      News h₀ L h' ((c, co') :: (mug, om') :: (vd, ov') :: (hl, ho') :: (x, instObj 170 dx) :: (dx, valsOf w tv vd) :: (cc, listOf cvs.toArray nc) :: oth) → Q .next { s with heap := h', toks := tk' }) :
    wpAny (model Challenge.rw_rg0209_01.row.prog w) (ktrTop dp un gd lawFd.name lawFd.scope L a ccd [(Str.ofString "one", c)] []) (exec lapFor (envX lawFd.name lawFd.scope L a ccd [(Str.ofString "one", c)])) Q (fun _ _ => False) s := by
  w_top off
  k_with_none
  obtain ⟨o1, o2, o3, o4, o5, o6⟩ := id hO
  have F3 := fr_seen (fr_seen (fr_seen F e1) ((if_neg (by decide)).trans e6)) ((if_neg (by decide)).trans ((if_neg (by decide)).trans e7))
  clear F
  have hch : (fun z => if z = Str.ofString "held" then some (.ref hl) else if z = Str.ofString "mug" then some (.ref mug) else if z = Str.ofString "options" then some (.ref x) else m z) = m := by
    funext z
    by_cases h7 : z = Str.ofString "held"
    · rw [if_pos h7, h7, e7]
    rw [if_neg h7]
    by_cases h6 : z = Str.ofString "mug"
    · rw [if_pos h6, h6, e6]
    rw [if_neg h6]
    by_cases h1 : z = Str.ofString "options"
    · rw [if_pos h1, h1, e1]
    rw [if_neg h1]
  with_unfolding_all refine' For_invVF F3 (by rfl) (by rfl) ?_
  have hmug : ∀ p ∈ (vd, ov) :: (hl, ho) :: (x, instObj 170 dx) :: (dx, valsOf w tv vd) :: (cc, listOf cvs.toArray nc) :: oth, p.1 ≠ mug := by
    intro p hp
    simp only [List.mem_cons] at hp
    rcases hp with rfl | rfl | rfl | rfl | rfl | hp
    · exact Nat.ne_of_gt o5.2.1
    · exact Nat.ne_of_gt o6.2.1
    · exact Nat.ne_of_gt o4.2.1
    · exact Nat.ne_of_gt o3.2.1
    · exact fun e => o2.2 e.symm
    · exact hoff p hp _ (by simp)
  with_unfolding_all refine' laps_eval (nc := nc) B F3 X N T o1 hmug (.tail _ (.tail _ (.tail _ (.tail _ (.head _))))) hlm hom hI hlen hk0 (by omega) rfl (by omega) (by omega) ?_
  intro I r t u v t' h₁ tk₁ om₁ hr0 hr1 hR F₁ N₁ hom₁
  obtain ⟨hsm, hsz⟩ := range_five hr0 hr1
  refine' iter_rangeF (xs := [Str.ofString "name", Str.ofString "item", Str.ofString "truth", Str.ofString "number", Str.ofString "due", Str.ofString "told", Str.ofString "is_begun", Str.ofString "is_due"])
    (R := fun i nx => ∃ co cv om k tk ov ho kvs kvs', nx = (c, co) :: (mug, om) :: (vd, ov) :: (hl, ho) :: (x, instObj 170 dx) :: (dx, valsOf w tv vd) :: (cc, listOf cvs.toArray nc) :: oth ∧ co.data = .cell cv ∧ om.IsDictOf (PySem.strKind Challenge.rw_rg0209_01.row.prog w) [(Str.ofString "cells", .ref cc), (Str.ofString "at", .int k tk)] ∧ 0 ≤ k ∧ k ≤ 2 + 6 * (i : Int) ∧ ov.IsDictOf (PySem.strKind Challenge.rw_rg0209_01.row.prog w) kvs ∧ ho.IsDictOf (PySem.strKind Challenge.rw_rg0209_01.row.prog w) kvs' ∧ KSim kvs kvs' ∧ OptsAre kvs)
    rfl hR hsm hsz F₁ N₁ ?xj ?_ ?_
  case xj => exact ⟨co, cv, om₁, k + 1, t', ov, ho, kvs, kvs', rfl, hco, hom₁, by omega, by omega, hov, hho, hsim, hopts⟩
  · clear hom hom₁ hov hho hsim hopts hco hk0 hk1
    rintro i v nx h tk own u hin ⟨co, cv, om, k, tk₀, ov, ho, kvs, kvs', rfl, hco, hom, hk0, hk1, hov, hho, hsim, hopts⟩ hadr F₂ N₂ hoff'
    have hoffR : OwnOff (oth ++ own) [c, mug, cc, dx, x, vd, hl] := by
      intro p hp b hb
      rcases List.mem_append.mp hp with hp | hp
      · exact hoff p hp b hb
      · refine hoff' p hp b ?_
        simp only [List.map_cons, List.mem_cons, List.not_mem_nil, or_false] at hb ⊢
        rcases hb with rfl | rfl | rfl | rfl | rfl | rfl | rfl <;> simp
    simp only [List.cons_append] at N₂
    have hn10 : i < 9 := by omega
    k_with "call ref" => (k_here; (with_reducible show wpAny _ _ (call (Value.ref 357) _) _ _ _); k_dflt (refine' item_ok ?k1 ?k2 ?k3 ?k4 ?k5 ?k6 ?U ?hc ?hne ?h1 ?h2 ?h3 ?h4 ?h5 ?h6 ?h7 ?h8 ?_; (case k1 => k_asm); (case k2 => k_asm); (case k3 => k_asm); (case k4 => k_asm); (case k5 => k_asm); (case k6 => exact rfl); (case U => k_updF); (case hc => k_mem); (case hne => exact o2.2); (case h1 => exact hlm); (case h2 => assumption); (case h3 => exact hI); (case h4 => exact hlen); (case h5 => omega); (case h6 => omega); (case h7 => ktr_room); (case h8 => ktr_units)); intro D itp itv nv tr nuP h' tk' om' k' t' hP hnv hk0' hk1' F' hd' N' hoffI; obtain ⟨nu, hnu, hIt⟩ := hP; (have hoffR2 : OwnOff (oth ++ (own ++ itp)) [c, mug, cc, dx, x, vd, hl] := off_more hoffR (fun p hp b hb => hoffI p hp b (by simp only [List.map_cons, List.mem_cons, List.not_mem_nil, or_false] at hb ⊢; rcases hb with rfl | rfl | rfl | rfl | rfl | rfl | rfl <;> simp))); simp only [List.cons_append, List.append_assoc] at N'; have hitR : ∀ q ∈ itp, q ∈ oth ++ (own ++ itp) := fun q hq => List.mem_append_right _ (List.mem_append_right _ hq))
    k_with "exec For Name BinOp cons nil" => (k_here; (with_unfolding_all refine' asked_ok (nu := nu) (itp := itp) ?B ?F ?X ?N ?T ?h1 ?h2 ?h3 ?h4 ?h5 ?h6 ?h7 ?h8 ?mo ?mi ?mt ?mn ?hd ?hu ?_; (case B => k_asm); (case F => k_asm); (case X => k_asm); (case T => k_asm); (case N => first | exact news_tail (news_tail (by assumption)) | exact news_tail (by assumption)); (case h1 => k_all); (case h2 => assumption); (case h3 => exact given_in (by k_mem) (by k_mem) (by k_mem) (by repeat (first | exact hitR | refine subT ?_))); (case h4 => assumption); (case h5 => assumption); (case h6 => exact hIt); (case h7 => exact hnu); (case h8 => exact hnv); (case mo => exact rfl); (case mi => exact rfl); (case mt => exact rfl); (case mn => exact rfl); (case hd => omega); (case hu => omega)); intro h' tk' u' co' cv' F' N' hco')
    dsimp only [lapBody, lawFd, lawPack]
    with_unfolding_all change wpAny _ _ (execs (_ :: _ :: _ :: _ :: lapTail) _) _ _ _
    k_steps
    rename_i h9 tk9 m9 om9 ov9 ho9 t9 k9 k9' F9 hM9 N9 hom9 hov9 hho9 hsim9 hopts9
    refine kturn_end (nx := (c, co') :: (mug, om9) :: (vd, ov9) :: (hl, ho9) :: (x, instObj 170 dx) :: (dx, valsOf w tv vd) :: (cc, listOf cvs.toArray nc) :: oth) F9 N9 ?_ (fun p hp => List.mem_append_left (own ++ itp) hp)
      (fun p hp => .tail _ (.tail _ (.tail _ (.tail _ (.tail _ (.tail _ (.tail _ (List.mem_append_right oth (List.mem_append_left itp hp))))))))) rfl ⟨co', cv', om9, k' + 1, t9, ov9, ho9, k9, k9', rfl, hco', hom9, by omega, by omega, hov9, hho9, hsim9, hopts9⟩
    intro z hz hc
    simp only [List.contains_cons, List.contains_nil, Bool.or_false, Bool.or_eq_false_iff, beq_eq_false_iff_ne] at hc
    obtain ⟨c1, c2, c3, c4, c5, c6, c7, c8⟩ := hc
    rw [hM9 z c5 c7 c8]
    simp [hz, c1, c2, c3, c4, c5, c6, c7, c8]
  · rintro vo u nx h tk ⟨co, cv, om, k, tk₀, ov, ho, kvs, kvs', rfl, hco, hom, hk0, hk1, hov, hho, hsim, hopts⟩ F₂ N₂
    exact hret h tk _ om ov ho co F₂ (by
      intro z hz hc
      simp only [hz, hc, if_false, Bool.false_eq_true]
      exact congrFun hch z) N₂
end
end

section
open PySem PySem.W PyProof.Rows PySem.Calls PySem.Spec
set_option maxRecDepth 100000
set_option maxHeartbeats 2000000
local macro_rules | `(tactic| k_extra "mine call ref") => `(tactic| (k_here; (with_reducible show wpAny _ _ (call (Value.ref 170) _) _ _ _); k_dflt (refine' init_ok ?k1 ?k2 ?k3 ?k4 ?k5 ?k6 ?k7 ?k8 ?_; (case k1 | k2 | k3 | k4 | k5 => k_asm); (case k6 => exact rfl); (case k7 => ktr_room); (case k8 => ktr_units)); intro x dx vd ov tv t h' tk' F' N' hl1 hl2 hl3 hlo hov))
local macro_rules | `(tactic| k_extra "mine call ref") => `(tactic| (k_here; (with_reducible show wpAny _ _ (call (Value.ref 378) _) _ _ _); k_dflt (refine' stands_ok ?k1 ?k2 ?k3 ?k4 ?k5 ?k6 ?hm ?h1 ?h2 ?h3 ?h4 ?h5 ?h6 ?h7 ?h8 ?h9 ?h10 ?h11 ?_; (case k1 | k2 | k3 | k4 | k5 => k_asm); (case k6 => exact rfl); (case hm | h1 | h2 | h3 | h4 | h5 | h6 | h7 | h8 | h9 => assumption); (case h10 => ktr_room); (case h11 => ktr_units)); intro h' tk' F' N' hS))
local macro_rules | `(tactic| k_extra "mine call type:dict") => `(tactic| (k_here; (with_reducible show wpAny _ _ (call (Value.type "dict") [Value.ref _]) _ _ _); k_dflt (refine' dict_copy ?k1 ?k2 ?k3 ?k4 ?k5 ?k6 ?k7 ?_; (case k1 | k2 => k_asm); (case k3 => exact Top.nolimit (by k_asm)); (case k4 | k5 | k6 | k7 => assumption); k_whole); intro D h' o F' N' l1 hlo hod))
theorem news_mug {h₀ h : Heap} {L : Addr} {p1 p2 p3 p4 : Addr × Obj} (N : News h₀ L h [p1, p2, p3, p4]) : News h₀ L h [p1, p3, p4] := fun q hq => N q (by
  simp only [List.mem_cons, List.not_mem_nil, or_false] at hq ⊢
  rcases hq with h | h | h <;> simp [h])
noncomputable def mugStmt : Stmt := match lawFd.body with | [b, _, _, _, _, _] => b | _ => .Pass default
noncomputable def optStmt : Stmt := match lawFd.body with | [_, b, _, _, _, _] => b | _ => .Pass default
noncomputable def heldStmt : Stmt := match lawFd.body with | [_, _, _, b, _, _] => b | _ => .Pass default
noncomputable def retStmt : Stmt := match lawFd.body with | [_, _, _, _, _, b] => b | _ => .Pass default
section
variable {w : World} {vp : Program} {vl : List Str} {mean : ExcName → Option Value} {mg mb : Str → Option Value} {dp un : Nat} {gd : Option (List Code)} {a c : Addr} {ccd : Value} {cl : List (Str × Addr)} {A₀ : Around}
    {base h₀ : Heap} {L : Addr} {m : Str → Option Value} {s : Shared} {Q : Flow → Shared → Prop} {E : Value → Shared → Prop} {news : List (Addr × Obj)} {co : Obj}
theorem mug_ok {sc : Addr} {cvs : List Value} {ns : List Int}
    (B : Below A₀ base [] h₀) (F : Fr h₀ L s.heap m) (X : (Mine.pre.heap_1 w.params).In h₀) (N : News h₀ L s.heap [(c, co)]) (T : Top vp vl mean mg mb h₀)
    (e0 : m (Str.ofString "script") = some (.ref sc)) (hL : h₀.IsList sc cvs.toArray) (hI : IntsAre cvs ns) (hlen : ns.length ≤ 63) (hd : dp + 30 < recursionLimit) (hu : un + 4000 < cLine)
    (hret : ∀ (mug cc : Addr) (om : Obj) (t : Tok) (ys : List Value) (ns' : List Int) (h' : Heap) (tk' : Nat), Fr h₀ L h' (fun y => if y = Str.ofString "mug" then some (.ref mug) else m y) → News h₀ L h' [(cc, listOf ys.toArray ys.length), (mug, om), (c, co)] → @LT.lt Nat _ c mug → @Ne Nat mug cc → @Ne Nat c cc → (mug == sysModules) = false →
      om.IsDictOf (PySem.strKind Challenge.rw_rg0209_01.row.prog w) [(Str.ofString "cells", .ref cc), (Str.ofString "at", .int 0 t)] → IntsAre ys ns' → ns'.length ≤ 63 → Q .next { s with heap := h', toks := tk' }) :
    wpAny (model Challenge.rw_rg0209_01.row.prog w) (ktrTop dp un gd lawFd.name lawFd.scope L a ccd cl []) (exec mugStmt (envX lawFd.name lawFd.scope L a ccd cl)) Q E s := by
  w_top off
  k_with_none
  have F3 := fr_seen F e0
  clear F
  dsimp only [mugStmt, lawFd, lawPack]
  k_steps
  rename_i Dl h2 tk2 ho1 h1 om hdm h0 F' N'
  exact hret _ _ om _ ys _ _ _ (by rw [← seen_eq e0]; exact F') (news_mug N')
    (by assumption) ho1.2.1 ho1.2.2 (by assumption) (by with_unfolding_all exact hdm) (by assumption) (by rw [List.length_map, List.length_take]; omega)
theorem opts_ok
    (B : Below A₀ base [] h₀) (F : Fr h₀ L s.heap m) (X : (Mine.pre.heap_1 w.params).In h₀) (N : News h₀ L s.heap news) (T : Top vp vl mean mg mb h₀)
    (hd : dp + 30 < recursionLimit) (hu : un + 4000 < cLine)
    (hret : ∀ (x dx vd : Addr) (ov : Obj) (tv : Tok) (t : Nat → Tok) (x2 dx2 vd2 : Addr) (ov2 : Obj) (tv2 : Tok) (t2 : Nat → Tok) (h' : Heap) (tk' : Nat), Fr h₀ L h' (fun y => if y = Str.ofString "options" then some (.ref x) else if y = Str.ofString "other" then some (.ref x2) else m y) →
      News h₀ L h' ((vd2, ov2) :: (x2, instObj 170 dx2) :: (dx2, valsOf w tv2 vd2) :: (vd, ov) :: (x, instObj 170 dx) :: (dx, valsOf w tv vd) :: news) → (∀ p ∈ news, p.1 < dx) → @LT.lt Nat _ dx x → @LT.lt Nat _ x vd → @LT.lt Nat _ vd dx2 → @LT.lt Nat _ dx2 x2 → @LT.lt Nat _ x2 vd2 → (vd == sysModules) = false → (vd2 == sysModules) = false →
      ov.IsDictOf (PySem.strKind Challenge.rw_rg0209_01.row.prog w) (optKv (fun i => i == 1) (fun _ => 0) t) → ov2.IsDictOf (PySem.strKind Challenge.rw_rg0209_01.row.prog w) (optKv (fun i => i == 1) (fun _ => 0) t2) → Q .next { s with heap := h', toks := tk' }) :
    wpAny (model Challenge.rw_rg0209_01.row.prog w) (ktrTop dp un gd lawFd.name lawFd.scope L a ccd cl []) (exec optStmt (envX lawFd.name lawFd.scope L a ccd cl)) Q E s := by
  dsimp only [optStmt, lawFd, lawPack]
  k_steps
  rename_i x dx vd ov tv t ha tka a1 a2 a3 a4 a5 x2 dx2 vd2 ov2 tv2 t2 hb tkb b1 b2 b3 b4 b5 Dt hc lc hd1 he hf F' N'
  exact hret x dx vd ov tv t x2 dx2 vd2 ov2 tv2 t2 _ _ F' (news_tail N') a1 a2 a3 (b1 _ (.head _)) b2 b3 a4 b4 a5 b5
theorem held_ok {st : Addr} {so : Obj} {kvs : List (Str × Value)}
    (B : Below A₀ base [] h₀) (F : Fr h₀ L s.heap m) (X : (Mine.pre.heap_1 w.params).In h₀) (N : News h₀ L s.heap news) (T : Top vp vl mean mg mb h₀)
    (hm : (st, so) ∈ news) (hlo : (st == sysModules) = false) (hso : so.IsDictOf (PySem.strKind Challenge.rw_rg0209_01.row.prog w) kvs) (hsz : kvs.length ≤ 100) (e0 : m (Str.ofString "start") = some (.ref st))
    (hret : ∀ (hl : Addr) (ho : Obj) (h' : Heap) (tk' : Nat), Fr h₀ L h' (fun y => if y = Str.ofString "held" then some (.ref hl) else m y) → News h₀ L h' ((hl, ho) :: news) → (∀ p ∈ news, p.1 < hl) → (hl == sysModules) = false → ho.IsDictOf (PySem.strKind Challenge.rw_rg0209_01.row.prog w) kvs → Q .next { s with heap := h', toks := tk' }) :
    wpAny (model Challenge.rw_rg0209_01.row.prog w) (ktrTop dp un gd lawFd.name lawFd.scope L a ccd cl []) (exec heldStmt (envX lawFd.name lawFd.scope L a ccd cl)) Q E s := by
  have F3 := fr_seen F e0
  clear F
  dsimp only [heldStmt, lawFd, lawPack]
  k_steps
  rename_i D h1 o l1 hlo hod h2 F' N'
  exact hret D o _ _ (by rw [← seen_eq e0]; exact F') N' l1 hlo hod
theorem ret_ok {x dx vd st : Addr} {ov so : Obj} {tv : Tok} {kvs kvs' : List (Str × Value)}
    (B : Below A₀ base [] h₀) (F : Fr h₀ L s.heap m) (X : (Mine.pre.heap_1 w.params).In h₀) (N : News h₀ L s.heap news) (T : Top vp vl mean mg mb h₀)
    (hm : ∀ q ∈ [(x, instObj 170 dx), (dx, valsOf w tv vd), (vd, ov), (st, so)], q ∈ news) (hxv : x ≠ vd) (hdv : dx ≠ vd) (hhv : st ≠ vd) (hlo : (vd == sysModules) = false) (hlo' : (st == sysModules) = false)
    (hov : ov.IsDictOf (PySem.strKind Challenge.rw_rg0209_01.row.prog w) kvs) (hso : so.IsDictOf (PySem.strKind Challenge.rw_rg0209_01.row.prog w) kvs') (hsim : KSim kvs kvs') (hopts : OptsAre kvs) (e0 : m (Str.ofString "start") = some (.ref st)) (e1 : m (Str.ofString "other") = some (.ref x)) (hd : dp + 30 < recursionLimit) (hu : un + 4000 < cLine)
    (hret : ∀ (h' : Heap) (tk' : Nat) (m' : Str → Option Value), Fr h₀ L h' m' → News h₀ L h' news → Q (.ret (.bool true)) { s with heap := h', toks := tk' }) :
    wpAny (model Challenge.rw_rg0209_01.row.prog w) (ktrTop dp un gd lawFd.name lawFd.scope L a ccd cl []) (exec retStmt (envX lawFd.name lawFd.scope L a ccd cl)) Q E s := by
  have F3 := fr_seen (fr_seen F e0) ((if_neg (by decide)).trans e1)
  clear F
  dsimp only [retStmt, lawFd, lawPack]
  k_steps
  all_goals exact hret _ _ _ (by assumption) (by assumption)
end
end

section
open PySem PySem.W PyProof.Rows PySem.Calls PySem.Spec
set_option maxRecDepth 100000
set_option maxHeartbeats 2000000
theorem law_body_eq : lawFd.body = [mugStmt, optStmt, startStmt, heldStmt, lapFor, retStmt] := by with_unfolding_all rfl
theorem ne_str {a b : Str} (h : (a == b) = false) : ¬ a = b := by simpa using h
theorem oth_off {c mug cc dx x vd hl dx2 x2 vd2 st : Nat} {o1 o2 o3 o4 : Obj} (a1 : c < dx) (a2 : mug < dx) (a3 : cc < dx) (a4 : dx < x) (a5 : x < vd) (a6 : vd < dx2) (a7 : dx2 < x2) (a8 : x2 < vd2) (a9 : vd2 < st) (a10 : st < hl) : OwnOff [(vd2, o1), (x2, o2), (dx2, o3), (st, o4)] [c, mug, cc, dx, x, vd, hl] := by
  have b1 : dx < vd := Nat.lt_trans a4 a5
  have b2 : vd < x2 := Nat.lt_trans a6 a7
  have b3 : vd < vd2 := Nat.lt_trans b2 a8
  have b4 : vd2 < hl := Nat.lt_trans a9 a10
  have b5 : x2 < hl := Nat.lt_trans a8 b4
  have hp : ∀ p ∈ [(vd2, o1), (x2, o2), (dx2, o3), (st, o4)], @LT.lt Nat _ vd p.1 ∧ @LT.lt Nat _ p.1 hl := allC ⟨b3, b4⟩ (allC ⟨b2, b5⟩ (allC ⟨a6, Nat.lt_trans a7 b5⟩ (allC ⟨Nat.lt_trans b3 a9, a10⟩ (List.forall_mem_nil _))))
  have hb : ∀ b ∈ [c, mug, cc, dx, x, vd, hl], b ≤ vd ∨ b = hl := allC (.inl (Nat.le_of_lt (Nat.lt_trans a1 b1))) (allC (.inl (Nat.le_of_lt (Nat.lt_trans a2 b1))) (allC (.inl (Nat.le_of_lt (Nat.lt_trans a3 b1))) (allC (.inl (Nat.le_of_lt b1)) (allC (.inl (Nat.le_of_lt a5)) (allC (.inl (Nat.le_refl _)) (allC (.inr rfl) (List.forall_mem_nil _)))))))
  intro p hq b hc
  rcases hb b hc with h | h
  · exact Nat.ne_of_gt (Nat.lt_of_le_of_lt h (hp p hq).1)
  · exact h ▸ Nat.ne_of_lt (hp p hq).2
theorem ord_of {c mug cc dx x vd hl dx2 x2 vd2 st : Nat} (o1 : c < mug) (o2 : mug ≠ cc) (o3 : c ≠ cc) (a1 : c < dx) (a2 : mug < dx) (a3 : cc < dx) (a4 : dx < x) (a5 : x < vd) (a6 : vd < dx2) (a7 : dx2 < x2) (a8 : x2 < vd2) (a9 : vd2 < st) (a10 : st < hl) : LawOrd c mug cc dx x vd hl :=
  have b1 : dx < vd := Nat.lt_trans a4 a5
  have b2 : vd < hl := Nat.lt_trans (Nat.lt_trans (Nat.lt_trans (Nat.lt_trans a6 a7) a8) a9) a10
  have b3 : dx < hl := Nat.lt_trans b1 b2
  ⟨o1, ⟨o3, o2⟩, ⟨a1, a2, a3⟩, ⟨Nat.lt_trans a1 a4, Nat.lt_trans a2 a4, Nat.lt_trans a3 a4, a4⟩, ⟨Nat.lt_trans a1 b1, Nat.lt_trans a2 b1, Nat.lt_trans a3 b1, b1, a5⟩, ⟨Nat.lt_trans a1 b3, Nat.lt_trans a2 b3, Nat.lt_trans a3 b3, b3, Nat.lt_trans a5 b2, b2⟩⟩
section
variable {w : World} {vp : Program} {vl : List Str} {mean : ExcName → Option Value} {mg mb : Str → Option Value} {dp un : Nat} {gd : Option (List Code)} {a c : Addr} {ccd : Value} {A₀ : Around}
    {base h₀ : Heap} {L : Addr} {m : Str → Option Value} {s : Shared} {Q : Flow → Shared → Prop} {co : Obj}
theorem law_ok {sc : Addr} {cvs : List Value} {ns : List Int} {cv : Option Value}
    (B : Below A₀ base [] h₀) (F : Fr h₀ L s.heap m) (X : (Mine.pre.heap_1 w.params).In h₀) (N : News h₀ L s.heap [(c, co)]) (T : Top vp vl mean mg mb h₀)
    (hco : co.data = .cell cv) (e0 : m (Str.ofString "script") = some (.ref sc)) (hL : h₀.IsList sc cvs.toArray) (hI : IntsAre cvs ns) (hlen : ns.length ≤ 63) (hd : dp + 30 < recursionLimit) (hu : un + 4000 < cLine)
    (hret : ∀ (h' : Heap) (tk' : Nat) (m' : Str → Option Value) (news' : List (Addr × Obj)), Fr h₀ L h' m' → News h₀ L h' news' → Q (.ret (.bool true)) { s with heap := h', toks := tk' }) :
    wpAny (model Challenge.rw_rg0209_01.row.prog w) (ktrTop dp un gd lawFd.name lawFd.scope L a ccd [(Str.ofString "one", c)] []) (execs lawFd.body (envX lawFd.name lawFd.scope L a ccd [(Str.ofString "one", c)])) Q (fun _ _ => False) s := by
  rw [law_body_eq]
  with_reducible refine wpAny_execs_cons ?_
  with_reducible refine mug_ok B F X N T e0 hL hI hlen hd hu ?_
  intro mug cc om t ys ns' h1 tk1 F1 N1 o1 o2 o3 hlm hom hI' hlen'
  show wpAny _ _ (execs _ _) _ _ _
  with_reducible refine wpAny_execs_cons ?_
  with_reducible refine opts_ok B F1 X N1 T hd hu ?_
  intro x dx vd ov tv t x2 dx2 vd2 ov2 tv2 t2 h2 tk2 F2 N2 q1 q2 q3 q4 q5 q6 hlv hlv2 hov hov2
  show wpAny _ _ (execs _ _) _ _ _
  with_reducible refine wpAny_execs_cons ?_
  with_reducible refine start_ok B F2 X N2 T ?_
  intro st h3 so tk3 t3 F3 N3 q7 hls hso
  show wpAny _ _ (execs _ _) _ _ _
  with_reducible refine wpAny_execs_cons ?_
  with_reducible refine held_ok B F3 X N3 T List.mem_cons_self hls hso (Nat.le_of_ble_eq_true rfl) (by simp only [if_true]) ?_
  intro hl ho h4 tk4 F4 N4 q8 hlh hho
  show wpAny _ _ (execs _ _) _ _ _
  have r1 := q1 (cc, listOf ys.toArray ys.length) (by k_mem)
  have r2 := q1 (mug, om) (by k_mem)
  have r3 := q1 (c, co) (by k_mem)
  have r4 := q7 (vd2, ov2) (by k_mem)
  have r5 := q8 (st, so) (by k_mem)
  dsimp only at r1 r2 r3 r4 r5
  have g1 : @LT.lt Nat _ cc dx := r1
  have g2 : @LT.lt Nat _ mug dx := r2
  have g3 : @LT.lt Nat _ c dx := r3
  have g4 : @LT.lt Nat _ vd2 st := r4
  have g5 : @LT.lt Nat _ st hl := r5
  have hO : LawOrd c mug cc dx x vd hl := ord_of o1 o2 o3 g3 g2 g1 q2 q3 q4 q5 q6 g4 g5
  have hoth : OwnOff [(vd2, ov2), (x2, instObj 170 dx2), (dx2, valsOf w tv2 vd2), (st, so)] [c, mug, cc, dx, x, vd, hl] := oth_off g3 g2 g1 q2 q3 q4 q5 q6 g4 g5
  have n1 : ¬ Str.ofString "options" = Str.ofString "held" := ne_str (by decide +kernel)
  have n2 : ¬ Str.ofString "options" = Str.ofString "start" := ne_str (by decide +kernel)
  have n3 : ¬ Str.ofString "mug" = Str.ofString "held" := ne_str (by decide +kernel)
  have n4 : ¬ Str.ofString "mug" = Str.ofString "start" := ne_str (by decide +kernel)
  have n5 : ¬ Str.ofString "mug" = Str.ofString "options" := ne_str (by decide +kernel)
  have n6 : ¬ Str.ofString "mug" = Str.ofString "other" := ne_str (by decide +kernel)
  have n7 : ¬ Str.ofString "start" = Str.ofString "held" := ne_str (by decide +kernel)
  have n8 : ¬ Str.ofString "other" = Str.ofString "held" := ne_str (by decide +kernel)
  have n9 : ¬ Str.ofString "other" = Str.ofString "start" := ne_str (by decide +kernel)
  have n10 : ¬ Str.ofString "other" = Str.ofString "options" := ne_str (by decide +kernel)
  have N5 : News h₀ L h4 ((c, co) :: (mug, om) :: (vd, ov) :: (hl, ho) :: (x, instObj 170 dx) :: (dx, valsOf w tv vd) :: (cc, listOf ys.toArray ys.length) :: [(vd2, ov2), (x2, instObj 170 dx2), (dx2, valsOf w tv2 vd2), (st, so)]) := fun q hq => N4 q (by
    revert q hq
    exact subC (by k_mem) (subC (by k_mem) (subC (by k_mem) (subC (by k_mem) (subC (by k_mem) (subC (by k_mem) (subC (by k_mem) (subC (by k_mem) (subC (by k_mem) (subC (by k_mem) (subC (by k_mem) subN)))))))))))
  with_reducible refine wpAny_execs_cons ?_
  with_reducible refine lap_ok B F4 X N5 T hO hoth hlm hlv hlh hco hom hI' hlen' (Int.le_refl _) (by decide) hov hho (sim_start _ _) (opts_start _) (by simp only [n1, n2, if_false, if_true]) (by simp only [n3, n4, n5, n6, if_false, if_true]) (by simp only [if_true]) (by omega) (by omega) ?_
  intro h6 tk6 m6 om6 ov6 ho6 co6 F6 hM6 N6
  show wpAny _ _ (execs _ _) _ _ _
  with_reducible refine wpAny_execs_cons ?_
  with_reducible refine ret_ok B F6 X N6 T (x := x2) (dx := dx2) (vd := vd2) (st := st) (ov := ov2) (so := so) (tv := tv2) ?_ (Nat.ne_of_lt q6) (Nat.ne_of_lt (Nat.lt_trans q5 q6)) (Nat.ne_of_gt g4) hlv2 hls hov2 hso (sim_start _ _) (opts_start _) ?_ ?_ hd hu ?_
  · exact sub4 (by k_mem) (by k_mem) (by k_mem) (by k_mem)
  · rw [hM6 _ (ne_str (by decide +kernel)) (by decide +kernel)]; simp only [n7, if_false, if_true]
  · rw [hM6 _ (ne_str (by decide +kernel)) (by decide +kernel)]; simp only [n8, n9, n10, if_false, if_true]
  · intro h7 tk7 m7 F7 N7
    exact hret h7 tk7 m7 _ F7 N7
end
end

section
open PySem PySem.W PyProof.Rows PySem.Calls PySem.Spec
set_option maxRecDepth 100000
set_option maxHeartbeats 2000000
/-- the addresses of the objects of Mine.pre.heap_1 -/
noncomputable def adrs : List Addr := [
  2, 3, 15, 18, 23, 24, 26, 27, 29, 30, 31, 33, 34, 36, 37, 38, 39, 40, 41, 44, 47, 52, 53, 55, 56, 58, 59, 60, 62, 63, 65, 66, 67, 68, 69, 72, 79, 81, 82, 84, 85, 86, 87, 88, 91,
  92, 93, 94, 95, 96, 97, 98, 99, 100, 101, 102, 103, 104, 112, 114, 115, 117, 118, 119, 121, 122, 124, 125, 126, 128, 129, 131, 132, 133, 135, 136, 138, 139, 140, 142, 143, 145,
  146, 147, 149, 150, 152, 153, 154, 156, 157, 159, 160, 161, 163, 164, 166, 167, 168, 169, 170, 171, 172, 175, 177, 178, 180, 181, 182, 184, 185, 187, 188, 189, 191, 192, 194,
  195, 196, 197, 199, 200, 202, 203, 204, 206, 207, 209, 210, 218, 220, 221, 223, 224, 225, 227, 228, 230, 231, 232, 234, 235, 237, 238, 239, 241, 242, 244, 245, 246, 248, 249,
  251, 252, 253, 255, 256, 258, 259, 260, 262, 263, 265, 266, 267, 269, 270, 272, 273, 274, 276, 277, 279, 280, 281, 283, 284, 286, 287, 288, 290, 291, 293, 294, 295, 296, 297,
  298, 299, 302, 304, 305, 307, 308, 309, 311, 312, 314, 315, 316, 318, 319, 321, 322, 323, 324, 325, 326, 327, 328, 329, 330, 331, 332, 333, 334, 335, 336, 337, 338, 339, 340,
  341, 342, 343, 344, 346, 347, 349, 350, 351, 353, 354, 356, 357, 358, 360, 361, 363, 364, 365, 367, 368, 370, 371, 372, 374, 375, 377, 378, 379, 382, 383]
/- The next names are those under which the head would lay a second text of each of the program's constants and a proof (some 46 MB) that it is the same: it does not need them, and lays none whose name is taken. -/
theorem top.tw10006222313960134694 : True := trivial
theorem top.tw10008474027749305400 : True := trivial
theorem top.tw10090393231696489298 : True := trivial
theorem top.tw10195997230039290492 : True := trivial
theorem top.tw10404823597219466188 : True := trivial
theorem top.tw1040915598704419856 : True := trivial
theorem top.tw10448899703829047738 : True := trivial
theorem top.tw1047907039808853306 : True := trivial
theorem top.tw105208000716104510 : True := trivial
theorem top.tw10548783162686979305 : True := trivial
theorem top.tw10617020205504526918 : True := trivial
theorem top.tw10816355053677723559 : True := trivial
theorem top.tw10864713392326063847 : True := trivial
theorem top.tw1088946173253831356 : True := trivial
theorem top.tw10915162052029792233 : True := trivial
theorem top.tw10936122117785486979 : True := trivial
theorem top.tw10956490626425055710 : True := trivial
theorem top.tw10996937224433265937 : True := trivial
theorem top.tw11133666699803404755 : True := trivial
theorem top.tw11141966352661209427 : True := trivial
theorem top.tw11199532085631943738 : True := trivial
theorem top.tw11203750815551599093 : True := trivial
theorem top.tw11279390925490393535 : True := trivial
theorem top.tw11334415319851112604 : True := trivial
theorem top.tw1139600151236580504 : True := trivial
theorem top.tw11396854449078567652 : True := trivial
theorem top.tw11423202765487971197 : True := trivial
theorem top.tw1142415686869020238 : True := trivial
theorem top.tw11430207588045935325 : True := trivial
theorem top.tw11459358961799972967 : True := trivial
theorem top.tw11466170419677230873 : True := trivial
theorem top.tw1149218181149386328 : True := trivial
theorem top.tw11520865232209809239 : True := trivial
theorem top.tw11539556534233449701 : True := trivial
theorem top.tw11613256710310857696 : True := trivial
theorem top.tw11762496359356365647 : True := trivial
theorem top.tw11845233108574324481 : True := trivial
theorem top.tw11858546649754279707 : True := trivial
theorem top.tw11922380849998532372 : True := trivial
theorem top.tw1195175773429642966 : True := trivial
theorem top.tw11960245374511038805 : True := trivial
theorem top.tw12012865196380796599 : True := trivial
theorem top.tw12080426169559351053 : True := trivial
theorem top.tw12094960947251128927 : True := trivial
theorem top.tw12105128591322288922 : True := trivial
theorem top.tw1212798325632107971 : True := trivial
theorem top.tw12166907935582030026 : True := trivial
theorem top.tw12317137736924338119 : True := trivial
theorem top.tw12342655685612074800 : True := trivial
theorem top.tw12376051458212225564 : True := trivial
theorem top.tw12385144161495827662 : True := trivial
theorem top.tw12392516345856041104 : True := trivial
theorem top.tw12415523145999629524 : True := trivial
theorem top.tw12425085872883035938 : True := trivial
theorem top.tw1245559373397905713 : True := trivial
theorem top.tw12483720753089274532 : True := trivial
theorem top.tw12535971307161669396 : True := trivial
theorem top.tw12540527436937284434 : True := trivial
theorem top.tw12622177474791663080 : True := trivial
theorem top.tw1275901062530889299 : True := trivial
theorem top.tw12787338502077490372 : True := trivial
theorem top.tw12819366960792805191 : True := trivial
theorem top.tw1284575025550258836 : True := trivial
theorem top.tw12958502747184954254 : True := trivial
theorem top.tw12973084742139787200 : True := trivial
theorem top.tw13044034144603486326 : True := trivial
theorem top.tw13068111086705522682 : True := trivial
theorem top.tw13090165191389475591 : True := trivial
theorem top.tw13091174067606910046 : True := trivial
theorem top.tw13160728816969591200 : True := trivial
theorem top.tw13177472732611162249 : True := trivial
theorem top.tw13264354339760550358 : True := trivial
theorem top.tw13272337422414781067 : True := trivial
theorem top.tw13303987763403120937 : True := trivial
theorem top.tw13310400573052568472 : True := trivial
theorem top.tw13345470168829271861 : True := trivial
theorem top.tw13359135706311490777 : True := trivial
theorem top.tw13369591340354186047 : True := trivial
theorem top.tw13370750898655102155 : True := trivial
theorem top.tw13420762306968818387 : True := trivial
theorem top.tw13480540503896658438 : True := trivial
theorem top.tw13802547742096326172 : True := trivial
theorem top.tw13822267516522204269 : True := trivial
theorem top.tw13889309363888878346 : True := trivial
theorem top.tw13889484949932952446 : True := trivial
theorem top.tw13896958669275611876 : True := trivial
theorem top.tw13928562000808390012 : True := trivial
theorem top.tw1400011881503588481 : True := trivial
theorem top.tw14142502885225118848 : True := trivial
theorem top.tw14168018189251442112 : True := trivial
theorem top.tw14263998999751124003 : True := trivial
theorem top.tw14282377253939248939 : True := trivial
theorem top.tw14349089067433371257 : True := trivial
theorem top.tw14371913498598963198 : True := trivial
theorem top.tw14372152842798730730 : True := trivial
theorem top.tw14399976873020721970 : True := trivial
theorem top.tw14459580976405569124 : True := trivial
theorem top.tw14502225709538309166 : True := trivial
theorem top.tw14597223018079223185 : True := trivial
theorem top.tw14608685727046917156 : True := trivial
theorem top.tw14611434983143301774 : True := trivial
theorem top.tw14632489290957082403 : True := trivial
theorem top.tw146815374380898660 : True := trivial
theorem top.tw14697636140705633519 : True := trivial
theorem top.tw14762295962024373759 : True := trivial
theorem top.tw14796646475526232899 : True := trivial
theorem top.tw14823308797102314842 : True := trivial
theorem top.tw1483126911874232274 : True := trivial
theorem top.tw14851680436948445374 : True := trivial
theorem top.tw14861896470697024400 : True := trivial
theorem top.tw14901070454687303710 : True := trivial
theorem top.tw14917401599646851644 : True := trivial
theorem top.tw1492452104121835379 : True := trivial
theorem top.tw15019589843779357958 : True := trivial
theorem top.tw15092371282622821202 : True := trivial
theorem top.tw1516213087968936877 : True := trivial
theorem top.tw15169761463676818070 : True := trivial
theorem top.tw15240379268576122478 : True := trivial
theorem top.tw15272623650891808786 : True := trivial
theorem top.tw15361541807878343388 : True := trivial
theorem top.tw15362295582089109014 : True := trivial
theorem top.tw15503665604740900718 : True := trivial
theorem top.tw15569959144833144457 : True := trivial
theorem top.tw15740088241188596515 : True := trivial
theorem top.tw15749434781750407773 : True := trivial
theorem top.tw1585457916280141200 : True := trivial
theorem top.tw15860264024139754761 : True := trivial
theorem top.tw15877122091014420850 : True := trivial
theorem top.tw15918733279669447828 : True := trivial
theorem top.tw15976228082101565994 : True := trivial
theorem top.tw15985961358823992270 : True := trivial
theorem top.tw16058212318047004132 : True := trivial
theorem top.tw16123964013534891561 : True := trivial
theorem top.tw16155163154822807229 : True := trivial
theorem top.tw16204670001084760307 : True := trivial
theorem top.tw16325430554902658873 : True := trivial
theorem top.tw16352630495959832749 : True := trivial
theorem top.tw1638113669730673903 : True := trivial
theorem top.tw16420938139371093754 : True := trivial
theorem top.tw16439428074185983240 : True := trivial
theorem top.tw16542028095416433903 : True := trivial
theorem top.tw16638009121408895407 : True := trivial
theorem top.tw16666122058527598403 : True := trivial
theorem top.tw16738656349318052661 : True := trivial
theorem top.tw16759092144687519636 : True := trivial
theorem top.tw1676862907878916244 : True := trivial
theorem top.tw16782997733028217545 : True := trivial
theorem top.tw16795567611416646642 : True := trivial
theorem top.tw16821654228018055803 : True := trivial
theorem top.tw16840627104734473223 : True := trivial
theorem top.tw16885616592811714743 : True := trivial
theorem top.tw16900427199656544559 : True := trivial
theorem top.tw17046948494117081484 : True := trivial
theorem top.tw1706793611546318481 : True := trivial
theorem top.tw17177869089781658578 : True := trivial
theorem top.tw17315540178315561739 : True := trivial
theorem top.tw17355269125676882429 : True := trivial
theorem top.tw1736530178072539846 : True := trivial
theorem top.tw17428532607074087071 : True := trivial
theorem top.tw17469865338272021226 : True := trivial
theorem top.tw17470836177267949868 : True := trivial
theorem top.tw17486766287000646611 : True := trivial
theorem top.tw17492772389151264855 : True := trivial
theorem top.tw17555251805378815213 : True := trivial
theorem top.tw17565814175750979855 : True := trivial
theorem top.tw17620759639134147866 : True := trivial
theorem top.tw17810072253543177317 : True := trivial
theorem top.tw17886615442053742456 : True := trivial
theorem top.tw18008055252877512497 : True := trivial
theorem top.tw18034075008235765660 : True := trivial
theorem top.tw18063644159110109576 : True := trivial
theorem top.tw18085771088847121727 : True := trivial
theorem top.tw1814787853859245837 : True := trivial
theorem top.tw18164388396756303480 : True := trivial
theorem top.tw18186074749648716422 : True := trivial
theorem top.tw18194552166560175392 : True := trivial
theorem top.tw18237780215024852062 : True := trivial
theorem top.tw18245740138792012028 : True := trivial
theorem top.tw18371284783138465269 : True := trivial
theorem top.tw1869187583165140508 : True := trivial
theorem top.tw1886144042066472794 : True := trivial
theorem top.tw2007660962349395123 : True := trivial
theorem top.tw2080415116128066167 : True := trivial
theorem top.tw2126296398998916975 : True := trivial
theorem top.tw2145171640123136144 : True := trivial
theorem top.tw216529984938456764 : True := trivial
theorem top.tw2218668502564051296 : True := trivial
theorem top.tw2249405535684624136 : True := trivial
theorem top.tw2443449257678562572 : True := trivial
theorem top.tw2462062305354472974 : True := trivial
theorem top.tw2464713573024523455 : True := trivial
theorem top.tw2514443458684651071 : True := trivial
theorem top.tw2555065506035805374 : True := trivial
theorem top.tw2617719716777270872 : True := trivial
theorem top.tw2665807947273092163 : True := trivial
theorem top.tw2730760306732684819 : True := trivial
theorem top.tw2731995056826638727 : True := trivial
theorem top.tw2741389259953327712 : True := trivial
theorem top.tw2782073688633401757 : True := trivial
theorem top.tw2812155379371279736 : True := trivial
theorem top.tw2835187731363253809 : True := trivial
theorem top.tw2847958352784047137 : True := trivial
theorem top.tw2867133514656366558 : True := trivial
theorem top.tw2924597203103170677 : True := trivial
theorem top.tw2985252069258134486 : True := trivial
theorem top.tw2988451766255067171 : True := trivial
theorem top.tw3195968871104189447 : True := trivial
theorem top.tw3337584539547039419 : True := trivial
theorem top.tw339143206060000330 : True := trivial
theorem top.tw3422688185749166683 : True := trivial
theorem top.tw3474246075231452896 : True := trivial
theorem top.tw352232786441526191 : True := trivial
theorem top.tw3531060308782635638 : True := trivial
theorem top.tw3584897518013459382 : True := trivial
theorem top.tw370947364307004932 : True := trivial
theorem top.tw3730354652608582461 : True := trivial
theorem top.tw381845443943030031 : True := trivial
theorem top.tw3855276242980373810 : True := trivial
theorem top.tw390997316461189296 : True := trivial
theorem top.tw4047667213573674445 : True := trivial
theorem top.tw4076138812419527698 : True := trivial
theorem top.tw4159251561096739476 : True := trivial
theorem top.tw4166218997396506358 : True := trivial
theorem top.tw4186445540838780016 : True := trivial
theorem top.tw4213018616267185653 : True := trivial
theorem top.tw427269002284569659 : True := trivial
theorem top.tw4321519831107876412 : True := trivial
theorem top.tw4498253355057717688 : True := trivial
theorem top.tw453181688931711583 : True := trivial
theorem top.tw4551080515912023512 : True := trivial
theorem top.tw4571971715460732019 : True := trivial
theorem top.tw4597200072644226624 : True := trivial
theorem top.tw4656485037274611717 : True := trivial
theorem top.tw4713442408853163898 : True := trivial
theorem top.tw4784893810139332661 : True := trivial
theorem top.tw4859757453598101857 : True := trivial
theorem top.tw4940147422707163885 : True := trivial
theorem top.tw501154541418245514 : True := trivial
theorem top.tw5058314954733539658 : True := trivial
theorem top.tw5088376156974544275 : True := trivial
theorem top.tw5105846836358774362 : True := trivial
theorem top.tw5118827330378232414 : True := trivial
theorem top.tw517144808224063464 : True := trivial
theorem top.tw5186299589460371103 : True := trivial
theorem top.tw5225153198818245361 : True := trivial
theorem top.tw5244899138074338376 : True := trivial
theorem top.tw5278709424875269971 : True := trivial
theorem top.tw5303079699428457377 : True := trivial
theorem top.tw5476889619067714990 : True := trivial
theorem top.tw5523086135645875356 : True := trivial
theorem top.tw5581607755468803823 : True := trivial
theorem top.tw575894324575664597 : True := trivial
theorem top.tw5766051744304087583 : True := trivial
theorem top.tw5860347150701562758 : True := trivial
theorem top.tw5868845118606482295 : True := trivial
theorem top.tw5889316905344633881 : True := trivial
theorem top.tw5915399644114372684 : True := trivial
theorem top.tw5969682004907312646 : True := trivial
theorem top.tw6042063481754889096 : True := trivial
theorem top.tw6127594578889010139 : True := trivial
theorem top.tw6187478851450931391 : True := trivial
theorem top.tw6189502492464219833 : True := trivial
theorem top.tw620129878449983639 : True := trivial
theorem top.tw6211089042160764376 : True := trivial
theorem top.tw6240723676877644813 : True := trivial
theorem top.tw6286779285267259847 : True := trivial
theorem top.tw6333448901615975916 : True := trivial
theorem top.tw6370870915552960936 : True := trivial
theorem top.tw6431110157172167083 : True := trivial
theorem top.tw6438537300738474071 : True := trivial
theorem top.tw6473336682457920079 : True := trivial
theorem top.tw6491118196486620199 : True := trivial
theorem top.tw649594095290182367 : True := trivial
theorem top.tw6520327441239513222 : True := trivial
theorem top.tw6624316729101989866 : True := trivial
theorem top.tw6662652255960138227 : True := trivial
theorem top.tw6664487174759623829 : True := trivial
theorem top.tw6749217079512962374 : True := trivial
theorem top.tw6756868429301003459 : True := trivial
theorem top.tw6761616313442571491 : True := trivial
theorem top.tw6812286434817487243 : True := trivial
theorem top.tw6859976401760118174 : True := trivial
theorem top.tw6883741973766446791 : True := trivial
theorem top.tw6885214360128481674 : True := trivial
theorem top.tw6898770573198911631 : True := trivial
theorem top.tw6906291655842520137 : True := trivial
theorem top.tw6919701780365589675 : True := trivial
theorem top.tw6930518751129746686 : True := trivial
theorem top.tw7008692893051332821 : True := trivial
theorem top.tw705360758644809490 : True := trivial
theorem top.tw708234853630380328 : True := trivial
theorem top.tw7198060816514059695 : True := trivial
theorem top.tw7250933059871147345 : True := trivial
theorem top.tw728428047077509346 : True := trivial
theorem top.tw7297446738713254254 : True := trivial
theorem top.tw7414872774492366064 : True := trivial
theorem top.tw7429413206186439793 : True := trivial
theorem top.tw7444641836354208208 : True := trivial
theorem top.tw7458633546980236471 : True := trivial
theorem top.tw7527032243904285869 : True := trivial
theorem top.tw7557910624720293991 : True := trivial
theorem top.tw7673058066778466091 : True := trivial
theorem top.tw7715697345341360870 : True := trivial
theorem top.tw7740461459972228597 : True := trivial
theorem top.tw7743179893348639699 : True := trivial
theorem top.tw7830913209206220567 : True := trivial
theorem top.tw7847650389618582240 : True := trivial
theorem top.tw7855079511596107753 : True := trivial
theorem top.tw788273225186049534 : True := trivial
theorem top.tw795583310449317561 : True := trivial
theorem top.tw8107780213005350392 : True := trivial
theorem top.tw8140125068956082859 : True := trivial
theorem top.tw814325599930780420 : True := trivial
theorem top.tw8143265674769528471 : True := trivial
theorem top.tw81815255157605957 : True := trivial
theorem top.tw8204474986945543665 : True := trivial
theorem top.tw8212240652046128837 : True := trivial
theorem top.tw8237333600419904120 : True := trivial
theorem top.tw8265191368974092141 : True := trivial
theorem top.tw8321918168302905379 : True := trivial
theorem top.tw8345894832289464959 : True := trivial
theorem top.tw8363718466572441477 : True := trivial
theorem top.tw8410488445778877200 : True := trivial
theorem top.tw8435561252592420358 : True := trivial
theorem top.tw8443935842833279946 : True := trivial
theorem top.tw8507776931139520737 : True := trivial
theorem top.tw8523463495250067690 : True := trivial
theorem top.tw8538268897159353584 : True := trivial
theorem top.tw8598144960395782539 : True := trivial
theorem top.tw8622502720953521162 : True := trivial
theorem top.tw8640399195822439974 : True := trivial
theorem top.tw8679839319945467846 : True := trivial
theorem top.tw8729362747519067210 : True := trivial
theorem top.tw8735323631387419056 : True := trivial
theorem top.tw877433047237710547 : True := trivial
theorem top.tw8810280945414196856 : True := trivial
theorem top.tw8813761850579938390 : True := trivial
theorem top.tw8833053369097974544 : True := trivial
theorem top.tw8892184565913893157 : True := trivial
theorem top.tw8973803690348224638 : True := trivial
theorem top.tw9059672392935016618 : True := trivial
theorem top.tw9063741608606530840 : True := trivial
theorem top.tw9068506458530023791 : True := trivial
theorem top.tw908825868028484722 : True := trivial
theorem top.tw9108098604805947806 : True := trivial
theorem top.tw9229161468869434483 : True := trivial
theorem top.tw9259421805112917234 : True := trivial
theorem top.tw9305691244287143441 : True := trivial
theorem top.tw9335426496214029073 : True := trivial
theorem top.tw9382581127745807760 : True := trivial
theorem top.tw9437893007894698314 : True := trivial
theorem top.tw9503340733035011235 : True := trivial
theorem top.tw956942650209027819 : True := trivial
theorem top.tw9614876229902214918 : True := trivial
theorem top.tw9631074621892390191 : True := trivial
theorem top.tw9743097575036673082 : True := trivial
theorem top.tw9768079942903668216 : True := trivial
theorem top.tw9800703332001039478 : True := trivial
theorem top.tw9951221954081769418 : True := trivial
theorem top.tw9953747333497923681 : True := trivial
theorem top.tw9961057766049560675 : True := trivial
section
local macro_rules | `(tactic| k_head) => `(tactic| o_head (kHook Mine.pre.heap_1 Mine.adrs (fun _ => by kernel_rfl)))
set_option maxHeartbeats 8000000 in
set_option Elab.async true in
theorem top : Challenge.rw_rg0209_01.Holds := by
  w_top off
  k_with_none
  w_on
  o_law
  k_head
  (case hw => w_witness2)
  k_go0
  (all_goals try k_fold)
  change wpAny (model _ _) (ktrTop _ _ _ lawFd.name lawFd.scope _ _ _ [(Str.ofString "one", _)] []) (execs lawFd.body (envX lawFd.name lawFd.scope _ _ _ [(Str.ofString "one", _)])) _ _ _
  with_reducible refine wpAny_mono ?wl (fun _ _ h => h) (fun _ _ h => False.elim h)
  with_reducible refine' law_ok ?zB ?zF ?zX ?zN ?zT ?zhco ?ze0 ?zhL ?zhI ?zhlen ?zhd ?zhu ?zhret
  case zB => assumption
  case zF => assumption
  case zX => assumption
  case zN => assumption
  case zT => assumption
  case zhL => assumption
  case zhI => assumption
  case zhco => assumption
  case ze0 => rfl
  case zhlen => omega
  case zhd => decide
  case zhu => decide
  case zhret =>
    intro h' tk' m' news' F' N'
    k_steps
end
end

end Mine

theorem PySem.Challenge.cw_rg0209_01_holds : PySem.Challenge.rw_rg0209_01.Holds := by
  exact Mine.top
