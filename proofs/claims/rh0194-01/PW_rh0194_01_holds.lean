import PyProof.Rows.All
import Wide.All
import OpenK.AllK
import Wide.FinOn
import PySem.Challenge.RW_rh0194_01
open PySem PySem.W PyProof.Rows PySem.Calls PyProof.V PySem.Spec
set_option Elab.async false
set_option maxRecDepth 100000
set_option maxHeartbeats 0

open_top Mine.hd for PySem.Challenge.rw_rh0194_01

theorem Mine.saymacrosx13 : True := by
  (k_with "zmacrosx1" => (((case qB | qF | qX | qN | qT => k_asm); (case qhk => first | exact rfl | assumption); (case qhd1 => ktr_room); (case qhu1 => ktr_units))))
  (k_with "zmacrosx2" => (((try simp only [List.length_cons, List.length_nil, List.length_append, List.length_map]); omega)))
  (k_with "zmacrosx3" => ((k_here; k_dflt (refine kda_item (knd := PySem.strKind _ _) (by k_asm) (by k_mem) (by k_asm) (strKind_is _ _ _ _) (by rfl) ?_))))
  (k_with "zmacrosx4" => ((k_here; lct_look; k_dflt (refine' LCt.ListComp_T (F₀ := ?qh0) ?qh2 ?qh3 ?qh9 ?qh4 ?qh5 ?_; (case qh0 => k_asm); (case qh2 => with_unfolding_all rfl); (case qh3 => decide); (case qh9 => rfl); (case qh4 => decide); (case qh5 => rfl)))))
  (k_with "zmacrosx5" => ((k_here; (fail_if_success lct_look); k_dflt (refine' LCg.ListComp_U (F₀ := ?qh0) ?qh2 ?qh3 ?qh9 ?qh4 ?qh5 ?_; (case qh0 => k_asm); (case qh2 => with_unfolding_all rfl); (case qh3 => decide); (case qh9 => rfl); (case qh4 => decide); (case qh5 => rfl)))))
  (k_with "zmacrosx6" => ((k_here; lct_look; k_dflt (refine' LCt.Assign_ListComp_T (F₀ := ?qh0) ?qh8 ?qh1 ?qh2 ?qh3 ?qh9 ?qh4 ?qh5 ?qh6 ?qh7 ?_; (case qh0 => k_asm); (case qh8 | qh9 => rfl); (case qh1 | qh2 => with_unfolding_all rfl); (case qh3 | qh4 => decide); (case qh5 | qh6 | qh7 => rfl)))))
  (k_with "zmacrosx7" => ((k_here; (fail_if_success lct_look); k_dflt (refine' LCg.Assign_ListComp_U (F₀ := ?qh0) ?qh8 ?qh1 ?qh2 ?qh3 ?qh9 ?qh4 ?qh5 ?qh6 ?qh7 ?_; (case qh0 => k_asm); (case qh8 | qh9 => rfl); (case qh1 | qh2 => with_unfolding_all rfl); (case qh3 | qh4 => decide); (case qh5 | qh6 | qh7 => rfl)))))
  (k_with "zmacrosx8" => (first | exact List.Mem.head _ | (refine' List.Mem.tail _ ?_; k_mem) | assumption | (refine' List.mem_append_right _ ?_; k_mem) | (refine' List.mem_append_left _ ?_; k_mem)))
  (k_with "zmacrosx9" => (first | decide | ((try simp only [depth_in1, depth_deeper]); (try dsimp only [ktrTop]); omega)))
  (k_with "zmacrosx10" => (first | exact Nat.le_of_ble_eq_true rfl | ((try simp only [units_in1, units_deeper, Around.mark_units]); (try dsimp only [ktrTop]); omega)))
  (k_with "zmacrosx11" => (first | (refine' code_def ?qk1 ?qk2 ?qk3 ?qk4 ?qk5 ?qkA ?qkF ?qkK ?qk6 ?qk7 ?qk8 ?qk9 ?qkB ?_ ?qc2 ?qc3 ?qc4 ?qc5; (case qkA => exact rfl); (case qkF => exact rfl); (case qkK => first | exact rfl | assumption); (case qk1 => k_asm); (case qk2 => k_asm); (case qk3 => k_asm); (case qk4 => k_asm); (case qk5 => k_asm); (case qk6 => k_is); (case qk7 => k_is); (case qk8 => ktr_room); (case qk9 => exact BindsTo.of_eq rfl); (case qc5 => decide); (case qkB => exact locs rfl); (case qc2 => exact rfl); (case qc3 => exact rfl); (case qc4 => exact rfl); k_whole; intro qg' qL' qh' qFG' qF' qN' qB' qX' qT'; (try dsimp only); (try k_fold)) | (refine' code_defC ?qk1 ?qk2 ?qk3 ?qk4 ?qk5 ?qkA ?qkF ?qkK ?qk6 ?qk7 ?qk8 ?qk9 ?qkB ?qkD ?_ ?qc2 ?qc3 ?qc4; (case qkA => exact rfl); (case qkF => exact rfl); (case qkK => first | exact rfl | assumption); (case qk1 => k_asm); (case qk2 => k_asm); (case qk3 => k_asm); (case qk4 => k_asm); (case qk5 => k_asm); (case qk6 => k_is); (case qk7 => k_is); (case qk8 => ktr_room); (case qk9 => exact BindsTo.of_eq rfl); (case qkB => exact rfl); (case qkD => decide +kernel); (case qc2 => exact rfl); (case qc3 => exact rfl); (case qc4 => exact rfl); k_whole; intro qg' qL' qh' qtk' qcells' qFG' qF' qN' qY' qB' qX' qT' ql1; (try k_lt ql1); k_cells qY'; (try simp only [List.cons_append, List.nil_append] at qN'); (try dsimp only); (try k_fold))))
  (k_with "zmacrosx12" => ((intro qp9 qh9; (repeat' (first | exact qh9 | exact List.mem_append_left _ qh9 | refine List.mem_cons_of_mem _ ?_ | refine List.mem_append_right _ ?_)); done)))
  (k_with "zmacrosx13" => ((k_here; (with_reducible show wpAny _ _ (compareOp CmpOp.In (Value.str _ _) (Value.ref 15)) _ _ _); (with_unfolding_all refine' in_tuple_strs ?qk1 ?qk2 ?_; (case qk1 => exact tupK (by k_in) (by k_is)); (case qk2 => kde_strs); k_whole))))
  trivial
local macro_rules | `(tactic| walk_at "mb") => `(tactic| k_extra "zmacrosx1")
local macro_rules | `(tactic| walk_at "ml") => `(tactic| k_extra "zmacrosx2")
local macro_rules | `(tactic| walk_at "mk") => `(tactic| exact ⟨_, _, (by k_mem), .cons _ _ (.cons _ _ .nil)⟩)
local macro_rules | `(tactic| walk_at "subscriptTail Name Constant ref str") => `(tactic| k_extra "zmacrosx3")
local macro_rules | `(tactic| walk_at "eval ListComp") => `(tactic| k_extra "zmacrosx4")
local macro_rules | `(tactic| walk_at "eval ListComp") => `(tactic| k_extra "zmacrosx5")
local macro_rules | `(tactic| walk_at "exec Assign cons ListComp") => `(tactic| k_extra "zmacrosx6")
local macro_rules | `(tactic| walk_at "exec Assign cons ListComp") => `(tactic| k_extra "zmacrosx7")
local macro_rules | `(tactic| k_mem) => `(tactic| k_extra "zmacrosx8")
local macro_rules | `(tactic| ktr_room) => `(tactic| k_extra "zmacrosx9")
local macro_rules | `(tactic| ktr_units) => `(tactic| k_extra "zmacrosx10")
local macro_rules | `(tactic| k_room) => `(tactic| ktr_room)
local macro_rules | `(tactic| k_units) => `(tactic| ktr_units)
local macro_rules | `(tactic| ke_room) => `(tactic| ktr_units)
local macro_rules | `(tactic| k_enter) => `(tactic| k_extra "zmacrosx11")
local macro_rules | `(tactic| walk_at "call ref cons nil") => `(tactic| (k_here; k_dflt (refine wpAny_call ?_; k_enter)))
local macro_rules | `(tactic| ktd_sub) => `(tactic| k_extra "zmacrosx12")
local macro_rules | `(tactic| walk_at "compareOp In str ref") => `(tactic| k_extra "zmacrosx13")
local macro_rules | `(tactic| kat_tups) => `(tactic| first | (k_unfold; (try dsimp only)) | ((fail_if_success (with_reducible show LCg.CompSrc _ _ _ _ _ _ _ _ _ _ _ _ _ _)); (fail_if_success (with_reducible show LCt.CompSrcT _ _ _ _ _ _ _ _ _ _ _ _ _ _ _)); (fail_if_success (with_reducible show LCg.CompEnd _ _ _ _ _ _ _ _ _ _ _ _ _ _)); first | walk1 | (dsimp only; walk1)))

theorem Mine.calmP0 : True := by
  w_top off
  trivial
namespace Mine
structure Nb where
  r : Int
  ad : Int
  st : Str
structure Ifc where
  num : Int
  kind : Str
  st : Str
  ad : Int
  dr : Int
  nbs : List Nb

abbrev Led := List (Addr × Obj)

/-- the ledger bears a neighbour at v -/
inductive NbIn (w : World) (news : Led) : Value → Nb → Prop
  | mk {a : Addr} {o : Obj} {n : Nb} {t1 t2 t3 : Tok} : (a, o) ∈ news →
      o.IsDictOf (PySem.strKind PySem.Challenge.rw_rh0194_01.row.prog w) [(Str.ofString "router", .int n.r t1), (Str.ofString "address", .int n.ad t2), (Str.ofString "state", .str n.st t3)] → NbIn w news (.ref a) n
inductive NbAll (w : World) (news : Led) : List Value → List Nb → Prop
  | nil : NbAll w news [] []
  | cons {v : Value} {n : Nb} {vs : List Value} {ns : List Nb} : NbIn w news v n → NbAll w news vs ns → NbAll w news (v :: vs) (n :: ns)
/-- the ledger bears an interface at v -/
inductive IfcIn (w : World) (news : Led) : Value → Ifc → Prop
  | mk {a l : Addr} {o : Obj} {d : Ifc} {vs : List Value} {k : Nat} {t1 t2 t3 t4 t5 t6 t7 : Tok} : (a, o) ∈ news →
      o.IsDictOf (PySem.strKind PySem.Challenge.rw_rh0194_01.row.prog w) [(Str.ofString "number", .int d.num t1), (Str.ofString "kind", .str d.kind t2), (Str.ofString "state", .str d.st t3), (Str.ofString "cost", .int 2 t4),
        (Str.ofString "length", .int 4 t5), (Str.ofString "address", .int d.ad t6), (Str.ofString "neighbours", .ref l), (Str.ofString "dr_address", .int d.dr t7)] →
      (l, PySem.W.listOf vs.toArray k) ∈ news → NbAll w news vs d.nbs → d.nbs.length ≤ 2 → IfcIn w news (.ref a) d
theorem NbIn.mono {w : World} {n n' : Led} {v : Value} {d : Nb} (h : NbIn w n v d) (hs : ∀ p ∈ n, p ∈ n') : NbIn w n' v d := by
  cases h with | mk hm hd => exact .mk (hs _ hm) hd
theorem NbAll.mono {w : World} {n n' : Led} {vs : List Value} {ds : List Nb} (h : NbAll w n vs ds) (hs : ∀ p ∈ n, p ∈ n') : NbAll w n' vs ds := by
  induction h with
  | nil => exact .nil
  | cons h _ ih => exact .cons (h.mono hs) ih
theorem IfcIn.mono {w : World} {n n' : Led} {v : Value} {d : Ifc} (h : IfcIn w n v d) (hs : ∀ p ∈ n, p ∈ n') : IfcIn w n' v d := by
  cases h with | mk hm hd hl hn hz => exact .mk (hs _ hm) hd (hs _ hl) (hn.mono hs) hz
theorem NbAll.length {w : World} {n : Led} {vs : List Value} {ds : List Nb} (h : NbAll w n vs ds) : vs.length = ds.length := by
  induction h with
  | nil => rfl
  | cons _ _ ih => simp [ih]

theorem ints_snoc {vs : List Value} {ns : List Int} (h : IntsAre vs ns) (n : Int) (t : Tok) : IntsAre (vs ++ [.int n t]) (ns ++ [n]) := by
  induction h with
  | nil => exact .cons n t .nil
  | cons k u _ ih => exact .cons k u ih
/-- a block with one test over a list, by what holds of the items still to come, of what is made and of the ledger -/
theorem restT_inv {prog : Program} {w : World} {A : Around} {h₀ : Heap} {L : Addr} {m : Str → Option Value} {env : Env} {ct elt : PySem.Expr} {x : Str} {scope : Scope} {cl : List (Str × Addr)} {s : Shared} {S : Led → Prop} {Fin : List Value → Led → Prop} {vs : List Value}
    (R : List Value → List Value → Led → Prop)
    (turn : ∀ v rest ys news I oI C oC D m₂ (s₁ : Shared) (E' : Value → Shared → Prop), R (v :: rest) ys news → LCg.NsObj oC m₂ → m₂ x = some v → Fr h₀ L s₁.heap m → News h₀ L s₁.heap ((I, oI) :: (C, oC) :: (D, LCg.lst ys) :: news) → LCg.Off3 I C D news → ((@Ne Nat I C) ∧ (@Ne Nat I D) ∧ (@Ne Nat C D)) →
      wpAny (model prog w) A (isTrue ct (compEnvC scope cl C env) (eval ct (compEnvC scope cl C env))) (fun ok s' => if ok = true then
        wpAny (model prog w) A (eval elt (compEnvC scope cl C env)) (LCg.CompEnd h₀ L m s₁ I oI C oC D (LCg.lst ys) S (fun y news' => R rest (ys ++ [y]) news')) E' s'
        else LCg.CompEnd h₀ L m s₁ I oI C oC D (LCg.lst ys) S (fun _ news' => R rest ys news') Value.none s') E' s₁)
    (fin : ∀ ys news, R [] ys news → Fin ys news) :
    ∀ (k i : Nat) (ys : List Value) (news : Led), k = vs.length - i → i ≤ vs.length → R (vs.drop i) ys news → LCt.CompRestT prog w A h₀ L m env ct elt x scope cl s S (fun i v => vs.toArray[i]? = some v) Fin k i ys news
  | 0, i, ys, news, hk, hi, hR => by
    have e : vs.drop i = [] := List.drop_eq_nil_of_le (by omega)
    rw [e] at hR
    exact LCt.CompRestT.zero (fin _ _ hR)
  | k + 1, i, ys, news, hk, hi, hR => by
    refine LCt.CompRestT.succ fun v I oI C oC D m₂ h tk E' hv hC hx F N off ne => ?_
    have hlt : i < vs.length := by omega
    have hv' : vs[i] = v := by
      have q : vs.toArray[i]? = some v := hv
      rw [List.getElem?_toArray, List.getElem?_eq_getElem hlt] at q
      exact Option.some.inj q
    have e : vs.drop i = v :: vs.drop (i + 1) := by rw [← hv']; exact List.drop_eq_getElem_cons hlt
    rw [e] at hR
    refine wpAny_mono (turn v _ ys news I oI C oC D m₂ { s with heap := h, toks := tk } E' hR hC hx F N off ne) (fun ok s' hok => ?_) fun _ _ e => e
    cases ok with
    | true =>
      rw [if_pos rfl] at hok ⊢
      refine wpAny_mono hok (fun y s₂ hy => ?_) fun _ _ e => e
      obtain ⟨h', tk', news', e1, e2, e3, e4, e5, e6⟩ := hy
      exact ⟨h', tk', news', e1, e2, e3, e4, e5, restT_inv R turn fin k (i + 1) _ _ (by omega) hlt e6⟩
    | false =>
      rw [if_neg Bool.false_ne_true] at hok ⊢
      obtain ⟨h', tk', news', e1, e2, e3, e4, e5, e6⟩ := hok
      exact ⟨h', tk', news', e1, e2, e3, e4, e5, restT_inv R turn fin k (i + 1) _ _ (by omega) hlt e6⟩
/-- the same without a test -/
theorem rest_inv {prog : Program} {w : World} {A : Around} {h₀ : Heap} {L : Addr} {m : Str → Option Value} {env : Env} {elt : PySem.Expr} {x : Str} {scope : Scope} {cl : List (Str × Addr)} {s : Shared} {S : Led → Prop} {Fin : List Value → Led → Prop} {vs : List Value}
    (R : List Value → List Value → Led → Prop)
    (turn : ∀ v rest ys news I oI C oC D m₂ (s₁ : Shared) (E' : Value → Shared → Prop), R (v :: rest) ys news → LCg.NsObj oC m₂ → m₂ x = some v → Fr h₀ L s₁.heap m → News h₀ L s₁.heap ((I, oI) :: (C, oC) :: (D, LCg.lst ys) :: news) → LCg.Off3 I C D news → ((@Ne Nat I C) ∧ (@Ne Nat I D) ∧ (@Ne Nat C D)) →
        wpAny (model prog w) A (eval elt (compEnvC scope cl C env)) (LCg.CompEnd h₀ L m s₁ I oI C oC D (LCg.lst ys) S (fun y news' => R rest (ys ++ [y]) news')) E' s₁)
    (fin : ∀ ys news, R [] ys news → Fin ys news) :
    ∀ (k i : Nat) (ys : List Value) (news : Led), k = vs.length - i → i ≤ vs.length → R (vs.drop i) ys news → LCg.CompRest prog w A h₀ L m env elt x scope cl s S (fun i v => vs.toArray[i]? = some v) Fin k i ys news
  | 0, i, ys, news, hk, hi, hR => by
    have e : vs.drop i = [] := List.drop_eq_nil_of_le (by omega)
    rw [e] at hR
    exact LCg.CompRest.zero (fin _ _ hR)
  | k + 1, i, ys, news, hk, hi, hR => by
    refine LCg.CompRest.succ fun v I oI C oC D m₂ h tk E' hv hC hx F N off ne => ?_
    have hlt : i < vs.length := by omega
    have hv' : vs[i] = v := by
      have q : vs.toArray[i]? = some v := hv
      rw [List.getElem?_toArray, List.getElem?_eq_getElem hlt] at q
      exact Option.some.inj q
    have e : vs.drop i = v :: vs.drop (i + 1) := by rw [← hv']; exact List.drop_eq_getElem_cons hlt
    rw [e] at hR
    refine wpAny_mono (turn v _ ys news I oI C oC D m₂ { s with heap := h, toks := tk } E' hR hC hx F N off ne) (fun y s₂ hy => ?_) fun _ _ e => e
    obtain ⟨h', tk', news', e1, e2, e3, e4, e5, e6⟩ := hy
    exact ⟨h', tk', news', e1, e2, e3, e4, e5, rest_inv R turn fin k (i + 1) _ _ (by omega) hlt e6⟩

theorem news_sub {h₀ h : Heap} {L : Addr} {n n' : Led} (N : News h₀ L h n) (hs : ∀ p ∈ n', p ∈ n) : News h₀ L h n' := fun p hp => N p (hs p hp)
theorem news_cons {h₀ h : Heap} {L : Addr} {n n' : Led} {q : Addr × Obj} (N : News h₀ L h n) (hq : q ∈ n) (N' : News h₀ L h n') : News h₀ L h (q :: n') := fun p hp => by
  rcases List.mem_cons.mp hp with rfl | hp
  · exact N _ hq
  · exact N' _ hp
theorem news_app {h₀ h : Heap} {L : Addr} {n n' : Led} (N : News h₀ L h n) (N' : News h₀ L h n') : News h₀ L h (n ++ n') := fun p hp => by
  rcases List.mem_append.mp hp with hp | hp
  · exact N _ hp
  · exact N' _ hp

/-- a block with a test over a list of the ledger; it makes nothing that stays -/
theorem compT_ro {prog : Program} {w : World} {A : Around} {h₀ : Heap} {L : Addr} {m : Str → Option Value} {env : Env} {ct elt : PySem.Expr} {x : Str} {scope : Scope} {cl : List (Str × Addr)} {Fin : Shared → List Value → Led → Prop} {ax : Addr} {vs : List Value} {k : Nat} {news : Led} {s₁ : Shared}
    (R : List Value → List Value → Prop) (hR : R vs []) (hh : A.handled = none) (F : Fr h₀ L s₁.heap m) (N : News h₀ L s₁.heap news) (hm : (ax, PySem.W.listOf vs.toArray k) ∈ news) (hsz : vs.length ≤ sizeLine)
    (turn : ∀ v rest ys I oI C oC D m₂ (s₂ : Shared) (E' : Value → Shared → Prop), R (v :: rest) ys → LCg.NsObj oC m₂ → m₂ x = some v → Fr h₀ L s₂.heap m → News h₀ L s₂.heap ((I, oI) :: (C, oC) :: (D, LCg.lst ys) :: news) → LCg.Off3 I C D news → ((@Ne Nat I C) ∧ (@Ne Nat I D) ∧ (@Ne Nat C D)) →
      LCg.SrcAt h₀ ax vs.toArray news →
      wpAny (model prog w) A (isTrue ct (compEnvC scope cl C env) (eval ct (compEnvC scope cl C env))) (fun ok s' => if ok = true then
        wpAny (model prog w) A (eval elt (compEnvC scope cl C env)) (LCg.CompEnd h₀ L m s₂ I oI C oC D (LCg.lst ys) (LCg.SrcAt h₀ ax vs.toArray) (fun y news' => news' = news ∧ R rest (ys ++ [y]))) E' s'
        else LCg.CompEnd h₀ L m s₂ I oI C oC D (LCg.lst ys) (LCg.SrcAt h₀ ax vs.toArray) (fun _ news' => news' = news ∧ R rest ys) Value.none s') E' s₂)
    (fin : ∀ g ys, R [] ys → Fin { s₁ with heap := g } ys news) : LCt.CompSrcT prog w A h₀ L m env ct elt x scope cl Fin (.ref ax) s₁ := by
  refine LCt.CompSrcT.ledger hh F N hm (by rw [List.size_toArray]; exact hsz) fun g => ?_
  have hS : LCg.SrcAt h₀ ax vs.toArray news := .inr ⟨_, hm, rfl, _, rfl⟩
  refine restT_inv (R := fun rest ys nw => nw = news ∧ R rest ys) ?_ ?_ _ 0 [] news (by simp) (Nat.zero_le _) ⟨rfl, hR⟩
  · rintro v rest ys nw I oI C oC D m₂ s₂ E' ⟨rfl, hR⟩ hC hx F N off ne
    exact turn v rest ys I oI C oC D m₂ s₂ E' hR hC hx F N off ne hS
  · rintro ys nw ⟨rfl, hR⟩
    exact fin g ys hR
/-- the same without a test -/
theorem comp_ro {prog : Program} {w : World} {A : Around} {h₀ : Heap} {L : Addr} {m : Str → Option Value} {env : Env} {elt : PySem.Expr} {x : Str} {scope : Scope} {cl : List (Str × Addr)} {Fin : Shared → List Value → Led → Prop} {ax : Addr} {vs : List Value} {k : Nat} {news : Led} {s₁ : Shared}
    (R : List Value → List Value → Prop) (hR : R vs []) (hh : A.handled = none) (F : Fr h₀ L s₁.heap m) (N : News h₀ L s₁.heap news) (hm : (ax, PySem.W.listOf vs.toArray k) ∈ news) (hsz : vs.length ≤ sizeLine)
    (turn : ∀ v rest ys I oI C oC D m₂ (s₂ : Shared) (E' : Value → Shared → Prop), R (v :: rest) ys → LCg.NsObj oC m₂ → m₂ x = some v → Fr h₀ L s₂.heap m → News h₀ L s₂.heap ((I, oI) :: (C, oC) :: (D, LCg.lst ys) :: news) → LCg.Off3 I C D news → ((@Ne Nat I C) ∧ (@Ne Nat I D) ∧ (@Ne Nat C D)) →
      LCg.SrcAt h₀ ax vs.toArray news →
        wpAny (model prog w) A (eval elt (compEnvC scope cl C env)) (LCg.CompEnd h₀ L m s₂ I oI C oC D (LCg.lst ys) (LCg.SrcAt h₀ ax vs.toArray) (fun y news' => news' = news ∧ R rest (ys ++ [y]))) E' s₂)
    (fin : ∀ g ys, R [] ys → Fin { s₁ with heap := g } ys news) : LCg.CompSrc prog w A h₀ L m env elt x scope cl Fin (.ref ax) s₁ := by
  refine LCg.CompSrc.ledger hh F N hm (by rw [List.size_toArray]; exact hsz) fun g => ?_
  have hS : LCg.SrcAt h₀ ax vs.toArray news := .inr ⟨_, hm, rfl, _, rfl⟩
  refine rest_inv (R := fun rest ys nw => nw = news ∧ R rest ys) ?_ ?_ _ 0 [] news (by simp) (Nat.zero_le _) ⟨rfl, hR⟩
  · rintro v rest ys nw I oI C oC D m₂ s₂ E' ⟨rfl, hR⟩ hC hx F N off ne
    exact turn v rest ys I oI C oC D m₂ s₂ E' hR hC hx F N off ne hS
  · rintro ys nw ⟨rfl, hR⟩
    exact fin g ys hR
/-- a block that makes objects (they stand ahead in the ledger) -/
theorem comp_new {prog : Program} {w : World} {A : Around} {h₀ : Heap} {L : Addr} {m : Str → Option Value} {env : Env} {elt : PySem.Expr} {x : Str} {scope : Scope} {cl : List (Str × Addr)} {Fin : Shared → List Value → Led → Prop} {ax : Addr} {vs : List Value} {k : Nat} {news : Led} {s₁ : Shared}
    (R : List Value → List Value → Led → Prop) (hR : R vs [] []) (hh : A.handled = none) (F : Fr h₀ L s₁.heap m) (N : News h₀ L s₁.heap news) (hm : (ax, PySem.W.listOf vs.toArray k) ∈ news) (hsz : vs.length ≤ sizeLine)
    (turn : ∀ v rest ys tl I oI C oC D m₂ (s₂ : Shared) (E' : Value → Shared → Prop), R (v :: rest) ys tl → LCg.NsObj oC m₂ → m₂ x = some v → Fr h₀ L s₂.heap m → News h₀ L s₂.heap ((I, oI) :: (C, oC) :: (D, LCg.lst ys) :: (tl ++ news)) → LCg.Off3 I C D (tl ++ news) → ((@Ne Nat I C) ∧ (@Ne Nat I D) ∧ (@Ne Nat C D)) →
      (∀ tl', LCg.SrcAt h₀ ax vs.toArray (tl' ++ news)) →
        wpAny (model prog w) A (eval elt (compEnvC scope cl C env)) (LCg.CompEnd h₀ L m s₂ I oI C oC D (LCg.lst ys) (LCg.SrcAt h₀ ax vs.toArray) (fun y news' => ∃ tl', news' = tl' ++ news ∧ R rest (ys ++ [y]) tl')) E' s₂)
    (fin : ∀ g ys tl, R [] ys tl → Fin { s₁ with heap := g } ys (tl ++ news)) : LCg.CompSrc prog w A h₀ L m env elt x scope cl Fin (.ref ax) s₁ := by
  refine LCg.CompSrc.ledger hh F N hm (by rw [List.size_toArray]; exact hsz) fun g => ?_
  have hS : ∀ tl, LCg.SrcAt h₀ ax vs.toArray (tl ++ news) := fun tl => .inr ⟨_, List.mem_append_right _ hm, rfl, _, rfl⟩
  refine rest_inv (R := fun rest ys nw => ∃ tl, nw = tl ++ news ∧ R rest ys tl) ?_ ?_ _ 0 [] news (by simp) (Nat.zero_le _) ⟨[], rfl, hR⟩
  · rintro v rest ys nw I oI C oC D m₂ s₂ E' ⟨tl, rfl, hR⟩ hC hx F N off ne
    exact turn v rest ys tl I oI C oC D m₂ s₂ E' hR hC hx F N off ne hS
  · rintro ys nw ⟨tl, rfl, hR⟩
    exact fin g ys tl hR
theorem add_ledger {prog : Program} {w : World} {A : Around} {E : Value → Shared → Prop} {s : Shared} {h₀ : Heap} {L : Addr} {m : Str → Option Value} {news : Led} {l b : Addr} {vs ws : List Value} {k1 k2 : Nat} {Q : Value → Shared → Prop}
    (F : Fr h₀ L s.heap m) (N : News h₀ L s.heap news) (ha : (l, PySem.W.listOf vs.toArray k1) ∈ news) (hb : (b, PySem.W.listOf ws.toArray k2) ∈ news) (hsz : vs.length + ws.length ≤ 1000)
    (h : ∀ D h', Fr h₀ L h' m → News h₀ L h' ((D, PySem.W.listOf (vs ++ ws).toArray 0) :: news) → (∀ p ∈ news, p.1 < D) → Q (.ref D) { s with heap := h' }) :
    wpAny (model prog w) A (binaryOp .Add (.ref l) (.ref b)) Q E s :=
  add_lists F N ⟨_, (N _ ha).1, rfl, _, rfl⟩ ⟨_, (N _ hb).1, rfl, _, rfl⟩ (fun h' F' N' => h _ h' F' N' fun p hp => Heap.lt_size (N p hp).1) (by rw [sizeLine_eq]; omega)
theorem tuple_ledger {prog : Program} {w : World} {A : Around} {E : Value → Shared → Prop} {s : Shared} {h₀ : Heap} {L : Addr} {m : Str → Option Value} {news : Led} {l : Addr} {vs : List Value} {k1 : Nat} {Q : Value → Shared → Prop}
    (F : Fr h₀ L s.heap m) (N : News h₀ L s.heap news) (ha : (l, PySem.W.listOf vs.toArray k1) ∈ news) (hsz : vs.length ≤ 1000)
    (h : ∀ D h', Fr h₀ L h' m → News h₀ L h' ((D, ({ cls := .type "tuple", data := .seq vs.toArray } : Obj)) :: news) → (∀ p ∈ news, p.1 < D) → Q (.ref D) { s with heap := h' }) :
    wpAny (model prog w) A (call (.type "tuple") [.ref l]) Q E s :=
  kde_tupleOf F N ⟨_, (N _ ha).1, rfl, _, rfl⟩ (by rw [List.size_toArray]; omega) (zs := vs) (by simp) fun D h' F' N' l1 => h D h' F' N' l1
def srt (l : List Int) : List Int := l.mergeSort (fun a b => decide (a ≤ b))
theorem srt_perm (l : List Int) : (srt l).Perm l := List.mergeSort_perm ..
theorem srt_sorted (l : List Int) : (srt l).Pairwise (· ≤ ·) := by
  have h := List.pairwise_mergeSort (le := fun a b : Int => decide (a ≤ b)) (by intro a b c; simp only [decide_eq_true_eq]; omega) (by intro a b; simp only [Bool.or_eq_true, decide_eq_true_eq]; omega) l
  exact h.imp (by intro a b; simp)
theorem srt_of {l k : List Int} (hp : k.Perm l) (ho : k.Pairwise (· ≤ ·)) : k = srt l := ksm_same (hp.trans (srt_perm l).symm) ho (srt_sorted l)
theorem sorted_ledger {prog : Program} {w : World} {A : Around} {E : Value → Shared → Prop} {s : Shared} {h₀ : Heap} {L : Addr} {m : Str → Option Value} {news : Led} {l : Addr} {vs : List Value} {ns : List Int} {k1 : Nat} {Q : Value → Shared → Prop}
    (F : Fr h₀ L s.heap m) (N : News h₀ L s.heap news) (ha : (l, PySem.W.listOf vs.toArray k1) ∈ news) (hi : IntsAre vs ns) (hsz : vs.length < 64)
    (h : ∀ D h' vs' c, Fr h₀ L h' m → News h₀ L h' ((D, PySem.W.listOf vs'.toArray c) :: news) → (∀ p ∈ news, p.1 < D) → IntsAre vs' (srt ns) → vs'.length = vs.length → Q (.ref D) { s with heap := h' }) :
    wpAny (model prog w) A (call (.builtin "sorted") [.ref l]) Q E s :=
  kso_sorted F N ⟨_, (N _ ha).1, rfl, _, rfl⟩ hi (by rw [← hi.length]; exact hsz) fun D vs' ns' c h' F' N' l1 i' e' p' o' _ => h D h' vs' c F' N' l1 (srt_of p' o' ▸ i') (by rw [i'.length, e', hi.length])
theorem updF_app {d : Addr} {o : Obj} {r : Led} {g : Obj → Led} : ∀ {l : Led}, (∀ p ∈ l, p.1 ≠ d) → UpdF d o r g → UpdF d o (l ++ r) (fun o' => l ++ g o')
  | [], _, u => u
  | q :: l, h, u => UpdF.tail (h q (List.mem_cons_self ..)) (updF_app (fun p hp => h p (List.mem_cons_of_mem _ hp)) u)
theorem lt_of_fresh {tl news : Led} {d : Addr} {o : Obj} (h : ∀ q ∈ news, ∀ p ∈ tl, q.1 < p.1) (hm : (d, o) ∈ news) {p : Addr × Obj} (hp : p ∈ tl) : d < p.1 := h _ hm p hp
theorem off_lt {d : Addr} {l : Led} (h : AllLt d l) : ∀ p ∈ l, p.1 ≠ d := fun p hp => Nat.ne_of_lt (ktn_ltOf h p hp)
theorem extend_ledger {prog : Program} {w : World} {A : Around} {E : Value → Shared → Prop} {s : Shared} {h₀ : Heap} {L : Addr} {m : Str → Option Value} {news : Led} {g : Obj → Led} {D b : Addr} {xs ys : List Value} {n n2 : Nat} {Q : Value → Shared → Prop}
    (F : Fr h₀ L s.heap m) (N : News h₀ L s.heap news) (U : UpdF D (PySem.W.listOf xs.toArray n) news g) (hb : (b, PySem.W.listOf ys.toArray n2) ∈ news) (hsz : xs.length + ys.length ≤ 1000)
    (h : ∀ h' n', Fr h₀ L h' m → News h₀ L h' (g (PySem.W.listOf (xs ++ ys).toArray n')) → Q .none { s with heap := h' }) : wpAny (model prog w) A (call (.builtin "list.extend") [.ref D, .ref b]) Q E s := by
  obtain ⟨pre, post, rfl, hg, a, c⟩ := U.split
  exact extend_in F N a c (N _ hb).1 (fun h' n' F' N' => h h' n' F' (by rw [hg]; exact N')) (by rw [sizeLine_eq, List.size_toArray]; omega)
/-- the ledger without one entry -/
inductive Rm (I : Addr) (it : Obj) : Led → Led → Prop
  | head {r : Led} : (∀ p ∈ r, p.1 ≠ I) → Rm I it ((I, it) :: r) r
  | tail {p : Addr × Obj} {r r' : Led} : p.1 ≠ I → Rm I it r r' → Rm I it (p :: r) (p :: r')
  | app {l r r' : Led} : (∀ p ∈ l, p.1 ≠ I) → Rm I it r r' → Rm I it (l ++ r) (l ++ r')
theorem Rm.spec {I : Addr} {it : Obj} {r r' : Led} (h : Rm I it r r') : (I, it) ∈ r ∧ ∀ p ∈ r', p ∈ r ∧ p.1 ≠ I := by
  induction h with
  | head ho => exact ⟨List.mem_cons_self .., fun p hp => ⟨List.mem_cons_of_mem _ hp, ho p hp⟩⟩
  | tail hne _ ih =>
    refine ⟨List.mem_cons_of_mem _ ih.1, fun p hp => ?_⟩
    rcases List.mem_cons.mp hp with rfl | hp
    · exact ⟨List.mem_cons_self .., hne⟩
    · exact ⟨List.mem_cons_of_mem _ (ih.2 p hp).1, (ih.2 p hp).2⟩
  | app ho _ ih =>
    refine ⟨List.mem_append_right _ ih.1, fun p hp => ?_⟩
    rcases List.mem_append.mp hp with hp | hp
    · exact ⟨List.mem_append_left _ hp, ho p hp⟩
    · exact ⟨List.mem_append_right _ (ih.2 p hp).1, (ih.2 p hp).2⟩
theorem unrEnd_rm {h₀ : Heap} {L I : Addr} {it : Obj} {rest : (Str → Option Value) → Led → Prop} {s₁ : Shared} {h' : Heap} {tk : Nat} {m' : Str → Option Value} {all news' : Led} (F : Fr h₀ L h' m') (N : News h₀ L h' all) (R : Rm I it all news') (r : rest m' news') :
    UnrEnd h₀ L s₁ I it rest { s₁ with heap := h', toks := tk } :=
  UnrEnd.intro F N news' (fun p hp => by
    rcases List.mem_cons.mp hp with rfl | hp
    · exact R.spec.1
    · exact (R.spec.2 p hp).1) (fun p hp => (R.spec.2 p hp).2) r
theorem off_sub {d : Addr} {l r : Led} (h : AllLt d l) (hs : ∀ p ∈ r, p ∈ l) : ∀ p ∈ r, p.1 ≠ d := fun p hp => Nat.ne_of_lt (ktn_ltOf h p (hs p hp))
theorem lt_of_all {a d : Addr} {o : Obj} {l : Led} (h : ∀ p ∈ l, p.1 < a) (hm : (d, o) ∈ l) : @LT.lt Nat _ d a := h _ hm
theorem lt_of_allLt {a d : Addr} {o : Obj} {l : Led} (h : AllLt a l) (hm : (d, o) ∈ l) : @LT.lt Nat _ d a := ktn_ltOf h _ hm
theorem ne_of_all {a d : Addr} {o : Obj} {l : Led} (h : ∀ p ∈ l, p.1 < a) (hm : (d, o) ∈ l) : d ≠ a := Nat.ne_of_lt (h _ hm)
theorem ne_of_off {a d : Addr} {o : Obj} {l : Led} (h : ∀ p ∈ l, p.1 ≠ a) (hm : (d, o) ∈ l) : d ≠ a := h _ hm
theorem off_fresh {tl l : Led} {d : Addr} {o : Obj} (h : ∀ q ∈ l, ∀ p ∈ tl, q.1 < p.1) (hm : (d, o) ∈ l) : ∀ p ∈ tl, p.1 ≠ d := fun p hp => Nat.ne_of_gt (h _ hm p hp)
theorem off_older {d : Addr} {l r : Led} (h : ∀ p ∈ l, p.1 < d) (hs : ∀ p ∈ r, p ∈ l) : ∀ p ∈ r, p.1 ≠ d := fun p hp => Nat.ne_of_lt (h p (hs p hp))
theorem off_of_off1 {D : Addr} : ∀ {l : Led}, LCg.Off1 D l → ∀ p ∈ l, p.1 ≠ D
  | [], _, _, h => nomatch h
  | q :: l, h, p, hp => by
    rcases List.mem_cons.mp hp with rfl | hp
    · exact h.1
    · exact off_of_off1 h.2 p hp
end Mine
theorem Mine.sayP0x9 : True := by
  (k_with "zP0x1" => (first | assumption | exact Mine.IfcIn.mono (by assumption) (by ktd_sub)))
  (k_with "zP0x2" => ((k_here; k_dflt (refine' Mine.add_ledger ?qF ?qN ?qa ?qb ?qz ?_; (case qF | qN => k_asm); (case qa | qb => k_mem); (case qz => walk_at "ml")); intro qD' qh' qF' qN' ql1; (try k_lt ql1))))
  (k_with "zP0x3" => ((k_here; k_dflt (refine' Mine.tuple_ledger ?qF ?qN ?qa ?qz ?_; (case qF | qN => k_asm); (case qa => k_mem); (case qz => walk_at "ml")); intro qD' qh' qF' qN' ql1; (try k_lt ql1))))
  (k_with "zP0x4" => ((k_here; k_dflt (refine' Mine.sorted_ledger ?qF ?qN ?qa ?qi ?qz ?_; (case qF | qN => k_asm); (case qa => k_mem); (case qi => first | assumption | exact Mine.ints_snoc (by assumption) _ _); (case qz => walk_at "ml")); intro qD' qh' qv' qc' qF' qN' ql1 qi' qe'; (try k_lt ql1); (try simp only [List.length_cons, List.length_nil, List.length_append, List.length_map] at qe'))))
  (k_with "zP0x5" => (first | (refine' UpdF.head ?qa; (case qa => k_all)) | (refine' UpdF.tail ?qa ?qb; (case qa => k_ne); (case qb => k_updF)) | (refine' Mine.updF_app ?qa ?qb; (case qa => k_all); (case qb => k_updF))))
  (k_with "zP0x6" => ((k_here; k_dflt (refine' Mine.extend_ledger ?qF ?qN ?qU ?qb ?qz ?_; (case qF | qN => k_asm); (case qb => k_mem); (case qU => k_updF); (case qz => walk_at "ml")); intro qh' qn' qF' qN'; (try dsimp only at qN'))))
  (k_with "zP0x7" => (first | (refine' Mine.Rm.head ?qa; (case qa => k_all)) | (refine' Mine.Rm.tail ?qa ?qb; (case qa => k_ne); (case qb => kba_ints)) | (refine' Mine.Rm.app ?qa ?qb; (case qa => k_all); (case qb => kba_ints))))
  (k_with "zP0x8" => ((k_dflt (refine' Mine.unrEnd_rm ?qF ?qN ?qR ⟨?qm, ?_⟩; (case qF | qN => k_asm); (case qR => kba_ints); (case qm => k_mem)))))
  (k_with "zP0x9" => ((k_here; (with_reducible show wpAny _ _ (pyIter (Value.ref _)) (fun it s₂ => LoopAtV _ _ _ _ _ _ _ _ _ it s₂) _ _); k_dflt (refine' iter_listUnr ?qh ?qF ?qN ?qm ?qc ?qd ?_; (case qh => with_unfolding_all rfl); (case qF | qN => k_asm); (case qm => k_mem); (case qc | qd => rfl)); intro qi' ql1; (try k_lt ql1))))
  trivial
local macro_rules | `(tactic| walk_at "mi") => `(tactic| k_extra "zP0x1")
local macro_rules | `(tactic| walk_at "binaryOp Add ref ref") => `(tactic| k_extra "zP0x2")
local macro_rules | `(tactic| walk_at "call type:tuple") => `(tactic| k_extra "zP0x3")
local macro_rules | `(tactic| walk_at "call builtin:sorted") => `(tactic| k_extra "zP0x4")
local macro_rules | `(tactic| k_updF) => `(tactic| k_extra "zP0x5")
local macro_rules | `(tactic| walk_at "call builtin:list.extend") => `(tactic| k_extra "zP0x6")
local macro_rules | `(tactic| kba_ints) => `(tactic| k_extra "zP0x7")
local macro_rules | `(tactic| walk_at "UnrEnd") => `(tactic| k_extra "zP0x8")
local macro_rules | `(tactic| walk_at "pyIter ref") => `(tactic| k_extra "zP0x9")

theorem Mine.calmP1 : True := by
  w_top off
  trivial
namespace Mine
def shared (k : Str) : Bool := [Str.ofString "broadcast", Str.ofString "nbma"].any (fun x => x == k)
def isFull (n : Nb) : Bool := n.st == Str.ofString "full"
def fullN (ns : List Nb) : List Nb := ns.filter isFull
theorem fullN_pos {n : Nb} {ns : List Nb} (h : (n.st == Str.ofString "full") = true) : fullN (n :: ns) = n :: fullN ns := List.filter_cons_of_pos (p := isFull) h
theorem fullN_neg {n : Nb} {ns : List Nb} (h : (n.st == Str.ofString "full") = false) : fullN (n :: ns) = fullN ns := List.filter_cons_of_neg (p := isFull) (by unfold isFull; rw [h]; decide)
def fullR (ns : List Nb) : List Int := srt ((fullN ns).map (·.r))

theorem fullR_len (ns : List Nb) : (fullR ns).length ≤ ns.length := by
  rw [fullR, (srt_perm _).length_eq, List.length_map]
  exact List.length_filter_le _ _
theorem full_routers_ok {w : World} {mean : ExcName → Option Value} {mg mb : Str → Option Value} {loose : List Str} {dp un : Nat} {gd : Option (List Code)} {cn : Str} {cs : Scope} {L a : Addr} {ccd : Value} {cl : List (Str × Addr)} {outer : List Env}
   {A₀ : Around} {base h₀ : Heap} {m : Str → Option Value} {news : Led} {s : Shared} {Q E : Value → Shared → Prop} {v : Value} {d : Ifc}
   (B : Below A₀ base outer h₀) (F : Fr h₀ L s.heap m) (X : (Mine.hd.heap_39 w.params).In h₀) (N : News h₀ L s.heap news) (T : Top Mine.hd.view_39 loose mean mg mb h₀) (hk : cs.kind = .function)
   (hd1 : dp + 10 < recursionLimit) (hu1 : un + 200 < cLine) (hI : IfcIn w news v d)
   (ret : ∀ l h' tk' vs' k', Fr h₀ L h' m → News h₀ L h' ((l, PySem.W.listOf vs'.toArray k') :: news) → (∀ p ∈ news, p.1 < l) → IntsAre vs' (fullR d.nbs) → vs'.length ≤ 2 → Q (.ref l) { s with heap := h', toks := tk' }) :
   wpAny (model PySem.Challenge.rw_rh0194_01.row.prog w) (ktrTop dp un gd cn cs L a ccd cl outer) (call (.ref 41) [v]) Q E s := by
  revert X; k_fill; intro X
  cases hI with | mk hm hdic hml hnb hz =>
  refine wpAny_call ?_
  k_dflt ktr_enter
  (repeat' kat_tups)
  refine compT_ro (R := fun rest ys => ∃ ds ns, NbAll w news rest ds ∧ IntsAre ys ns ∧ ns ++ (fullN ds).map (·.r) = (fullN d.nbs).map (·.r)) ⟨_, [], hnb, .nil, rfl⟩ (by rfl) (by k_asm) (by k_asm) hml (by rw [sizeLine_eq, hnb.length]; omega) ?turn ?fin
  case turn =>
    rintro v' rest' ys' I' oI' C' oC' D' m' s' E' ⟨ds, ns, hds, hns, he⟩ hC' hx' F' N' off' ne' hS'
    cases hds with | cons hnb1 hrest =>
    cases hnb1 with | mk hm1 hd1 =>
    (repeat' kat_tups)
    · rename_i hc
      exact LCg.CompEnd.intro (by assumption) (by assumption) _ (fun _ h => h) off' hS' ⟨rfl, _, _, hrest, ints_snoc hns _ _, by rw [← he, fullN_pos hc, List.map_cons, List.append_assoc]; rfl⟩
    · rename_i hc
      exact LCg.CompEnd.intro (by assumption) (by assumption) _ (fun _ h => h) off' hS' ⟨rfl, _, _, hrest, hns, by rw [← he, fullN_neg hc]⟩
  case fin =>
    rintro g9 ys ⟨ds, ns, hds, hns, he⟩
    cases hds
    rw [fullN, List.filter_nil, List.map_nil, List.append_nil] at he
    intro D' h' tk' F' N' o1'
    have hlen : ys.length < 64 := by
      rw [hns.length, he, List.length_map]
      exact Nat.lt_of_le_of_lt (Nat.le_trans (List.length_filter_le _ _) hz) (by decide)
    (repeat' kat_tups)
    (rename IntsAre _ _ => i2)
    (rename List.length _ = List.length ys => e2)
    (rename (_ ∧ AllLt _ _) => l2)
    (rename News _ _ _ _ => kN)
    exact ret _ _ _ _ _ (by assumption) (news_cons kN (by k_mem) (news_sub kN (by ktd_sub))) (fun p hp => ktn_ltOf l2.2 p hp) (by rw [he] at i2; exact i2) (by rw [e2, hns.length, he, List.length_map]; exact Nat.le_trans (List.length_filter_le _ _) hz)
end Mine
theorem Mine.sayP1x1 : True := by
  (k_with "zP1x1" => ((k_here; k_dflt (refine' Mine.full_routers_ok ?qB ?qF ?qX ?qN ?qT ?qhk ?qhd1 ?qhu1 ?qhI ?_; walk_at "mb"; (case qhI => walk_at "mi")); intro ql' qh' qtk' qvs' qk' qF' qN' ql1' qi' qz'; (try k_lt ql1'); (try dsimp only))))
  trivial
local macro_rules | `(tactic| walk_at "call ref cons nil") => `(tactic| k_extra "zP1x1")

theorem Mine.calmP9 : True := by
  w_top off
  trivial
namespace Mine
theorem isList_led {h₀ h : Heap} {L : Addr} {news : Led} {p : Addr} {items : Array Value} {k : Nat} (N : News h₀ L h news) (hp : (p, PySem.W.listOf items k) ∈ news) : h.IsList p items := ⟨_, (N _ hp).1, rfl, _, rfl⟩
section
variable {w : World} {A : Around} {E : Value → Shared → Prop} {s : Shared} {h₀ : Heap} {L p : Addr} {news : Led} {x y : Value} {k : Nat} {u : Tok} {value slice : PySem.Expr} {Q : Value → Shared → Prop}
theorem pool_0 (N : News h₀ L s.heap news) (hp : (p, PySem.W.listOf #[x, y] k) ∈ news) (h : Q x s)
    (hs : subscripted slice false (.ref p) (.int 0 u) = operate [.ref p, .int 0 u] (getItem (.ref p) (.int 0 u)) := by with_unfolding_all rfl) (hg : ∀ r, letTemporaryGo value (.ref p) r = pure () := by intro _; with_unfolding_all rfl) :
    wpAny (model PySem.Challenge.rw_rh0194_01.row.prog w) A (subscriptTail value slice (.ref p) (.int 0 u)) Q E s := item_list (isList_led N hp) (by decide) (by decide) rfl h hs hg
theorem pool_1 (N : News h₀ L s.heap news) (hp : (p, PySem.W.listOf #[x, y] k) ∈ news) (h : Q y s)
    (hs : subscripted slice false (.ref p) (.int 1 u) = operate [.ref p, .int 1 u] (getItem (.ref p) (.int 1 u)) := by with_unfolding_all rfl) (hg : ∀ r, letTemporaryGo value (.ref p) r = pure () := by intro _; with_unfolding_all rfl) :
    wpAny (model PySem.Challenge.rw_rh0194_01.row.prog w) A (subscriptTail value slice (.ref p) (.int 1 u)) Q E s := item_list (isList_led N hp) (by decide) (by decide) rfl h hs hg
theorem len_led {E : Value → Shared → Prop} {l : Addr} {vs : List Value} (N : News h₀ L s.heap news) (hp : (l, PySem.W.listOf vs.toArray k) ∈ news) (hz : vs.length ≤ 1000)
    (h : Q (.int vs.length (s.toks + 1)) { s with toks := s.toks + 1 + 1 }) : wpAny (model PySem.Challenge.rw_rh0194_01.row.prog w) A (call (.builtin "len") [.ref l]) Q E s :=
  len_list (isList_led N hp) (by rw [List.size_toArray]; omega) (by rw [List.size_toArray]; exact h)
theorem pool_set {E : Value → Shared → Prop} {m : Str → Option Value} {post : Led} {v : Value} {Q : Unit → Shared → Prop} (F : Fr h₀ L s.heap m) (N : News h₀ L s.heap ((p, PySem.W.listOf #[x, y] k) :: post)) (hc : ∀ q ∈ post, q.1 ≠ p)
    (h : ∀ h', Fr h₀ L h' m → News h₀ L h' ((p, PySem.W.listOf #[x, v] k) :: post) → Q () { s with heap := h' }) :
    wpAny (model PySem.Challenge.rw_rh0194_01.row.prog w) A (setItem (.ref p) (.int 1 u) v) Q E s := by
  have z := N (p, PySem.W.listOf #[x, y] k) (.head _)
  exact ki_setAt z.1 (by decide) (by decide) (by show (1 : Int) < 2; decide) (h _ (F.change (Heap.SameBut.update ..) z.2.1 z.2.2) (ki_turn (pre := []) _ N (fun _ h => nomatch h) hc rfl (by simp)))
end
end Mine
theorem Mine.sayP9x2 : True := by
  (k_with "zP9x1" => ((k_here; k_dflt (refine' Mine.len_led ?qN ?qm ?qz ?_; (case qN => k_asm); (case qm => k_mem); (case qz => omega)))))
  (k_with "zP9x2" => ((k_here; (with_reducible show wpAny _ _ (setItem (Value.ref _) (Value.int 1 _) _) _ _ _); k_dflt (refine' Mine.pool_set ?qF ?qN ?qb ?_; (case qF | qN => k_asm); (case qb => assumption)); intro qh' qF' qN')))
  trivial
local macro_rules | `(tactic| walk_at "call builtin:len cons nil") => `(tactic| k_extra "zP9x1")
local macro_rules | `(tactic| walk_at "setItem ref int") => `(tactic| k_extra "zP9x2")
section PoolLines
theorem Mine.sayP9x4 : True := by
  (k_with "zP9x3" => ((k_here; (with_reducible show wpAny _ _ (subscriptTail _ _ (Value.ref _) (Value.int 0 _)) _ _ _); k_dflt (refine' Mine.pool_0 ?qN ?qm ?_ ?qs ?qg; (case qN => k_asm); (case qm => k_mem); (case qs => (with_unfolding_all rfl)); (case qg => (intro _; with_unfolding_all rfl))))))
  (k_with "zP9x4" => ((k_here; (with_reducible show wpAny _ _ (subscriptTail _ _ (Value.ref _) (Value.int 1 _)) _ _ _); k_dflt (refine' Mine.pool_1 ?qN ?qm ?_ ?qs ?qg; (case qN => k_asm); (case qm => k_mem); (case qs => (with_unfolding_all rfl)); (case qg => (intro _; with_unfolding_all rfl))))))
  trivial
local macro_rules | `(tactic| walk_at "subscriptTail Name Constant ref int") => `(tactic| k_extra "zP9x3")
local macro_rules | `(tactic| walk_at "subscriptTail Name Constant ref int") => `(tactic| k_extra "zP9x4")
namespace Mine
theorem draw_core {w : World} {mean : ExcName → Option Value} {mg mb : Str → Option Value} {loose : List Str} {dp un : Nat} {gd : Option (List Code)} {cn : Str} {cs : Scope} {L a : Addr} {ccd : Value} {cl : List (Str × Addr)} {outer : List Env}
   {A₀ : Around} {base h₀ : Heap} {m : Str → Option Value} {rest : Led} {s : Shared} {Q E : Value → Shared → Prop} {p l : Addr} {vs : List Value} {ns : List Int} {spot : Int} {ts tm : Tok} {k1 k2 : Nat} {many : Int}
   (B : Below A₀ base outer h₀) (F : Fr h₀ L s.heap m) (X : (Mine.hd.heap_39 w.params).In h₀) (N : News h₀ L s.heap ((p, PySem.W.listOf #[.ref l, .int spot ts] k2) :: rest)) (T : Top Mine.hd.view_39 loose mean mg mb h₀) (hk : cs.kind = .function)
   (hd1 : dp + 20 < recursionLimit) (hu1 : un + 200 < cLine) (hl : (l, PySem.W.listOf vs.toArray k1) ∈ rest) (hc : ∀ q ∈ rest, q.1 ≠ p) (hi : IntsAre vs ns) (hz : vs.length ≤ 64) (hs0 : 0 ≤ spot) (hs1 : spot ≤ 100) (hm : 0 < many)
   (ret : ∀ d t h' tk' t3, Fr h₀ L h' m → News h₀ L h' ((p, PySem.W.listOf #[.ref l, .int (spot + 1) t3] k2) :: rest) → 0 ≤ d → d < many → Q (.int d t) { s with heap := h', toks := tk' }) :
   wpAny (model PySem.Challenge.rw_rh0194_01.row.prog w) (ktrTop dp un gd cn cs L a ccd cl outer) (call (.ref 77) [.ref p, .int many tm]) Q E s := by
  revert X; k_fill; intro X
  (repeat' kat_tups)
  all_goals exact ret _ _ _ _ _ (by k_asm) (by k_asm) (Int.fmod_nonneg_of_pos _ hm) (Int.fmod_lt_of_pos _ hm)
end Mine
end PoolLines
namespace Mine
theorem mem_rest {l p : Addr} {vs : List Value} {k1 : Nat} {pre post : Led} (h : ∀ o : Obj, (l, PySem.W.listOf vs.toArray k1) ∈ pre ++ (p, o) :: post) : (l, PySem.W.listOf vs.toArray k1) ∈ pre ++ post := by
  rcases List.mem_append.mp (h (PySem.W.listOf #[] (k1 + 1))) with q | q
  · exact List.mem_append_left _ q
  · rcases List.mem_cons.mp q with q | q
    · simp only [Prod.mk.injEq, Obj.mk.injEq, Data.seq.injEq] at q
      omega
    · exact List.mem_append_right _ q
theorem law_draw_ok {w : World} {mean : ExcName → Option Value} {mg mb : Str → Option Value} {loose : List Str} {dp un : Nat} {gd : Option (List Code)} {cn : Str} {cs : Scope} {L a : Addr} {ccd : Value} {cl : List (Str × Addr)} {outer : List Env}
   {A₀ : Around} {base h₀ : Heap} {m : Str → Option Value} {news : Led} {g : Obj → Led} {s : Shared} {Q E : Value → Shared → Prop} {p l : Addr} {vs : List Value} {ns : List Int} {spot : Int} {ts tm : Tok} {k1 k2 : Nat} {many : Int}
   (B : Below A₀ base outer h₀) (F : Fr h₀ L s.heap m) (X : (Mine.hd.heap_39 w.params).In h₀) (N : News h₀ L s.heap news) (T : Top Mine.hd.view_39 loose mean mg mb h₀) (hk : cs.kind = .function)
   (hd1 : dp + 20 < recursionLimit) (hu1 : un + 200 < cLine) (U : UpdF p (PySem.W.listOf #[.ref l, .int spot ts] k2) news g) (hl : ∀ o, (l, PySem.W.listOf vs.toArray k1) ∈ g o) (hi : IntsAre vs ns) (hz : vs.length ≤ 64) (hs0 : 0 ≤ spot) (hs1 : spot ≤ 100) (hm : 0 < many)
   (ret : ∀ d t h' tk' t3, Fr h₀ L h' m → News h₀ L h' (g (PySem.W.listOf #[.ref l, .int (spot + 1) t3] k2)) → 0 ≤ d → d < many → Q (.int d t) { s with heap := h', toks := tk' }) :
   wpAny (model PySem.Challenge.rw_rh0194_01.row.prog w) (ktrTop dp un gd cn cs L a ccd cl outer) (call (.ref 77) [.ref p, .int many tm]) Q E s := by
  obtain ⟨pre, post, rfl, hg, ha, hc⟩ := U.split
  have hl' : (l, PySem.W.listOf vs.toArray k1) ∈ pre ++ post := mem_rest fun o => hg o ▸ hl o
  refine draw_core (rest := pre ++ post) (ts := ts) (k2 := k2) B F X (news_sub N fun q hq => ?_) T hk hd1 hu1 hl' (fun q hq => ?_) hi hz hs0 hs1 hm fun d t h' tk' t3 F' N' d0 d1 => ret d t h' tk' t3 F' ?_ d0 d1
  · rcases List.mem_cons.mp hq with rfl | hq
    · exact List.mem_append_right _ (.head _)
    · rcases List.mem_append.mp hq with hq | hq
      · exact List.mem_append_left _ hq
      · exact List.mem_append_right _ (.tail _ hq)
  · rcases List.mem_append.mp hq with hq | hq
    · exact ha q hq
    · exact hc q hq
  · rw [hg]
    refine news_sub N' fun q hq => ?_
    rcases List.mem_append.mp hq with hq | hq
    · exact .tail _ (List.mem_append_left _ hq)
    · rcases List.mem_cons.mp hq with rfl | hq
      · exact .head _
      · exact .tail _ (List.mem_append_right _ hq)
end Mine
theorem Mine.sayP9x5 : True := by
  (k_with "zP9x5" => ((k_here; k_dflt (refine' Mine.law_draw_ok ?qB ?qF ?qX ?qN ?qT ?qhk ?qhd1 ?qhu1 ?qU ?qhl ?qhi ?qhz ?qhs0 ?qhs1 ?qhm ?_; walk_at "mb"; (case qU => k_updF); (case qhl => (intro qo'; (try dsimp only); k_mem)); (case qhi => assumption); (case qhz => first | assumption | omega); (case qhs0 | qhs1 => omega); (case qhm => first | decide | omega)); intro qd' qt' qh' qtk' qt3' qF' qN' qd0' qd1'; (try dsimp only at qN'); (try dsimp only))))
  trivial
local macro_rules | `(tactic| walk_at "call ref cons nil") => `(tactic| k_extra "zP9x5")

theorem Mine.calmP10 : True := by
  w_top off
  trivial
namespace Mine
theorem menu_led {w : World} {A : Around} {E : Value → Shared → Prop} {s : Shared} {h₀ : Heap} {L l : Addr} {news : Led} {vs : List Value} {ws : List Str} {k : Nat} {i : Int} {u : Tok} {value slice : PySem.Expr} {Q : Value → Shared → Prop}
    (N : News h₀ L s.heap news) (hp : (l, PySem.W.listOf vs.toArray k) ∈ news) (hw : StrsAre vs ws) (h0 : 0 ≤ i) (h1 : i < (ws.length : Int)) (hz : ws.length ≤ 8)
    (hs : subscripted slice false (.ref l) (.int i u) = operate [.ref l, .int i u] (getItem (.ref l) (.int i u)))
    (h : ∀ x t', x ∈ ws → Q (.str x t') s) :
    wpAny (model PySem.Challenge.rw_rh0194_01.row.prog w) A (subscriptTail value slice (.ref l) (.int i u)) Q E s := by
  refine KTb.item_list (isList_led N hp) hw h0 h1 (by omega) (fun t' hlt => h _ t' ?_) hs
  rw [List.getD_eq_getElem?_getD, List.getElem?_eq_getElem hlt]
  exact List.getElem_mem hlt
end Mine
namespace Mine
theorem aL0 {d : Addr} {l : Led} (h : AllLt d l) : ∀ p ∈ l, p.1 ≠ d := fun p hp => Nat.ne_of_lt (ktn_ltOf h p hp)
theorem aL1 {d : Addr} {l : Led} {a0 : Prop} (h : a0 ∧ AllLt d l) : ∀ p ∈ l, p.1 ≠ d := fun p hp => Nat.ne_of_lt (ktn_ltOf h.2 p hp)
theorem aL2 {d : Addr} {l : Led} {a0 a1 : Prop} (h : a0 ∧ a1 ∧ AllLt d l) : ∀ p ∈ l, p.1 ≠ d := fun p hp => Nat.ne_of_lt (ktn_ltOf h.2.2 p hp)
theorem aL3 {d : Addr} {l : Led} {a0 a1 a2 : Prop} (h : a0 ∧ a1 ∧ a2 ∧ AllLt d l) : ∀ p ∈ l, p.1 ≠ d := fun p hp => Nat.ne_of_lt (ktn_ltOf h.2.2.2 p hp)
theorem aL4 {d : Addr} {l : Led} {a0 a1 a2 a3 : Prop} (h : a0 ∧ a1 ∧ a2 ∧ a3 ∧ AllLt d l) : ∀ p ∈ l, p.1 ≠ d := fun p hp => Nat.ne_of_lt (ktn_ltOf h.2.2.2.2 p hp)
theorem aL5 {d : Addr} {l : Led} {a0 a1 a2 a3 a4 : Prop} (h : a0 ∧ a1 ∧ a2 ∧ a3 ∧ a4 ∧ AllLt d l) : ∀ p ∈ l, p.1 ≠ d := fun p hp => Nat.ne_of_lt (ktn_ltOf h.2.2.2.2.2 p hp)
theorem aL6 {d : Addr} {l : Led} {a0 a1 a2 a3 a4 a5 : Prop} (h : a0 ∧ a1 ∧ a2 ∧ a3 ∧ a4 ∧ a5 ∧ AllLt d l) : ∀ p ∈ l, p.1 ≠ d := fun p hp => Nat.ne_of_lt (ktn_ltOf h.2.2.2.2.2.2 p hp)
theorem aL7 {d : Addr} {l : Led} {a0 a1 a2 a3 a4 a5 a6 : Prop} (h : a0 ∧ a1 ∧ a2 ∧ a3 ∧ a4 ∧ a5 ∧ a6 ∧ AllLt d l) : ∀ p ∈ l, p.1 ≠ d := fun p hp => Nat.ne_of_lt (ktn_ltOf h.2.2.2.2.2.2.2 p hp)
theorem aL8 {d : Addr} {l : Led} {a0 a1 a2 a3 a4 a5 a6 a7 : Prop} (h : a0 ∧ a1 ∧ a2 ∧ a3 ∧ a4 ∧ a5 ∧ a6 ∧ a7 ∧ AllLt d l) : ∀ p ∈ l, p.1 ≠ d := fun p hp => Nat.ne_of_lt (ktn_ltOf h.2.2.2.2.2.2.2.2 p hp)
theorem aL9 {d : Addr} {l : Led} {a0 a1 a2 a3 a4 a5 a6 a7 a8 : Prop} (h : a0 ∧ a1 ∧ a2 ∧ a3 ∧ a4 ∧ a5 ∧ a6 ∧ a7 ∧ a8 ∧ AllLt d l) : ∀ p ∈ l, p.1 ≠ d := fun p hp => Nat.ne_of_lt (ktn_ltOf h.2.2.2.2.2.2.2.2.2 p hp)
theorem aL10 {d : Addr} {l : Led} {a0 a1 a2 a3 a4 a5 a6 a7 a8 a9 : Prop} (h : a0 ∧ a1 ∧ a2 ∧ a3 ∧ a4 ∧ a5 ∧ a6 ∧ a7 ∧ a8 ∧ a9 ∧ AllLt d l) : ∀ p ∈ l, p.1 ≠ d := fun p hp => Nat.ne_of_lt (ktn_ltOf h.2.2.2.2.2.2.2.2.2.2 p hp)
theorem aL11 {d : Addr} {l : Led} {a0 a1 a2 a3 a4 a5 a6 a7 a8 a9 a10 : Prop} (h : a0 ∧ a1 ∧ a2 ∧ a3 ∧ a4 ∧ a5 ∧ a6 ∧ a7 ∧ a8 ∧ a9 ∧ a10 ∧ AllLt d l) : ∀ p ∈ l, p.1 ≠ d := fun p hp => Nat.ne_of_lt (ktn_ltOf h.2.2.2.2.2.2.2.2.2.2.2 p hp)
theorem aL12 {d : Addr} {l : Led} {a0 a1 a2 a3 a4 a5 a6 a7 a8 a9 a10 a11 : Prop} (h : a0 ∧ a1 ∧ a2 ∧ a3 ∧ a4 ∧ a5 ∧ a6 ∧ a7 ∧ a8 ∧ a9 ∧ a10 ∧ a11 ∧ AllLt d l) : ∀ p ∈ l, p.1 ≠ d := fun p hp => Nat.ne_of_lt (ktn_ltOf h.2.2.2.2.2.2.2.2.2.2.2.2 p hp)
theorem aL13 {d : Addr} {l : Led} {a0 a1 a2 a3 a4 a5 a6 a7 a8 a9 a10 a11 a12 : Prop} (h : a0 ∧ a1 ∧ a2 ∧ a3 ∧ a4 ∧ a5 ∧ a6 ∧ a7 ∧ a8 ∧ a9 ∧ a10 ∧ a11 ∧ a12 ∧ AllLt d l) : ∀ p ∈ l, p.1 ≠ d := fun p hp => Nat.ne_of_lt (ktn_ltOf h.2.2.2.2.2.2.2.2.2.2.2.2.2 p hp)
theorem aL14 {d : Addr} {l : Led} {a0 a1 a2 a3 a4 a5 a6 a7 a8 a9 a10 a11 a12 a13 : Prop} (h : a0 ∧ a1 ∧ a2 ∧ a3 ∧ a4 ∧ a5 ∧ a6 ∧ a7 ∧ a8 ∧ a9 ∧ a10 ∧ a11 ∧ a12 ∧ a13 ∧ AllLt d l) : ∀ p ∈ l, p.1 ≠ d := fun p hp => Nat.ne_of_lt (ktn_ltOf h.2.2.2.2.2.2.2.2.2.2.2.2.2.2 p hp)
theorem star_dict (ks : List (Option PySem.Expr)) (vs : List PySem.Expr) (pos : Pos) (rest : List PySem.Expr) (env : Env) : starEach (PySem.Expr.Dict ks vs pos :: rest) env = (false, eval (PySem.Expr.Dict ks vs pos) env) :: starEach rest env := by
  rw [starEach]
  all_goals (first | rfl | (intros; contradiction) | skip)
theorem upd_led {w : World} {A : Around} {E : Value → Shared → Prop} {s : Shared} {h₀ : Heap} {L d b : Addr} {m : Str → Option Value} {news : Led} {g : Obj → Led} {o o2 : Obj} {kvs more : List (Str × Value)} {Q : Value → Shared → Prop}
    (F : Fr h₀ L s.heap m) (N : News h₀ L s.heap news) (U : UpdF d o news g) (hd : o.IsDictOf (PySem.strKind PySem.Challenge.rw_rh0194_01.row.prog w) kvs) (hb : (b, o2) ∈ news) (hd2 : o2.IsDictOf (PySem.strKind PySem.Challenge.rw_rh0194_01.row.prog w) more)
    (hne : d ≠ b) (lo : (b == sysModules) = false) (hz : kvs.length + more.length ≤ 100)
    (h : ∀ h' o', Fr h₀ L h' m → News h₀ L h' (g o') → o'.IsDictOf (PySem.strKind PySem.Challenge.rw_rh0194_01.row.prog w) (PySem.merged kvs more) → Q .none { s with heap := h' }) :
    wpAny (model PySem.Challenge.rw_rh0194_01.row.prog w) A (call (.builtin "dict.update") [.ref d, .ref b]) Q E s := by
  obtain ⟨pre, post, rfl, hg, h1, h2⟩ := U.split
  have hm := N (d, o) (List.mem_append_right _ (.head _))
  have hD := Heap.dictOf_iff.mpr ⟨o, hm.1, hd⟩
  refine call_meetsIn PySem.F.slot_dict_update hD.typeIs PySem.F.entry_dict_update (PySem.F.args_dict_update_2 _ _) (PySem.meets_dict_update (PySem.strKind _ _) d b hne lo)
    ⟨kvs, more, hD, Heap.dictOf_iff.mpr ⟨o2, (N _ hb).1, hd2⟩, (by rw [sizeLine_eq]; omega), fun h' hmm _ hs => ?_⟩
  obtain ⟨o', ho', hd'⟩ := Heap.dictOf_iff.mp hmm
  exact h h' o' (F.change hs hm.2.1 hm.2.2) (hg o' ▸ N.setIn h1 h2 hs ho') hd'
end Mine
section IfaceLines
theorem Mine.sayP10x10 : True := by
  (k_with "zP10x1" => ((k_here; dsimp only; k_dflt (refine' callWith_method1 ?_ ?qb ?qc; (case qb => with_reducible exact Mine.star_dict _ _ _ _ _); (case qc => rfl)))))
  (k_with "zP10x2" => ((k_here; (with_reducible show wpAny _ _ (getMethod (Value.ref _) (Str.ofString "update") _) _ _ _); k_dflt (refine' kdl_method (knd := PySem.strKind _ _) PySem.F.slot_dict_update PySem.F.type_dict_update ?qN ?qm ?qd ?_; (case qN => k_asm); (case qm => k_mem); (case qd => k_asm)))))
  (k_with "zP10x3" => ((k_here; k_dflt (refine' Mine.upd_led ?qF ?qN ?qU ?qd ?qm ?qd2 ?qn ?qlo ?qz ?_; (case qF | qN => k_asm); (case qU => k_updF); (case qd => k_asm); (case qm => k_mem); (case qd2 => k_asm); (case qn => k_ne); (case qlo => assumption); (case qz => exact Nat.le_of_ble_eq_true rfl)); intro qh' qo' qF' qN' qhd'; (try kob_lit); (try dsimp only at qN'))))
  (k_with "zP10x4" => (first | assumption | exact Mine.aL0 (by with_reducible assumption) | exact Mine.aL1 (by with_reducible assumption) | exact Mine.aL2 (by with_reducible assumption) | exact Mine.aL3 (by with_reducible assumption) | exact Mine.aL4 (by with_reducible assumption) | exact Mine.aL5 (by with_reducible assumption) | exact Mine.aL6 (by with_reducible assumption) | exact Mine.aL7 (by with_reducible assumption) | exact Mine.aL8 (by with_reducible assumption) | exact Mine.aL9 (by with_reducible assumption) | exact Mine.aL10 (by with_reducible assumption) | exact Mine.aL11 (by with_reducible assumption) | exact Mine.aL12 (by with_reducible assumption) | exact Mine.aL13 (by with_reducible assumption) | exact Mine.aL14 (by with_reducible assumption)))
  (k_with "zP10x5" => ((k_dflt (refine' Mine.unrEnd_rm ?qF ?qN ?qR ?_; (case qF | qN => k_asm); (case qR => kba_ints)))))
  (k_with "zP10x6" => ((k_here; k_dflt (refine' Mine.menu_led ?qN ?qm ?qw ?qh0 ?qh1 ?qz ?qs ?_; (case qN => k_asm); (case qm => k_mem); (case qw => first | assumption | exact .cons _ _ (.cons _ _ (.cons _ _ (.cons _ _ .nil))) | exact .cons _ _ (.cons _ _ (.cons _ _ .nil)) | exact .cons _ _ (.cons _ _ .nil)); (case qh0 => omega); (case qh1 => ((try simp only [List.length_cons, List.length_nil]); omega)); (case qz => first | omega | exact Nat.le_of_ble_eq_true rfl); (case qs => with_unfolding_all rfl)); intro qx' qt' qhx')))
  (k_with "zP10x7" => ((k_here; k_dflt (refine' Mine.menu_led ?qN ?qm ?qw ?qh0 ?qh1 ?qz ?qs ?_; (case qN => k_asm); (case qm => k_mem); (case qw => first | exact .cons _ _ (.cons _ _ (.cons _ _ (.cons _ _ .nil))) | exact .cons _ _ (.cons _ _ (.cons _ _ .nil)) | exact .cons _ _ (.cons _ _ .nil)); (case qh0 => omega); (case qh1 => ((try simp only [List.length_cons, List.length_nil]); omega)); (case qz => exact Nat.le_of_ble_eq_true rfl); (case qs => with_unfolding_all rfl)); intro qx' qt' qhx')))
  (k_with "zP10x8" => ((k_here; k_dflt (refine' kdn_str ?qq ?qF ?qN ?qb ?qa ?ql ?qe ?qn ?_; (case qq => rfl); (case qF | qN => k_asm); (case qb => exact Top.nolimit (by k_asm)); (case qa | ql => rfl); (case qe => exact List.cons_ne_nil _ _); (case qn => exact Nat.le_of_ble_eq_true rfl)); intro qd' qh' qo' qF' qN' ql1 qlo' qhd'; (try k_lt ql1))))
  (k_with "zP10x9" => ((k_here; k_dflt (refine' Mine.len_led ?qN ?qm ?qz ?_; (case qN => k_asm); (case qm => k_mem); (case qz => omega)))))
  (k_with "zP10x10" => ((with_reducible first | (refine RangeRest.succ (fun qt' qh' qtk' qF' qN' => ?_)) | (refine RangeRest.zero (fun qh' qtk' qF' qN' => ?_)))))
  trivial
local macro_rules | `(tactic| walk_at "callWith builtin:dict.update cons nil") => `(tactic| k_extra "zP10x1")
local macro_rules | `(tactic| walk_at "getMethod ref") => `(tactic| k_extra "zP10x2")
local macro_rules | `(tactic| walk_at "call builtin:dict.update") => `(tactic| k_extra "zP10x3")
local macro_rules | `(tactic| k_all) => `(tactic| k_extra "zP10x4")
local macro_rules | `(tactic| walk_at "UnrEnd") => `(tactic| k_extra "zP10x5")
local macro_rules | `(tactic| walk_at "subscriptTail Name Call ref int") => `(tactic| k_extra "zP10x6")
local macro_rules | `(tactic| walk_at "subscriptTail List cons Call ref int") => `(tactic| k_extra "zP10x7")
local macro_rules | `(tactic| walk_at "eval Dict cons cons") => `(tactic| k_extra "zP10x8")
local macro_rules | `(tactic| walk_at "call builtin:len cons nil") => `(tactic| k_extra "zP10x9")
local macro_rules | `(tactic| walk_at "RangeRest") => `(tactic| k_extra "zP10x10")
namespace Mine
def isPl (k : Str) : Bool := [Str.ofString "point_to_point", Str.ofString "multipoint"].any (fun x => x == k)
structure Okd (n : Int) (d : Ifc) : Prop where
  num : d.num = n
  ad : d.ad = 64 * n + 5
  dr : d.dr ≠ 0
  h1 : (d.st == Str.ofString "dr") = true → shared d.kind = true
  h2 : isPl d.kind = true → (d.st == Str.ofString "dr") = false ∧ ([Str.ofString "other", Str.ofString "backup"].any (fun x => x == d.st)) = false
end Mine
namespace Mine
theorem okd_sh {n : Int} {kd st : Str} {ad dr : Int} {nbs : List Nb} (hs : ([Str.ofString "broadcast", Str.ofString "nbma"].any (fun x => x == kd)) = true) (ha : ad = 64 * n + 5) (hd : dr ≠ 0) : Okd n ⟨n, kd, st, ad, dr, nbs⟩ := by
  refine ⟨rfl, ha, hd, fun _ => hs, fun hp => ?_⟩
  simp only [List.any_cons, List.any_nil, Bool.or_false, Bool.or_eq_true, beq_iff_eq] at hs
  exfalso
  revert hp
  show isPl kd = true → False
  rcases hs with rfl | rfl <;> decide
theorem okd_pl {n : Int} {kd st : Str} {ad dr : Int} {nbs : List Nb} (hs : st ∈ [Str.ofString "point_to_point", Str.ofString "down"]) (ha : ad = 64 * n + 5) (hd : dr ≠ 0) : Okd n ⟨n, kd, st, ad, dr, nbs⟩ := by
  refine ⟨rfl, ha, hd, fun h => ?_, fun _ => ?_⟩
  · exfalso
    revert h
    simp only [List.mem_cons, List.not_mem_nil, or_false] at hs
    show (st == Str.ofString "dr") = true → False
    rcases hs with rfl | rfl <;> decide
  · simp only [List.mem_cons, List.not_mem_nil, or_false] at hs
    rcases hs with rfl | rfl
    · exact ⟨show (Str.ofString "point_to_point" == Str.ofString "dr") = false by decide, show ([Str.ofString "other", Str.ofString "backup"].any (fun x => x == Str.ofString "point_to_point")) = false by decide⟩
    · exact ⟨show (Str.ofString "down" == Str.ofString "dr") = false by decide, show ([Str.ofString "other", Str.ofString "backup"].any (fun x => x == Str.ofString "down")) = false by decide⟩
inductive Pre (p : Addr) (o : Obj) (rest : Led) : Led → Led → Prop
  | nil : Pre p o rest [] ((p, o) :: rest)
  | cons {e : Addr × Obj} {tl news : Led} : (p < e.1 ∧ AllLt e.1 rest) → Pre p o rest tl news → Pre p o rest (e :: tl) (e :: news)
theorem Pre.eq {p : Addr} {o : Obj} {rest tl news : Led} (h : Pre p o rest tl news) : news = tl ++ (p, o) :: rest := by
  induction h with
  | nil => rfl
  | cons _ _ ih => rw [ih, List.cons_append]
theorem Pre.lt {p : Addr} {o o' : Obj} {rest tl news : Led} (h : Pre p o rest tl news) : ∀ q ∈ (p, o') :: rest, ∀ x ∈ tl, q.1 < x.1 := by
  induction h with
  | nil => exact fun _ _ _ h => nomatch h
  | cons a _ ih =>
    intro q hq x hx
    rcases List.mem_cons.mp hx with rfl | hx
    · rcases List.mem_cons.mp hq with rfl | hq
      · exact a.1
      · exact ktn_ltOf a.2 q hq
    · exact ih q hq x hx
theorem pL0 {p d : Addr} {l : Led} (h : p < d ∧ AllLt d l) : p < d ∧ AllLt d l := h
theorem pL1 {p d : Addr} {l : Led} {a0 : Prop} (h : a0 ∧ p < d ∧ AllLt d l) : p < d ∧ AllLt d l := h.2
theorem pL2 {p d : Addr} {l : Led} {a0 a1 : Prop} (h : a0 ∧ a1 ∧ p < d ∧ AllLt d l) : p < d ∧ AllLt d l := h.2.2
theorem pL3 {p d : Addr} {l : Led} {a0 a1 a2 : Prop} (h : a0 ∧ a1 ∧ a2 ∧ p < d ∧ AllLt d l) : p < d ∧ AllLt d l := h.2.2.2
theorem pL4 {p d : Addr} {l : Led} {a0 a1 a2 a3 : Prop} (h : a0 ∧ a1 ∧ a2 ∧ a3 ∧ p < d ∧ AllLt d l) : p < d ∧ AllLt d l := h.2.2.2.2
theorem pL5 {p d : Addr} {l : Led} {a0 a1 a2 a3 a4 : Prop} (h : a0 ∧ a1 ∧ a2 ∧ a3 ∧ a4 ∧ p < d ∧ AllLt d l) : p < d ∧ AllLt d l := h.2.2.2.2.2
theorem pL6 {p d : Addr} {l : Led} {a0 a1 a2 a3 a4 a5 : Prop} (h : a0 ∧ a1 ∧ a2 ∧ a3 ∧ a4 ∧ a5 ∧ p < d ∧ AllLt d l) : p < d ∧ AllLt d l := h.2.2.2.2.2.2
theorem pL7 {p d : Addr} {l : Led} {a0 a1 a2 a3 a4 a5 a6 : Prop} (h : a0 ∧ a1 ∧ a2 ∧ a3 ∧ a4 ∧ a5 ∧ a6 ∧ p < d ∧ AllLt d l) : p < d ∧ AllLt d l := h.2.2.2.2.2.2.2
theorem pL8 {p d : Addr} {l : Led} {a0 a1 a2 a3 a4 a5 a6 a7 : Prop} (h : a0 ∧ a1 ∧ a2 ∧ a3 ∧ a4 ∧ a5 ∧ a6 ∧ a7 ∧ p < d ∧ AllLt d l) : p < d ∧ AllLt d l := h.2.2.2.2.2.2.2.2
theorem pL9 {p d : Addr} {l : Led} {a0 a1 a2 a3 a4 a5 a6 a7 a8 : Prop} (h : a0 ∧ a1 ∧ a2 ∧ a3 ∧ a4 ∧ a5 ∧ a6 ∧ a7 ∧ a8 ∧ p < d ∧ AllLt d l) : p < d ∧ AllLt d l := h.2.2.2.2.2.2.2.2.2
theorem pL10 {p d : Addr} {l : Led} {a0 a1 a2 a3 a4 a5 a6 a7 a8 a9 : Prop} (h : a0 ∧ a1 ∧ a2 ∧ a3 ∧ a4 ∧ a5 ∧ a6 ∧ a7 ∧ a8 ∧ a9 ∧ p < d ∧ AllLt d l) : p < d ∧ AllLt d l := h.2.2.2.2.2.2.2.2.2.2
theorem pL11 {p d : Addr} {l : Led} {a0 a1 a2 a3 a4 a5 a6 a7 a8 a9 a10 : Prop} (h : a0 ∧ a1 ∧ a2 ∧ a3 ∧ a4 ∧ a5 ∧ a6 ∧ a7 ∧ a8 ∧ a9 ∧ a10 ∧ p < d ∧ AllLt d l) : p < d ∧ AllLt d l := h.2.2.2.2.2.2.2.2.2.2.2
theorem pL12 {p d : Addr} {l : Led} {a0 a1 a2 a3 a4 a5 a6 a7 a8 a9 a10 a11 : Prop} (h : a0 ∧ a1 ∧ a2 ∧ a3 ∧ a4 ∧ a5 ∧ a6 ∧ a7 ∧ a8 ∧ a9 ∧ a10 ∧ a11 ∧ p < d ∧ AllLt d l) : p < d ∧ AllLt d l := h.2.2.2.2.2.2.2.2.2.2.2.2
theorem pL13 {p d : Addr} {l : Led} {a0 a1 a2 a3 a4 a5 a6 a7 a8 a9 a10 a11 a12 : Prop} (h : a0 ∧ a1 ∧ a2 ∧ a3 ∧ a4 ∧ a5 ∧ a6 ∧ a7 ∧ a8 ∧ a9 ∧ a10 ∧ a11 ∧ a12 ∧ p < d ∧ AllLt d l) : p < d ∧ AllLt d l := h.2.2.2.2.2.2.2.2.2.2.2.2.2
theorem iface_fin0 {w : World} {h₀ h' : Heap} {L p l0 l a : Addr} {oa : Obj} {rest news tl : Led} {spot sp n dr : Int} {ts t3 t1 t2 t3' t4 t5 t6 t7 : Tok} {kd st : Str} {k k2 : Nat} {Qp : Prop}
    (N : News h₀ L h' news) (P : Pre p (PySem.W.listOf #[.ref l0, .int sp t3] k2) rest tl news) (ma : (a, oa) ∈ tl)
    (hd : oa.IsDictOf (PySem.strKind PySem.Challenge.rw_rh0194_01.row.prog w) [(Str.ofString "number", .int n t1), (Str.ofString "kind", .str kd t2), (Str.ofString "state", .str st t3'), (Str.ofString "cost", .int 2 t4),
        (Str.ofString "length", .int 4 t5), (Str.ofString "address", .int (64 * n + 5) t6), (Str.ofString "neighbours", .ref l), (Str.ofString "dr_address", .int dr t7)])
    (ml : (l, PySem.W.listOf #[] k) ∈ tl) (b1 : spot ≤ sp) (b2 : sp ≤ spot + 5) (ok : ∀ nbs, Okd n ⟨n, kd, st, 64 * n + 5, dr, nbs⟩)
    (ret : ∀ t3 sp tl d, News h₀ L h' (tl ++ (p, PySem.W.listOf #[.ref l0, .int sp t3] k2) :: rest) → (∀ q ∈ (p, PySem.W.listOf #[.ref l0, .int spot ts] k2) :: rest, ∀ x ∈ tl, q.1 < x.1) → spot ≤ sp → sp ≤ spot + 5 → IfcIn w tl (.ref a) d → Okd n d → Qp) : Qp :=
  ret t3 sp tl _ (P.eq ▸ N) P.lt b1 b2 (.mk (d := ⟨n, kd, st, 64 * n + 5, dr, []⟩) (vs := []) ma hd ml (.nil) (by simp)) (ok _)
theorem iface_fin1 {w : World} {h₀ h' : Heap} {L p l0 l a : Addr} {oa : Obj} {rest news tl : Led} {spot sp n dr : Int} {ts t3 t1 t2 t3' t4 t5 t6 t7 : Tok} {kd st : Str} {k k2 : Nat} {Qp : Prop} {a1 : Addr} {o1 : Obj} {r1 e1 : Int} {s1 : Str} {u1 v1 w1 : Tok}
    (N : News h₀ L h' news) (P : Pre p (PySem.W.listOf #[.ref l0, .int sp t3] k2) rest tl news) (ma : (a, oa) ∈ tl)
    (hd : oa.IsDictOf (PySem.strKind PySem.Challenge.rw_rh0194_01.row.prog w) [(Str.ofString "number", .int n t1), (Str.ofString "kind", .str kd t2), (Str.ofString "state", .str st t3'), (Str.ofString "cost", .int 2 t4),
        (Str.ofString "length", .int 4 t5), (Str.ofString "address", .int (64 * n + 5) t6), (Str.ofString "neighbours", .ref l), (Str.ofString "dr_address", .int dr t7)])
    (ml : (l, PySem.W.listOf #[.ref a1] k) ∈ tl) (m1 : (a1, o1) ∈ tl) (h1 : o1.IsDictOf (PySem.strKind PySem.Challenge.rw_rh0194_01.row.prog w) [(Str.ofString "router", .int r1 u1), (Str.ofString "address", .int e1 v1), (Str.ofString "state", .str s1 w1)]) (b1 : spot ≤ sp) (b2 : sp ≤ spot + 5) (ok : ∀ nbs, Okd n ⟨n, kd, st, 64 * n + 5, dr, nbs⟩)
    (ret : ∀ t3 sp tl d, News h₀ L h' (tl ++ (p, PySem.W.listOf #[.ref l0, .int sp t3] k2) :: rest) → (∀ q ∈ (p, PySem.W.listOf #[.ref l0, .int spot ts] k2) :: rest, ∀ x ∈ tl, q.1 < x.1) → spot ≤ sp → sp ≤ spot + 5 → IfcIn w tl (.ref a) d → Okd n d → Qp) : Qp :=
  ret t3 sp tl _ (P.eq ▸ N) P.lt b1 b2 (.mk (d := ⟨n, kd, st, 64 * n + 5, dr, [⟨r1, e1, s1⟩]⟩) (vs := [.ref a1]) ma hd ml (.cons (.mk m1 h1) .nil) (by simp)) (ok _)
theorem iface_fin2 {w : World} {h₀ h' : Heap} {L p l0 l a : Addr} {oa : Obj} {rest news tl : Led} {spot sp n dr : Int} {ts t3 t1 t2 t3' t4 t5 t6 t7 : Tok} {kd st : Str} {k k2 : Nat} {Qp : Prop} {a1 a2 : Addr} {o1 o2 : Obj} {r1 e1 r2 e2 : Int} {s1 s2 : Str} {u1 v1 w1 u2 v2 w2 : Tok}
    (N : News h₀ L h' news) (P : Pre p (PySem.W.listOf #[.ref l0, .int sp t3] k2) rest tl news) (ma : (a, oa) ∈ tl)
    (hd : oa.IsDictOf (PySem.strKind PySem.Challenge.rw_rh0194_01.row.prog w) [(Str.ofString "number", .int n t1), (Str.ofString "kind", .str kd t2), (Str.ofString "state", .str st t3'), (Str.ofString "cost", .int 2 t4),
        (Str.ofString "length", .int 4 t5), (Str.ofString "address", .int (64 * n + 5) t6), (Str.ofString "neighbours", .ref l), (Str.ofString "dr_address", .int dr t7)])
    (ml : (l, PySem.W.listOf #[.ref a1, .ref a2] k) ∈ tl) (m1 : (a1, o1) ∈ tl) (h1 : o1.IsDictOf (PySem.strKind PySem.Challenge.rw_rh0194_01.row.prog w) [(Str.ofString "router", .int r1 u1), (Str.ofString "address", .int e1 v1), (Str.ofString "state", .str s1 w1)]) (m2 : (a2, o2) ∈ tl) (h2 : o2.IsDictOf (PySem.strKind PySem.Challenge.rw_rh0194_01.row.prog w) [(Str.ofString "router", .int r2 u2), (Str.ofString "address", .int e2 v2), (Str.ofString "state", .str s2 w2)]) (b1 : spot ≤ sp) (b2 : sp ≤ spot + 5) (ok : ∀ nbs, Okd n ⟨n, kd, st, 64 * n + 5, dr, nbs⟩)
    (ret : ∀ t3 sp tl d, News h₀ L h' (tl ++ (p, PySem.W.listOf #[.ref l0, .int sp t3] k2) :: rest) → (∀ q ∈ (p, PySem.W.listOf #[.ref l0, .int spot ts] k2) :: rest, ∀ x ∈ tl, q.1 < x.1) → spot ≤ sp → sp ≤ spot + 5 → IfcIn w tl (.ref a) d → Okd n d → Qp) : Qp :=
  ret t3 sp tl _ (P.eq ▸ N) P.lt b1 b2 (.mk (d := ⟨n, kd, st, 64 * n + 5, dr, [⟨r1, e1, s1⟩, ⟨r2, e2, s2⟩]⟩) (vs := [.ref a1, .ref a2]) ma hd ml (.cons (.mk m1 h1) (.cons (.mk m2 h2) .nil)) (by simp)) (ok _)
end Mine
namespace Mine
def MenuOk (kd : Str) (ws : List Str) : Prop :=
  (([Str.ofString "broadcast", Str.ofString "nbma"].any (fun x => x == kd)) = true ∧ ws = [Str.ofString "dr", Str.ofString "backup", Str.ofString "other", Str.ofString "waiting"]) ∨ ws = [Str.ofString "point_to_point", Str.ofString "down"]
theorem MenuOk.len {kd : Str} {ws : List Str} (h : MenuOk kd ws) : 2 ≤ ws.length ∧ ws.length ≤ 4 := by
  rcases h with ⟨_, rfl⟩ | rfl <;> decide
theorem okd_menu {n : Int} {kd st : Str} {ws : List Str} {ad dr : Int} {nbs : List Nb} (h : MenuOk kd ws) (hx : st ∈ ws) (ha : ad = 64 * n + 5) (hd : dr ≠ 0) : Okd n ⟨n, kd, st, ad, dr, nbs⟩ := by
  rcases h with ⟨h, rfl⟩ | rfl
  · exact okd_sh h ha hd
  · exact okd_pl hx ha hd
theorem mem_drop2 {a b : Addr × Obj} {l : Led} : ∀ q ∈ a :: l, q ∈ a :: b :: l := fun _ hq => (List.mem_cons.mp hq).elim (fun e => e ▸ .head _) fun h => .tail _ (.tail _ h)
theorem join_menu {M : Model} {A : Around} {t : Sem Value} {Q E : Value → Shared → Prop} {s : Shared} {h₀ : Heap} {L : Addr} {m : Str → Option Value} {news : Led} (kd : Str) (F : Fr h₀ L s.heap m) (N : News h₀ L s.heap news)
    (h : ∀ Q' : Value → Shared → Prop, Fr h₀ L s.heap m → News h₀ L s.heap news → (∀ l vs ws k h' tk', (∀ p ∈ news, p.1 < l) → Fr h₀ L h' m → News h₀ L h' ((l, PySem.W.listOf vs.toArray k) :: news) → StrsAre vs ws → MenuOk kd ws → Q' (.ref l) { s with heap := h', toks := tk' }) → wpAny M A t Q' E s)
    (k : ∀ l vs ws k h' tk', (∀ p ∈ news, p.1 < l) → Fr h₀ L h' m → News h₀ L h' ((l, PySem.W.listOf vs.toArray k) :: news) → StrsAre vs ws → MenuOk kd ws → Q (.ref l) { s with heap := h', toks := tk' }) : wpAny M A t Q E s := h Q F N k
end Mine
namespace Mine
theorem iface_core {w : World} {mean : ExcName → Option Value} {mg mb : Str → Option Value} {loose : List Str} {dp un : Nat} {gd : Option (List Code)} {cn : Str} {cs : Scope} {L a : Addr} {ccd : Value} {cl : List (Str × Addr)} {outer : List Env}
   {A₀ : Around} {base h₀ : Heap} {m : Str → Option Value} {rest : Led} {s : Shared} {Q E : Value → Shared → Prop} {p l : Addr} {vs : List Value} {ns : List Int} {spot : Int} {ts tm : Tok} {k1 k2 : Nat} {n : Int}
   (B : Below A₀ base outer h₀) (F : Fr h₀ L s.heap m) (X : (Mine.hd.heap_39 w.params).In h₀) (N : News h₀ L s.heap ((p, PySem.W.listOf #[.ref l, .int spot ts] k2) :: rest)) (T : Top Mine.hd.view_39 loose mean mg mb h₀) (hk : cs.kind = .function)
   (hd1 : dp + 30 < recursionLimit) (hu1 : un + 300 < cLine) (hl : (l, PySem.W.listOf vs.toArray k1) ∈ rest) (hc : ∀ q ∈ rest, q.1 ≠ p) (hi : IntsAre vs ns) (hz : vs.length ≤ 64) (hs0 : 0 ≤ spot) (hs1 : spot ≤ 50) (hn1 : 1 ≤ n) (hn2 : n ≤ 2)
   (ret : ∀ r h' tk' t3 sp tl d, Fr h₀ L h' m → News h₀ L h' (tl ++ (p, PySem.W.listOf #[.ref l, .int sp t3] k2) :: rest) → (∀ q ∈ (p, PySem.W.listOf #[.ref l, .int spot ts] k2) :: rest, ∀ p ∈ tl, q.1 < p.1) → spot ≤ sp → sp ≤ spot + 5 → IfcIn w tl r d → Okd n d → Q r { s with heap := h', toks := tk' }) :
   wpAny (model PySem.Challenge.rw_rh0194_01.row.prog w) (ktrTop dp un gd cn cs L a ccd cl outer) (call (.ref 84) [.ref p, .int n tm]) Q E s := by
  revert X; k_fill; intro X
  (iterate 31 kat_tups)
  (rename News _ _ _ _ => kN)
  (rename Fr _ _ _ _ => kF)
  (rename Str => kd0)
  refine Mine.join_menu kd0 kF kN ?_ ?_
  · clear kF kN
    intro Q' kF kN hq
    (repeat' kat_tups)
    all_goals (
      (rename News _ _ _ _ => kN2)
      (rename Fr _ _ _ _ => kF2)
      (rename (_ ∧ _ ∧ _ ∧ AllLt _ _) => kl)
      first
        | exact hq _ _ _ _ _ _ (ktn_ltOf kl.2) kF2 (news_sub kN2 Mine.mem_drop2) (.cons _ _ (.cons _ _ (.cons _ _ (.cons _ _ .nil)))) (.inl ⟨by assumption, rfl⟩)
        | exact hq _ _ _ _ _ _ (ktn_ltOf kl.2) kF2 (news_sub kN2 Mine.mem_drop2) (.cons _ _ (.cons _ _ .nil)) (.inr rfl))
  clear kF kN
  intro l5 vs5 ws5 k5 h5 tk5 l1 F5 N5 hw5 hR5
  k_lt l1
  have hl5 := hw5.len_eq
  have hm5 := hR5.len
  (repeat' kat_tups)
  all_goals (
    (rename News _ _ _ _ => kN)
    (rename Fr _ _ _ _ => kF)
    first
      | exact Mine.iface_fin2 (spot := spot) (ts := ts) kN (.cons (Mine.pL9 (by with_reducible assumption)) (.cons (Mine.pL8 (by with_reducible assumption)) (.cons (Mine.pL7 (by with_reducible assumption)) (.cons (Mine.pL6 (by with_reducible assumption)) (.cons (Mine.pL4 (by with_reducible assumption)) (.cons (Mine.pL3 (by with_reducible assumption)) (.cons (Mine.pL2 (by with_reducible assumption)) (.cons (Mine.pL1 (by with_reducible assumption)) (.cons (Mine.pL0 (by with_reducible assumption)) .nil))))))))) (.tail _ (.tail _ (.tail _ (.tail _ (.tail _ (.tail _ (.head _))))))) (by assumption) (.tail _ (.tail _ (.tail _ (.tail _ (.head _))))) (.tail _ (.tail _ (.tail _ (.head _)))) (by assumption) (.tail _ (.head _)) (by assumption) (by omega) (by omega) (fun _ => Mine.okd_menu hR5 (by assumption) rfl (by omega)) (fun t3 sp tl d N1 lt s1 s2 I O => ret _ _ _ t3 sp tl d kF N1 lt s1 s2 I O)
      | exact Mine.iface_fin1 (spot := spot) (ts := ts) kN (.cons (Mine.pL7 (by with_reducible assumption)) (.cons (Mine.pL6 (by with_reducible assumption)) (.cons (Mine.pL4 (by with_reducible assumption)) (.cons (Mine.pL3 (by with_reducible assumption)) (.cons (Mine.pL2 (by with_reducible assumption)) (.cons (Mine.pL1 (by with_reducible assumption)) (.cons (Mine.pL0 (by with_reducible assumption)) .nil))))))) (.tail _ (.tail _ (.tail _ (.tail _ (.head _))))) (by assumption) (.tail _ (.tail _ (.head _))) (.tail _ (.head _)) (by assumption) (by omega) (by omega) (fun _ => Mine.okd_menu hR5 (by assumption) rfl (by omega)) (fun t3 sp tl d N1 lt s1 s2 I O => ret _ _ _ t3 sp tl d kF N1 lt s1 s2 I O)
      | exact Mine.iface_fin0 (spot := spot) (ts := ts) kN (.cons (Mine.pL4 (by with_reducible assumption)) (.cons (Mine.pL3 (by with_reducible assumption)) (.cons (Mine.pL2 (by with_reducible assumption)) (.cons (Mine.pL1 (by with_reducible assumption)) (.cons (Mine.pL0 (by with_reducible assumption)) .nil))))) (.tail _ (.tail _ (.head _))) (by assumption) (.head _)  (by omega) (by omega) (fun _ => Mine.okd_menu hR5 (by assumption) rfl (by omega)) (fun t3 sp tl d N1 lt s1 s2 I O => ret _ _ _ t3 sp tl d kF N1 lt s1 s2 I O))
end Mine
end IfaceLines
namespace Mine
theorem law_iface_ok {w : World} {mean : ExcName → Option Value} {mg mb : Str → Option Value} {loose : List Str} {dp un : Nat} {gd : Option (List Code)} {cn : Str} {cs : Scope} {L a : Addr} {ccd : Value} {cl : List (Str × Addr)} {outer : List Env}
   {A₀ : Around} {base h₀ : Heap} {m : Str → Option Value} {news : Led} {g : Obj → Led} {s : Shared} {Q E : Value → Shared → Prop} {p l : Addr} {vs : List Value} {ns : List Int} {spot : Int} {ts tm : Tok} {k1 k2 : Nat} {n : Int}
   (B : Below A₀ base outer h₀) (F : Fr h₀ L s.heap m) (X : (Mine.hd.heap_39 w.params).In h₀) (N : News h₀ L s.heap news) (T : Top Mine.hd.view_39 loose mean mg mb h₀) (hk : cs.kind = .function)
   (hd1 : dp + 30 < recursionLimit) (hu1 : un + 300 < cLine) (U : UpdF p (PySem.W.listOf #[.ref l, .int spot ts] k2) news g) (hl : ∀ o, (l, PySem.W.listOf vs.toArray k1) ∈ g o) (hi : IntsAre vs ns) (hz : vs.length ≤ 64) (hs0 : 0 ≤ spot) (hs1 : spot ≤ 50) (hn1 : 1 ≤ n) (hn2 : n ≤ 2)
   (ret : ∀ r h' tk' t3 sp tl d, Fr h₀ L h' m → News h₀ L h' (tl ++ g (PySem.W.listOf #[.ref l, .int sp t3] k2)) → (∀ q ∈ news, ∀ x ∈ tl, q.1 < x.1) → spot ≤ sp → sp ≤ spot + 5 → IfcIn w tl r d → Okd n d → Q r { s with heap := h', toks := tk' }) :
   wpAny (model PySem.Challenge.rw_rh0194_01.row.prog w) (ktrTop dp un gd cn cs L a ccd cl outer) (call (.ref 84) [.ref p, .int n tm]) Q E s := by
  obtain ⟨pre, post, rfl, hg, ha, hc⟩ := U.split
  have hl' : (l, PySem.W.listOf vs.toArray k1) ∈ pre ++ post := mem_rest fun o => hg o ▸ hl o
  refine iface_core (rest := pre ++ post) (ts := ts) (k2 := k2) B F X (news_sub N fun q hq => ?_) T hk hd1 hu1 hl' (fun q hq => ?_) hi hz hs0 hs1 hn1 hn2 fun r h' tk' t3 sp tl d F' N' lt s1 s2 I O => ret r h' tk' t3 sp tl d F' ?_ (fun q hq x hx => lt q ?_ x hx) s1 s2 I O
  · rcases List.mem_cons.mp hq with rfl | hq
    · exact List.mem_append_right _ (.head _)
    · rcases List.mem_append.mp hq with hq | hq
      · exact List.mem_append_left _ hq
      · exact List.mem_append_right _ (.tail _ hq)
  · rcases List.mem_append.mp hq with hq | hq
    · exact ha q hq
    · exact hc q hq
  · rw [hg]
    refine news_sub N' fun q hq => ?_
    rcases List.mem_append.mp hq with hq | hq
    · exact List.mem_append_left _ hq
    · refine List.mem_append_right _ ?_
      rcases List.mem_append.mp hq with hq | hq
      · exact .tail _ (List.mem_append_left _ hq)
      · rcases List.mem_cons.mp hq with rfl | hq
        · exact .head _
        · exact .tail _ (List.mem_append_right _ hq)
  · rcases List.mem_append.mp hq with hq | hq
    · exact .tail _ (List.mem_append_left _ hq)
    · rcases List.mem_cons.mp hq with rfl | hq
      · exact .head _
      · exact .tail _ (List.mem_append_right _ hq)
end Mine
theorem Mine.sayP10x11 : True := by
  (k_with "zP10x11" => ((k_here; k_dflt (refine' Mine.law_iface_ok ?qB ?qF ?qX ?qN ?qT ?qhk ?qhd1 ?qhu1 ?qU ?qhl ?qhi ?qhz ?qhs0 ?qhs1 ?qhn1 ?qhn2 ?_; walk_at "mb"; (case qU => k_updF); (case qhl => (intro qo'; (try dsimp only); k_mem)); (case qhi => assumption); (case qhz => first | assumption | omega); (case qhs0 | qhs1 | qhn1 | qhn2 => omega)); intro qr' qh' qtk' qt3' qsp' qtl' qd' qF' qN' ql2' qb1' qb2' qif' qok'; (try dsimp only at qN'); (try dsimp only))))
  trivial
local macro_rules | `(tactic| walk_at "call ref cons nil") => `(tactic| k_extra "zP10x11")

theorem Mine.calmP2 : True := by
  w_top off
  trivial
namespace Mine
def nearN (dr : Int) (ns : List Nb) : List Nb := (fullN ns).filter (fun n => n.ad == dr)
def joined (d : Ifc) : Bool := if (d.st == Str.ofString "dr") = true then !decide (fullR d.nbs = []) else if ([Str.ofString "other", Str.ofString "backup"].any (fun x => x == d.st)) = true then (if d.dr = 0 then false else !decide (nearN d.dr d.nbs = [])) else false
theorem nearN_pos {dr : Int} {n : Nb} {ns : List Nb} (h : n.ad = dr) (h2 : (n.st == Str.ofString "full") = true) : nearN dr (n :: ns) = n :: nearN dr ns := by
  unfold nearN
  rw [fullN_pos h2]
  exact List.filter_cons_of_pos (by simp [h])
theorem nearN_neg {dr : Int} {n : Nb} {ns : List Nb} (h : ¬ n.ad = dr) : nearN dr (n :: ns) = nearN dr ns := by
  unfold nearN fullN
  rw [List.filter_cons]
  split
  · exact List.filter_cons_of_neg (by simp [h])
  · rfl
theorem nearN_neg2 {dr : Int} {n : Nb} {ns : List Nb} (h : (n.st == Str.ofString "full") = false) : nearN dr (n :: ns) = nearN dr ns := by
  unfold nearN
  rw [fullN_neg h]
theorem ones_nil {ms : List Int} {ns : List Nb} (h : ms = ns.map (fun _ => (1 : Int))) : (!decide (ms = [])) = !decide (ns = []) := by
  subst h
  cases ns <;> simp
theorem is_joined_ok {w : World} {mean : ExcName → Option Value} {mg mb : Str → Option Value} {loose : List Str} {dp un : Nat} {gd : Option (List Code)} {cn : Str} {cs : Scope} {L a : Addr} {ccd : Value} {cl : List (Str × Addr)} {outer : List Env}
   {A₀ : Around} {base h₀ : Heap} {m : Str → Option Value} {news : Led} {s : Shared} {Q E : Value → Shared → Prop} {v : Value} {d : Ifc}
   (B : Below A₀ base outer h₀) (F : Fr h₀ L s.heap m) (X : (Mine.hd.heap_39 w.params).In h₀) (N : News h₀ L s.heap news) (T : Top Mine.hd.view_39 loose mean mg mb h₀) (hk : cs.kind = .function)
   (hd1 : dp + 20 < recursionLimit) (hu1 : un + 300 < cLine) (hI : IfcIn w news v d)
   (ret : ∀ h' tk', Fr h₀ L h' m → News h₀ L h' news → Q (.bool (joined d)) { s with heap := h', toks := tk' }) :
   wpAny (model PySem.Challenge.rw_rh0194_01.row.prog w) (ktrTop dp un gd cn cs L a ccd cl outer) (call (.ref 46) [v]) Q E s := by
  revert X; k_fill; intro X
  have hI0 := hI
  cases hI with | mk hm hdic hml hnb hz =>
  (repeat' kat_tups)
  · (rename ((d.st == _) = true) => h1)
    have hj : joined d = !decide (fullR d.nbs = []) := by unfold joined; rw [if_pos h1]
    rw [← hj]
    exact ret _ _ (by assumption) (news_sub (by assumption) (by ktd_sub))
  · (rename ((d.st == _) = false) => h1)
    (rename ((List.any _ _) = true) => h2)
    (rename (d.dr = 0) => h3)
    have hj : joined d = false := by unfold joined; rw [if_neg (by rw [h1]; decide), if_pos h2, if_pos h3]
    rw [← hj]
    exact ret _ _ (by assumption) (news_sub (by assumption) (by ktd_sub))
  · (rename ((d.st == _) = false) => h1)
    (rename ((List.any _ _) = true) => h2)
    (rename (¬ d.dr = 0) => h3)
    have hj : joined d = !decide (nearN d.dr d.nbs = []) := by unfold joined; rw [if_neg (by rw [h1]; decide), if_pos h2, if_neg h3]
    refine compT_ro (R := fun rest ys => ∃ ds ms, NbAll w news rest ds ∧ IntsAre ys ms ∧ ms ++ (nearN d.dr ds).map (fun _ => (1 : Int)) = (nearN d.dr d.nbs).map (fun _ => (1 : Int))) ⟨_, [], hnb, .nil, rfl⟩ (by rfl) (by k_asm) (by k_asm) (by k_mem) (by rw [sizeLine_eq, hnb.length]; omega) ?turn ?fin
    case turn =>
      rintro v' rest' ys' I' oI' C' oC' D' m' s' E' ⟨ds, ms, hds, hms, he⟩ hC' hx' F' N' off' ne' hS'
      cases hds with | cons hnb1 hrest =>
      cases hnb1 with | mk hm1 hd1 =>
      (repeat' kat_tups)
      · (rename ((Nb.st _ == _) = true) => e2)
        (rename (Nb.ad _ = d.dr) => e1)
        exact LCg.CompEnd.intro (by assumption) (by assumption) _ (fun _ h => h) off' hS' ⟨rfl, _, _, hrest, ints_snoc hms _ _, by rw [← he, nearN_pos e1 e2, List.map_cons, List.append_assoc]; rfl⟩
      · (rename ((Nb.st _ == _) = false) => e2)
        exact LCg.CompEnd.intro (by assumption) (by assumption) _ (fun _ h => h) off' hS' ⟨rfl, _, _, hrest, hms, by rw [← he, nearN_neg2 e2]⟩
      · (rename (¬ Nb.ad _ = d.dr) => e1)
        exact LCg.CompEnd.intro (by assumption) (by assumption) _ (fun _ h => h) off' hS' ⟨rfl, _, _, hrest, hms, by rw [← he, nearN_neg e1]⟩
    case fin =>
      rintro g9 ys ⟨ds, ms, hds, hms, he⟩
      cases hds
      rw [nearN, fullN, List.filter_nil, List.filter_nil, List.map_nil, List.append_nil] at he
      intro D' h' tk' F' N' o1'
      (repeat' kat_tups)
      rw [ones_nil he, ← hj]
      exact ret _ _ (by assumption) (news_sub (by assumption) (by ktd_sub))
  · (rename ((d.st == _) = false) => h1)
    (rename ((List.any _ _) = false) => h2)
    have hj : joined d = false := by unfold joined; rw [if_neg (by rw [h1]; decide), if_neg (by rw [h2]; decide)]
    rw [← hj]
    exact ret _ _ (by assumption) (news_sub (by assumption) (by ktd_sub))
end Mine
theorem Mine.sayP2x1 : True := by
  (k_with "zP2x1" => ((k_here; k_dflt (refine' Mine.is_joined_ok ?qB ?qF ?qX ?qN ?qT ?qhk ?qhd1 ?qhu1 ?qhI ?_; walk_at "mb"; (case qhI => walk_at "mi")); intro qh' qtk' qF' qN'; (try dsimp only))))
  trivial
local macro_rules | `(tactic| walk_at "call ref cons nil") => `(tactic| k_extra "zP2x1")

theorem Mine.calmP3 : True := by
  w_top off
  trivial
namespace Mine
structure Lk where
  a : Int
  b : Int
  c : Int
  e : Int
abbrev lkObj (x : Lk) (t1 t2 t3 t4 : Tok) : Obj := { cls := .type "tuple", data := .seq #[.int x.a t1, .int x.b t2, .int x.c t3, .int x.e t4] }
abbrev m960 : Int := (1 * 2 ^ Int.toNat 4 - 1) * 2 ^ (10 - 4 : Int).toNat
abbrev m1023 : Int := (1 * 2 ^ Int.toNat 10 - 1) * 2 ^ (10 - 10 : Int).toNat
def stub (d : Ifc) : Lk := ⟨Builtin.bitAnd d.ad m960, m960, 3, 2⟩
theorem stub_link_ok {w : World} {mean : ExcName → Option Value} {mg mb : Str → Option Value} {loose : List Str} {dp un : Nat} {gd : Option (List Code)} {cn : Str} {cs : Scope} {L a : Addr} {ccd : Value} {cl : List (Str × Addr)} {outer : List Env}
   {A₀ : Around} {base h₀ : Heap} {m : Str → Option Value} {news : Led} {s : Shared} {Q E : Value → Shared → Prop} {v : Value} {d : Ifc} {tb : Tok}
   (B : Below A₀ base outer h₀) (F : Fr h₀ L s.heap m) (X : (Mine.hd.heap_39 w.params).In h₀) (N : News h₀ L s.heap news) (T : Top Mine.hd.view_39 loose mean mg mb h₀) (hk : cs.kind = .function)
   (hd1 : dp + 10 < recursionLimit) (hu1 : un + 200 < cLine) (hI : IfcIn w news v d)
   (ret : ∀ q h' tk' t1 t2 t3 t4, Fr h₀ L h' m → News h₀ L h' ((q, lkObj (stub d) t1 t2 t3 t4) :: news) → (∀ p ∈ news, p.1 < q) → Q (.ref q) { s with heap := h', toks := tk' }) :
   wpAny (model PySem.Challenge.rw_rh0194_01.row.prog w) (ktrTop dp un gd cn cs L a ccd cl outer) (call (.ref 36) [v, .int 10 tb]) Q E s := by
  revert X; k_fill; intro X
  have hI0 := hI
  cases hI with | mk hm hdic hml hnb hz =>
  (repeat' kat_tups)
  exact ret _ _ _ _ _ _ _ (by assumption) (by assumption) (by assumption)
end Mine
theorem Mine.sayP3x1 : True := by
  (k_with "zP3x1" => ((k_here; k_dflt (refine' Mine.stub_link_ok ?qB ?qF ?qX ?qN ?qT ?qhk ?qhd1 ?qhu1 ?qhI ?_; walk_at "mb"; (case qhI => walk_at "mi")); intro qq' qh' qtk' qt1' qt2' qt3' qt4' qF' qN' ql1'; (try k_lt ql1'); (try dsimp only))))
  trivial
local macro_rules | `(tactic| walk_at "call ref cons nil") => `(tactic| k_extra "zP3x1")

theorem Mine.calmP4 : True := by
  w_top off
  trivial
namespace Mine
inductive LkIn (tl : Led) : Value → Lk → Prop
  | mk {q : Addr} {x : Lk} {t1 t2 t3 t4 : Tok} : (q, lkObj x t1 t2 t3 t4) ∈ tl → LkIn tl (.ref q) x
inductive LkAll (tl : Led) : List Value → List Lk → Prop
  | nil : LkAll tl [] []
  | cons {v : Value} {x : Lk} {vs : List Value} {xs : List Lk} : LkIn tl v x → LkAll tl vs xs → LkAll tl (v :: vs) (x :: xs)
theorem LkIn.mono {n n' : Led} {v : Value} {x : Lk} (h : LkIn n v x) (hs : ∀ p ∈ n, p ∈ n') : LkIn n' v x := by
  cases h with | mk hm => exact .mk (hs _ hm)
theorem LkAll.mono {n n' : Led} {vs : List Value} {xs : List Lk} (h : LkAll n vs xs) (hs : ∀ p ∈ n, p ∈ n') : LkAll n' vs xs := by
  induction h with
  | nil => exact .nil
  | cons h _ ih => exact .cons (h.mono hs) ih
theorem LkAll.append {n : Led} {vs us : List Value} {xs ys : List Lk} (h : LkAll n vs xs) (g : LkAll n us ys) : LkAll n (vs ++ us) (xs ++ ys) := by
  induction h with
  | nil => exact g
  | cons h _ ih => exact .cons h ih
theorem LkAll.length {n : Led} {vs : List Value} {xs : List Lk} (h : LkAll n vs xs) : vs.length = xs.length := by
  induction h with
  | nil => rfl
  | cons _ _ ih => simp [ih]
theorem lk_end {h₀ : Heap} {L I C D q : Addr} {m : Str → Option Value} {s₁ : Shared} {oI oC oD : Obj} {S : Led → Prop} {R : Value → Led → Prop} {LED tl : Led} {x : Lk} {t1 t2 t3 t4 : Tok} {h' : Heap} {tk : Nat}
    (F : Fr h₀ L h' m) (N : News h₀ L h' ((q, lkObj x t1 t2 t3 t4) :: (I, oI) :: (C, oC) :: (D, oD) :: (tl ++ LED))) (lt : (@LT.lt Nat _ I q) ∧ (@LT.lt Nat _ C q) ∧ (@LT.lt Nat _ D q) ∧ AllLt q (tl ++ LED)) (off : LCg.Off3 I C D (tl ++ LED))
    (hS : S (((q, lkObj x t1 t2 t3 t4) :: tl) ++ LED)) (r : R (.ref q) ((q, lkObj x t1 t2 t3 t4) :: tl)) : LCg.CompEnd h₀ L m s₁ I oI C oC D oD S (fun y nw => ∃ tl', nw = tl' ++ LED ∧ R y tl') (.ref q) { s₁ with heap := h', toks := tk } := by
  refine LCg.CompEnd.intro F N (((q, lkObj x t1 t2 t3 t4) :: tl) ++ LED) (fun p hp => ?_) ⟨⟨Nat.ne_of_gt lt.1, Nat.ne_of_gt lt.2.1, Nat.ne_of_gt lt.2.2.1⟩, off⟩ hS ⟨_, rfl, r⟩
  simp only [List.mem_cons, List.cons_append] at hp ⊢
  rcases hp with hp | hp | hp | hp | hp <;> simp only [hp, true_or, or_true]
def host (d : Ifc) : Lk := ⟨d.ad, m1023, 3, 0⟩
def ptp (d : Ifc) (r : Int) : Lk := ⟨r, d.ad, 1, 2⟩
def links (d : Ifc) : List Lk :=
  if (d.st == Str.ofString "down") = true then [] else
  if (d.st == Str.ofString "loopback") = true then [host d] else
  if ([Str.ofString "point_to_point", Str.ofString "multipoint"].any (fun x => x == d.kind)) = true then (fullR d.nbs).map (ptp d) ++ [if (d.kind == Str.ofString "multipoint") = true then host d else stub d] else
  if joined d = true then [⟨d.dr, d.ad, 2, 2⟩] else [stub d]
theorem links_len {d : Ifc} (h : d.nbs.length ≤ 2) : (links d).length ≤ 3 := by
  have h2 := fullR_len d.nbs
  unfold links
  repeat' split
  all_goals (simp only [List.length_nil, List.length_append, List.length_map, List.length_cons]; omega)
theorem iface_links_ok {w : World} {mean : ExcName → Option Value} {mg mb : Str → Option Value} {loose : List Str} {dp un : Nat} {gd : Option (List Code)} {cn : Str} {cs : Scope} {L a : Addr} {ccd : Value} {cl : List (Str × Addr)} {outer : List Env}
   {A₀ : Around} {base h₀ : Heap} {m : Str → Option Value} {news : Led} {s : Shared} {Q E : Value → Shared → Prop} {v : Value} {d : Ifc} {tb : Tok}
   (B : Below A₀ base outer h₀) (F : Fr h₀ L s.heap m) (X : (Mine.hd.heap_39 w.params).In h₀) (N : News h₀ L s.heap news) (T : Top Mine.hd.view_39 loose mean mg mb h₀) (hk : cs.kind = .function)
   (hd1 : dp + 30 < recursionLimit) (hu1 : un + 400 < cLine) (hI : IfcIn w news v d)
   (ret : ∀ l h' tk' vs k tl, Fr h₀ L h' m → News h₀ L h' ((l, PySem.W.listOf vs.toArray k) :: (tl ++ news)) → (∀ p ∈ news, p.1 < l) → (∀ q ∈ news, ∀ p ∈ tl, q.1 < p.1) → LkAll tl vs (links d) → vs.length ≤ 3 → Q (.ref l) { s with heap := h', toks := tk' }) :
   wpAny (model PySem.Challenge.rw_rh0194_01.row.prog w) (ktrTop dp un gd cn cs L a ccd cl outer) (call (.ref 51) [v, .int 10 tb]) Q E s := by
  revert X; k_fill; intro X
  have hI0 := hI
  cases hI with | mk hm hdic hml hnb hz =>
  (repeat' kat_tups)
  · (rename ((d.st == _) = true) => e1)
    (rename (∀ p ∈ news, p.1 < _) => hb)
    (rename News _ _ _ _ => kN)
    exact ret _ _ _ [] _ [] (by assumption) (news_cons kN (by k_mem) (news_sub kN (by ktd_sub))) (fun p hp => by have h9 := ltN (hb p hp); refine ltN ?_; omega) (fun q hq p hp => nomatch hp) (by rw [links, if_pos e1]; exact .nil) (by decide)
  · (rename ((d.st == Str.ofString "loopback") = true) => e2)
    (rename ((d.st == Str.ofString "down") = false) => e1)
    (rename (∀ p ∈ news, p.1 < _) => hb)
    (rename News _ _ _ _ => kN)
    refine ret _ _ _ [_] _ [(_, lkObj (host d) _ _ _ _)] (by assumption) (news_cons kN (by k_mem) (news_cons kN (by k_mem) (news_sub kN (by ktd_sub)))) (fun p hp => by have h9 := ltN (hb p hp); refine ltN ?_; omega) (fun q hq p hp => by cases List.mem_singleton.mp hp; have h9 := ltN (hb q hq); refine ltN ?_; omega) ?_ (by exact Nat.le_of_ble_eq_true rfl)
    rw [links, if_neg (by rw [e1]; decide), if_pos e2]
    exact .cons (.mk (List.mem_singleton.mpr rfl)) .nil
  · (rename ((List.any _ _) = true) => e3)
    (rename ((d.st == Str.ofString "loopback") = false) => e2)
    (rename ((d.st == Str.ofString "down") = false) => e1)
    (rename IntsAre _ _ => hi)
    (rename (∀ p ∈ news, p.1 < _) => hb)
    have hlen := fullR_len d.nbs
    have hlv := IntsAre.length hi
    refine comp_new (R := fun rest ys tl => ∃ ns done, IntsAre rest ns ∧ done ++ ns = fullR d.nbs ∧ LkAll tl ys (done.map (ptp d)) ∧ ∀ q ∈ news, ∀ p ∈ tl, q.1 < p.1) ⟨_, [], hi, rfl, .nil, fun _ _ _ hp => nomatch hp⟩ (by rfl) (by k_asm) (by k_asm) (by k_mem) (by rw [sizeLine_eq]; omega) ?turn ?fin
    case turn =>
      rintro v' rest' ys' tl' I' oI' C' oC' D' m' s' E' ⟨ns, dn, hns, he, hlk, hlt⟩ hC' hx' F' N' off' ne' hS'
      cases hns with | cons n t hrest =>
      (repeat' kat_tups)
      (rename News _ _ _ _ => kN)
      (rename (_ ∧ _ ∧ _ ∧ AllLt _ _) => hq)
      refine lk_end (x := ptp d n) (by assumption) kN hq off' (hS' (_ :: tl')) ⟨_, dn ++ [n], hrest, by rw [← he, List.append_assoc]; rfl, ?_, ?_⟩
      · rw [List.map_append]
        exact (hlk.mono fun p hp => List.mem_cons_of_mem _ hp).append (.cons (.mk (List.mem_cons_self ..)) .nil)
      · intro q hqn p hp
        rcases List.mem_cons.mp hp with rfl | hp
        · exact ktn_ltOf hq.2.2.2 q (List.mem_append_right _ (by repeat' (first | exact hqn | refine List.mem_cons_of_mem _ ?_)))
        · exact hlt q hqn p hp
    case fin =>
      rintro g9 ys tl ⟨ns, dn, hns, he, hlk, hlt⟩
      cases hns
      rw [List.append_nil] at he
      subst he
      have hyl := hlk.length
      rw [List.length_map] at hyl
      intro D' h' tk' F' N' o1'
      (repeat' kat_tups)
      · (rename ((d.kind == _) = true) => e4)
        (rename News _ _ _ _ => kN)
        (rename (_ ∧ _ ∧ AllLt _ _) => hq)
        obtain ⟨q1, q2, hq⟩ := hq
        refine ret _ _ _ _ _ ((_, lkObj (host d) _ _ _ _) :: tl) (by assumption) (news_cons kN (by k_mem) (news_cons kN (by k_mem) (news_app (news_sub kN (by ktd_sub)) (news_sub kN (by ktd_sub))))) (fun p hp => ktn_ltOf hq p (List.mem_append_right _ (by repeat' (first | exact hp | refine List.mem_cons_of_mem _ ?_)))) ?_ ?_ ?_
        · intro q hqn p hp
          rcases List.mem_cons.mp hp with rfl | hp
          · have h9 := ltN (hb q hqn); refine ltN ?_; omega
          · exact hlt q hqn p hp
        · rw [links, if_neg (by rw [e1]; decide), if_neg (by rw [e2]; decide), if_pos e3, if_pos e4]
          exact (hlk.mono fun p hp => List.mem_cons_of_mem _ hp).append (.cons (.mk (List.mem_cons_self ..)) .nil)
        · rw [List.length_append, List.length_cons, List.length_nil]; omega
      · (rename ((d.kind == _) = false) => e4)
        (rename News _ _ _ _ => kN)
        (rename (_ ∧ AllLt _ _) => hs)
        (rename (_ ∧ _ ∧ _ ∧ AllLt _ _) => hq)
        obtain ⟨q1, q2, q3, hq⟩ := hq
        refine ret _ _ _ _ _ ((_, lkObj (stub d) _ _ _ _) :: tl) (by assumption) (news_cons kN (by k_mem) (news_cons kN (by k_mem) (news_app (news_sub kN (by ktd_sub)) (news_sub kN (by ktd_sub))))) (fun p hp => ktn_ltOf hq p (List.mem_append_right _ (by repeat' (first | exact hp | refine List.mem_cons_of_mem _ ?_)))) ?_ ?_ ?_
        · intro q hqn p hp
          rcases List.mem_cons.mp hp with rfl | hp
          · exact ktn_ltOf hs.2 q (List.mem_append_right _ (by repeat' (first | exact hqn | refine List.mem_cons_of_mem _ ?_)))
          · exact hlt q hqn p hp
        · rw [links, if_neg (by rw [e1]; decide), if_neg (by rw [e2]; decide), if_pos e3, if_neg (by rw [e4]; decide)]
          exact (hlk.mono fun p hp => List.mem_cons_of_mem _ hp).append (.cons (.mk (List.mem_cons_self ..)) .nil)
        · rw [List.length_append, List.length_cons, List.length_nil]; omega
  · (rename ((List.any _ _) = false) => e3)
    (rename (joined d = true) => e4)
    (rename ((d.st == Str.ofString "loopback") = false) => e2)
    (rename ((d.st == Str.ofString "down") = false) => e1)
    (rename (∀ p ∈ news, p.1 < _) => hb)
    (rename News _ _ _ _ => kN)
    refine ret _ _ _ [_] _ [(_, lkObj ⟨d.dr, d.ad, 2, 2⟩ _ _ _ _)] (by assumption) (news_cons kN (by k_mem) (news_cons kN (by k_mem) (news_sub kN (by ktd_sub)))) (fun p hp => by have h9 := ltN (hb p hp); refine ltN ?_; omega) (fun q hq p hp => by cases List.mem_singleton.mp hp; have h9 := ltN (hb q hq); refine ltN ?_; omega) ?_ (by exact Nat.le_of_ble_eq_true rfl)
    rw [links, if_neg (by rw [e1]; decide), if_neg (by rw [e2]; decide), if_neg (by rw [e3]; decide), if_pos e4]
    exact .cons (.mk (List.mem_singleton.mpr rfl)) .nil
  · (rename ((List.any _ _) = false) => e3)
    (rename (joined d = false) => e4)
    (rename ((d.st == Str.ofString "loopback") = false) => e2)
    (rename ((d.st == Str.ofString "down") = false) => e1)
    (rename (∀ p ∈ news, p.1 < _) => hb)
    (rename News _ _ _ _ => kN)
    refine ret _ _ _ [_] _ [(_, lkObj (stub d) _ _ _ _)] (by assumption) (news_cons kN (by k_mem) (news_cons kN (by k_mem) (news_sub kN (by ktd_sub)))) (fun p hp => by have h9 := ltN (hb p hp); refine ltN ?_; omega) (fun q hq p hp => by cases List.mem_singleton.mp hp; have h9 := ltN (hb q hq); refine ltN ?_; omega) ?_ (by exact Nat.le_of_ble_eq_true rfl)
    rw [links, if_neg (by rw [e1]; decide), if_neg (by rw [e2]; decide), if_neg (by rw [e3]; decide), if_neg (by rw [e4]; decide)]
    exact .cons (.mk (List.mem_singleton.mpr rfl)) .nil
end Mine
theorem Mine.sayP4x1 : True := by
  (k_with "zP4x1" => ((k_here; k_dflt (refine' Mine.iface_links_ok ?qB ?qF ?qX ?qN ?qT ?qhk ?qhd1 ?qhu1 ?qhI ?_; walk_at "mb"; (case qhI => walk_at "mi")); intro ql' qh' qtk' qvs' qk' qtl' qF' qN' ql1' ql2' qlk' qle'; (have ql3' := ql1'); (try k_lt ql1'); (try dsimp only))))
  trivial
local macro_rules | `(tactic| walk_at "call ref cons nil") => `(tactic| k_extra "zP4x1")

theorem Mine.calmP5 : True := by
  w_top off
  trivial
namespace Mine
def netOf (d : Ifc) : Option (List Int) := if shared d.kind = true then (if (d.st != Str.ofString "dr") = true then none else if fullR d.nbs = [] then none else some (srt (fullR d.nbs ++ [77]))) else none
inductive NetIn (tl : Led) : Value → Option (List Int) → Prop
  | none : NetIn tl .none .none
  | some {q t : Addr} {vs : List Value} {ns : List Int} {u1 u2 : Tok} : (q, ({ cls := .type "tuple", data := .seq #[.str (Str.ofString "network") u1, .int 4 u2, .ref t] } : Obj)) ∈ tl → (t, ({ cls := .type "tuple", data := .seq vs.toArray } : Obj)) ∈ tl → IntsAre vs ns → ns.length ≤ 3 → NetIn tl (.ref q) (.some ns)
theorem NetIn.mono {n n' : Led} {v : Value} {x : Option (List Int)} (h : NetIn n v x) (hs : ∀ p ∈ n, p ∈ n') : NetIn n' v x := by
  cases h with
  | none => exact .none
  | some h1 h2 h3 h4 => exact .some (hs _ h1) (hs _ h2) h3 h4
theorem network_body_ok {w : World} {mean : ExcName → Option Value} {mg mb : Str → Option Value} {loose : List Str} {dp un : Nat} {gd : Option (List Code)} {cn : Str} {cs : Scope} {L a : Addr} {ccd : Value} {cl : List (Str × Addr)} {outer : List Env}
   {A₀ : Around} {base h₀ : Heap} {m : Str → Option Value} {news : Led} {s : Shared} {Q E : Value → Shared → Prop} {v : Value} {d : Ifc} {tb : Tok}
   (B : Below A₀ base outer h₀) (F : Fr h₀ L s.heap m) (X : (Mine.hd.heap_39 w.params).In h₀) (N : News h₀ L s.heap news) (T : Top Mine.hd.view_39 loose mean mg mb h₀) (hk : cs.kind = .function)
   (hd1 : dp + 30 < recursionLimit) (hu1 : un + 400 < cLine) (hI : IfcIn w news v d)
   (ret : ∀ r h' tk' tl, Fr h₀ L h' m → News h₀ L h' (tl ++ news) → (∀ q ∈ news, ∀ p ∈ tl, q.1 < p.1) → NetIn tl r (netOf d) → Q r { s with heap := h', toks := tk' }) :
   wpAny (model PySem.Challenge.rw_rh0194_01.row.prog w) (ktrTop dp un gd cn cs L a ccd cl outer) (call (.ref 63) [v, .int 77 tb]) Q E s := by
  revert X; k_fill; intro X
  have hI0 := hI
  cases hI with | mk hm hdic hml hnb hz =>
  (repeat' kat_tups)
  · (rename ((List.any _ _) = true) => e0)
    have e1 : shared d.kind = true := e0
    (rename ((d.st != _) = true) => e2)
    (rename News _ _ _ _ => kN)
    exact ret _ _ _ [] (by assumption) kN (fun q hq p hp => nomatch hp) (by rw [netOf, if_pos e1, if_pos e2]; exact .none)
  · (rename ((List.any _ _) = true) => e0)
    have e1 : shared d.kind = true := e0
    (rename ((d.st != _) = false) => e2)
    (rename (decide (fullR d.nbs = []) = true) => e3)
    replace e3 := of_decide_eq_true e3
    (rename News _ _ _ _ => kN)
    exact ret _ _ _ [] (by assumption) (news_sub kN (by ktd_sub)) (fun q hq p hp => nomatch hp) (by rw [netOf, if_pos e1, if_neg (by rw [e2]; decide), if_pos e3]; exact .none)
  · (rename ((List.any _ _) = true) => e0)
    have e1 : shared d.kind = true := e0
    (rename ((d.st != _) = false) => e2)
    (rename (decide (fullR d.nbs = []) = false) => e3)
    replace e3 := of_decide_eq_false e3
    (rename (∀ p ∈ news, p.1 < _) => hb)
    (rename News _ _ _ _ => kN)
    (rename IntsAre _ (srt _) => i3)
    refine ret _ _ _ [_, _] (by assumption) (news_cons kN (List.mem_cons_self ..) (news_cons kN (List.mem_cons_of_mem _ (List.mem_cons_self ..)) (news_sub kN (by ktd_sub)))) ?_ ?_
    · intro q hq p hp
      have h9 := ltN (hb q hq)
      simp only [List.mem_cons, List.not_mem_nil, or_false] at hp
      rcases hp with rfl | rfl
      · refine ltN ?_; omega
      · refine ltN ?_; omega
    · rw [netOf, if_pos e1, if_neg (by rw [e2]; decide), if_neg e3]
      exact .some (List.mem_cons_self ..) (List.mem_cons_of_mem _ (List.mem_cons_self ..)) i3 (by rw [(srt_perm _).length_eq, List.length_append]; have := fullR_len d.nbs; simp only [List.length_cons, List.length_nil]; omega)
  · (rename ((List.any _ _) = false) => e0)
    have e1 : shared d.kind = false := e0
    (rename News _ _ _ _ => kN)
    exact ret _ _ _ [] (by assumption) kN (fun q hq p hp => nomatch hp) (by rw [netOf, if_neg (by rw [e1]; decide)]; exact .none)
end Mine
theorem Mine.sayP5x1 : True := by
  (k_with "zP5x1" => ((k_here; k_dflt (refine' Mine.network_body_ok ?qB ?qF ?qX ?qN ?qT ?qhk ?qhd1 ?qhu1 ?qhI ?_; walk_at "mb"; (case qhI => walk_at "mi")); intro qr' qh' qtk' qtl' qF' qN' ql2' qni'; (try dsimp only))))
  trivial
local macro_rules | `(tactic| walk_at "call ref cons nil") => `(tactic| k_extra "zP5x1")

theorem Mine.calmP6 : True := by
  w_top off
  trivial
theorem Mine.sayP6x2 : True := by
  (k_with "zP6x1" => (first | exact Mine.ne_of_all (by assumption) (by k_mem) | exact Ne.symm (Mine.ne_of_all (by assumption) (by k_mem)) | exact Mine.ne_of_off (by assumption) (by k_mem) | exact Ne.symm (Mine.ne_of_off (by assumption) (by k_mem))))
  (k_with "zP6x2" => (first | exact List.forall_mem_nil _ | (refine' List.forall_mem_cons.mpr ⟨?qa, ?qb⟩; (case qa => k_ne); (case qb => k_all)) | (refine' List.forall_mem_append.mpr ⟨?qa, ?qb⟩; (case qa => k_all); (case qb => k_all)) | exact Mine.off_fresh (by assumption) (by k_mem) | exact Mine.off_older (by assumption) (by ktd_sub)))
  trivial
local macro_rules | `(tactic| k_lt $h:ident) => `(tactic| skip)
local macro_rules | `(tactic| k_ne) => `(tactic| k_extra "zP6x1")
local macro_rules | `(tactic| k_all) => `(tactic| k_extra "zP6x2")
namespace Mine
theorem sorted1_ledger {prog : Program} {w : World} {A : Around} {E : Value → Shared → Prop} {s : Shared} {h₀ : Heap} {L : Addr} {m : Str → Option Value} {news : Led} {l : Addr} {vs : List Value} {a : Int} {k1 : Nat} {Q : Value → Shared → Prop}
    (F : Fr h₀ L s.heap m) (N : News h₀ L s.heap news) (ha : (l, PySem.W.listOf vs.toArray k1) ∈ news) (hi : IntsAre vs [a])
    (h : ∀ D h' t c, Fr h₀ L h' m → News h₀ L h' ((D, PySem.W.listOf #[.int a t] c) :: news) → (∀ p ∈ news, p.1 < D) → Q (.ref D) { s with heap := h' }) :
    wpAny (model prog w) A (call (.builtin "sorted") [.ref l]) Q E s := by
  refine sorted_ledger F N ha hi (by rw [hi.length]; exact Nat.le_of_ble_eq_true rfl) fun D h' vs' c F' N' l1 i' e' => ?_
  rw [show srt [a] = [a] from (srt_of (List.Perm.refl _) (by simp)).symm] at i'
  cases i' with | cons _ t hr =>
  cases hr
  exact h D h' t c F' N' l1
theorem sorted2_ledger {prog : Program} {w : World} {A : Around} {E : Value → Shared → Prop} {s : Shared} {h₀ : Heap} {L : Addr} {m : Str → Option Value} {news : Led} {l : Addr} {vs : List Value} {a b : Int} {k1 : Nat} {Q : Value → Shared → Prop}
    (F : Fr h₀ L s.heap m) (N : News h₀ L s.heap news) (ha : (l, PySem.W.listOf vs.toArray k1) ∈ news) (hi : IntsAre vs [a, b]) (hab : a ≤ b)
    (h : ∀ D h' t1 t2 c, Fr h₀ L h' m → News h₀ L h' ((D, PySem.W.listOf #[.int a t1, .int b t2] c) :: news) → (∀ p ∈ news, p.1 < D) → Q (.ref D) { s with heap := h' }) :
    wpAny (model prog w) A (call (.builtin "sorted") [.ref l]) Q E s := by
  refine sorted_ledger F N ha hi (by rw [hi.length]; exact Nat.le_of_ble_eq_true rfl) fun D h' vs' c F' N' l1 i' e' => ?_
  rw [show srt [a, b] = [a, b] from (srt_of (List.Perm.refl _) (by simp [hab])).symm] at i'
  cases i' with | cons _ t1 hr =>
  cases hr with | cons _ t2 hr =>
  cases hr
  exact h D h' t1 t2 c F' N' l1
end Mine
theorem Mine.sayP6x3 : True := by
  (k_with "zP6x3" => ((k_here; k_dflt (first | (refine' Mine.sorted1_ledger ?qF ?qN ?qa ?qi ?_; (case qF => k_asm); (case qN => k_asm); (case qa => k_mem); (case qi => assumption); intro qD' qh' qt' qc' qF' qN' ql1; (try k_lt ql1)) | (refine' Mine.sorted2_ledger ?qF ?qN ?qa ?qi ?qz ?_; (case qF => k_asm); (case qN => k_asm); (case qa => k_mem); (case qi => assumption); (case qz => decide); intro qD' qh' qt' qt2' qc' qF' qN' ql1; (try k_lt ql1))))))
  trivial
local macro_rules | `(tactic| walk_at "call builtin:sorted") => `(tactic| k_extra "zP6x3")
namespace Mine
inductive IfsIn (w : World) (news : Led) : Value → List Ifc → Prop
  | one {l : Addr} {v : Value} {d : Ifc} {k : Nat} : (l, PySem.W.listOf #[v] k) ∈ news → IfcIn w news v d → d.num = 1 → IfsIn w news (.ref l) [d]
  | two {l : Addr} {v1 v2 : Value} {d1 d2 : Ifc} {k : Nat} : (l, PySem.W.listOf #[v1, v2] k) ∈ news → IfcIn w news v1 d1 → IfcIn w news v2 d2 → d1.num = 1 → d2.num = 2 → IfsIn w news (.ref l) [d1, d2]
theorem IfsIn.mono {w : World} {n n' : Led} {v : Value} {ds : List Ifc} (h : IfsIn w n v ds) (hs : ∀ p ∈ n, p ∈ n') : IfsIn w n' v ds := by
  cases h with
  | one hm h1 e1 => exact .one (hs _ hm) (h1.mono hs) e1
  | two hm h1 h2 e1 e2 => exact .two (hs _ hm) (h1.mono hs) (h2.mono hs) e1 e2
inductive RouterIn (tl : Led) : Value → List Lk → Prop
  | mk {q t : Addr} {vs : List Value} {xs : List Lk} {u1 u2 : Tok} : (q, ({ cls := .type "tuple", data := .seq #[.str (Str.ofString "router") u1, .int 0 u2, .ref t] } : Obj)) ∈ tl → (t, ({ cls := .type "tuple", data := .seq vs.toArray } : Obj)) ∈ tl → LkAll tl vs xs → vs.length ≤ 6 → RouterIn tl (.ref q) xs
theorem RouterIn.mono {n n' : Led} {v : Value} {x : List Lk} (h : RouterIn n v x) (hs : ∀ p ∈ n, p ∈ n') : RouterIn n' v x := by
  cases h with
  | mk h1 h2 h3 h4 => exact .mk (hs _ h1) (hs _ h2) (h3.mono hs) h4
theorem lt_all_use {n : Led} {a : Addr} {q : Addr × Obj} (h : ∀ p ∈ n, p.1 < a) (hq : q ∈ n) : q.1 < a := h q hq
theorem fresh_use {n tl : Led} {p q : Addr × Obj} (h : ∀ q ∈ n, ∀ p ∈ tl, q.1 < p.1) (hp : p ∈ tl) (hq : q ∈ n) : q.1 < p.1 := h q hq p hp
theorem router_body_ok {w : World} {mean : ExcName → Option Value} {mg mb : Str → Option Value} {loose : List Str} {dp un : Nat} {gd : Option (List Code)} {cn : Str} {cs : Scope} {L a : Addr} {ccd : Value} {cl : List (Str × Addr)} {outer : List Env}
   {A₀ : Around} {base h₀ : Heap} {m : Str → Option Value} {news : Led} {s : Shared} {Q E : Value → Shared → Prop} {v : Value} {ds : List Ifc} {tb : Tok}
   (B : Below A₀ base outer h₀) (F : Fr h₀ L s.heap m) (X : (Mine.hd.heap_39 w.params).In h₀) (N : News h₀ L s.heap news) (T : Top Mine.hd.view_39 loose mean mg mb h₀) (hk : cs.kind = .function)
   (hd1 : dp + 40 < recursionLimit) (hu1 : un + 500 < cLine) (hI : IfsIn w news v ds)
   (ret : ∀ r h' tk' tl, Fr h₀ L h' m → News h₀ L h' (tl ++ news) → (∀ q ∈ news, ∀ p ∈ tl, q.1 < p.1) → RouterIn tl r (ds.flatMap links) → Q r { s with heap := h', toks := tk' }) :
   wpAny (model PySem.Challenge.rw_rh0194_01.row.prog w) (ktrTop dp un gd cn cs L a ccd cl outer) (call (.ref 56) [v, .bool false, .bool false, .int 10 tb]) Q E s := by
  revert X; k_fill; intro X
  cases hI with
  | @one l v d k hml hI1 hn1 =>
    have hI0 := hI1
    cases hI1 with | @mk a1 l1 o1 _ vs1 k1 t1 _ _ _ _ _ _ hm hdic hl2 hnb hz =>
    rw [hn1] at hdic
    (repeat' kat_tups)
    refine comp_ro (R := fun rest ys => (rest = [.ref a1] ∧ ys = []) ∨ (rest = [] ∧ ys = [.int 1 t1])) (.inl ⟨rfl, rfl⟩) (by rfl) (by k_asm) (by k_asm) (by k_mem) (by rw [sizeLine_eq]; exact Nat.le_of_ble_eq_true rfl) ?turn ?fin
    case turn =>
      rintro v' rest' ys' I' oI' C' oC' D' m' s' E' (⟨e1, rfl⟩ | ⟨e1, rfl⟩) hC' hx' F' N' off' ne' hS'
      · cases e1
        (repeat' kat_tups)
        exact LCg.CompEnd.intro (by assumption) (by assumption) _ (fun _ h => h) off' hS' ⟨rfl, .inr ⟨rfl, rfl⟩⟩
      · cases e1
    case fin =>
      rintro g9 ys (⟨e1, rfl⟩ | ⟨_, rfl⟩)
      · cases e1
      intro D' h' tk' F' N' o1'
      replace o1' := off_of_off1 o1'
      have hi9 := IntsAre.cons 1 t1 IntsAre.nil
      (repeat' kat_tups)
      (rename News _ _ _ _ => kN)
      (rename LkAll _ _ _ => lk)
      refine ret _ _ _ (_ :: _ :: _) (by assumption) (news_cons kN (List.mem_cons_self ..) (news_cons kN (List.mem_cons_of_mem _ (List.mem_cons_self ..)) (news_app (news_sub kN fun p hp => List.mem_cons_of_mem _ (List.mem_cons_of_mem _ (List.mem_cons_of_mem _ (List.mem_append_left _ hp)))) (news_sub kN (by ktd_sub))))) ?_ ?_
      · intro q hqn p hp
        rcases List.mem_cons.mp hp with rfl | hp
        · exact lt_all_use (by assumption) (by repeat' (first | exact hqn | refine List.mem_cons_of_mem _ ?_ | refine List.mem_append_right _ ?_))
        rcases List.mem_cons.mp hp with rfl | hp
        · exact lt_all_use (by assumption) (by repeat' (first | exact hqn | refine List.mem_cons_of_mem _ ?_ | refine List.mem_append_right _ ?_))
        · exact fresh_use (by assumption) hp (by repeat' (first | exact hqn | refine List.mem_cons_of_mem _ ?_ | refine List.mem_append_right _ ?_))
      · refine .mk (List.mem_cons_self ..) (List.mem_cons_of_mem _ (List.mem_cons_self ..)) ?_ ?_
        · rw [List.flatMap_cons, List.flatMap_nil, List.append_nil]
          exact lk.mono fun p hp => List.mem_cons_of_mem _ (List.mem_cons_of_mem _ hp)
        · rw [List.nil_append]; omega
  | @two l v1 v2 d1 d2 k hml hI1 hI2 hn1 hn2 =>
    have hI01 := hI1
    have hI02 := hI2
    cases hI1 with | @mk a1 l1 o1 _ vs1 k1 t1 _ _ _ _ _ _ hm hdic hl2 hnb hz =>
    cases hI2 with | @mk a2 l2 o2 _ vs2 k2 t2 _ _ _ _ _ _ hm' hdic' hl2' hnb' hz' =>
    rw [hn1] at hdic
    rw [hn2] at hdic'
    (repeat' kat_tups)
    refine comp_ro (R := fun rest ys => (rest = [.ref a1, .ref a2] ∧ ys = []) ∨ (rest = [.ref a2] ∧ ys = [.int 1 t1]) ∨ (rest = [] ∧ ys = [.int 1 t1, .int 2 t2])) (.inl ⟨rfl, rfl⟩) (by rfl) (by k_asm) (by k_asm) (by k_mem) (by rw [sizeLine_eq]; exact Nat.le_of_ble_eq_true rfl) ?turn ?fin
    case turn =>
      rintro v' rest' ys' I' oI' C' oC' D' m' s' E' (⟨e1, rfl⟩ | ⟨e1, rfl⟩ | ⟨e1, rfl⟩) hC' hx' F' N' off' ne' hS'
      · cases e1
        (repeat' kat_tups)
        exact LCg.CompEnd.intro (by assumption) (by assumption) _ (fun _ h => h) off' hS' ⟨rfl, .inr (.inl ⟨rfl, rfl⟩)⟩
      · cases e1
        (repeat' kat_tups)
        exact LCg.CompEnd.intro (by assumption) (by assumption) _ (fun _ h => h) off' hS' ⟨rfl, .inr (.inr ⟨rfl, rfl⟩)⟩
      · cases e1
    case fin =>
      rintro g9 ys (⟨e1, rfl⟩ | ⟨e1, rfl⟩ | ⟨_, rfl⟩)
      · cases e1
      · cases e1
      intro D' h' tk' F' N' o1'
      replace o1' := off_of_off1 o1'
      have hi9 := IntsAre.cons 1 t1 (IntsAre.cons 2 t2 IntsAre.nil)
      (repeat' kat_tups)
      (rename News _ _ _ _ => kN)
      (rename LkAll _ _ (links d1) => lkA)
      (rename LkAll _ _ (links d2) => lkB)
      refine ret _ _ _ (_ :: _ :: (_ ++ _)) (by assumption) (news_cons kN (List.mem_cons_self ..) (news_cons kN (List.mem_cons_of_mem _ (List.mem_cons_self ..)) (news_app (news_app
        (news_sub kN fun p hp => List.mem_cons_of_mem _ (List.mem_cons_of_mem _ (List.mem_cons_of_mem _ (List.mem_append_left _ hp))))
        (news_sub kN fun p hp => List.mem_cons_of_mem _ (List.mem_cons_of_mem _ (List.mem_cons_of_mem _ (List.mem_append_right _ (List.mem_cons_of_mem _ (List.mem_append_left _ hp))))))) (news_sub kN (by ktd_sub))))) ?_ ?_
      · intro q hqn p hp
        rcases List.mem_cons.mp hp with rfl | hp
        · exact lt_all_use (by assumption) (by repeat' (first | exact hqn | refine List.mem_cons_of_mem _ ?_ | refine List.mem_append_right _ ?_))
        rcases List.mem_cons.mp hp with rfl | hp
        · exact lt_all_use (by assumption) (by repeat' (first | exact hqn | refine List.mem_cons_of_mem _ ?_ | refine List.mem_append_right _ ?_))
        rcases List.mem_append.mp hp with hp | hp
        · exact fresh_use (by assumption) hp (by repeat' (first | exact hqn | refine List.mem_cons_of_mem _ ?_ | refine List.mem_append_right _ ?_))
        · exact fresh_use (by assumption) hp (by repeat' (first | exact hqn | refine List.mem_cons_of_mem _ ?_ | refine List.mem_append_right _ ?_))
      · refine .mk (List.mem_cons_self ..) (List.mem_cons_of_mem _ (List.mem_cons_self ..)) ?_ ?_
        · rw [List.flatMap_cons, List.flatMap_cons, List.flatMap_nil, List.append_nil]
          exact (lkA.mono fun p hp => List.mem_cons_of_mem _ (List.mem_cons_of_mem _ (List.mem_append_right _ hp))).append (lkB.mono fun p hp => List.mem_cons_of_mem _ (List.mem_cons_of_mem _ (List.mem_append_left _ hp)))
        · rw [List.nil_append, List.length_append]; omega
end Mine
theorem Mine.sayP6x5 : True := by
  (k_with "zP6x4" => (first | assumption | exact Mine.IfsIn.mono (by assumption) (by ktd_sub)))
  (k_with "zP6x5" => ((k_here; k_dflt (refine' Mine.router_body_ok ?qB ?qF ?qX ?qN ?qT ?qhk ?qhd1 ?qhu1 ?qhI ?_; walk_at "mb"; (case qhI => walk_at "mj")); intro qr' qh' qtk' qtl' qF' qN' ql2' qro'; (try dsimp only))))
  trivial
local macro_rules | `(tactic| walk_at "mj") => `(tactic| k_extra "zP6x4")
local macro_rules | `(tactic| walk_at "call ref cons nil") => `(tactic| k_extra "zP6x5")

theorem Mine.calmP7 : True := by
  w_top off
  trivial
namespace Mine
open PySem in
abbrev tkK (w : World) : PySem.HeapKind PySem.Challenge.rw_rh0194_01.row.prog w (List Int) := PySem.tupleKind (PySem.intKind PySem.Challenge.rw_rh0194_01.row.prog w)
abbrev Tri := List Int × Addr × Value
/-- a dict keyed by tuples of ints -/
abbrev tdObj (w : World) (xs : List Tri) (n : Nat) : Obj := { cls := .type "dict", data := .dict (xs.map (PySem.entryOfKey (tkK w))).toArray n }
/-- the ledger bears the key tuple -/
def KeyIn (news : Led) (k : List Int) (a : Addr) : Prop := ∃ vs n, (a, ({ cls := .type "tuple", data := .seq vs.toArray n } : Obj)) ∈ news ∧ IntsAre vs k
theorem KeyIn.mono {n n' : Led} {k : List Int} {a : Addr} (h : KeyIn n k a) (hs : ∀ p ∈ n, p ∈ n') : KeyIn n' k a := by
  obtain ⟨vs, m, hm, hi⟩ := h
  exact ⟨vs, m, hs _ hm, hi⟩
theorem items_of_ints {w : World} : ∀ {vs : List Value} {ks : List Int}, IntsAre vs ks → PySem.ItemsAre (PySem.intKind PySem.Challenge.rw_rh0194_01.row.prog w) ks vs
  | _, _, .nil => .nil
  | _, _, .cons n t r => .cons (intKind_is _ _ _ _) (items_of_ints r)
theorem keyIn_is {w : World} {h₀ h : Heap} {L : Addr} {news : Led} {k : List Int} {a : Addr} (N : News h₀ L h news) (x : KeyIn news k a) : (tkK w).is h k a := by
  obtain ⟨vs, n, hm, hi⟩ := x
  exact ⟨_, _, n, (N _ hm).1, rfl, rfl, by simpa using items_of_ints hi⟩
theorem td_of {w : World} {h₀ h : Heap} {L d : Addr} {news : Led} {xs : List Tri} {n : Nat} (N : News h₀ L h news) (hm : (d, tdObj w xs n) ∈ news) (hk : ∀ x ∈ xs, KeyIn news x.1 x.2.1) (hn : (xs.map (·.1)).Nodup) : h.DictOfH (tkK w) d xs :=
  ⟨_, _, n, (N _ hm).1, ⟨rfl, rfl, rfl⟩, rfl, by simp, fun x hx => keyIn_is N (hk x hx), hn⟩
theorem td_obj {w : World} {h : Heap} {d : Addr} {xs : List Tri} (x : h.DictOfH (tkK w) d xs) : ∃ n, h.get? d = some (tdObj w xs n) := by
  obtain ⟨⟨c, dd, data, sl⟩, es, ep, ho, ⟨h1, h2, h3⟩, hd, he, _⟩ := x
  simp only at h1 h2 h3 hd
  subst h1 h2 h3 hd
  refine ⟨ep, ho.trans ?_⟩
  have : es = (xs.map (PySem.entryOfKey (tkK w))).toArray := by rw [← he]
  rw [this]

section
variable {w : World} {A : Around} {E : Value → Shared → Prop} {s : Shared} {h₀ : Heap} {L : Addr} {m : Str → Option Value} {news : Led} {g : Obj → Led} {d a : Addr} {xs : List Tri} {k : List Int} {n : Nat} {v : Value}
theorem td_set_led {Q : Unit → Shared → Prop} (hu : A.units + 1 < cLine) (F : Fr h₀ L s.heap m) (N : News h₀ L s.heap news) (U : UpdF d (tdObj w xs n) news g) (hkey : KeyIn news k a) (hk : ∀ x ∈ xs, KeyIn news x.1 x.2.1) (hn : (xs.map (·.1)).Nodup) (hnew : k ∉ xs.map (·.1)) (hz : xs.length ≤ 1000)
    (h : ∀ h' n' tk, Fr h₀ L h' m → News h₀ L h' (g (tdObj w (xs ++ [(k, a, v)]) n')) → Q () { s with heap := h', toks := tk }) :
    wpAny (model PySem.Challenge.rw_rh0194_01.row.prog w) A (setItem (.ref d) (.ref a) v) Q E s := by
  obtain ⟨pre, post, rfl, hg, ha, hc⟩ := U.split
  have hm : (d, tdObj w xs n) ∈ pre ++ (d, tdObj w xs n) :: post := List.mem_append_right _ (.head _)
  have z := N _ hm
  have hat : PySem.atKey xs k = none := by
    refine PySem.atKey_none_of_get fun j p hj => hnew ?_
    exact List.mem_map.mpr ⟨_, List.mem_of_getElem? hj, rfl⟩
  refine PySem.wpAny_setItem_heap (knd := tkK w) (hsz := by rw [sizeLine_eq]; omega) (show A.units + 1 < cLine from hu) (keyIn_is N hkey) (td_of N hm hk hn) fun h' hd hs => ?_
  rw [PySem.storedH_new hat] at hd
  obtain ⟨n', ho⟩ := td_obj hd
  exact h h' n' _ (F.change hs z.2.1 z.2.2) (by rw [hg]; exact N.setIn ha hc hs ho)

theorem td_takeOut {b : Addr} {rest : List Tri} {Q : Option DictEntry → Shared → Prop} (hu : A.units < cLine) (hkey : (tkK w).is s.heap k a) (hm : s.heap.DictOfH (tkK w) d ((k, b, v) :: rest)) (hz : rest.length ≤ 1000)
    (h : ∀ h' tk, h'.DictOfH (tkK w) d rest → Heap.SameBut d s.heap h' → Q (some ⟨(tkK w).hash k, .ref b, v⟩) { s with heap := h', toks := tk }) :
    wpAny (model PySem.Challenge.rw_rh0194_01.row.prog w) A (Builtin.Dict.takeOut d (.ref a)) Q E s := by
  obtain ⟨o, es, ep, ho, hc, hd, he, his, hn⟩ := hm
  have hes : es.size ≤ sizeLine := by rw [PySem.size_of_entries he, sizeLine_eq, List.length_cons]; omega
  unfold Builtin.Dict.takeOut
  try with_reducible refine wpAny_holding ?_
  refine wpAny_bind ((tkK w).pyHash (show A.units < cLine from hu) hkey ?_)
  refine wpAny_bind (PySem.wpAny_dictFind_heap (knd := tkK w) (show A.units < cLine from hu) hkey ho hd he his hn (fun hno => absurd (show ((k, b, v) :: rest : List Tri)[0]? = some (k, (b, v)) from rfl) (hno 0 (b, v))) fun j p hj => ?_)
  obtain rfl : j = 0 := PySem.idxH_unique hn hj (show ((k, b, v) :: rest : List Tri)[0]? = some (k, (b, v)) from rfl)
  obtain rfl : p = (b, v) := by simpa using hj.symm
  refine wpAny_bind (wpAny_dictEntries ho hd ?_)
  have he' : es[0]? = some ⟨(tkK w).hash k, .ref b, v⟩ := by rw [PySem.entry_at he]; rfl
  rw [he']
  refine wpAny_bind (wpAny_updateDictKeys (hz := hes) ho hd (wpAny_pure (h _ _ ⟨_, _, ep + 1, Heap.get?_update_self _ ho (Obj.isFreed_of_dict (Obj.data_mapDictKeys hd _)), hc.mapDictKeys _, Obj.data_mapDictKeys hd _, ?_, fun x hx => (tkK w).keeps (his x (List.mem_cons_of_mem _ hx)) ho hd (Heap.SameBut.update ..), ?_⟩ (Heap.SameBut.update ..))))
  · obtain ⟨l⟩ := es
    simp only at he
    subst he
    simp
  · rw [List.map_cons, List.nodup_cons] at hn
    exact hn.2
theorem td_pop {b : Addr} {rest : List Tri} (hz : rest.length ≤ 1000) :
    MeetsIn PySem.Challenge.rw_rh0194_01.row.prog w (Builtin.«dict.pop» ⟨[.ref d, .ref a], []⟩) (fun A R s => A.units + 1 < cLine ∧ (tkK w).is s.heap k a ∧ s.heap.DictOfH (tkK w) d ((k, b, v) :: rest) ∧
      ∀ h' tk, h'.DictOfH (tkK w) d rest → Heap.SameBut d s.heap h' → R (.ok (.ret v)) { s with heap := h', toks := tk }) :=
  .of_wp fun A R s ⟨hu, hk, hm, h⟩ => by
    unfold Builtin.«dict.pop»
    refine wpAny_bind ?_
    unfold Builtin.Dict.keyAndDefault
    refine wpAny_bind (wpAny_notOrdered_dict hm.typeIs ?_)
    show wpAny _ _ (pure (d, Value.ref a, none)) _ _ s
    refine wpAny_pure ?_
    obtain ⟨o, es, ep, ho, hc, hd, he, his, hn⟩ := id hm
    have hne : es.isEmpty = false := by
      have := PySem.size_of_entries he
      simp only [List.length_cons] at this
      simp only [Array.isEmpty, this]
      simp
    dsimp only
    rw [if_neg (show ¬ (keyPart (Value.ref a)).isSome = true by simp [keyPart])]
    refine wpAny_bind (wpAny_dictEntries ho hd ?_)
    refine wpAny_bind (wpAny_pure ?_)
    rw [hne]
    simp only [Bool.false_eq_true, if_false]
    refine wpAny_bind (td_takeOut (show A.units + 1 < cLine from hu) hk hm hz fun h' tk hm' hs' => ?_)
    simp only [Option.isNone_some, Bool.false_eq_true, if_false]
    exact wpAny_bind (wpAny_letGo (wpAny_pure ⟨v, rfl, h h' tk hm' hs'⟩))
theorem tdq_same {nm : String} {a b : Addr} {xs ys : List Tri} {Q : Bool → Shared → Prop} (hu : A.units < cLine) (ha : (a == sysModules) = false) (hb : (b == sysModules) = false)
    (da : s.heap.DictOfH (tkK w) a xs) (db : s.heap.DictOfH (tkK w) b ys) (hlen : xs.length = ys.length) (hits : ∀ x ∈ xs, ∃ p v', (x.1, p, v') ∈ ys ∧ SeqAt.EqAt A s x.2.2 v' true) (h : Q true s) :
    wpAny (model PySem.Challenge.rw_rh0194_01.row.prog w) A (Builtin.Dict.samePairs nm a b) Q E s := by
  obtain ⟨oa, es, ep, hoa, _, hda, hea, hia, hna⟩ := da
  obtain ⟨ob, es', ep', hob, _, hdb, heb, hib, hnb⟩ := db
  have hla : es.size = xs.length := PySem.size_of_entries hea
  have hlb : es'.size = ys.length := PySem.size_of_entries heb
  have hsz : es.size = es'.size := by rw [hla, hlb, hlen]
  unfold Builtin.Dict.samePairs Builtin.Dict.showsAll
  rw [if_neg (show ¬ (a == sysModules) = true by rw [ha]; exact Bool.false_ne_true), if_neg (show ¬ (b == sysModules) = true by rw [hb]; exact Bool.false_ne_true)]
  refine wpAny_bind (wpAny_pure (wpAny_bind (wpAny_pure ?_)))
  refine wpAny_bind (wpAny_dictEntries hoa hda ?_)
  dsimp only
  refine wpAny_bind (wpAny_dictEntries hob hdb ?_)
  rw [if_neg (by rw [hsz]; simp)]
  refine wpAny_bind (wpAny_dictEpoch hoa hda ?_)
  refine wpAny_bind ?_
  rw [Std.Legacy.Range.forIn_eq_forIn_range']
  simp only [Std.Legacy.Range.size, Nat.sub_zero, Nat.add_sub_cancel, Nat.div_one]
  refine wpAny_forIn_list _
    (fun rest q s' => s' = s ∧ q = (none, ()) ∧ ∃ i, rest = List.range' i (es.size - i) ∧ i ≤ es.size)
    _ ?_ ?_ _ _ ⟨rfl, rfl, 0, by simp, Nat.zero_le _⟩
  · rintro x rest q s' ⟨rfl, rfl, i, hr, hi⟩
    have hlt : i < es.size := by
      rcases Nat.lt_or_ge i es.size with h | h
      · exact h
      · rw [Nat.sub_eq_zero_of_le h] at hr; simp at hr
    obtain ⟨rfl, hrest⟩ : x = i ∧ rest = List.range' (i + 1) (es.size - (i + 1)) := by
      have e : es.size - i = (es.size - (i + 1)) + 1 := by omega
      rw [e, List.range'_succ] at hr
      injection hr with h1 h2
      exact ⟨h1, h2⟩
    refine wpAny_bind (wpAny_dictEntries hoa hda ?_)
    have hlt' : x < xs.length := by rw [← hla]; exact hlt
    have hex : es[x]? = some (PySem.entryOfKey (tkK w) xs[x]) := by rw [PySem.entry_at hea, List.getElem?_eq_getElem hlt']; rfl
    have hin : xs[x] ∈ xs := List.getElem_mem hlt'
    obtain ⟨p, v', hy, heq⟩ := hits _ hin
    rw [hex]
    generalize xs[x] = t at hy heq hin
    obtain ⟨k, b', v⟩ := t
    have hk := hia _ hin
    show wpAny _ _ (holding [Value.ref b', v] _ >>= _) _ _ _
    refine wpAny_bind (wpAny_holding (wpAny_bind (PySem.wpAny_dictFind_heap (knd := tkK w) (show A.units < cLine from hu) hk hob hdb heb hib hnb (fun hno => ?_) fun j p' hj => ?_)))
    · obtain ⟨j, hj⟩ := List.mem_iff_getElem?.mp hy
      exact absurd hj (hno j (p, v'))
    · obtain ⟨j', hj'⟩ := List.mem_iff_getElem?.mp hy
      obtain rfl := PySem.idxH_unique hnb hj hj'
      obtain rfl : p' = (p, v') := by rw [hj] at hj'; injection hj' with e; injection e
      refine wpAny_bind (wpAny_dictEntries hob hdb ?_)
      have hey : es'[j]? = some ⟨(tkK w).hash k, .ref p, v'⟩ := by rw [PySem.entry_at heb, hj]; rfl
      rw [hey]
      refine wpAny_holding (heq _ w _ _ ?_)
      show wpAny _ _ (if (!true) = true then _ else _) _ _ _
      rw [if_neg (by decide)]
      refine wpAny_bind (wpAny_dictEpoch hoa hda ?_)
      rw [if_neg (by simp)]
      exact wpAny_pure ⟨rfl, rfl, x + 1, hrest, hlt⟩
  · rintro q s' ⟨rfl, rfl, i, hr, hi⟩
    exact wpAny_pure h
theorem tdq_eq {a b : Addr} {xs ys : List Tri} {Q : Value → Shared → Prop} (ha : (a == sysModules) = false) (hb : (b == sysModules) = false)
    (da : s.heap.DictOfH (tkK w) a xs) (db : s.heap.DictOfH (tkK w) b ys) (hu : A.units + 1 < cLine) (hlen : xs.length = ys.length) (hits : ∀ x ∈ xs, ∃ p v', (x.1, p, v') ∈ ys ∧ SeqAt.EqAt A.in1 s x.2.2 v' true) (h : Q (.bool true) s) :
    wpAny (model PySem.Challenge.rw_rh0194_01.row.prog w) A (compareOp .Eq (.ref a) (.ref b)) Q E s := by
  refine wpAny_richCompare_same_room (op := .Eq) da.typeIs db.typeIs PySem.F.slot_dict_eq (wpAny_call_entry PySem.F.slot_dict_eq da.typeIs PySem.F.entry_dict_eq ?_ (PySem.F.args_dict_eq_2 _ _)) (by omega)
  show wpAny _ _ (Builtin.Dict.dictSlotArgs "__eq__" ⟨[.ref a, .ref b], []⟩ >>= _) _ _ s
  refine wpAny_bind ?_
  unfold Builtin.Dict.dictSlotArgs
  refine wpAny_bind (wpAny_notOrdered_dict da.typeIs ?_)
  show wpAny _ _ (pure (Value.ref a, Value.ref b)) _ _ s
  refine wpAny_pure ?_
  refine wpAny_bind (wpAny_isInstance (T := "dict") db.typeIs PySem.F.sub_dict_dict ?_)
  simp only [Bool.not_true, Bool.false_eq_true, if_false]
  refine wpAny_bind (wpAny_pure (wpAny_bind (wpAny_pure ?_)))
  refine wpAny_bind (tdq_same (show A.units + 1 < cLine from hu) ha hb da db hlen hits ?_)
  refine wpAny_pure ⟨_, rfl, ?_, ?_⟩
  · exact fun x => nomatch x
  · exact h

def TdMade (w : World) (A : Around) (E : Value → Shared → Prop) (d : Addr) (Q : Value → Shared → Prop) (vs : List (Value × Value)) (s₁ : Shared) : Prop :=
  wpAny (model PySem.Challenge.rw_rh0194_01.row.prog w) A (PySem.storeAll d vs) (fun _ s₂ => Q (.ref d) s₂) E s₁
theorem td_disp {env : Env} {keys : List (Option PySem.Expr)} {values : List PySem.Expr} {pos : Pos} {Q : Value → Shared → Prop} (_ : PyProof.Rows.tupFirst keys = true) (F : Fr h₀ L s.heap m) (N : News h₀ L s.heap news) (hbig : h₀.NoLimit)
    (hall : keys.all (·.isSome) = true) (hl : keys.length = values.length) (h0 : keys ≠ []) (hlen : keys.length ≤ 15)
    (h : ∀ (d : Addr) h', Fr h₀ L h' m → News h₀ L h' ((d, tdObj w [] 0) :: news) → (∀ p ∈ news, p.1 < d) → (d == sysModules) = false →
      wpAny (model PySem.Challenge.rw_rh0194_01.row.prog w) A (evalPairs (PySem.pairTrees keys values env pos)) (TdMade w A E d Q) E { s with heap := h' }) :
    wpAny (model PySem.Challenge.rw_rh0194_01.row.prog w) A (eval (.Dict keys values pos) env) Q E s :=
  PySem.wpAny_Dict_any hall hl h0 hlen (h _ _ (F.push _) (News.push F N _) (fun p hp => Heap.lt_size (N p hp).1) (F.notModules (modules_low hbig)))
theorem td_empty {env : Env} {pos : Pos} {Q : Value → Shared → Prop} (F : Fr h₀ L s.heap m) (N : News h₀ L s.heap news) (hbig : h₀.NoLimit)
    (h : ∀ (d : Addr) h', Fr h₀ L h' m → News h₀ L h' ((d, tdObj w [] 0) :: news) → (∀ p ∈ news, p.1 < d) → (d == sysModules) = false → Q (.ref d) { s with heap := h' }) :
    wpAny (model PySem.Challenge.rw_rh0194_01.row.prog w) A (eval (.Dict [] [] pos) env) Q E s :=
  wpAny_Dict_empty (h _ _ (F.push _) (News.push F N _) (fun p hp => Heap.lt_size (N p hp).1) (F.notModules (modules_low hbig)))
theorem td_made1 {Q : Value → Shared → Prop} (hu : A.units < cLine) (F : Fr h₀ L s.heap m) (N : News h₀ L s.heap news) (U : UpdF d (tdObj w [] n) news g) (hkey : KeyIn news k a)
    (h : ∀ h' n' tk, Fr h₀ L h' m → News h₀ L h' (g (tdObj w [(k, a, v)] n')) → Q (.ref d) { s with heap := h', toks := tk }) : TdMade w A E d Q [(.ref a, v)] s := by
  obtain ⟨pre, post, rfl, hg, ha, hc⟩ := U.split
  have hm : (d, tdObj w [] n) ∈ pre ++ (d, tdObj w [] n) :: post := List.mem_append_right _ (.head _)
  have z := N _ hm
  unfold TdMade PySem.storeAll
  show wpAny _ _ ((do dictSet d (.ref a) v; pure (ForInStep.yield PUnit.unit) : Sem (ForInStep PUnit)) >>= _) _ _ s
  refine wpAny_bind (wpAny_bind (PySem.wpAny_dictSet_heap (knd := tkK w) (hsz := by simp) (show A.units < cLine from hu) (keyIn_is N hkey) (td_of N hm (fun x hx => nomatch hx) List.nodup_nil) fun h' hd hs => ?_))
  obtain ⟨n', ho⟩ := td_obj hd
  refine wpAny_pure ?_
  refine wpAny_pure ?_
  exact h h' n' _ (F.change hs z.2.1 z.2.2) (by rw [hg]; exact N.setIn ha hc hs ho)
end
end Mine
theorem Mine.sayP7x4 : True := by
  (k_with "zP7x1" => ((k_here; k_dflt (refine' Mine.td_disp ?qq ?qF ?qN ?qb ?qa ?ql ?qe ?qn ?_; (case qq => rfl); (case qF => k_asm); (case qN => first | k_asm | exact News.nil); (case qb => exact Top.nolimit (by k_asm)); (case qa | ql => rfl); (case qe => exact List.cons_ne_nil _ _); (case qn => exact Nat.le_of_ble_eq_true rfl)); intro qd' qh' qF' qN' ql1 qlo'; (try k_lt ql1))))
  (k_with "zP7x2" => ((k_here; k_dflt (refine' Mine.td_empty ?qF ?qN ?qb ?_; (case qF => k_asm); (case qN => first | k_asm | exact News.nil); (case qb => exact Top.nolimit (by k_asm))); intro qd' qh' qF' qN' ql1 qlo'; (try k_lt ql1))))
  (k_with "zP7x3" => ((k_here; k_dflt (refine' Mine.td_made1 ?qu ?qF ?qN ?qU ?qk ?_; (case qu => ktr_units); (case qF | qN => k_asm); (case qU => k_updF); (case qk => walk_at "mk")); intro qh' qn' qtk' qF' qN'; (try dsimp only at qN'))))
  (k_with "zP7x4" => ((k_here; k_dflt (refine' Mine.td_set_led ?qu ?qF ?qN ?qU ?qk ?qks ?qnd ?qnw ?qz ?_; (case qu => ktr_units); (case qF | qN => k_asm); (case qU => k_updF); (case qk => walk_at "mk"); (case qks => ((repeat' (refine' List.forall_mem_cons.mpr ⟨⟨_, _, (by k_mem), .cons _ _ (.cons _ _ .nil)⟩, ?_⟩)); exact List.forall_mem_nil _)); (case qnd => ((try simp only [List.map_cons, List.map_nil]); simp)); (case qnw => ((simp only [List.map_cons, List.map_nil, List.mem_cons, List.not_mem_nil, List.cons.injEq, or_false, and_true]); omega)); (case qz => exact Nat.le_of_ble_eq_true rfl)); intro qh' qn' qtk' qF' qN'; (try dsimp only at qN'); (try simp only [List.cons_append, List.nil_append] at qN'))))
  trivial
local macro_rules | `(tactic| walk_at "eval Dict") => `(tactic| k_extra "zP7x1")
local macro_rules | `(tactic| walk_at "eval Dict") => `(tactic| k_extra "zP7x2")
local macro_rules | `(tactic| walk_at "TdMade") => `(tactic| k_extra "zP7x3")
local macro_rules | `(tactic| walk_at "setItem ref ref ref") => `(tactic| k_extra "zP7x4")

theorem Mine.calmP8 : True := by
  w_top off
  trivial
namespace Mine
theorem netIn_split {tl : Led} {v : Value} {x : Option (List Int)} (h : NetIn tl v x) : (v = .none ∧ x = none) ∨ ∃ q ns, v = .ref q ∧ x = some ns ∧ NetIn tl (.ref q) (some ns) := by
  cases h with
  | none => exact .inl ⟨rfl, rfl⟩
  | some h1 h2 h3 h4 => exact .inr ⟨_, _, rfl, rfl, .some h1 h2 h3 h4⟩
inductive NetsIn (tl : Led) : List Tri → List Ifc → Prop
  | nil : NetsIn tl [] []
  | skip {d : Ifc} {xs : List Tri} {ds : List Ifc} : netOf d = none → NetsIn tl xs ds → NetsIn tl xs (d :: ds)
  | cons {d : Ifc} {xs : List Tri} {ds : List Ifc} {a : Addr} {v : Value} {ns : List Int} : netOf d = some ns → KeyIn tl [2, d.ad] a → NetIn tl v (some ns) → NetsIn tl xs ds → NetsIn tl (([2, d.ad], a, v) :: xs) (d :: ds)
theorem NetsIn.mono {n n' : Led} {xs : List Tri} {ds : List Ifc} (h : NetsIn n xs ds) (hs : ∀ p ∈ n, p ∈ n') : NetsIn n' xs ds := by
  induction h with
  | nil => exact .nil
  | skip e _ ih => exact .skip e ih
  | cons e k v _ ih => exact .cons e (k.mono hs) (v.mono hs) ih
def WishIn (w : World) (tl : Led) (r : Value) (ds : List Ifc) : Prop :=
  ∃ D n a v xs, r = .ref D ∧ (D, tdObj w (([1, 77], a, v) :: xs) n) ∈ tl ∧ KeyIn tl [1, 77] a ∧ RouterIn tl v (ds.flatMap links) ∧ NetsIn tl xs ds
end Mine
theorem Mine.sayP8x2 : True := by
  (k_with "zP8x1" => ((k_here; (rename Fr _ _ _ _ => qlF'); (with_unfolding_all refine' For_invVF qlF' ?qk1 ?qk2 ?_; (case qk1 | qk2 => exact rfl); k_whole))))
  (k_with "zP8x2" => ((k_here; k_dflt (refine' Mine.network_body_ok ?qB ?qF ?qX ?qN ?qT ?qhk ?qhd1 ?qhu1 ?qhI ?_; walk_at "mb"; (case qhI => walk_at "mi")); intro qr' qh' qtk' qtl' qF' qN' ql2' qni'; rcases Mine.netIn_split qni' with ⟨qe1', qe2'⟩ | ⟨qq', qns', qe1', qe2', qni2'⟩ <;> subst qe1' <;> (try dsimp only))))
  trivial
local macro_rules | `(tactic| walk_at "exec For Name Name cons nil") => `(tactic| k_extra "zP8x1")
local macro_rules | `(tactic| walk_at "call ref cons nil") => `(tactic| k_extra "zP8x2")
namespace Mine
section
variable {h h' : Heap} {L : Addr} {news a b c : Led} {x y k k2 : Addr × Obj}
theorem sh_t2 (N : News h L h' (a ++ (b ++ x :: y :: news))) : News h L h' ((a ++ (b ++ [x, y])) ++ news) := by simpa only [List.append_assoc, List.cons_append, List.nil_append] using N
theorem sh_s2 (N : News h L h' (k :: (a ++ (b ++ x :: y :: news)))) : News h L h' ((k :: (a ++ (b ++ [x, y]))) ++ news) := by simpa only [List.append_assoc, List.cons_append, List.nil_append] using N
theorem sh_tt (N : News h L h' (c ++ (a ++ (b ++ x :: y :: news)))) : News h L h' ((c ++ (a ++ (b ++ [x, y]))) ++ news) := by simpa only [List.append_assoc, List.cons_append, List.nil_append] using N
theorem sh_st (N : News h L h' (k :: (c ++ (a ++ (b ++ x :: y :: news))))) : News h L h' ((k :: (c ++ (a ++ (b ++ [x, y])))) ++ news) := by simpa only [List.append_assoc, List.cons_append, List.nil_append] using N
theorem sh_ts (N : News h L h' (c ++ (k :: (a ++ (b ++ x :: y :: news))))) : News h L h' ((c ++ (k :: (a ++ (b ++ [x, y])))) ++ news) := by simpa only [List.append_assoc, List.cons_append, List.nil_append] using N
theorem sh_ss (N : News h L h' (k2 :: (c ++ (k :: (a ++ (b ++ x :: y :: news)))))) : News h L h' ((k2 :: (c ++ (k :: (a ++ (b ++ [x, y]))))) ++ news) := by simpa only [List.append_assoc, List.cons_append, List.nil_append] using N
end
theorem wishes_of_ok {w : World} {mean : ExcName → Option Value} {mg mb : Str → Option Value} {loose : List Str} {dp un : Nat} {gd : Option (List Code)} {cn : Str} {cs : Scope} {L a : Addr} {ccd : Value} {cl : List (Str × Addr)} {outer : List Env}
   {A₀ : Around} {base h₀ : Heap} {m : Str → Option Value} {news : Led} {s : Shared} {Q E : Value → Shared → Prop} {v : Value} {ds : List Ifc} {tb tc : Tok}
   (B : Below A₀ base outer h₀) (F : Fr h₀ L s.heap m) (X : (Mine.hd.heap_39 w.params).In h₀) (N : News h₀ L s.heap news) (T : Top Mine.hd.view_39 loose mean mg mb h₀) (hk : cs.kind = .function)
   (hd1 : dp + 50 < recursionLimit) (hu1 : un + 600 < cLine) (hI : IfsIn w news v ds) (had : (ds.map (·.ad)).Nodup)
   (ret : ∀ r h' tk' tl, Fr h₀ L h' m → News h₀ L h' (tl ++ news) → (∀ q ∈ news, ∀ p ∈ tl, q.1 < p.1) → WishIn w tl r ds → Q r { s with heap := h', toks := tk' }) :
   wpAny (model PySem.Challenge.rw_rh0194_01.row.prog w) (ktrTop dp un gd cn cs L a ccd cl outer) (call (.ref 70) [v, .int 77 tc, .bool false, .bool false, .int 10 tb]) Q E s := by
  revert X; k_fill; intro X
  cases hI with
  | @one l v d k hml hI1 hn1 =>
    have hIs := IfsIn.one hml hI1 hn1
    have hI0 := hI1
    cases hI1 with | @mk a1 l1 o1 _ vs1 k1 t1 _ _ _ _ _ _ hm hdic hl2 hnb hz =>
    (repeat' kat_tups)
    all_goals (
      (rename News _ _ _ _ => kN)
      (rename RouterIn _ _ _ => kR)
      first
        | refine ret _ _ _ _ (by k_asm) (sh_s2 kN) ?_ ?_
        | refine ret _ _ _ _ (by k_asm) (sh_t2 kN) ?_ ?_
      · intro q hqn p hp
        repeat' (first | (rcases List.mem_append.mp hp with hp | hp) | (rcases List.mem_cons.mp hp with rfl | hp))
        all_goals first
          | exact absurd hp List.not_mem_nil
          | exact lt_all_use (by assumption) (by repeat' (first | exact hqn | refine List.mem_cons_of_mem _ ?_ | refine List.mem_append_right _ ?_))
          | exact fresh_use (by assumption) hp (by repeat' (first | exact hqn | refine List.mem_cons_of_mem _ ?_ | refine List.mem_append_right _ ?_))
      · refine ⟨_, _, _, _, _, rfl, (by k_mem), ⟨_, _, (by k_mem), .cons _ _ (.cons _ _ .nil)⟩, kR.mono (by ktd_sub), ?_⟩
        repeat' (first
            | exact NetsIn.nil
            | exact NetsIn.skip (by assumption) NetsIn.nil
            | exact NetsIn.cons (by assumption) ⟨_, _, (by k_mem), .cons _ _ (.cons _ _ .nil)⟩ (NetIn.mono (by assumption) (by ktd_sub)) NetsIn.nil
            | refine NetsIn.skip (by assumption) ?_
            | refine NetsIn.cons (by assumption) ⟨_, _, (by k_mem), .cons _ _ (.cons _ _ .nil)⟩ (NetIn.mono (by assumption) (by ktd_sub)) ?_))
  | @two l v1 v2 d1 d2 k hml hI1 hI2 hn1 hn2 =>
    have hIs := IfsIn.two hml hI1 hI2 hn1 hn2
    have hne : d1.ad ≠ d2.ad := by
      simp only [List.map_cons, List.map_nil, List.nodup_cons, List.mem_cons, List.not_mem_nil, or_false] at had
      exact had.1
    have hI01 := hI1
    have hI02 := hI2
    cases hI1 with | @mk a1 l1 o1 _ vs1 k1 t1 _ _ _ _ _ _ hm hdic hl2 hnb hz =>
    cases hI2 with | @mk a2 l2 o2 _ vs2 k2 t2 _ _ _ _ _ _ hm' hdic' hl2' hnb' hz' =>
    (repeat' kat_tups)
    all_goals (
      (rename News _ _ _ _ => kN)
      (rename RouterIn _ _ _ => kR)
      first
        | refine ret _ _ _ _ (by k_asm) (sh_ss kN) ?_ ?_
        | refine ret _ _ _ _ (by k_asm) (sh_st kN) ?_ ?_
        | refine ret _ _ _ _ (by k_asm) (sh_ts kN) ?_ ?_
        | refine ret _ _ _ _ (by k_asm) (sh_tt kN) ?_ ?_
      · intro q hqn p hp
        repeat' (first | (rcases List.mem_append.mp hp with hp | hp) | (rcases List.mem_cons.mp hp with rfl | hp))
        all_goals first
          | exact absurd hp List.not_mem_nil
          | exact lt_all_use (by assumption) (by repeat' (first | exact hqn | refine List.mem_cons_of_mem _ ?_ | refine List.mem_append_right _ ?_))
          | exact fresh_use (by assumption) hp (by repeat' (first | exact hqn | refine List.mem_cons_of_mem _ ?_ | refine List.mem_append_right _ ?_))
      · refine ⟨_, _, _, _, _, rfl, (by k_mem), ⟨_, _, (by k_mem), .cons _ _ (.cons _ _ .nil)⟩, kR.mono (by ktd_sub), ?_⟩
        repeat' (first
            | exact NetsIn.nil
            | exact NetsIn.skip (by assumption) NetsIn.nil
            | exact NetsIn.cons (by assumption) ⟨_, _, (by k_mem), .cons _ _ (.cons _ _ .nil)⟩ (NetIn.mono (by assumption) (by ktd_sub)) NetsIn.nil
            | refine NetsIn.skip (by assumption) ?_
            | refine NetsIn.cons (by assumption) ⟨_, _, (by k_mem), .cons _ _ (.cons _ _ .nil)⟩ (NetIn.mono (by assumption) (by ktd_sub)) ?_))
end Mine
theorem Mine.sayP8x3 : True := by
  (k_with "zP8x3" => ((k_here; k_dflt (refine' Mine.wishes_of_ok ?qB ?qF ?qX ?qN ?qT ?qhk ?qhd1 ?qhu1 ?qhI ?qhad ?_; walk_at "mb"; (case qhI => walk_at "mj"); (case qhad => assumption)); intro qr' qh' qtk' qtl' qF' qN' ql2' qwi'; (try dsimp only))))
  trivial
local macro_rules | `(tactic| walk_at "call ref cons nil") => `(tactic| k_extra "zP8x3")

theorem Mine.calmP11 : True := by
  w_top off
  trivial
namespace Mine
/-- a block over a range that turns what stands -/
theorem comp_rng {prog : Program} {w : World} {A : Around} {h₀ : Heap} {L : Addr} {m : Str → Option Value} {env : Env} {elt : PySem.Expr} {x : Str} {scope : Scope} {cl : List (Str × Addr)} {Fin : Shared → List Value → Led → Prop} {r : Addr} {a b : Int} {t u v : Tok} {n : Nat} {news : Led} {s₁ : Shared}
    (R : Nat → List Value → Led → Prop) (hR : R 0 [] news) (hh : A.handled = none) (F : Fr h₀ L s₁.heap m) (N : News h₀ L s₁.heap news) (hr : IsRange s₁.heap r a b 1 t u v) (hsm : Builtin.Range.small a b 1 = true) (hn : Builtin.Range.rangeSize a b 1 = ((n : Nat) : Int)) (hsz : n ≤ sizeLine)
    (turn : ∀ i t ys nw I oI C oC D m₂ (s₂ : Shared) (E' : Value → Shared → Prop), i < n → R i ys nw → LCg.NsObj oC m₂ → m₂ x = some (.int (a + (i : Int)) t) → Fr h₀ L s₂.heap m → News h₀ L s₂.heap ((I, oI) :: (C, oC) :: (D, LCg.lst ys) :: nw) → LCg.Off3 I C D nw → ((@Ne Nat I C) ∧ (@Ne Nat I D) ∧ (@Ne Nat C D)) →
        wpAny (model prog w) A (eval elt (compEnvC scope cl C env)) (LCg.CompEnd h₀ L m s₂ I oI C oC D (LCg.lst ys) (fun _ => True) (fun y nw' => R (i + 1) (ys ++ [y]) nw')) E' s₂)
    (fin : ∀ g ys nw, R n ys nw → Fin { s₁ with heap := g } ys nw) : LCg.CompSrc prog w A h₀ L m env elt x scope cl Fin (.ref r) s₁ := by
  refine LCg.CompSrc.range hh F N hr hsm hn hsz fun g => ?_
  suffices H : ∀ (k i : Nat) (ys : List Value) (nw : Led), k = n - i → i ≤ n → R i ys nw → LCg.CompRest prog w A h₀ L m env elt x scope cl { s₁ with heap := g } (fun _ => True) (fun i v => ∃ t, v = .int (a + (i : Int)) t) (Fin { s₁ with heap := g }) k i ys nw from
    H n 0 [] news rfl (Nat.zero_le _) hR
  intro k
  induction k with
  | zero =>
    intro i ys nw hk hi hR
    obtain rfl : i = n := by omega
    exact LCg.CompRest.zero (fin _ _ _ hR)
  | succ k ih =>
    intro i ys nw hk hi hR
    refine LCg.CompRest.succ fun v I oI C oC D m₂ h tk E' hv hC hx F N off ne => ?_
    obtain ⟨t, rfl⟩ := hv
    refine wpAny_mono (turn i t ys nw I oI C oC D m₂ { s₁ with heap := h, toks := tk } E' (by omega) hR hC hx F N off ne) (fun y s₂ hy => ?_) fun _ _ e => e
    obtain ⟨h', tk', news', e1, e2, e3, e4, e5, e6⟩ := hy
    exact ⟨h', tk', news', e1, e2, e3, e4, e5, ih (i + 1) _ _ (by omega) (by omega) e6⟩
/-- a for over a made list whose turns turn what stands -/
theorem items_inv {prog : Program} {w : World} {A : Around} {E : Value → Shared → Prop} {s : Shared} {env : Env} {h₀ : Heap} {target : PySem.Expr} {body : List Stmt} {Q : Flow → Shared → Prop} {I : Addr} {cn : String} {keep : Led}
    (R : List Value → (Str → Option Value) → Led → Prop)
    (turn : ∀ v rest m news h tk o, R (v :: rest) m news → Fr h₀ env.locals h m → News h₀ env.locals h ((I, o) :: news) →
      wpAny (model prog w) A (assign target env v) (fun _ s₂ => wpAny (model prog w) A (execs body env) (UnrPostW h₀ env.locals { s with heap := h, toks := tk } [(I, o)] (fun m' n' => SubL keep n' ∧ R rest m' n') Q) E s₂) E { s with heap := h, toks := tk })
    (fin : ∀ m news h tk, R [] m news → Fr h₀ env.locals h m → News h₀ env.locals h news → Q .next { s with heap := h, toks := tk }) :
    ∀ (vs : List Value) (m : Str → Option Value) (news : Led), R vs m news → ItemsRest prog w A E h₀ env target body Q s [(I, cn)] keep (vs.map .val) m news
  | [], m, news, hR => ItemsRest.zero fun h tk F N => fin m news h tk hR F N
  | v :: rest, m, news, hR => by
    refine ItemsRest.val fun h tk F => AllObj.cons fun o _ => AllObj.nil fun N => ?_
    refine wpAny_mono (turn v rest m news h tk o hR F N) (fun _ s₂ h₂ => wpAny_mono h₂ (fun f s₃ h₃ => ?_) fun _ _ e => e) fun _ _ e => e
    have step : ∀ {s₃}, UnrEndW h₀ env.locals { s with heap := h, toks := tk } [(I, o)] (fun m' n' => SubL keep n' ∧ R rest m' n') s₃ →
        UnrEndW h₀ env.locals { s with heap := h, toks := tk } [(I, o)] (fun m' n' => SubL keep n' ∧ ItemsRest prog w A E h₀ env target body Q s [(I, cn)] keep (rest.map .val) m' n') s₃ := by
      rintro s₃ ⟨h', tk', m', n', e, F', N', off, hs, r⟩
      exact ⟨h', tk', m', n', e, F', N', off, hs, items_inv R turn fin rest m' n' r⟩
    cases f with
    | ret v => exact h₃
    | brk => exact h₃
    | next => exact step h₃
    | cont => exact step h₃
/-- what the interfaces' list comes to -/
inductive IfMade (w : World) (news : Led) : Nat → List Value → List Ifc → Prop
  | nil : IfMade w news 0 [] []
  | one {v : Value} {d : Ifc} : IfcIn w news v d → Okd 1 d → IfMade w news 1 [v] [d]
  | two {v1 v2 : Value} {d1 d2 : Ifc} : IfcIn w news v1 d1 → Okd 1 d1 → IfcIn w news v2 d2 → Okd 2 d2 → IfMade w news 2 [v1, v2] [d1, d2]
theorem IfMade.mono {w : World} {n n' : Led} {k : Nat} {vs : List Value} {ds : List Ifc} (h : IfMade w n k vs ds) (hs : ∀ p ∈ n, p ∈ n') : IfMade w n' k vs ds := by
  cases h with
  | nil => exact .nil
  | one a b => exact .one (a.mono hs) b
  | two a b c d => exact .two (a.mono hs) b (c.mono hs) d
theorem IfMade.snoc {w : World} {n : Led} {i : Nat} {vs : List Value} {ds : List Ifc} {v : Value} {d : Ifc} (h : IfMade w n i vs ds) (hi : i < 2) (a : IfcIn w n v d) (b : Okd (1 + (0 + (i : Int))) d) : IfMade w n (i + 1) (vs ++ [v]) (ds ++ [d]) := by
  cases h with
  | nil => exact .one a b
  | one c e => exact .two c e a b
  | two _ _ _ _ => omega
theorem NetsIn.append {tl : Led} {xs ys : List Tri} {ds es : List Ifc} (h : NetsIn tl xs ds) (g : NetsIn tl ys es) : NetsIn tl (xs ++ ys) (ds ++ es) := by
  induction h with
  | nil => exact g
  | skip e _ ih => exact .skip e ih
  | cons e k v _ ih => exact .cons e k v ih
theorem NetsIn.keys {tl : Led} {xs : List Tri} {ds : List Ifc} (h : NetsIn tl xs ds) : ∀ x ∈ xs, KeyIn tl x.1 x.2.1 ∧ ∃ d ∈ ds, x.1 = [2, d.ad] := by
  induction h with
  | nil => exact fun _ h => nomatch h
  | skip e _ ih => exact fun x hx => ⟨(ih x hx).1, by obtain ⟨d, hd, e⟩ := (ih x hx).2; exact ⟨d, List.mem_cons_of_mem _ hd, e⟩⟩
  | cons e k v _ ih =>
    intro x hx
    rcases List.mem_cons.mp hx with rfl | hx
    · exact ⟨k, _, List.mem_cons_self .., rfl⟩
    · exact ⟨(ih x hx).1, by obtain ⟨d, hd, e⟩ := (ih x hx).2; exact ⟨d, List.mem_cons_of_mem _ hd, e⟩⟩
theorem NetsIn.nodup {tl : Led} {xs : List Tri} {ds : List Ifc} (h : NetsIn tl xs ds) (hn : (ds.map (·.ad)).Nodup) : (xs.map (·.1)).Nodup := by
  induction h with
  | nil => exact List.nodup_nil
  | skip e _ ih => exact ih (List.nodup_cons.mp hn).2
  | cons e k v h ih =>
    rw [List.map_cons, List.nodup_cons] at hn ⊢
    refine ⟨fun hm => hn.1 ?_, ih hn.2⟩
    obtain ⟨x, hx, e⟩ := List.mem_map.mp hm
    obtain ⟨d, hd, e'⟩ := (h.keys x hx).2
    rw [e'] at e
    have e9 := (List.cons.inj (List.cons.inj e).2).1
    exact e9 ▸ List.mem_map.mpr ⟨d, hd, rfl⟩
theorem NetsIn.length {tl : Led} {xs : List Tri} {ds : List Ifc} (h : NetsIn tl xs ds) : xs.length = (ds.filter fun d => (netOf d).isSome).length := by
  induction h with
  | nil => rfl
  | skip e _ ih => rw [List.filter_cons_of_neg (by rw [e]; exact Bool.false_ne_true)]; exact ih
  | cons e k v _ ih => rw [List.filter_cons_of_pos (by rw [e]; rfl), List.length_cons, List.length_cons, ih]
/-- sorting twice is sorting once -/
theorem srt_srt (l : List Int) (x : Int) : srt (srt l ++ [x]) = srt (l ++ [x]) := srt_of (((srt_perm _).trans ((srt_perm l).append_right [x]))) (srt_sorted _)
theorem fullR_nil {ns : List Nb} : fullR ns = [] ↔ fullN ns = [] := by
  unfold fullR
  constructor
  · intro h
    have := (srt_perm ((fullN ns).map (·.r))).length_eq
    rw [h, List.length_map, List.length_nil] at this
    exact List.eq_nil_of_length_eq_zero this.symm
  · intro h
    rw [h]
    exact List.eq_nil_of_length_eq_zero ((srt_perm _).length_eq)
def chief (d : Ifc) : Bool := (d.st == Str.ofString "dr") && !decide (fullN d.nbs = [])
def isNear (d : Ifc) : Bool := ([Str.ofString "backup", Str.ofString "other"].any (fun x => x == d.st)) && !decide (nearN d.dr d.nbs = [])
theorem net_chief {n : Int} {d : Ifc} (o : Okd n d) : netOf d = if chief d = true then some (srt ((fullN d.nbs).map (·.r) ++ [77])) else none := by
  unfold netOf chief
  by_cases h : (d.st == Str.ofString "dr") = true
  · have e : (d.st != Str.ofString "dr") = false := by rw [bne, h]; rfl
    rw [if_pos (o.h1 h), e, if_neg Bool.false_ne_true, h, Bool.true_and]
    by_cases hf : fullN d.nbs = []
    · rw [if_pos (fullR_nil.mpr hf), if_neg (by simp [hf])]
    · rw [if_neg (fun q => hf (fullR_nil.mp q)), if_pos (by simp [hf])]
      congr 1
      exact srt_srt _ _
  · have h' : (d.st == Str.ofString "dr") = false := by simpa using h
    have e : (d.st != Str.ofString "dr") = true := by rw [bne, h']; rfl
    rw [h', Bool.false_and, if_neg Bool.false_ne_true, e, if_pos rfl]
    split <;> rfl
def isT (x : Lk) : Bool := decide (x.c = 2)
theorem stub_c (d : Ifc) : isT (stub d) = false := rfl
theorem host_c (d : Ifc) : isT (host d) = false := rfl
theorem any_swap (s : Str) : [Str.ofString "other", Str.ofString "backup"].any (fun x => x == s) = [Str.ofString "backup", Str.ofString "other"].any (fun x => x == s) := by
  simp only [List.any_cons, List.any_nil, Bool.or_false]
  exact Bool.or_comm _ _
theorem ptp_filter (d : Ifc) (l : List Int) : (l.map (ptp d)).filter isT = [] := by
  induction l with
  | nil => rfl
  | cons a l ih => rw [List.map_cons, List.filter_cons_of_neg (by show ¬ (decide ((1 : Int) = 2)) = true; decide)]; exact ih
theorem beq_not {a b c : Str} (h : (a == b) = true) (hd : (b == c) = false) : (a == c) = false := by
  rw [eq_of_beq h]; exact hd
theorem links_T {n : Int} {d : Ifc} (o : Okd n d) : (links d).filter isT = if (chief d || isNear d) = true then [⟨d.dr, d.ad, 2, 2⟩] else [] := by
  unfold links
  by_cases h1 : (d.st == Str.ofString "down") = true
  · have e1 : (d.st == Str.ofString "dr") = false := beq_not h1 (by decide)
    have e2 : (d.st == Str.ofString "backup") = false := beq_not h1 (by decide)
    have e3 : (d.st == Str.ofString "other") = false := beq_not h1 (by decide)
    rw [if_pos h1, if_neg]
    · rfl
    · unfold chief isNear
      simp only [List.any_cons, List.any_nil, Bool.or_false, BEq.comm (a := Str.ofString "backup"), BEq.comm (a := Str.ofString "other"), e1, e2, e3, Bool.false_and, Bool.or_self]
      decide
  rw [if_neg h1]
  by_cases h2 : (d.st == Str.ofString "loopback") = true
  · have e1 : (d.st == Str.ofString "dr") = false := beq_not h2 (by decide)
    have e2 : (d.st == Str.ofString "backup") = false := beq_not h2 (by decide)
    have e3 : (d.st == Str.ofString "other") = false := beq_not h2 (by decide)
    rw [if_pos h2, if_neg]
    · rfl
    · unfold chief isNear
      simp only [List.any_cons, List.any_nil, Bool.or_false, BEq.comm (a := Str.ofString "backup"), BEq.comm (a := Str.ofString "other"), e1, e2, e3, Bool.false_and, Bool.or_self]
      decide
  rw [if_neg h2]
  by_cases h3 : ([Str.ofString "point_to_point", Str.ofString "multipoint"].any (fun x => x == d.kind)) = true
  · obtain ⟨e1, e2⟩ := o.h2 h3
    have e4 : ¬ (chief d || isNear d) = true := by
      unfold chief isNear
      rw [← any_swap, e1, e2, Bool.false_and, Bool.false_and]
      decide
    rw [if_pos h3, List.filter_append, ptp_filter, List.nil_append, if_neg e4]
    split <;> rfl
  rw [if_neg h3]
  have hj : joined d = (chief d || isNear d) := by
    unfold joined chief isNear
    by_cases h4 : (d.st == Str.ofString "dr") = true
    · have e2 : (d.st == Str.ofString "backup") = false := beq_not h4 (by decide)
      have e3 : (d.st == Str.ofString "other") = false := beq_not h4 (by decide)
      rw [if_pos h4, h4]
      simp only [List.any_cons, List.any_nil, Bool.or_false, BEq.comm (a := Str.ofString "backup"), BEq.comm (a := Str.ofString "other"), e2, e3, Bool.false_and, Bool.true_and, fullR_nil]
    · have h4' : (d.st == Str.ofString "dr") = false := by simpa using h4
      rw [if_neg h4, h4', Bool.false_and, Bool.false_or, any_swap]
      by_cases h5 : ([Str.ofString "backup", Str.ofString "other"].any (fun x => x == d.st)) = true
      · rw [if_pos h5, if_neg o.dr, h5, Bool.true_and]
      · rw [if_neg h5]
        have h5' := Bool.eq_false_iff.mpr h5
        rw [h5', Bool.false_and]
  rw [hj]
  split
  · rfl
  · rfl
end Mine

theorem Mine.calmP13 : True := by
  w_top off
  trivial
namespace Mine
/-- a list of objects held against the empty list -/
theorem ne_nil_led {prog : Program} {w : World} {A : Around} {E : Value → Shared → Prop} {s : Shared} {h₀ : Heap} {L l b : Addr} {news : Led} {vs : List Value} {k1 k2 : Nat} {Q : Value → Shared → Prop}
    (N : News h₀ L s.heap news) (ha : (l, PySem.W.listOf vs.toArray k1) ∈ news) (hb : (b, PySem.W.listOf #[] k2) ∈ news) (hu : A.units < cLine) (h : Q (.bool (!decide (vs = []))) s) :
    wpAny (model prog w) A (compareOp .NotEq (.ref l) (.ref b)) Q E s := by
  have i1 : s.heap.IsList l vs.toArray := ⟨_, (N _ ha).1, rfl, _, rfl⟩
  have i2 : s.heap.IsList b #[] := ⟨_, (N _ hb).1, rfl, _, rfl⟩
  cases vs with
  | nil => exact SeqAt.RcNeAt.lists (e := fun _ => true) i1 i2 rfl hu (fun j h1 h2 => absurd h2 (Nat.not_lt_zero _)) prog w E Q h
  | cons v r => exact SeqAt.RcNeAt.lists_lengths i1 i2 (by simp) hu prog w E Q h
def netData (ns : List Int) : PyData := .tuple [.str (Str.ofString "network"), .int 4, .tuple (ns.map .int)]
theorem net_shaped (ns : List Int) : SeqAt.shaped (netData ns) = true := by
  simp [netData, SeqAt.shaped, PyData.canLay0, PyData.canLayAll0, PyData.depth, PyData.depthAll, ke_canLayAll0, ke_depthAll]
  decide +kernel
theorem net_reads {h₀ h : Heap} {L : Addr} {news tl : Led} {v : Value} {ns : List Int} (N : News h₀ L h news) (hs : ∀ p ∈ tl, p ∈ news) (x : NetIn tl v (some ns)) : Reads h v (netData ns) [] := by
  cases x with | some h1 h2 h3 h4 =>
  refine Reads.tuple (N _ (hs _ h1)).1 rfl rfl (.cons (as := []) (bs := []) (.str _ _) (.cons (as := []) (bs := []) (.int _ _) (.cons (as := []) (bs := []) (Reads.tuple (N _ (hs _ h2)).1 rfl rfl ?_) .nil)))
  simpa using IntsAre.reads h h3
def lkData (x : Lk) : PyData := .tuple [.int x.a, .int x.b, .int x.c, .int x.e]
theorem lk_reads {h₀ h : Heap} {L : Addr} {news tl : Led} {vs : List Value} {xs : List Lk} (N : News h₀ L h news) (hs : ∀ p ∈ tl, p ∈ news) (x : LkAll tl vs xs) : ReadsAll h vs (xs.map lkData) [] := by
  induction x with
  | nil => exact .nil
  | cons a _ ih =>
    cases a with | mk hm =>
    exact .cons (as := []) (bs := []) (Reads.tuple (N _ (hs _ hm)).1 rfl rfl (.cons (as := []) (bs := []) (.int _ _) (.cons (as := []) (bs := []) (.int _ _) (.cons (as := []) (bs := []) (.int _ _) (.cons (as := []) (bs := []) (.int _ _) .nil))))) ih
theorem lk_canLay : ∀ xs : List Lk, PyData.canLayAll0 (xs.map lkData) = true
  | [] => rfl
  | x :: r => by simp [PyData.canLayAll0, PyData.canLay0, lkData, lk_canLay r]
theorem lk_depth : ∀ xs : List Lk, PyData.depthAll (xs.map lkData) ≤ 1
  | [] => Nat.zero_le _
  | x :: r => by
    have := lk_depth r
    simp only [List.map_cons, PyData.depthAll, PyData.depth, lkData]
    omega
theorem lks_shaped (xs : List Lk) : SeqAt.shaped (.list (xs.map lkData)) = true := by
  have := lk_depth xs
  simp only [SeqAt.shaped, PyData.canLay0, PyData.depth, lk_canLay, Bool.true_and]
  exact decide_eq_true (by omega)
def rtData (xs : List Lk) : PyData := .tuple [.str (Str.ofString "router"), .int 0, .tuple (xs.map lkData)]
theorem rt_shaped (xs : List Lk) : SeqAt.shaped (rtData xs) = true := by
  have := lk_depth xs
  simp only [rtData, SeqAt.shaped, PyData.canLay0, PyData.canLayAll0, PyData.depth, PyData.depthAll, lk_canLay, Bool.and_true, Bool.true_and, Bool.and_eq_true, decide_eq_true_eq]
  exact ⟨by decide +kernel, by omega⟩
theorem rt_reads {h₀ h : Heap} {L : Addr} {news tl : Led} {v : Value} {xs : List Lk} (N : News h₀ L h news) (hs : ∀ p ∈ tl, p ∈ news) (x : RouterIn tl v xs) : Reads h v (rtData xs) [] := by
  cases x with | mk h1 h2 h3 h4 =>
  refine Reads.tuple (N _ (hs _ h1)).1 rfl rfl (.cons (as := []) (bs := []) (.str _ _) (.cons (as := []) (bs := []) (.int _ _) (.cons (as := []) (bs := []) (Reads.tuple (N _ (hs _ h2)).1 rfl rfl ?_) .nil)))
  simpa using lk_reads N hs h3
section
variable {prog : Program} {w : World} {A : Around} {E : Value → Shared → Prop} {s : Shared} {h₀ : Heap} {L : Addr} {news t1 t2 : Led} {v1 v2 : Value} {Q : Value → Shared → Prop}
theorem net_ne {ns : List Int} (N : News h₀ L s.heap news) (s1 : ∀ p ∈ t1, p ∈ news) (s2 : ∀ p ∈ t2, p ∈ news) (x1 : NetIn t1 v1 (some ns)) (x2 : NetIn t2 v2 (some ns)) (hu : A.units + 64 < cLine) (h : Q (.bool false) s) :
    wpAny (model prog w) A (compareOp .NotEq v1 v2) Q E s := by
  refine ne_dataH (net_reads N s1 x1) (net_reads N s2 x2) (net_shaped _) (net_shaped _) hu ?_
  rw [SeqAt.eqv_refl _ (SeqAt.canLay_of_shaped (net_shaped _))]
  exact h
theorem net_eqAt {ns : List Int} (N : News h₀ L s.heap news) (s1 : ∀ p ∈ t1, p ∈ news) (s2 : ∀ p ∈ t2, p ∈ news) (x1 : NetIn t1 v1 (some ns)) (x2 : NetIn t2 v2 (some ns)) (hu : A.units + 64 < cLine) : SeqAt.EqAt A s v1 v2 true := by
  have := SeqAt.eqAt_reads _ _ A s _ _ _ _ (net_reads N s1 x1) (net_reads N s2 x2) (SeqAt.canLay_of_shaped (net_shaped _)) (SeqAt.canLay_of_shaped (net_shaped _)) (SeqAt.room_of_shaped (net_shaped _) hu)
  rw [SeqAt.eqv_refl _ (SeqAt.canLay_of_shaped (net_shaped _))] at this
  exact this
theorem lks_ne {l1 l2 : Addr} {vs1 vs2 : List Value} {k1 k2 : Nat} {xs : List Lk} (N : News h₀ L s.heap news) (m1 : (l1, PySem.W.listOf vs1.toArray k1) ∈ news) (m2 : (l2, PySem.W.listOf vs2.toArray k2) ∈ news) (s1 : ∀ p ∈ t1, p ∈ news) (s2 : ∀ p ∈ t2, p ∈ news) (x1 : LkAll t1 vs1 xs) (x2 : LkAll t2 vs2 xs) (hu : A.units + 64 < cLine) (h : Q (.bool false) s) :
    wpAny (model prog w) A (compareOp .NotEq (.ref l1) (.ref l2)) Q E s := by
  refine ne_dataH (da := .list (xs.map lkData)) (db := .list (xs.map lkData)) (Reads.list (N _ m1).1 rfl rfl (by simpa using lk_reads N s1 x1)) (Reads.list (N _ m2).1 rfl rfl (by simpa using lk_reads N s2 x2)) (lks_shaped _) (lks_shaped _) hu ?_
  rw [SeqAt.eqv_refl _ (SeqAt.canLay_of_shaped (lks_shaped _))]
  exact h
theorem rt_eq {xs : List Lk} (N : News h₀ L s.heap news) (s1 : ∀ p ∈ t1, p ∈ news) (s2 : ∀ p ∈ t2, p ∈ news) (x1 : RouterIn t1 v1 xs) (x2 : RouterIn t2 v2 xs) (hu : A.units + 64 < cLine) (h : Q (.bool true) s) :
    wpAny (model prog w) A (compareOp .Eq v1 v2) Q E s := by
  refine eq_dataH (rt_reads N s1 x1) (rt_reads N s2 x2) (rt_shaped _) (rt_shaped _) hu ?_
  rw [SeqAt.eqv_refl _ (SeqAt.canLay_of_shaped (rt_shaped _))]
  exact h
end
/-- two tables of the same nets agree -/
theorem nets_same {A : Around} {s : Shared} {h₀ : Heap} {L : Addr} {news t1 t2 : Led} {ds : List Ifc} {xs : List Tri} (N : News h₀ L s.heap news) (s1 : ∀ p ∈ t1, p ∈ news) (s2 : ∀ p ∈ t2, p ∈ news) (hu : A.units + 64 < cLine) (x : NetsIn t1 xs ds) :
    ∀ ys, NetsIn t2 ys ds → ∀ a ∈ xs, ∃ p v', (a.1, p, v') ∈ ys ∧ SeqAt.EqAt A s a.2.2 v' true := by
  induction x with
  | nil => exact fun _ _ _ h => nomatch h
  | skip e h ih =>
    intro ys y
    cases y with
    | skip e' y => exact ih ys y
    | cons e' k v y => rw [e] at e'; cases e'
  | cons e k v h ih =>
    intro ys y a ha
    cases y with
    | skip e' y => rw [e] at e'; cases e'
    | cons e' k' v' y =>
      rw [e] at e'
      cases e'
      rcases List.mem_cons.mp ha with rfl | ha
      · exact ⟨_, _, .head _, net_eqAt N s1 s2 v v' hu⟩
      · obtain ⟨p, u, hm, hq⟩ := ih _ y a ha
        exact ⟨p, u, .tail _ hm, hq⟩
end Mine

theorem Mine.calmP14 : True := by
  w_top off
  trivial
namespace Mine
theorem KeyIn.monoT {n n' : Led} {k : List Int} {a : Addr} (h : KeyIn n k a) (hs : ∀ p ∈ n, p.2.cls = .type "tuple" → p ∈ n') : KeyIn n' k a := by
  obtain ⟨vs, m, hm, hi⟩ := h
  exact ⟨vs, m, hs _ hm rfl, hi⟩
theorem NetIn.monoT {n n' : Led} {v : Value} {x : Option (List Int)} (h : NetIn n v x) (hs : ∀ p ∈ n, p.2.cls = .type "tuple" → p ∈ n') : NetIn n' v x := by
  cases h with
  | none => exact .none
  | some h1 h2 h3 h4 => exact .some (hs _ h1 rfl) (hs _ h2 rfl) h3 h4
theorem NetsIn.monoT {n n' : Led} {xs : List Tri} {ds : List Ifc} (h : NetsIn n xs ds) (hs : ∀ p ∈ n, p.2.cls = .type "tuple" → p ∈ n') : NetsIn n' xs ds := by
  induction h with
  | nil => exact .nil
  | skip e _ ih => exact .skip e ih
  | cons e k v _ ih => exact .cons e (k.monoT hs) (v.monoT hs) ih
theorem LkAll.monoT {n n' : Led} {vs : List Value} {xs : List Lk} (h : LkAll n vs xs) (hs : ∀ p ∈ n, p.2.cls = .type "tuple" → p ∈ n') : LkAll n' vs xs := by
  induction h with
  | nil => exact .nil
  | cons h _ ih => exact .cons (by cases h with | mk hm => exact .mk (hs _ hm rfl)) ih
theorem RouterIn.monoT {n n' : Led} {v : Value} {x : List Lk} (h : RouterIn n v x) (hs : ∀ p ∈ n, p.2.cls = .type "tuple" → p ∈ n') : RouterIn n' v x := by
  cases h with
  | mk h1 h2 h3 h4 => exact .mk (hs _ h1 rfl) (hs _ h2 rfl) (h3.monoT hs) h4
section
variable {w : World} {A : Around} {E : Value → Shared → Prop} {s : Shared} {h₀ : Heap} {L D b ka : Addr} {m : Str → Option Value} {news : Led} {g : Obj → Led} {xs : List Tri} {k : List Int} {n : Nat} {v : Value}
theorem td_method {name : Str} {id : String} {pl : Sem Bool} {Q : Value × List Value → Shared → Prop} (slot : Slot "dict" name id) (ty : typeOf (.builtin id) = pure (.type "method_descriptor")) (N : News h₀ L s.heap news) (hm : (D, tdObj w xs n) ∈ news) (h : Q (.builtin id, [.ref D]) s) :
    wpAny (model PySem.Challenge.rw_rh0194_01.row.prog w) A (getMethod (.ref D) name pl) Q E s :=
  getMethod_builtin ⟨_, (N _ hm).1, rfl⟩ PySem.F.plainAttrs_dict slot ty (fun a e => by cases e; exact ⟨_, (N _ hm).1, rfl⟩) h
theorem td_pop_led {rest : List Tri} {Q : Value → Shared → Prop} (hu : A.units + 2 < cLine) (F : Fr h₀ L s.heap m) (N : News h₀ L s.heap news) (U : UpdF D (tdObj w ((k, b, v) :: rest) n) news g) (hkey : KeyIn news k ka) (hk : ∀ x ∈ ((k, b, v) :: rest : List Tri), KeyIn news x.1 x.2.1) (hn : (((k, b, v) :: rest : List Tri).map (·.1)).Nodup) (hz : rest.length ≤ 1000)
    (h : ∀ h' n' tk, Fr h₀ L h' m → News h₀ L h' (g (tdObj w rest n')) → Q v { s with heap := h', toks := tk }) :
    wpAny (model PySem.Challenge.rw_rh0194_01.row.prog w) A (call (.builtin "dict.pop") [.ref D, .ref ka]) Q E s := by
  obtain ⟨pre, post, rfl, hg, ha, hc⟩ := U.split
  have hm : (D, tdObj w ((k, b, v) :: rest) n) ∈ pre ++ (D, tdObj w ((k, b, v) :: rest) n) :: post := List.mem_append_right _ (.head _)
  have z := N _ hm
  refine call_meetsIn PySem.F.slot_dict_pop ⟨_, z.1, rfl⟩ PySem.F.entry_dict_pop (PySem.F.args_dict_pop_2 _ _) (td_pop (b := b) (k := k) (v := v) hz) ⟨by show A.units + 1 < cLine; omega, keyIn_is N hkey, td_of N hm hk hn, fun h' tk hd hs => ?_⟩
  obtain ⟨n', ho⟩ := td_obj hd
  exact h h' n' _ (F.change hs z.2.1 z.2.2) (by rw [hg]; exact N.setIn ha hc hs ho)
theorem eq_nets {n1 n2 : Nat} {t1 t2 : Led} {ds : List Ifc} {ys : List Tri} {Q : Value → Shared → Prop} (N : News h₀ L s.heap news) (hD : (D, tdObj w xs n1) ∈ news) (hE : (b, tdObj w ys n2) ∈ news) (x1 : NetsIn t1 xs ds) (s1 : ∀ p ∈ t1, p ∈ news) (x2 : NetsIn t2 ys ds) (s2 : ∀ p ∈ t2, p ∈ news)
    (hnd : (ds.map (·.ad)).Nodup) (lo1 : (D == sysModules) = false) (lo2 : (b == sysModules) = false) (hu : A.units + 80 < cLine) (h : Q (.bool true) s) :
    wpAny (model PySem.Challenge.rw_rh0194_01.row.prog w) A (compareOp .Eq (.ref D) (.ref b)) Q E s :=
  tdq_eq lo1 lo2 (td_of N hD (fun x hx => (x1.keys x hx).1.mono s1) (x1.nodup hnd)) (td_of N hE (fun x hx => (x2.keys x hx).1.mono s2) (x2.nodup hnd)) (by omega) (x1.length.trans x2.length.symm)
    (nets_same N s1 s2 (by (try simp only [units_in1]); (try dsimp only); omega) x1 ys x2) h
end
/-- the ledger with one dict ahead, the rest away from it -/
theorem fin_led {h₀ h : Heap} {L D c2 rows nets : Addr} {oc oR oN oD : Obj} {acc base : Led} (N : News h₀ L h ((c2, oc) :: (rows, oR) :: (nets, oN) :: (acc ++ base))) (hD : (D, oD) ∈ base) (hcD : oD.cls = .type "dict") (h1 : ∀ q ∈ base, q.1 ≠ rows) (h2 : ∀ q ∈ base, q.1 ≠ nets) :
    ∃ rst : Led, News h₀ L h ((D, oD) :: (rows, oR) :: (nets, oN) :: rst) ∧ (∀ q ∈ rst, q.1 ≠ D) ∧ rows ≠ D ∧ nets ≠ D ∧ (∀ p ∈ acc, p.2.cls = .type "tuple" → p ∈ rst) ∧ (∀ p ∈ base, p.2.cls = .type "tuple" → p ∈ rst) := by
  have key : ∀ p ∈ acc ++ base, p.2.cls = .type "tuple" → p.1 ≠ D := by
    intro p hp hc e
    have a := (N p (.tail _ (.tail _ (.tail _ hp)))).1
    have b := (N (D, oD) (.tail _ (.tail _ (.tail _ (List.mem_append_right _ hD))))).1
    rw [e] at a
    have c : p.2 = oD := Option.some.inj (a.symm.trans b)
    rw [c, hcD] at hc
    exact absurd hc (by decide)
  refine ⟨(acc ++ base).filter (fun p => decide (p.1 ≠ D)), fun p hp => ?_, fun q hq => of_decide_eq_true (List.mem_filter.mp hq).2, fun e => h1 _ hD e.symm, fun e => h2 _ hD e.symm, fun p hp hc => List.mem_filter.mpr ⟨List.mem_append_left _ hp, decide_eq_true (key p (List.mem_append_left _ hp) hc)⟩, fun p hp hc => List.mem_filter.mpr ⟨List.mem_append_right _ hp, decide_eq_true (key p (List.mem_append_right _ hp) hc)⟩⟩
  rcases List.mem_cons.mp hp with rfl | hp
  · exact N _ (.tail _ (.tail _ (.tail _ (List.mem_append_right _ hD))))
  rcases List.mem_cons.mp hp with rfl | hp
  · exact N _ (.tail _ (.head _))
  rcases List.mem_cons.mp hp with rfl | hp
  · exact N _ (.tail _ (.tail _ (.head _)))
  exact N _ (.tail _ (.tail _ (.tail _ (List.mem_filter.mp hp).1)))
end Mine

theorem Mine.calmP12 : True := by
  w_top off
  trivial
namespace Mine
def IfR (w : World) (p l0 : Addr) (rest : Led) (i : Nat) (ys : List Value) (nw : Led) : Prop :=
  ∃ sp t3 tl ds, nw = tl ++ (p, PySem.W.listOf #[.ref l0, .int sp t3] 0) :: rest ∧ 1 ≤ sp ∧ sp ≤ 1 + 5 * (i : Int) ∧ IfMade w tl i ys ds ∧ ∀ q ∈ (p, PySem.W.listOf #[] 0) :: rest, ∀ x ∈ tl, q.1 < x.1
theorem iface_turn_end {h₀ : Heap} {L I C D p l0 : Addr} {m : Str → Option Value} {s₁ : Shared} {oI oC oD : Obj} {h' : Heap} {tk i : Nat} {w : World} {tl tl' rest : Led} {sp sp' : Int} {t3 t3' : Tok} {ys : List Value} {ds : List Ifc} {y : Value} {d : Ifc}
    (F : Fr h₀ L h' m) (N : News h₀ L h' (tl' ++ ((I, oI) :: (C, oC) :: (D, oD) :: (tl ++ (p, PySem.W.listOf #[.ref l0, .int sp' t3'] 0) :: rest))))
    (off : LCg.Off3 I C D (tl ++ (p, PySem.W.listOf #[.ref l0, .int sp t3] 0) :: rest))
    (lt : ∀ q ∈ (I, oI) :: (C, oC) :: (D, oD) :: (tl ++ (p, PySem.W.listOf #[.ref l0, .int sp t3] 0) :: rest), ∀ x ∈ tl', q.1 < x.1)
    (fr : ∀ q ∈ (p, PySem.W.listOf #[] 0) :: rest, ∀ x ∈ tl, q.1 < x.1)
    (h1 : 1 ≤ sp) (h2 : sp ≤ 1 + 5 * (i : Int)) (b1 : sp ≤ sp') (b2 : sp' ≤ sp + 5) (hi : i < 2) (M : IfMade w tl i ys ds) (H : IfcIn w tl' y d) (O : Okd (1 + (0 + (i : Int))) d) :
    LCg.CompEnd h₀ L m s₁ I oI C oC D oD (fun _ => True) (fun y nw' => IfR w p l0 rest (i + 1) (ys ++ [y]) nw') y { s₁ with heap := h', toks := tk } := by
  have offm := off.mem
  refine LCg.CompEnd.intro F N ((tl' ++ tl) ++ (p, PySem.W.listOf #[.ref l0, .int sp' t3'] 0) :: rest) (fun q hq => ?_) (LCg.Off3.of fun q hq => ?_) trivial
    ⟨sp', t3', tl' ++ tl, ds ++ [d], rfl, by omega, by push_cast; omega, (M.mono fun q hq => List.mem_append_right _ hq).snoc hi (H.mono fun q hq => List.mem_append_left _ hq) O, fun q hq x hx => ?_⟩
  · rcases List.mem_cons.mp hq with rfl | hq
    · exact List.mem_append_right _ (.head _)
    rcases List.mem_cons.mp hq with rfl | hq
    · exact List.mem_append_right _ (.tail _ (.head _))
    rcases List.mem_cons.mp hq with rfl | hq
    · exact List.mem_append_right _ (.tail _ (.tail _ (.head _)))
    rw [List.append_assoc] at hq
    rcases List.mem_append.mp hq with hq | hq
    · exact List.mem_append_left _ hq
    · exact List.mem_append_right _ (.tail _ (.tail _ (.tail _ hq)))
  · rw [List.append_assoc] at hq
    rcases List.mem_append.mp hq with hq | hq
    · exact ⟨Nat.ne_of_gt (lt _ (.head _) q hq), Nat.ne_of_gt (lt _ (.tail _ (.head _)) q hq), Nat.ne_of_gt (lt _ (.tail _ (.tail _ (.head _))) q hq)⟩
    · rcases List.mem_append.mp hq with hq | hq
      · exact offm q (List.mem_append_left _ hq)
      · rcases List.mem_cons.mp hq with rfl | hq
        · exact offm (p, PySem.W.listOf #[.ref l0, .int sp t3] 0) (List.mem_append_right _ (.head _))
        · exact offm q (List.mem_append_right _ (.tail _ hq))
  · rcases List.mem_append.mp hx with hx | hx
    · rcases List.mem_cons.mp hq with rfl | hq
      · exact lt (p, _) (.tail _ (.tail _ (.tail _ (List.mem_append_right _ (.head _))))) x hx
      · exact lt q (.tail _ (.tail _ (.tail _ (List.mem_append_right _ (.tail _ hq))))) x hx
    · exact fr q hq x hx
theorem IfMade.ifs {w : World} {tl : Led} {i : Nat} {ys : List Value} {ds : List Ifc} {D : Addr} {k : Nat} {news : Led} (h : IfMade w tl i ys ds) (h0 : 0 < i) (hD : (D, PySem.W.listOf ys.toArray k) ∈ news) (hs : ∀ p ∈ tl, p ∈ news) :
    IfsIn w news (.ref D) ds ∧ (ds.map (·.ad)).Nodup ∧ (∀ d ∈ ds, ∃ n, Okd n d) := by
  cases h with
  | nil => omega
  | one a b => exact ⟨.one hD (a.mono hs) b.num, by simp, fun d hd => by rw [List.mem_singleton.mp hd]; exact ⟨_, b⟩⟩
  | two a b c e => exact ⟨.two hD (a.mono hs) (c.mono hs) b.num e.num, by simp [b.ad, e.ad], fun d hd => by
      simp only [List.mem_cons, List.not_mem_nil, or_false] at hd
      rcases hd with rfl | rfl
      · exact ⟨_, b⟩
      · exact ⟨_, e⟩⟩
theorem ne_rest {l rest : Led} {a : Addr} (h : ∀ p ∈ l, p.1 < a) (e : rest.map (·.1) = l.map (·.1)) : ∀ q ∈ rest, q.1 ≠ a := fun q hq => by
  have h1 : q.1 ∈ rest.map (·.1) := List.mem_map.mpr ⟨q, hq, rfl⟩
  rw [e] at h1
  obtain ⟨p, hp, e'⟩ := List.mem_map.mp h1
  exact Nat.ne_of_lt (e' ▸ h p hp)
theorem turnU {I C D p : Addr} {oI oC oD o o0 : Obj} {tl rest : Led} (off : LCg.Off3 I C D (tl ++ (p, o) :: rest)) (fr : ∀ q ∈ (p, o0) :: rest, ∀ x ∈ tl, q.1 < x.1) (hr : ∀ q ∈ rest, q.1 ≠ p) :
    UpdF p o ((I, oI) :: (C, oC) :: (D, oD) :: (tl ++ (p, o) :: rest)) (fun o' => (I, oI) :: (C, oC) :: (D, oD) :: (tl ++ (p, o') :: rest)) := by
  have h := off.mem (p, o) (List.mem_append_right _ (.head _))
  exact UpdF.tail (Ne.symm h.1) (UpdF.tail (Ne.symm h.2.1) (UpdF.tail (Ne.symm h.2.2) (updF_app (fun x hx => Nat.ne_of_gt (fr (p, o0) (.head _) x hx)) (UpdF.head hr))))
theorem turnM {I C D p l0 : Addr} {oI oC oD x : Obj} {tl rest : Led} (o : Obj) : (l0, x) ∈ (fun o' => (I, oI) :: (C, oC) :: (D, oD) :: (tl ++ (p, o') :: (l0, x) :: rest)) o :=
  .tail _ (.tail _ (.tail _ (List.mem_append_right tl (.tail _ (.head _)))))
theorem rng_n {d : Int} (h0 : 0 ≤ d) (h1 : d < 2) : Builtin.Range.small 0 (1 + d) 1 = true ∧ ∃ n : Nat, Builtin.Range.rangeSize 0 (1 + d) 1 = ((n : Nat) : Int) ∧ 0 < n ∧ n ≤ 2 := by
  have h : d = 0 ∨ d = 1 := by omega
  rcases h with rfl | rfl
  · exact ⟨by decide, 1, by decide, by decide, by decide⟩
  · exact ⟨by decide, 2, by decide, by decide, by decide⟩
theorem NbAll.append {w : World} {n : Led} {vs us : List Value} {xs ys : List Nb} (h : NbAll w n vs xs) (g : NbAll w n us ys) : NbAll w n (vs ++ us) (xs ++ ys) := by
  induction h with
  | nil => exact g
  | cons h _ ih => exact .cons h ih
theorem NbAll.nil_iff {w : World} {n : Led} {vs : List Value} {xs : List Nb} (h : NbAll w n vs xs) : decide (vs = []) = decide (xs = []) := by
  cases h with
  | nil => rfl
  | cons _ _ => rfl
theorem near_pos {dr : Int} {n : Nb} {ns : List Nb} (h : n.ad = dr) : (n :: ns).filter (fun n => n.ad == dr) = n :: ns.filter (fun n => n.ad == dr) := List.filter_cons_of_pos (by simp [h])
theorem near_neg {dr : Int} {n : Nb} {ns : List Nb} (h : ¬ n.ad = dr) : (n :: ns).filter (fun n => n.ad == dr) = ns.filter (fun n => n.ad == dr) := List.filter_cons_of_neg (by simp [h])
theorem dr_not_near {st : Str} (h1 : (st == Str.ofString "dr") = true) (h2 : ([Str.ofString "backup", Str.ofString "other"].any (fun x => x == st)) = true) : False := by
  rw [eq_of_beq h1] at h2
  revert h2
  decide
theorem IfMade.len {w : World} {n : Led} {k : Nat} {vs : List Value} {ds : List Ifc} (h : IfMade w n k vs ds) : ds.length ≤ 2 := by
  cases h <;> simp
theorem spl_len {dn dr : List Ifc} {d : Ifc} {ds : List Ifc} {n : Nat} (h : dn ++ d :: dr = ds) (h2 : ds.length ≤ 2) (h3 : n ≤ 3 * dn.length) : n ≤ 3 := by
  rw [← h, List.length_append, List.length_cons] at h2
  omega
inductive Kase (d : Ifc) : Prop
  | kc (hC : chief d = true) (hn : netOf d = some (srt ((fullN d.nbs).map (·.r) ++ [77]))) (hl : (links d).filter isT = [⟨d.dr, d.ad, 2, 2⟩])
  | kn (hC : chief d = false) (hB : isNear d = true) (hn : netOf d = none) (hl : (links d).filter isT = [⟨d.dr, d.ad, 2, 2⟩])
  | ko (hC : chief d = false) (hB : isNear d = false) (hn : netOf d = none) (hl : (links d).filter isT = [])
theorem kase {n : Int} {d : Ifc} (o : Okd n d) : Kase d := by
  have hn := net_chief o
  have hl := links_T o
  cases hC : chief d with
  | true =>
    rw [hC, if_pos rfl] at hn
    rw [hC, Bool.true_or, if_pos rfl] at hl
    exact .kc hC hn hl
  | false =>
    rw [hC, if_neg Bool.false_ne_true] at hn
    rw [hC, Bool.false_or] at hl
    cases hB : isNear d with
    | true =>
      rw [hB, if_pos rfl] at hl
      exact .kn hC hB hn hl
    | false =>
      rw [hB, if_neg Bool.false_ne_true] at hl
      exact .ko hC hB hn hl
theorem join_bool {M : Model} {A : Around} {t : Sem Value} {Q E : Value → Shared → Prop} {s : Shared} {h₀ : Heap} {L : Addr} {m : Str → Option Value} {news : Led} (b : Bool) (F : Fr h₀ L s.heap m) (N : News h₀ L s.heap news)
    (h : ∀ Q' : Value → Shared → Prop, Fr h₀ L s.heap m → News h₀ L s.heap news → (∀ h' tk', Fr h₀ L h' m → News h₀ L h' news → Q' (.bool b) { s with heap := h', toks := tk' }) → wpAny M A t Q' E s)
    (k : ∀ h' tk', Fr h₀ L h' m → News h₀ L h' news → Q (.bool b) { s with heap := h', toks := tk' }) : wpAny M A t Q E s := h Q F N k
theorem join_use {Q' : Value → Shared → Prop} {b c : Bool} {s : Shared} (h : Q' (.bool b) s) (e : b = c) : Q' (.bool c) s := e ▸ h
theorem chief_t {d : Ifc} {ys : List Value} (h : (d.st == Str.ofString "dr") = true) (hy : decide (ys = []) = decide (fullN d.nbs = [])) : chief d = !decide (ys = []) := by rw [chief, h, Bool.true_and, hy]
theorem chief_f {d : Ifc} (h : (d.st == Str.ofString "dr") = false) : chief d = false := by rw [chief, h, Bool.false_and]
theorem chief_g {d : Ifc} (h : (d.st == Str.ofString "dr") = false) : chief d = (d.st == Str.ofString "dr") := by rw [chief, h, Bool.false_and]
theorem near_t {d : Ifc} {ys : List Value} (h : ([Str.ofString "backup", Str.ofString "other"].any (fun x => x == d.st)) = true) (hy : decide (ys = []) = decide (nearN d.dr d.nbs = [])) : isNear d = !decide (ys = []) := by rw [isNear, h, Bool.true_and, hy]
theorem near_f {d : Ifc} (h : ([Str.ofString "backup", Str.ofString "other"].any (fun x => x == d.st)) = false) : isNear d = false := by rw [isNear, h, Bool.false_and]
theorem near_g {d : Ifc} (h : ([Str.ofString "backup", Str.ofString "other"].any (fun x => x == d.st)) = false) : isNear d = ([Str.ofString "backup", Str.ofString "other"].any (fun x => x == d.st)) := by rw [isNear, h, Bool.false_and]
theorem ite_t {b : Bool} {A B : Prop} (h : b = true) (g : A) : if b = true then A else B := by rw [if_pos h]; exact g
theorem ite_f {b : Bool} {A B : Prop} (h : b = false) (g : B) : if b = true then A else B := by rw [if_neg (by rw [h]; exact Bool.false_ne_true)]; exact g
def LkR (tl : Led) (target : List Lk) (rest ys : List Value) : Prop := ∃ dd fs, LkAll tl rest dd ∧ LkAll tl ys fs ∧ fs ++ dd.filter isT = target
theorem isT_pos {x : Lk} {l : List Lk} (h : x.c = 2) : (x :: l).filter isT = x :: l.filter isT := List.filter_cons_of_pos (decide_eq_true h)
theorem isT_neg {x : Lk} {l : List Lk} (h : ¬ x.c = 2) : (x :: l).filter isT = l.filter isT := List.filter_cons_of_neg (by unfold isT; rw [decide_eq_false h]; exact Bool.false_ne_true)
section
variable {w : World} {mean : ExcName → Option Value} {mg mb : Str → Option Value} {loose : List Str} {dp un : Nat} {gd : Option (List Code)} {cn : Str} {cs : Scope} {L a : Addr} {ccd : Value} {cl : List (Str × Addr)} {outer : List Env}
   {A₀ : Around} {base h₀ : Heap} {m : Str → Option Value} {news : Led} {s : Shared} {Q E : Value → Shared → Prop} {v : Value} {d : Ifc} {tb : Tok} {ns : List Int}
theorem nb_none (B : Below A₀ base outer h₀) (F : Fr h₀ L s.heap m) (X : (Mine.hd.heap_39 w.params).In h₀) (N : News h₀ L s.heap news) (T : Top Mine.hd.view_39 loose mean mg mb h₀) (hk : cs.kind = .function)
   (hd1 : dp + 30 < recursionLimit) (hu1 : un + 400 < cLine) (hI : IfcIn w news v d) (hn : netOf d = none)
   (ret : ∀ h' tk', Fr h₀ L h' m → News h₀ L h' news → Q .none { s with heap := h', toks := tk' }) :
   wpAny (model PySem.Challenge.rw_rh0194_01.row.prog w) (ktrTop dp un gd cn cs L a ccd cl outer) (call (.ref 63) [v, .int 77 tb]) Q E s :=
  network_body_ok B F X N T hk hd1 hu1 hI fun r h' tk' tl F' N' _ ni => by
    rw [hn] at ni
    cases ni
    exact ret h' tk' F' (news_sub N' fun p hp => List.mem_append_right _ hp)
theorem nb_some (B : Below A₀ base outer h₀) (F : Fr h₀ L s.heap m) (X : (Mine.hd.heap_39 w.params).In h₀) (N : News h₀ L s.heap news) (T : Top Mine.hd.view_39 loose mean mg mb h₀) (hk : cs.kind = .function)
   (hd1 : dp + 30 < recursionLimit) (hu1 : un + 400 < cLine) (hI : IfcIn w news v d) (hn : netOf d = some ns)
   (ret : ∀ q h' tk' tl, Fr h₀ L h' m → News h₀ L h' (tl ++ news) → (∀ q ∈ news, ∀ p ∈ tl, q.1 < p.1) → NetIn tl (.ref q) (some ns) → Q (.ref q) { s with heap := h', toks := tk' }) :
   wpAny (model PySem.Challenge.rw_rh0194_01.row.prog w) (ktrTop dp un gd cn cs L a ccd cl outer) (call (.ref 63) [v, .int 77 tb]) Q E s :=
  network_body_ok B F X N T hk hd1 hu1 hI fun r h' tk' tl F' N' lt ni => by
    rw [hn] at ni
    cases ni with | some h1 h2 h3 h4 => exact ret _ h' tk' tl F' N' lt (.some h1 h2 h3 h4)
end
section
variable {prog : Program} {w : World} {A : Around} {E : Value → Shared → Prop} {s : Shared} {h₀ : Heap} {L l b q : Addr} {news tl : Led} {vs : List Value} {k2 : Nat} {x : Lk} {t1 t2 t3 t4 : Tok} {Q : Value → Shared → Prop}
theorem ne_nil2 (N : News h₀ L s.heap news) (ha : (l, LCg.lst vs) ∈ news) (hb : (b, PySem.W.listOf #[] k2) ∈ news) (hu : A.units < cLine) (h : Q (.bool (!decide (vs = []))) s) :
    wpAny (model prog w) A (compareOp .NotEq (.ref l) (.ref b)) Q E s := ne_nil_led N ha hb hu h
theorem lks_ne1 (N : News h₀ L s.heap news) (m1 : (l, LCg.lst vs) ∈ news) (m2 : (b, PySem.W.listOf #[.ref q] k2) ∈ news) (x1 : LkAll tl vs [x]) (s1 : ∀ p ∈ tl, p ∈ news)
    (m3 : (q, ({ cls := .type "tuple", data := .seq #[.int x.a t1, .int x.b t2, .int x.c t3, .int x.e t4] } : Obj)) ∈ news) (hu : A.units + 64 < cLine) (h : Q (.bool false) s) :
    wpAny (model prog w) A (compareOp .NotEq (.ref l) (.ref b)) Q E s :=
  lks_ne (vs2 := [.ref q]) N m1 m2 s1 (fun _ h => h) x1 (.cons (.mk (x := x) m3) .nil) hu h
end
theorem lk_nil {tl : Led} {vs : List Value} (h : LkAll tl vs []) : vs = [] := by cases h; rfl
theorem lk_item2 {prog : Program} {w : World} {A : Around} {E : Value → Shared → Prop} {s : Shared} {h₀ : Heap} {L q : Addr} {news : Led} {x : Lk} {t1 t2 t3 t4 u : Tok} {value slice : PySem.Expr} {Q : Value → Shared → Prop}
    (N : News h₀ L s.heap news) (hm : (q, lkObj x t1 t2 t3 t4) ∈ news) (hs : subscripted slice false (.ref q) (.int 2 u) = operate [.ref q, .int 2 u] (getItem (.ref q) (.int 2 u))) (h : Q (.int x.c t3) s) :
    wpAny (model prog w) A (subscriptTail value slice (.ref q) (.int 2 u)) Q E s :=
  item_tupleT (l := [.int x.a t1, .int x.b t2, .int x.c t3, .int x.e t4]) (News.isTup N hm) (by decide) (by decide) (j := 2) rfl rfl h hs
inductive IfAll (w : World) (base : Led) : List Value → List Ifc → Prop
  | nil : IfAll w base [] []
  | cons {v : Value} {d : Ifc} {n : Int} {vs : List Value} {ds : List Ifc} : IfcIn w base v d → Okd n d → IfAll w base vs ds → IfAll w base (v :: vs) (d :: ds)
theorem IfMade.all {w : World} {n n' : Led} {k : Nat} {vs : List Value} {ds : List Ifc} (h : IfMade w n k vs ds) (hs : ∀ p ∈ n, p ∈ n') : IfAll w n' vs ds := by
  cases h with
  | nil => exact .nil
  | one a b => exact .cons (a.mono hs) b .nil
  | two a b c d => exact .cons (a.mono hs) b (.cons (c.mono hs) d .nil)
structure LoopR (w : World) (I c2 rows nets : Addr) (wv : Value) (base : Led) (ds : List Ifc) (rest : List Value) (m : Str → Option Value) (nw : Led) (oc : Obj) (vv : Option Value) (vrs : List Value) (kr kn : Nat) (xs : List Tri) (acc : Led) (dn dr : List Ifc) : Prop where
  led : nw = (c2, oc) :: (rows, PySem.W.listOf vrs.toArray kr) :: (nets, tdObj w xs kn) :: (acc ++ base)
  cell : oc.data = .cell vv
  mw : m (Str.ofString "wishes") = some wv
  mn : m (Str.ofString "nets") = some (.ref nets)
  mr : m (Str.ofString "rows") = some (.ref rows)
  spl : dn ++ dr = ds
  all : IfAll w base rest dr
  nin : NetsIn acc xs dn
  lin : LkAll acc vrs (dn.flatMap links)
  len : vrs.length ≤ 3 * dn.length
  fr : ∀ q ∈ [(c2, oc), (rows, oc), (nets, oc)], ∀ x ∈ acc, q.1 < x.1
  offI : ∀ p ∈ nw, p.1 ≠ I
def LoopS (w : World) (I c2 rows nets : Addr) (wv : Value) (base : Led) (ds : List Ifc) (rest : List Value) (m : Str → Option Value) (nw : Led) : Prop :=
  ∃ oc vv vrs kr kn xs acc dn dr, LoopR w I c2 rows nets wv base ds rest m nw oc vv vrs kr kn xs acc dn dr
theorem map_fix {m : Str → Option Value} {a b c : Str} {x y z : Option Value} (h1 : m a = x) (h2 : m b = y) (h3 : m c = z) : m = fun q => if q = a then x else if q = b then y else if q = c then z else m q := by
  funext q
  by_cases e1 : q = a
  · rw [if_pos e1, e1, h1]
  by_cases e2 : q = b
  · rw [if_neg e1, if_pos e2, e2, h2]
  by_cases e3 : q = c
  · rw [if_neg e1, if_neg e2, if_pos e3, e3, h3]
  · rw [if_neg e1, if_neg e2, if_neg e3]
theorem NetsIn.snocN {tl acc : Led} {xs : List Tri} {dn : List Ifc} {d : Ifc} (h : NetsIn acc xs dn) (hn : netOf d = none) : NetsIn (tl ++ acc) xs (dn ++ [d]) := by
  have := (h.mono (n' := tl ++ acc) fun p hp => List.mem_append_right _ hp).append (.skip hn .nil)
  rwa [List.append_nil] at this
theorem turn_end {w : World} {h₀ h' : Heap} {L I c2 rows nets D2 : Addr} {m' : Str → Option Value} {s₁ : Shared} {tk : Nat} {all base acc tlN : Led} {o oc oc' oR oN oD : Obj} {ds dn dr : List Ifc} {d : Ifc} {rest vrs vl : List Value} {xs : List Tri} {kr kn : Nat} {vv : Option Value} {wv : Value}
    (F : Fr h₀ L h' m') (N : News h₀ L h' all) (mI : (I, o) ∈ all) (mc : (c2, oc') ∈ all) (mr : (rows, PySem.W.listOf (vrs ++ vl).toArray kr) ∈ all) (mn : (nets, tdObj w xs kn) ∈ all)
    (st : ∀ p ∈ tlN, p ∈ all) (sa : ∀ p ∈ acc, p ∈ all) (sb : ∀ p ∈ base, p ∈ all)
    (hcell : oc'.data = .cell vv) (hw : m' (Str.ofString "wishes") = some wv) (hn : m' (Str.ofString "nets") = some (.ref nets)) (hr : m' (Str.ofString "rows") = some (.ref rows))
    (spl : dn ++ d :: dr = ds) (hrest : IfAll w base rest dr) (nin : NetsIn (tlN ++ acc) xs (dn ++ [d])) (lin : LkAll acc vrs (dn.flatMap links)) (lk : LkAll tlN vl (links d)) (len : vrs.length ≤ 3 * dn.length) (le : vl.length ≤ 3)
    (fr : ∀ q ∈ [(c2, oc), (rows, oc), (nets, oc)], ∀ x ∈ acc, q.1 < x.1) (offI : ∀ p ∈ (c2, oc) :: (rows, oR) :: (nets, oN) :: (acc ++ base), p.1 ≠ I)
    (lI : ∀ x ∈ tlN, I < x.1) (lc : ∀ x ∈ tlN, c2 < x.1) (lr : ∀ x ∈ tlN, rows < x.1) (ln : ∀ x ∈ tlN, nets < x.1) (hD2 : (D2, oD) ∈ base) :
    UnrEndW h₀ L s₁ [(I, o)] (fun m' n' => SubL [(D2, oD)] n' ∧ LoopS w I c2 rows nets wv base ds rest m' n') { s₁ with heap := h', toks := tk } := by
  have hoff : ∀ p ∈ (c2, oc') :: (rows, PySem.W.listOf (vrs ++ vl).toArray kr) :: (nets, tdObj w xs kn) :: ((tlN ++ acc) ++ base), p.1 ≠ I := by
    intro p hp
    rcases List.mem_cons.mp hp with rfl | hp
    · exact offI (c2, oc) (.head _)
    rcases List.mem_cons.mp hp with rfl | hp
    · exact offI (rows, oR) (.tail _ (.head _))
    rcases List.mem_cons.mp hp with rfl | hp
    · exact offI (nets, oN) (.tail _ (.tail _ (.head _)))
    rw [List.append_assoc] at hp
    rcases List.mem_append.mp hp with hp | hp
    · exact Nat.ne_of_gt (lI p hp)
    · exact offI p (.tail _ (.tail _ (.tail _ hp)))
  refine ⟨h', tk, m', (c2, oc') :: (rows, PySem.W.listOf (vrs ++ vl).toArray kr) :: (nets, tdObj w xs kn) :: ((tlN ++ acc) ++ base), rfl, F, fun p hp => ?_, fun p hp q hq => ?_, ⟨.tail _ (.tail _ (.tail _ (List.mem_append_right _ hD2))), trivial⟩,
    ⟨oc', vv, vrs ++ vl, kr, kn, xs, tlN ++ acc, dn ++ [d], dr, rfl, hcell, hw, hn, hr, by rw [← spl, List.append_assoc]; rfl, hrest, nin, ?_, ?_, ?_, hoff⟩⟩
  · refine N p ?_
    rcases List.mem_cons.mp hp with rfl | hp
    · exact mI
    rcases List.mem_cons.mp hp with rfl | hp
    · exact mc
    rcases List.mem_cons.mp hp with rfl | hp
    · exact mr
    rcases List.mem_cons.mp hp with rfl | hp
    · exact mn
    rw [List.append_assoc] at hp
    rcases List.mem_append.mp hp with hp | hp
    · exact st p hp
    rcases List.mem_append.mp hp with hp | hp
    · exact sa p hp
    · exact sb p hp
  · rw [List.mem_singleton.mp hq]
    exact hoff p hp
  · rw [List.flatMap_append]
    refine (lin.mono fun p hp => List.mem_append_right _ hp).append ?_
    rw [List.flatMap_cons, List.flatMap_nil, List.append_nil]
    exact lk.mono fun p hp => List.mem_append_left _ hp
  · rw [List.length_append, List.length_append, List.length_cons, List.length_nil]
    omega
  · intro q hq x hx
    rcases List.mem_append.mp hx with hx | hx
    · simp only [List.mem_cons, List.not_mem_nil, or_false] at hq
      rcases hq with rfl | rfl | rfl
      · exact lc x hx
      · exact lr x hx
      · exact ln x hx
    · simp only [List.mem_cons, List.not_mem_nil, or_false] at hq
      rcases hq with rfl | rfl | rfl
      · exact fr (c2, oc) (.head _) x hx
      · exact fr (rows, oc) (.tail _ (.head _)) x hx
      · exact fr (nets, oc) (.tail _ (.tail _ (.head _))) x hx
theorem turn_end_chief {w : World} {h₀ h' : Heap} {L I c2 rows nets D2 ka ba ta : Addr} {m' : Str → Option Value} {s₁ : Shared} {tk : Nat} {all base acc tlL : Led} {o oc oc' oR oN oD : Obj} {ds dn dr : List Ifc} {d : Ifc} {rest vrs vl vsT : List Value} {ns : List Int} {xs : List Tri} {kr kn : Nat} {vv : Option Value} {wv : Value} {u1 u2 u3 u4 : Tok}
    (F : Fr h₀ L h' m') (N : News h₀ L h' all) (mI : (I, o) ∈ all) (mc : (c2, oc') ∈ all) (mr : (rows, PySem.W.listOf (vrs ++ vl).toArray kr) ∈ all) (mn : (nets, tdObj w (xs ++ [([2, d.ad], ka, .ref ba)]) kn) ∈ all)
    (mk : (ka, ({ cls := .type "tuple", data := .seq #[.int 2 u1, .int d.ad u2] } : Obj)) ∈ all) (mb : (ba, ({ cls := .type "tuple", data := .seq #[.str (Str.ofString "network") u3, .int 4 u4, .ref ta] } : Obj)) ∈ all) (mt : (ta, ({ cls := .type "tuple", data := .seq vsT.toArray } : Obj)) ∈ all) (hi : IntsAre vsT ns) (hz : ns.length ≤ 3) (hno : netOf d = some ns)
    (st : ∀ p ∈ tlL, p ∈ all) (sa : ∀ p ∈ acc, p ∈ all) (sb : ∀ p ∈ base, p ∈ all)
    (hcell : oc'.data = .cell vv) (hw : m' (Str.ofString "wishes") = some wv) (hn : m' (Str.ofString "nets") = some (.ref nets)) (hr : m' (Str.ofString "rows") = some (.ref rows))
    (spl : dn ++ d :: dr = ds) (hrest : IfAll w base rest dr) (nin : NetsIn acc xs dn) (lin : LkAll acc vrs (dn.flatMap links)) (lk : LkAll tlL vl (links d)) (len : vrs.length ≤ 3 * dn.length) (le : vl.length ≤ 3)
    (fr : ∀ q ∈ [(c2, oc), (rows, oc), (nets, oc)], ∀ x ∈ acc, q.1 < x.1) (offI : ∀ p ∈ (c2, oc) :: (rows, oR) :: (nets, oN) :: (acc ++ base), p.1 ≠ I)
    (lI : ∀ x ∈ tlL, I < x.1) (lc : ∀ x ∈ tlL, c2 < x.1) (lr : ∀ x ∈ tlL, rows < x.1) (ln : ∀ x ∈ tlL, nets < x.1)
    (kI : I < ka) (kc : c2 < ka) (kr' : rows < ka) (kn' : nets < ka) (bI : I < ba) (bc : c2 < ba) (br : rows < ba) (bn : nets < ba) (tI : I < ta) (tc : c2 < ta) (tr : rows < ta) (tn : nets < ta) (hD2 : (D2, oD) ∈ base) :
    UnrEndW h₀ L s₁ [(I, o)] (fun m' n' => SubL [(D2, oD)] n' ∧ LoopS w I c2 rows nets wv base ds rest m' n') { s₁ with heap := h', toks := tk } := by
  have up : ∀ {z : Addr}, z < ka → z < ba → z < ta → (∀ x ∈ tlL, z < x.1) → ∀ x ∈ (ka, ({ cls := .type "tuple", data := .seq #[.int 2 u1, .int d.ad u2] } : Obj)) :: (ba, ({ cls := .type "tuple", data := .seq #[.str (Str.ofString "network") u3, .int 4 u4, .ref ta] } : Obj)) :: (ta, ({ cls := .type "tuple", data := .seq vsT.toArray } : Obj)) :: tlL, z < x.1 := by
    intro z a b c e x hx
    rcases List.mem_cons.mp hx with rfl | hx
    · exact a
    rcases List.mem_cons.mp hx with rfl | hx
    · exact b
    rcases List.mem_cons.mp hx with rfl | hx
    · exact c
    exact e x hx
  refine turn_end (tlN := (ka, ({ cls := .type "tuple", data := .seq #[.int 2 u1, .int d.ad u2] } : Obj)) :: (ba, ({ cls := .type "tuple", data := .seq #[.str (Str.ofString "network") u3, .int 4 u4, .ref ta] } : Obj)) :: (ta, ({ cls := .type "tuple", data := .seq vsT.toArray } : Obj)) :: tlL)
    F N mI mc mr mn (fun p hp => ?_) sa sb hcell hw hn hr spl hrest ((nin.mono fun p hp => List.mem_append_right _ hp).append (.cons hno ⟨_, _, List.mem_append_left _ (.head _), .cons _ _ (.cons _ _ .nil)⟩ (.some (List.mem_append_left _ (.tail _ (.head _))) (List.mem_append_left _ (.tail _ (.tail _ (.head _)))) hi hz) .nil)) lin
    (lk.mono fun p hp => .tail _ (.tail _ (.tail _ hp))) len le fr offI (up kI bI tI lI) (up kc bc tc lc) (up kr' br tr lr) (up kn' bn tn ln) hD2
  rcases List.mem_cons.mp hp with rfl | hp
  · exact mk
  rcases List.mem_cons.mp hp with rfl | hp
  · exact mb
  rcases List.mem_cons.mp hp with rfl | hp
  · exact mt
  exact st p hp
theorem nets_set {w : World} {A : Around} {E : Value → Shared → Prop} {s : Shared} {h₀ : Heap} {L : Addr} {m : Str → Option Value} {news acc : Led} {g : Obj → Led} {d0 a : Addr} {xs : List Tri} {n : Nat} {v : Value} {d : Ifc} {dn dr ds : List Ifc} {Q : Unit → Shared → Prop} (hu : A.units + 1 < cLine) (F : Fr h₀ L s.heap m) (N : News h₀ L s.heap news) (U : UpdF d0 (tdObj w xs n) news g) (hkey : KeyIn news [2, d.ad] a)
    (nin : NetsIn acc xs dn) (sa : ∀ p ∈ acc, p ∈ news) (hnd : (ds.map (·.ad)).Nodup) (spl : dn ++ d :: dr = ds) (hz : ds.length ≤ 2)
    (h : ∀ h' n' tk, Fr h₀ L h' m → News h₀ L h' (g (tdObj w (xs ++ [([2, d.ad], a, v)]) n')) → Q () { s with heap := h', toks := tk }) :
    wpAny (model PySem.Challenge.rw_rh0194_01.row.prog w) A (setItem (.ref d0) (.ref a) v) Q E s := by
  subst spl
  rw [List.map_append, List.map_cons, List.nodup_append] at hnd
  obtain ⟨h1, h2, h3⟩ := hnd
  refine td_set_led hu F N U hkey (fun x hx => (nin.keys x hx).1.mono sa) (nin.nodup h1) (fun hm => ?_) ?_ h
  · obtain ⟨x, hx, e⟩ := List.mem_map.mp hm
    obtain ⟨d', hd', e'⟩ := (nin.keys x hx).2
    rw [e'] at e
    exact h3 d'.ad (List.mem_map.mpr ⟨d', hd', rfl⟩) d.ad (List.mem_cons_self ..) (List.cons.inj (List.cons.inj e).2).1
  · rw [nin.length]
    have := List.length_filter_le (fun d => (netOf d).isSome) dn
    rw [List.length_append] at hz
    omega
theorem net_ne1 {prog : Program} {w : World} {A : Around} {E : Value → Shared → Prop} {s : Shared} {h₀ : Heap} {L q t : Addr} {news t1 : Led} {v1 : Value} {vs : List Value} {ns : List Int} {u1 u2 : Tok} {Q : Value → Shared → Prop} (N : News h₀ L s.heap news) (x1 : NetIn t1 v1 (some ns)) (s1 : ∀ p ∈ t1, p ∈ news)
    (m1 : (q, ({ cls := .type "tuple", data := .seq #[.str (Str.ofString "network") u1, .int 4 u2, .ref t] } : Obj)) ∈ news) (m2 : (t, ({ cls := .type "tuple", data := .seq vs.toArray } : Obj)) ∈ news) (hi : IntsAre vs ns) (hz : ns.length ≤ 3) (hu : A.units + 64 < cLine) (h : Q (.bool false) s) :
    wpAny (model prog w) A (compareOp .NotEq v1 (.ref q)) Q E s := net_ne N s1 (fun _ h => h) x1 (.some m1 m2 hi hz) hu h
theorem lo_of {h : Heap} {D : Addr} (x : h.NoLimit) (hd : h.objs.size + 1 < D) : (D == sysModules) = false := beq_eq_false_iff_ne.mpr (Nat.ne_of_gt (Nat.lt_trans (Nat.lt_succ_of_lt (modules_low x)) hd))
theorem pop_wish {w : World} {A : Around} {E : Value → Shared → Prop} {s : Shared} {h₀ : Heap} {L D b ka : Addr} {m : Str → Option Value} {news rst : Led} {g : Obj → Led} {n : Nat} {v : Value} {rest : List Tri} {ds : List Ifc} {Q : Value → Shared → Prop} (hu : A.units + 2 < cLine) (F : Fr h₀ L s.heap m) (N : News h₀ L s.heap news) (U : UpdF D (tdObj w (([1, 77], b, v) :: rest) n) news g) (hkey : KeyIn news [1, 77] ka)
    (hk : KeyIn rst [1, 77] b) (hni : NetsIn rst rest ds) (hs : ∀ p ∈ rst, p ∈ news) (hnd : (ds.map (·.ad)).Nodup) (hz : ds.length ≤ 2)
    (h : ∀ h' n' tk, Fr h₀ L h' m → News h₀ L h' (g (tdObj w rest n')) → Q v { s with heap := h', toks := tk }) :
    wpAny (model PySem.Challenge.rw_rh0194_01.row.prog w) A (call (.builtin "dict.pop") [.ref D, .ref ka]) Q E s := by
  refine td_pop_led hu F N U hkey (fun x hx => ?_) ?_ ?_ h
  · rcases List.mem_cons.mp hx with rfl | hx
    · exact hk.mono hs
    · exact (hni.keys x hx).1.mono hs
  · rw [List.map_cons, List.nodup_cons]
    refine ⟨fun hm => ?_, hni.nodup hnd⟩
    obtain ⟨x, hx, e⟩ := List.mem_map.mp hm
    obtain ⟨d, hd, e'⟩ := (hni.keys x hx).2
    rw [e'] at e
    exact absurd (List.cons.inj e).1 (by decide)
  · rw [hni.length]
    exact Nat.le_trans (List.length_filter_le _ _) (Nat.le_trans hz (by decide))
theorem rt_eq1 {prog : Program} {w : World} {A : Around} {E : Value → Shared → Prop} {s : Shared} {h₀ : Heap} {L q t : Addr} {news t1 t2 : Led} {v1 : Value} {vs : List Value} {xs : List Lk} {u1 u2 : Tok} {Q : Value → Shared → Prop} (N : News h₀ L s.heap news) (x1 : RouterIn t1 v1 xs) (s1 : ∀ p ∈ t1, p ∈ news)
    (m1 : (q, ({ cls := .type "tuple", data := .seq #[.str (Str.ofString "router") u1, .int 0 u2, .ref t] } : Obj)) ∈ news) (m2 : (t, ({ cls := .type "tuple", data := .seq vs.toArray } : Obj)) ∈ news) (hl : LkAll t2 vs xs) (s2 : ∀ p ∈ t2, p ∈ news) (hz : vs.length ≤ 6) (hu : A.units + 64 < cLine) (h : Q (.bool true) s) :
    wpAny (model prog w) A (compareOp .Eq v1 (.ref q)) Q E s := rt_eq N s1 (fun _ h => h) x1 (.mk m1 m2 (hl.mono s2) hz) hu h
theorem loop_pre {h₀ h : Heap} {L T rows nets D2 p l0 x c2 c1 : Addr} {oT oR oN oD op op0 ol ox oc o1 ow : Obj} {tlw tl : Led}
    (N : News h₀ L h ((T, oT) :: (rows, oR) :: (nets, oN) :: (tlw ++ (D2, oD) :: (tl ++ [(p, op), (l0, ol), (x, ox), (c2, oc), (c1, o1)]))))
    (h1 : ∀ q ∈ (nets, oN) :: (tlw ++ (D2, oD) :: (tl ++ [(p, op), (l0, ol), (x, ox), (c2, oc), (c1, o1)])), q.1 < rows)
    (h2 : ∀ q ∈ tlw ++ (D2, oD) :: (tl ++ [(p, op), (l0, ol), (x, ox), (c2, oc), (c1, o1)]), q.1 < nets)
    (h3 : ∀ q ∈ (D2, oD) :: (tl ++ [(p, op), (l0, ol), (x, ox), (c2, oc), (c1, o1)]), ∀ y ∈ tlw, q.1 < y.1)
    (h4 : ∀ q ∈ tl ++ [(p, op), (l0, ol), (x, ox), (c2, oc), (c1, o1)], q.1 ≠ D2)
    (h5 : ∀ q ∈ (p, op0) :: [(l0, ol), (x, ox), (c2, oc), (c1, o1)], ∀ y ∈ tl, q.1 < y.1)
    (h6 : ∀ q ∈ [(l0, ol), (x, ox), (c2, oc), (c1, ow)], q.1 < p)
    (h7 : ∀ q ∈ [(x, ox), (c2, oc), (c1, ow)], q.1 ≠ l0)
    (h8 : ∀ q ∈ [(c2, oc), (c1, ow)], q.1 < x) (h9 : c1 ≠ c2) :
    ∃ base : Led, News h₀ L h ((c2, oc) :: (rows, oR) :: (nets, oN) :: ([] ++ base)) ∧
    (∀ q ∈ base, q.1 ≠ c2) ∧ (∀ q ∈ base, q.1 ≠ rows) ∧ (∀ q ∈ base, q.1 ≠ nets) ∧
    c2 ≠ rows ∧ c2 ≠ nets ∧ nets ≠ rows ∧ (D2, oD) ∈ base ∧ (∀ q ∈ tl, q ∈ base) ∧ (∀ q ∈ tlw, q ∈ base) ∧ (∀ q ∈ tlw, c1 < q.1) := by
  have sub : ∀ q ∈ tlw ++ (D2, oD) :: (tl ++ [(p, op), (l0, ol), (x, ox), (c1, o1)]), q ∈ tlw ++ (D2, oD) :: (tl ++ [(p, op), (l0, ol), (x, ox), (c2, oc), (c1, o1)]) := by
    intro q hq
    simp only [List.mem_append, List.mem_cons, List.not_mem_nil, or_false] at hq ⊢
    rcases hq with hq | hq | hq | hq | hq | hq | hq <;> simp only [hq, true_or, or_true]
  have hc : (c2, oc) ∈ tlw ++ (D2, oD) :: (tl ++ [(p, op), (l0, ol), (x, ox), (c2, oc), (c1, o1)]) := by simp
  refine ⟨tlw ++ (D2, oD) :: (tl ++ [(p, op), (l0, ol), (x, ox), (c1, o1)]), fun q hq => N q ?_, fun q hq => ?_, fun q hq => Nat.ne_of_lt (h1 q (.tail _ (sub q hq))), fun q hq => Nat.ne_of_lt (h2 q (sub q hq)), Nat.ne_of_lt (h1 _ (.tail _ hc)), Nat.ne_of_lt (h2 _ hc), Nat.ne_of_lt (h1 _ (.head _)), List.mem_append_right _ (.head _), fun q hq => List.mem_append_right _ (.tail _ (List.mem_append_left _ hq)), fun q hq => List.mem_append_left _ hq, fun q hq => h3 (c1, o1) (by simp) q hq⟩
  · rcases List.mem_cons.mp hq with rfl | hq
    · exact .tail _ (.tail _ (.tail _ hc))
    rcases List.mem_cons.mp hq with rfl | hq
    · exact .tail _ (.head _)
    rcases List.mem_cons.mp hq with rfl | hq
    · exact .tail _ (.tail _ (.head _))
    exact .tail _ (.tail _ (.tail _ (sub q hq)))
  · simp only [List.mem_append, List.mem_cons, List.not_mem_nil, or_false] at hq
    rcases hq with hq | rfl | hq | rfl | rfl | rfl | rfl
    · exact Nat.ne_of_gt (h3 (c2, oc) (by simp) q hq)
    · exact fun e => h4 (c2, oc) (by simp) e.symm
    · exact Nat.ne_of_gt (h5 (c2, oc) (by simp) q hq)
    · exact Nat.ne_of_gt (h6 (c2, oc) (by simp))
    · exact fun e => h7 (c2, oc) (by simp) e.symm
    · exact Nat.ne_of_gt (h8 (c2, oc) (by simp))
    · exact h9
end Mine
theorem Mine.sayP12x16 : True := by
  (k_with "zP12x1" => ((k_here; k_dflt (refine' Mine.td_empty ?qF ?qN ?qb ?_; (case qF => k_asm); (case qN => first | k_asm | exact News.nil); (case qb => exact Top.nolimit (by k_asm))); intro qd' qh' qF' qN' ql1 qlo'; (try k_lt ql1))))
  (k_with "zP12x2" => (first | with_reducible exact List.mem_cons_self .. | with_reducible assumption | (with_reducible refine List.mem_append_left _ ?_; with_reducible assumption) | (with_reducible refine List.mem_cons_of_mem _ ?_; news_mem) | (with_reducible refine List.mem_append_right _ ?_; news_mem)))
  (k_with "zP12x3" => (first | with_reducible assumption | exact Ne.symm (by with_reducible assumption) | exact Mine.ne_of_all (by with_reducible assumption) (by news_mem) | exact Ne.symm (Mine.ne_of_all (by with_reducible assumption) (by news_mem)) | exact Mine.ne_of_off (by with_reducible assumption) (by news_mem) | exact Ne.symm (Mine.ne_of_off (by with_reducible assumption) (by news_mem))))
  (k_with "zP12x4" => (first | with_reducible assumption | exact List.forall_mem_nil _ | (refine' List.forall_mem_cons.mpr ⟨?qa, ?qb⟩; (case qa => k_ne); (case qb => k_all)) | (refine' List.forall_mem_append.mpr ⟨?qa, ?qb⟩; (case qa => k_all); (case qb => k_all)) | exact Mine.off_fresh (by with_reducible assumption) (by news_mem)))
  (k_with "zP12x5" => ((k_here; k_dflt (refine' Mine.nets_set ?qu ?qF ?qN ?qU ?qk ?qi ?qs ?qn ?qp ?qz ?_; (case qu => ktr_units); (case qF | qN => k_asm); (case qU => k_updF); (case qk => walk_at "mk"); (case qi => with_reducible assumption); (case qs => ktd_sub); (case qn | qp | qz => with_reducible assumption)); intro qh' qn' qtk' qF' qN'; (try dsimp only at qN'))))
  (k_with "zP12x6" => ((k_here; k_dflt (refine' Mine.net_ne1 ?qN ?qx1 ?qs1 ?qm1 ?qm2 ?qi ?qz ?qu ?_; (case qN => k_asm); (case qx1 => with_reducible assumption); (case qs1 => ktd_sub); (case qm1 | qm2 => news_mem); (case qi | qz => with_reducible assumption); (case qu => ktr_units)))))
  (k_with "zP12x7" => ((k_here; k_dflt (refine' Mine.lks_ne1 ?qN ?qm1 ?qm2 ?qx1 ?qs1 ?qm3 ?qu ?_; (case qN => k_asm); (case qm1 | qm2 => news_mem); (case qx1 => with_reducible assumption); (case qs1 => ktd_sub); (case qm3 => news_mem); (case qu => ktr_units)))))
  (k_with "zP12x8" => ((k_here; k_dflt (refine' Mine.ne_nil2 ?qN ?qa ?qb ?qu ?_; (case qN => k_asm); (case qa | qb => news_mem); (case qu => ktr_units)))))
  (k_with "zP12x9" => ((k_here; (with_reducible show wpAny _ _ (getMethod (Value.ref _) (Str.ofString "pop") _) _ _ _); k_dflt (refine' Mine.td_method PySem.F.slot_dict_pop PySem.F.type_dict_pop ?qN ?qm ?_; (case qN => k_asm); (case qm => news_mem)))))
  (k_with "zP12x10" => ((k_here; (with_reducible show wpAny _ _ (call (Value.builtin "dict.pop") [Value.ref _, Value.ref _]) _ _ _); k_dflt (refine' Mine.pop_wish ?qu ?qF ?qN ?qU ?qk ?qhk ?qni ?qs ?qnd ?qz ?_; (case qu => ktr_units); (case qF | qN => k_asm); (case qU => k_updF); (case qk => walk_at "mk"); (case qhk | qni => with_reducible assumption); (case qs => ktd_sub); (case qnd | qz => with_reducible assumption)); intro qh' qn' qtk' qF' qN'; (try dsimp only at qN'))))
  (k_with "zP12x11" => ((k_here; k_dflt (refine' Mine.eq_nets ?qN ?qd ?qe ?qx1 ?qs1 ?qx2 ?qs2 ?qnd ?ql1 ?ql2 ?qu ?_; (case qN => k_asm); (case qd | qe => news_mem); (case qx1 => with_reducible assumption); (case qs1 => ktd_sub); (case qx2 => with_reducible assumption); (case qs2 => ktd_sub); (case qnd | ql1 | ql2 => with_reducible assumption); (case qu => ktr_units)))))
  (k_with "zP12x12" => ((k_here; k_dflt (refine' Mine.rt_eq1 ?qN ?qx1 ?qs1 ?qm1 ?qm2 ?ql ?qs2 ?qz ?qu ?_; (case qN => k_asm); (case qx1 => with_reducible assumption); (case qs1 => ktd_sub); (case qm1 | qm2 => news_mem); (case ql => with_reducible assumption); (case qs2 => ktd_sub); (case qz => with_reducible assumption); (case qu => ktr_units)))))
  (k_with "zP12x13" => (first | refine Mine.ite_t (by with_reducible assumption) ?_ | refine Mine.ite_f (by with_reducible assumption) ?_))
  (k_with "zP12x14" => ((k_here; k_dflt (refine' Mine.nb_some ?qB ?qF ?qX ?qN ?qT ?qhk ?qhd1 ?qhu1 ?qhI ?qhn ?_; walk_at "mb"; (case qhI => walk_at "mi"); (case qhn => assumption)); intro qq' qh' qtk' qtl' qF' qN' ql2' qni'; (try dsimp only))))
  (k_with "zP12x15" => ((k_here; k_dflt (refine' Mine.nb_none ?qB ?qF ?qX ?qN ?qT ?qhk ?qhd1 ?qhu1 ?qhI ?qhn ?_; walk_at "mb"; (case qhI => walk_at "mi"); (case qhn => assumption)); intro qh' qtk' qF' qN'; (try dsimp only))))
  (k_with "zP12x16" => ((k_here; (with_reducible show wpAny _ _ (subscriptTail _ _ (Value.ref _) (Value.int 2 _)) _ _ _); k_dflt (refine' Mine.lk_item2 ?qN ?qm ?qs ?_; (case qN => k_asm); (case qm => news_mem); (case qs => with_unfolding_all rfl)))))
  trivial
local macro_rules | `(tactic| walk_at "eval Dict nil nil") => `(tactic| k_extra "zP12x1")
local macro_rules | `(tactic| news_mem) => `(tactic| k_extra "zP12x2")
local macro_rules | `(tactic| k_ne) => `(tactic| k_extra "zP12x3")
local macro_rules | `(tactic| k_all) => `(tactic| k_extra "zP12x4")
local macro_rules | `(tactic| walk_at "setItem ref ref ref") => `(tactic| k_extra "zP12x5")
local macro_rules | `(tactic| walk_at "compareOp NotEq ref ref") => `(tactic| k_extra "zP12x6")
local macro_rules | `(tactic| walk_at "compareOp NotEq ref ref") => `(tactic| k_extra "zP12x7")
local macro_rules | `(tactic| walk_at "compareOp NotEq ref ref") => `(tactic| k_extra "zP12x8")
local macro_rules | `(tactic| walk_at "getMethod ref") => `(tactic| k_extra "zP12x9")
local macro_rules | `(tactic| walk_at "call builtin:dict.pop") => `(tactic| k_extra "zP12x10")
local macro_rules | `(tactic| walk_at "compareOp Eq ref ref") => `(tactic| k_extra "zP12x11")
local macro_rules | `(tactic| walk_at "compareOp Eq ref ref") => `(tactic| k_extra "zP12x12")
local macro_rules | `(tactic| walk_at "ite") => `(tactic| k_extra "zP12x13")
local macro_rules | `(tactic| walk_at "call ref cons nil") => `(tactic| k_extra "zP12x14")
local macro_rules | `(tactic| walk_at "call ref cons nil") => `(tactic| k_extra "zP12x15")
local macro_rules | `(tactic| walk_at "subscriptTail Name Constant ref int") => `(tactic| k_extra "zP12x16")
theorem PySem.Challenge.cw_rh0194_01_holds : PySem.Challenge.rw_rh0194_01.Holds := by
  refine Mine.hd (by
    k_go0; (all_goals try k_fold)
    (iterate 13 kat_tups)
    (rename IntsAre _ (List.take 30 _) => hW)
    have hWl := hW.length
    rw [List.length_take] at hWl
    refine Mine.comp_ro (R := fun rest ys => ∃ ns ms, IntsAre rest ns ∧ IntsAre ys ms ∧ rest.length + ys.length ≤ 30) ⟨_, [], hW, .nil, by rw [List.length_nil]; omega⟩ (by rfl) (by k_asm) (by k_asm) (by k_mem) (by rw [sizeLine_eq]; omega) ?turn ?fin
    case turn =>
      rintro v' rest' ys' I' oI' C' oC' D' m' s' E' ⟨ns, ms, hns, hms, hlen⟩ hC' hx' F' N' off' ne' hS'
      cases hns with | cons n t hrest =>
      (repeat' kat_tups)
      exact LCg.CompEnd.intro (by assumption) (by assumption) _ (fun _ h => h) off' hS' ⟨rfl, _, _, hrest, Mine.ints_snoc hms _ _, by rw [List.length_append]; rw [List.length_cons] at hlen; simp only [List.length_cons, List.length_nil]; omega⟩
    case fin =>
      rintro g9 ys ⟨ns, ms, hns, hms, hlen⟩
      cases hns
      rw [List.length_nil] at hlen
      have hlen2 : ys.length ≤ 64 := by omega
      intro D' h' tk' F' N' o1'
      replace o1' := Mine.off_of_off1 o1'
      (iterate 27 kat_tups)
      (rename IsRange _ _ _ _ _ _ _ _ => hrg)
      (rename (_ < (2 : Int)) => hd2)
      (rename ((0 : Int) ≤ _) => hd0)
      (rename News _ _ _ _ => kN)
      (rename Fr _ _ _ _ => kF)
      (rename World => w0)
      (rename (∀ p ∈ (_ : Mine.Led), p.1 < _) => hl1)
      obtain ⟨hsm, n, hrs, hn0, hn2⟩ := Mine.rng_n hd0 hd2
      refine Mine.comp_rng (n := n) (Mine.IfR w0 _ _ _) ⟨_, _, [], [], rfl, ?e1, ?e2, .nil, fun _ _ _ h => nomatch h⟩ (by rfl) kF kN hrg hsm hrs (by rw [sizeLine_eq]; omega) ?turn ?fin
      case e1 => decide
      case e2 => decide
      case turn =>
        clear kF kN
        rintro i t ys' nw I oI C oC D m₂ s₂ E' hi ⟨sp, t3, tl, ds, rfl, b1, b2, M, fr⟩ hC hx F2 N2 off ne
        have offm := off.mem
        (iterate 13 kat_tups)
        refine' Mine.law_iface_ok (vs := ys) (k1 := ys.length) ?B ?F ?X ?N ?T ?hk ?hd1 ?hu1 (Mine.turnU off fr (Mine.ne_rest hl1 rfl)) Mine.turnM hms hlen2 (by omega) (by omega) (by omega) (by omega) ?_
        case B => k_asm
        case F => k_asm
        case X => k_asm
        case N => k_asm
        case T => k_asm
        case hk => first | exact rfl | assumption
        case hd1 => ktr_room
        case hu1 => ktr_units
        intro r' h' tk' t3' sp' tl' d' F' N' l2' c1 c2 if' ok'
        dsimp only
        (repeat' kat_tups)
        exact Mine.iface_turn_end F' N' off l2' fr b1 b2 c1 c2 (by omega) M if' ok'
      case fin =>
        rintro g ys' nw ⟨sp, t3, tl, ds, rfl, b1, b2, M, fr⟩
        intro D2 h2 tk2 F2 N2 o2
        replace o2 := Mine.off_of_off1 o2
        obtain ⟨hIs, hnd, hok⟩ := M.ifs (news := (D2, LCg.lst ys') :: (tl ++ _)) hn0 (.head _) (fun q hq => .tail _ (List.mem_append_left _ hq))
        have hds2 := M.len
        (iterate 41 kat_tups)
        (rename Fr _ _ _ _ => kF)
        (rename News _ _ _ _ => kN)
        refine' For_turns kF ?_
        (iterate 1 kat_tups)
        obtain ⟨base, kN2, oc1, oc2, oc3, ne1, ne2, ne3, hD2, htl, htlw, hc1⟩ := Mine.loop_pre kN (by assumption) (by assumption) (by assumption) (by assumption) (by assumption) (by assumption) (by assumption) (by assumption) (by exact Nat.ne_of_lt (Nat.lt_succ_self _))
        refine iter_listTurns (lo := LCg.lst ys') (vs := ys') (n := ys'.length) (by rfl) kF kN2 (.tail _ (.tail _ (.tail _ (List.mem_append_right _ hD2)))) rfl rfl fun I hI => ?_
        refine Mine.items_inv (Mine.LoopS w0 I _ _ _ _ _ ds) ?turn ?fin _ _ _ ⟨_, _, [], 0, 0, [], [], [], ds, rfl, (by assumption), rfl, rfl, rfl, rfl, M.all htl, .nil, .nil, Nat.le_refl _, (fun _ _ _ h => nomatch h), (fun q hq => Nat.ne_of_lt (hI q hq))⟩
        case fin =>
          rintro m nw h tk ⟨oc, vv, vrs, kr, kn, xs, acc, dn, dr, hL⟩ F N
          obtain ⟨rfl, hcell, hmw, hmn, hmr, hspl, hall, hnin, hlin, hlen9, hfr, hoffI⟩ := hL
          cases hall
          rw [List.append_nil] at hspl
          subst hspl
          (rename Mine.WishIn _ _ _ _ => hwi)
          obtain ⟨D, n1, a1, v1, xs1, rfl, hmD, hk1, hro, hni1⟩ := hwi
          obtain ⟨qv, rfl⟩ : ∃ q, v1 = .ref q := by cases hro; exact ⟨_, rfl⟩
          have loD := Mine.lo_of (Top.nolimit (by k_asm)) (hc1 _ hmD)
          obtain ⟨rst, N2, hr1, hr2, hr3, hsa, hsb⟩ := Mine.fin_led N (htlw _ hmD) rfl oc2 oc3
          have hro2 := hro.monoT (fun p hp => hsb p (htlw p hp))
          have hni2 := hni1.monoT (fun p hp => hsb p (htlw p hp))
          have hk2 := hk1.monoT (fun p hp => hsb p (htlw p hp))
          have hnin2 := hnin.monoT hsa
          have hlin2 := hlin.monoT hsa
          have hv6 : vrs.length ≤ 6 := by omega
          rw [Mine.map_fix hmw hmn hmr] at F
          clear kF kN kN2 N hI hro hni1 hk1 hnin hlin
          (repeat' kat_tups)
          (k_end; wrow_close)
        case turn =>
          rintro v rest m nw h tk o ⟨oc, vv, vrs, kr, kn, xs, acc, dn, dr, hL⟩ F N
          obtain ⟨rfl, hcell, hmw, hmn, hmr, hspl, hall, hnin, hlin, hlen9, hfr, hoffI⟩ := hL
          rw [Mine.map_fix hmw hmn hmr] at F
          clear kF kN kN2 hI
          cases hall with | @cons _ d _ _ _ hI1 hO1 hrest1 =>
          have hv9 := Mine.spl_len hspl hds2 hlen9
          have hI10 := hI1
          cases hI1 with | mk hm1 hdic1 hml1 hnb1 hz1 =>
          have hnil9 : (!decide (([] : List Value) = [])) = false := rfl
          (repeat' kat_tups)
          refine Mine.compT_ro (R := fun rest ys => ∃ dd fs, Mine.NbAll w0 base rest dd ∧ Mine.NbAll w0 base ys fs ∧ fs ++ Mine.fullN dd = Mine.fullN d.nbs) ⟨_, [], hnb1, .nil, rfl⟩ (by rfl) (by k_asm) (by k_asm) (by k_mem) (by rw [sizeLine_eq, hnb1.length]; omega) ?_ ?_
          · rintro v' rest' ys' I' oI' C' oC' D' m' s' E' ⟨dd, fs, hdd, hfs, he⟩ hC' hx' F' N' off' ne' hS'
            cases hdd with | cons hnb1 hrest =>
            have hnb10 := hnb1
            cases hnb1 with | mk hm1 hd1 =>
            (repeat' kat_tups)
            · (rename ((Mine.Nb.st _ == _) = true) => e2)
              exact LCg.CompEnd.intro (by k_asm) (by k_asm) _ (fun _ h => h) off' hS' ⟨rfl, _, _, hrest, hfs.append (.cons hnb10 .nil), by rw [← he, Mine.fullN_pos e2, List.append_assoc]; rfl⟩
            · (rename ((Mine.Nb.st _ == _) = false) => e2)
              exact LCg.CompEnd.intro (by k_asm) (by k_asm) _ (fun _ h => h) off' hS' ⟨rfl, _, _, hrest, hfs, by rw [← he, Mine.fullN_neg e2]⟩
          rintro g9 ys1 ⟨dd, fs, hdd, hfs, he⟩
          cases hdd
          rw [Mine.fullN, List.filter_nil, List.append_nil] at he
          subst he
          have hl9 : ys1.length ≤ 2 := by rw [hfs.length]; exact Nat.le_trans (List.length_filter_le _ _) hz1
          have hy1 := hfs.nil_iff
          intro D1 h1 tk1 F1 N1 o1
          replace o1 := Mine.off_of_off1 o1
          (iterate 2 kat_tups)
          refine Mine.join_bool (Mine.chief d) F1 N1 ?_ ?_
          · clear F1 N1
            intro Q' F1 N1 hq
            (repeat' kat_tups)
            all_goals (
              (rename News _ _ _ _ => kN)
              (rename Fr _ _ _ _ => kF)
              first
                | exact Mine.join_use (hq _ _ kF (Mine.news_sub kN (by ktd_sub))) (Mine.chief_t (by with_reducible assumption) hy1)
                | exact Mine.join_use (hq _ _ kF kN) (Mine.chief_g (by with_reducible assumption)))
          clear F1 N1
          intro h3 tk3 F3 N3
          (repeat' kat_tups)
          refine Mine.compT_ro (R := fun rest ys => ∃ dd fs, Mine.NbAll w0 base rest dd ∧ Mine.NbAll w0 base ys fs ∧ fs ++ dd.filter (fun n => n.ad == d.dr) = Mine.nearN d.dr d.nbs) ⟨_, [], hfs, .nil, rfl⟩ (by rfl) (by k_asm) (by k_asm) (by k_mem) (by rw [sizeLine_eq]; omega) ?_ ?_
          · rintro v' rest' ys' I' oI' C' oC' D' m' s' E' ⟨dd, gs, hdd, hgs, he⟩ hC' hx' F' N' off' ne' hS'
            cases hdd with | cons hnb1 hrest =>
            have hnb10 := hnb1
            cases hnb1 with | mk hm1 hd1 =>
            (repeat' kat_tups)
            · (rename (Mine.Nb.ad _ = d.dr) => e2)
              exact LCg.CompEnd.intro (by k_asm) (by k_asm) _ (fun _ h => h) off' hS' ⟨rfl, _, _, hrest, hgs.append (.cons hnb10 .nil), by rw [← he, Mine.near_pos e2, List.append_assoc]; rfl⟩
            · (rename (¬ Mine.Nb.ad _ = d.dr) => e2)
              exact LCg.CompEnd.intro (by k_asm) (by k_asm) _ (fun _ h => h) off' hS' ⟨rfl, _, _, hrest, hgs, by rw [← he, Mine.near_neg e2]⟩
          rintro g9 ys2 ⟨dd, gs, hdd, hgs, he⟩
          cases hdd
          rw [List.filter_nil, List.append_nil] at he
          subst he
          have hy2 := hgs.nil_iff
          intro D2' h2' tk2' F2' N2' o2'
          replace o2' := Mine.off_of_off1 o2'
          (iterate 2 kat_tups)
          refine Mine.join_bool (Mine.isNear d) F2' N2' ?_ ?_
          · clear F2' N2'
            intro Q' F2' N2' hq
            (repeat' kat_tups)
            all_goals (
              (rename News _ _ _ _ => kN)
              (rename Fr _ _ _ _ => kF)
              first
                | exact Mine.join_use (hq _ _ kF (Mine.news_sub kN (by ktd_sub))) (Mine.near_t (by with_reducible assumption) hy2)
                | exact Mine.join_use (hq _ _ kF (Mine.news_sub kN (by ktd_sub))) (Mine.near_g (by with_reducible assumption)))
          clear F2' N2'
          intro h4 tk4 F4 N4
          (iterate 10 kat_tups)
          cases Mine.kase hO1
          · (repeat' kat_tups)
            refine Mine.comp_ro (R := fun rest ys => ∃ dd ms, Mine.NbAll w0 base rest dd ∧ IntsAre ys ms ∧ ms ++ dd.map (·.r) = (Mine.fullN d.nbs).map (·.r)) ⟨_, [], hfs, .nil, rfl⟩ (by rfl) (by k_asm) (by k_asm) (by k_mem) (by rw [sizeLine_eq]; omega) ?_ ?_
            · rintro v' rest' ys' I' oI' C' oC' D' m' s' E' ⟨dd, ms, hdd, hms, he⟩ hC' hx' F' N' off' ne' hS'
              cases hdd with | cons hnb1 hrest =>
              cases hnb1 with | mk hm1 hd1 =>
              (repeat' kat_tups)
              exact LCg.CompEnd.intro (by k_asm) (by k_asm) _ (fun _ h => h) off' hS' ⟨rfl, _, _, hrest, Mine.ints_snoc hms _ _, by rw [← he, List.map_cons, List.append_assoc]; rfl⟩
            rintro g9 ys4 ⟨dd, ms, hdd, hms, he⟩
            cases hdd
            rw [List.map_nil, List.append_nil] at he
            subst he
            have hl4 : ys4.length ≤ 2 := by rw [hms.length, List.length_map, ← hfs.length]; exact hl9
            have hz3 : (Mine.srt ((Mine.fullN d.nbs).map (·.r) ++ [77])).length ≤ 3 := by rw [(Mine.srt_perm _).length_eq, List.length_append, ← hms.length, List.length_cons, List.length_nil]; omega
            intro D4 h4 tk4 F4 N4 o4
            replace o4 := Mine.off_of_off1 o4
            (repeat' kat_tups)
            (rename Mine.LkAll _ _ (Mine.links d) => lkA)
            refine Mine.compT_ro (R := Mine.LkR _ ((Mine.links d).filter Mine.isT)) ⟨_, [], lkA, .nil, rfl⟩ (by rfl) (by k_asm) (by k_asm) (by k_mem) (by rw [sizeLine_eq]; omega) ?_ ?_
            · rintro v' rest' ys' I' oI' C' oC' D' m' s' E' ⟨dd, gs, hdd, hgs, he⟩ hC' hx' F' N' off' ne' hS'
              cases hdd with | cons hx hrest =>
              have hx0 := hx
              cases hx with | mk hm1 =>
              (repeat' kat_tups)
              · (rename (Mine.Lk.c _ = 2) => e2)
                exact LCg.CompEnd.intro (by k_asm) (by k_asm) _ (fun _ h => h) off' hS' ⟨rfl, _, _, hrest, hgs.append (.cons hx0 .nil), by rw [← he, Mine.isT_pos e2, List.append_assoc]; rfl⟩
              · (rename (¬ Mine.Lk.c _ = 2) => e2)
                exact LCg.CompEnd.intro (by k_asm) (by k_asm) _ (fun _ h => h) off' hS' ⟨rfl, _, _, hrest, hgs, by rw [← he, Mine.isT_neg e2]⟩
            rintro g9 ys3 ⟨dd, gs, hdd, hgs, he⟩
            cases hdd
            rw [List.filter_nil, List.append_nil] at he
            subst he
            (rename (List.filter _ (Mine.links d) = _) => hl8)
            rw [hl8] at hgs
            intro D3' h3' tk3' F3' N3' o3'
            replace o3' := Mine.off_of_off1 o3'
            (repeat' kat_tups)
            (rename Fr _ _ _ _ => eF)
            (rename News _ _ _ _ => eN)
            exact Mine.turn_end_chief eF eN (by news_mem) (by news_mem) (by news_mem) (by news_mem) (by news_mem) (by news_mem) (by news_mem) (by with_reducible assumption) hz3 (by with_reducible assumption) (by ktd_sub) (by ktd_sub) (by ktd_sub) (by with_reducible assumption) rfl rfl rfl hspl hrest1 hnin hlin lkA hlen9 (by with_reducible assumption) hfr hoffI
              (fun x hx => Mine.fresh_use (q := (_, _)) (by with_reducible assumption) hx (by news_mem)) (fun x hx => Mine.fresh_use (q := (_, _)) (by with_reducible assumption) hx (by news_mem)) (fun x hx => Mine.fresh_use (q := (_, _)) (by with_reducible assumption) hx (by news_mem)) (fun x hx => Mine.fresh_use (q := (_, _)) (by with_reducible assumption) hx (by news_mem)) (Mine.lt_all_use (q := (_, _)) (by with_reducible assumption) (by news_mem)) (Mine.lt_all_use (q := (_, _)) (by with_reducible assumption) (by news_mem)) (Mine.lt_all_use (q := (_, _)) (by with_reducible assumption) (by news_mem)) (Mine.lt_all_use (q := (_, _)) (by with_reducible assumption) (by news_mem)) (Mine.lt_all_use (q := (_, _)) (by with_reducible assumption) (by news_mem)) (Mine.lt_all_use (q := (_, _)) (by with_reducible assumption) (by news_mem)) (Mine.lt_all_use (q := (_, _)) (by with_reducible assumption) (by news_mem)) (Mine.lt_all_use (q := (_, _)) (by with_reducible assumption) (by news_mem)) (Mine.lt_all_use (q := (_, _)) (by with_reducible assumption) (by news_mem)) (Mine.lt_all_use (q := (_, _)) (by with_reducible assumption) (by news_mem)) (Mine.lt_all_use (q := (_, _)) (by with_reducible assumption) (by news_mem)) (Mine.lt_all_use (q := (_, _)) (by with_reducible assumption) (by news_mem)) hD2
          all_goals (
                (repeat' kat_tups)
                (rename Mine.LkAll _ _ (Mine.links d) => lkA)
                refine Mine.compT_ro (R := Mine.LkR _ ((Mine.links d).filter Mine.isT)) ⟨_, [], lkA, .nil, rfl⟩ (by rfl) (by k_asm) (by k_asm) (by k_mem) (by rw [sizeLine_eq]; omega) ?_ ?_
                · rintro v' rest' ys' I' oI' C' oC' D' m' s' E' ⟨dd, gs, hdd, hgs, he⟩ hC' hx' F' N' off' ne' hS'
                  cases hdd with | cons hx hrest =>
                  have hx0 := hx
                  cases hx with | mk hm1 =>
                  (repeat' kat_tups)
                  · (rename (Mine.Lk.c _ = 2) => e2)
                    exact LCg.CompEnd.intro (by k_asm) (by k_asm) _ (fun _ h => h) off' hS' ⟨rfl, _, _, hrest, hgs.append (.cons hx0 .nil), by rw [← he, Mine.isT_pos e2, List.append_assoc]; rfl⟩
                  · (rename (¬ Mine.Lk.c _ = 2) => e2)
                    exact LCg.CompEnd.intro (by k_asm) (by k_asm) _ (fun _ h => h) off' hS' ⟨rfl, _, _, hrest, hgs, by rw [← he, Mine.isT_neg e2]⟩
                · rintro g9 ys3 ⟨dd, gs, hdd, hgs, he⟩
                  cases hdd
                  rw [List.filter_nil, List.append_nil] at he
                  subst he
                  (rename (List.filter _ (Mine.links d) = _) => hl8)
                  rw [hl8] at hgs
                  (first | (have e9 := Mine.lk_nil hgs; subst e9) | skip)
                  intro D3' h3' tk3' F3' N3' o3'
                  replace o3' := Mine.off_of_off1 o3'
                  (repeat' kat_tups)
                  (rename Fr _ _ _ _ => eF)
                  (rename News _ _ _ _ => eN)
                  exact Mine.turn_end eF eN (by news_mem) (by news_mem) (by news_mem) (by news_mem) (by ktd_sub) (by ktd_sub) (by ktd_sub) (by with_reducible assumption) rfl rfl rfl hspl hrest1 (hnin.snocN (by with_reducible assumption)) hlin lkA hlen9 (by with_reducible assumption) hfr hoffI
                    (fun x hx => Mine.fresh_use (q := (_, _)) (by with_reducible assumption) hx (by news_mem)) (fun x hx => Mine.fresh_use (q := (_, _)) (by with_reducible assumption) hx (by news_mem)) (fun x hx => Mine.fresh_use (q := (_, _)) (by with_reducible assumption) hx (by news_mem)) (fun x hx => Mine.fresh_use (q := (_, _)) (by with_reducible assumption) hx (by news_mem)) hD2))
