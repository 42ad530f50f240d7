import PyProof.Rows.All
import Wide.All
import OpenK.AllK
import Wide.FinOn
import PySem.Challenge.RW_ok0015_01
open PySem PySem.W PyProof.Rows
set_option Elab.async false
set_option maxRecDepth 100000
set_option maxHeartbeats 8000000
set_option compiler.extract_closed false
set_option linter.all false
namespace Mine
/-- the top's run behind the start-up: two looks at its end -/
theorem left_boot {p q : Program} {loose : List Str} {Xt : Shared → Bool} {α : Type} {Yf : Shared → α} {Ya : World → α} {N : Nat}
    (e : opening p = plainProg p.main.scope.names) (hN : Nat.ble 600 N = true) (f : ∀ s, fenceModules? p s = some s)
    (hA : ∀ (w : World) (os : OsState), (topFrom treeTable p w N ⟨boot_heap w.params, Array.mk [], boot_drawn, boot_toks, os⟩).map (openSeen q loose (importedModules p.main.body) Xt true) = some (openGood q loose))
    (hB : ∀ (w : World) (os : OsState), (topFrom treeTable p w N ⟨boot_heap w.params, Array.mk [], boot_drawn, boot_toks, os⟩).map Yf = some (Ya w)) : LeftO p q loose Xt Yf Ya N true := fun w => by
  obtain ⟨⟨hp, gs, d, k, os⟩, e1, e2⟩ := Option.map_eq_some_iff.mp (boot_open e hN f w)
  obtain ⟨rfl, rfl, rfl, rfl⟩ : hp = boot_heap w.params ∧ gs = Array.mk [] ∧ d = boot_drawn ∧ k = boot_toks := by simpa using e2
  obtain ⟨s1, h1, h2⟩ := Option.map_eq_some_iff.mp (hA w os)
  obtain ⟨s2, h3, h4⟩ := Option.map_eq_some_iff.mp (hB w os)
  rw [h1] at h3
  cases h3
  unfold openEnds
  rw [e1]
  show (topFrom treeTable p w N _).map _ = _
  rw [h1]
  exact congrArg some (Prod.ext h2 h4)
def vw : Program := view PySem.Challenge.pw_ok0015_01 [0, 2, 3, 4, 5, 6, 7, 8, 10, 11, 12, 13, 14, 15, 17, 18, 19, 20, 21, 22, 23, 24, 25, 26, 28, 29, 30, 31, 32, 33]
abbrev looksX (s : Shared) : Bool := xlAt vw [] s && recOk (RowW.records (OpenRow.toRowW (OpenLaw.row PySem.Challenge.rw_ok0015_01))) s
theorem look_seen (w : World) (os : OsState) : (topFrom treeTable PySem.Challenge.pw_ok0015_01 w 3772 ⟨boot_heap w.params, Array.mk [], boot_drawn, boot_toks, os⟩).map (openSeen vw [Str.ofString "LinkFault"] (importedModules PySem.Challenge.pw_ok0015_01.main.body) looksX true) = some (openGood vw [Str.ofString "LinkFault"]) := by kernel_rfl
local macro_rules | `(tactic| o_law) => `(tactic| refine holds_law (by kernel_rfl) fun said => ?_)
local macro_rules | `(tactic| o_head $H) => `(tactic|
  refine holds_open (q := vw) (loose := [Str.ofString "LinkFault"]) (Xt := looksX) (XP := XL vw []) (Yf := Hook.obs $H) (Ya := Hook.val $H) (YP := Hook.says $H) (N := 3772)
    (left_boot (by kernel_rfl) (by kernel_rfl) (fun s => by kernel_rfl) look_seen (fun w os => by kernel_rfl)) (Hook.of $H) (Hook.keeps $H) (fun s e => xl_of s (Bool.and_eq_true_iff.mp e).1) XL.keeps (by rfl) (by rfl) (by rfl) (fun s e => recFacts_of (Bool.and_eq_true_iff.mp e).2) (by rfl) (by first | assumption | decide +kernel) (by decide +kernel) ⟨rfl, rfl, rfl, rfl, rfl, by decide +kernel⟩ ?hw ?hc)
set_option maxHeartbeats 0 in
open_top hd for PySem.Challenge.rw_ok0015_01
noncomputable section

/-- the walk halts here -/
def Mark (P : Prop) : Prop := P
theorem Mark.out {P : Prop} (h : Mark P) : P := h

/-- what a call of the def at `f` does: a value that is no object (`some R`), or a LinkFault (`none`); what was made before stands -/
def PS (w : World) (mean : ExcName → Option Value) (mg mb : Str → Option Value) (n : Nat) (f : Addr) (vs : List Value) (res : Option (Tok → Value)) : Prop :=
  ∀ (news : List (Addr × Obj)) (dp un : Nat) (gd : Option (List Code)) (cn : Str) (cs : Scope) (a : Addr) (ccd : Value) (cl : List (Str × Addr)) (outer : List Env) (A₀ : Around) (base h₀ : Heap) (L : Addr) (m : Str → Option Value) (s : Shared) (Q E : Value → Shared → Prop),
    Below A₀ base outer h₀ → Fr h₀ L s.heap m → (hd.heap_1 w.params).In h₀ → News h₀ L s.heap news → Top vw (looseW vw [Str.ofString "LinkFault"]) mean mg mb h₀ → cs.kind = .function → dp + n < recursionLimit → un + 8 * n < cLine →
    (∀ R, res = some R → ∀ t h' tk', Fr h₀ L h' m → News h₀ L h' news → Q (R t) { s with heap := h', toks := tk' }) →
    (res = none → ∀ e g₂ h' tk', Fr h₀ L g₂ m → g₂.UpToSlots h' → RaisedSN base g₂ (envX cn cs L a ccd cl :: outer) e (.ref 52) news h' → E (.ref e) { s with heap := h', toks := tk' }) →
    wpAny (model PySem.Challenge.rw_ok0015_01.row.prog w) (ktrTop dp un gd cn cs L a ccd cl outer) (call (.ref f) vs) Q E s

section
variable {w : World} {mean : ExcName → Option Value} {mg mb : Str → Option Value} {n : Nat} {f : Addr} {vs : List Value} {news : List (Addr × Obj)}
    {dp un : Nat} {gd : Option (List Code)} {cn : Str} {cs : Scope} {a : Addr} {ccd : Value} {cl : List (Str × Addr)} {outer : List Env} {A₀ : Around} {base h₀ : Heap} {L : Addr} {m : Str → Option Value} {s : Shared} {Q E : Value → Shared → Prop}
theorem PS.ok {R : Tok → Value} (S : PS w mean mg mb n f vs (some R))
    (B : Below A₀ base outer h₀) (F : Fr h₀ L s.heap m) (K : (hd.heap_1 w.params).In h₀) (N : News h₀ L s.heap news) (T : Top vw (looseW vw [Str.ofString "LinkFault"]) mean mg mb h₀) (hk : cs.kind = .function) (hdp : dp + n < recursionLimit) (hu : un + 8 * n < cLine)
    (hret : ∀ t h' tk', Fr h₀ L h' m → News h₀ L h' news → Q (R t) { s with heap := h', toks := tk' }) :
    wpAny (model PySem.Challenge.rw_ok0015_01.row.prog w) (ktrTop dp un gd cn cs L a ccd cl outer) (call (.ref f) vs) Q E s :=
  S news dp un gd cn cs a ccd cl outer A₀ base h₀ L m s Q E B F K N T hk hdp hu (fun _ e => by cases e; exact hret) (fun e => nomatch e)
theorem PS.opt {ρ : Type} {o : Option ρ} {R : ρ → Tok → Value} (S : PS w mean mg mb n f vs (o.map R))
    (B : Below A₀ base outer h₀) (F : Fr h₀ L s.heap m) (K : (hd.heap_1 w.params).In h₀) (N : News h₀ L s.heap news) (T : Top vw (looseW vw [Str.ofString "LinkFault"]) mean mg mb h₀) (hk : cs.kind = .function) (hdp : dp + n < recursionLimit) (hu : un + 8 * n < cLine)
    (hret : ∀ r, o = some r → ∀ t h' tk', Fr h₀ L h' m → News h₀ L h' news → Q (R r t) { s with heap := h', toks := tk' })
    (hexc : o = none → ∀ e g₂ h' tk', Fr h₀ L g₂ m → g₂.UpToSlots h' → RaisedSN base g₂ (envX cn cs L a ccd cl :: outer) e (.ref 52) news h' → E (.ref e) { s with heap := h', toks := tk' }) :
    wpAny (model PySem.Challenge.rw_ok0015_01.row.prog w) (ktrTop dp un gd cn cs L a ccd cl outer) (call (.ref f) vs) Q E s :=
  S news dp un gd cn cs a ccd cl outer A₀ base h₀ L m s Q E B F K N T hk hdp hu (fun R' e => by cases o with | none => cases e | some r => cases e; exact hret r rfl) (fun e => by cases o with | none => exact hexc rfl | some r => cases e)
theorem PS.bad (S : PS w mean mg mb n f vs none)
    (B : Below A₀ base outer h₀) (F : Fr h₀ L s.heap m) (K : (hd.heap_1 w.params).In h₀) (N : News h₀ L s.heap news) (T : Top vw (looseW vw [Str.ofString "LinkFault"]) mean mg mb h₀) (hk : cs.kind = .function) (hdp : dp + n < recursionLimit) (hu : un + 8 * n < cLine)
    (hexc : ∀ e g₂ h' tk', Fr h₀ L g₂ m → g₂.UpToSlots h' → RaisedSN base g₂ (envX cn cs L a ccd cl :: outer) e (.ref 52) news h' → E (.ref e) { s with heap := h', toks := tk' }) :
    wpAny (model PySem.Challenge.rw_ok0015_01.row.prog w) (ktrTop dp un gd cn cs L a ccd cl outer) (call (.ref f) vs) Q E s :=
  S news dp un gd cn cs a ccd cl outer A₀ base h₀ L m s Q E B F K N T hk hdp hu (fun _ e => nomatch e) (fun _ => hexc)
end
section
variable {h₀ h' : Heap} {L : Addr} {m : Str → Option Value} {news news' : List (Addr × Obj)} {s : Shared} {Q : Value → Shared → Prop} {t : Tok} {tk' : Nat} {res : Option (Tok → Value)}
theorem endI {x : Int} (hret : ∀ R, res = some R → ∀ t h' tk', Fr h₀ L h' m → News h₀ L h' news → Q (R t) { s with heap := h', toks := tk' }) (F : Fr h₀ L h' m) (N : News h₀ L h' news') (hs : ∀ p ∈ news, p ∈ news') (e : res = some (fun t => .int x t)) : Q (.int x t) { s with heap := h', toks := tk' } :=
  hret _ e t h' tk' F fun p hp => N p (hs p hp)
theorem endS {x : Str} (hret : ∀ R, res = some R → ∀ t h' tk', Fr h₀ L h' m → News h₀ L h' news → Q (R t) { s with heap := h', toks := tk' }) (F : Fr h₀ L h' m) (N : News h₀ L h' news') (hs : ∀ p ∈ news, p ∈ news') (e : res = some (fun t => .str x t)) : Q (.str x t) { s with heap := h', toks := tk' } :=
  hret _ e t h' tk' F fun p hp => N p (hs p hp)
theorem endB {x : Bool} (hret : ∀ R, res = some R → ∀ t h' tk', Fr h₀ L h' m → News h₀ L h' news → Q (R t) { s with heap := h', toks := tk' }) (F : Fr h₀ L h' m) (N : News h₀ L h' news') (hs : ∀ p ∈ news, p ∈ news') (e : res = some (fun _ => .bool x)) : Q (.bool x) { s with heap := h', toks := tk' } :=
  hret _ e 0 h' tk' F fun p hp => N p (hs p hp)
theorem resB {x y : Bool} (e : x = y) : (some (fun _ : Tok => Value.bool x)) = some (fun _ => .bool y) := by rw [e]
theorem resI {x y : Int} (e : x = y) : (some (fun t : Tok => Value.int x t)) = some (fun t => .int y t) := by rw [e]
theorem resS {x y : Str} (e : x = y) : (some (fun t : Tok => Value.str x t)) = some (fun t => .str y t) := by rw [e]
end
def tx (l : List Nat) : Str := ⟨l.toArray⟩
theorem tx_length (l : List Nat) : (tx l).length = l.length := by simp [tx, Str.length]
@[reducible] def smallI (c : Int) : Bool := decide (97 ≤ c) && decide (c ≤ 122)
@[reducible] def capI (c : Int) : Bool := decide (65 ≤ c) && decide (c ≤ 90)
@[reducible] def digI (c : Int) : Bool := decide (48 ≤ c) && decide (c ≤ 57)
def alnumI (c : Int) : Bool := smallI c || capI c || digI c || decide (c = 95)
theorem apart_lt {news : List (Addr × Obj)} {l : Addr} (h : ∀ p ∈ news, p.1 < l) : ∀ p ∈ news, p.1 ≠ l := fun p hp => Nat.ne_of_lt (h p hp)
theorem apart_app {news own : List (Addr × Obj)} {l : Addr} {adr : List Addr} (h : ∀ p ∈ news, p.1 < l) (ho : OwnOff own adr) (hm : l ∈ adr) : ∀ p ∈ news ++ own, p.1 ≠ l := fun p hp =>
  (List.mem_append.mp hp).elim (fun h' => Nat.ne_of_lt (h p h')) fun h' => ho p h' l hm
end
local macro_rules | `(tactic| walk_at $s:str) => `(tactic| k_extra $s)
local macro_rules | `(tactic| k_all) => `(tactic| (first | exact apart_app (by assumption) (by assumption) (List.mem_cons_self) | exact apart_lt (by assumption)))
section
theorem lines_S1 : True := by
  w_top off
  k_with_none
  (k_with "mine: start" => (unfold PS; k_fill; intros; rename_i hret hexc; refine wpAny_call ?_; k_dflt cell_enter))
  (k_with "mine: sub" => (first | exact fun _ h => h | exact fun _ h => List.mem_append_left _ h | (intro _ h; simp only [List.mem_append, List.mem_cons, h, true_or, or_true])))
  (k_with "mine: end" => ((first | refine endB (by assumption) (by k_asm) (by k_asm) (by walk_at "mine: sub") (resB ?_) | refine endI (by assumption) (by k_asm) (by k_asm) (by walk_at "mine: sub") (resI ?_) | refine endS (by assumption) (by k_asm) (by k_asm) (by walk_at "mine: sub") (resS ?_))))
  (k_with "mine: fill" => ((intro t' h' tk' F' N'); (try dsimp only); (try k_sweep); (try k_fold)))
  (k_with "exec While Compare cons nil" => (k_here; refine Mark.out ?_))
  (k_with "exec For Name Name cons nil" => (k_here; refine Mark.out ?_))
  (k_with "exec For Name Call cons nil" => (k_here; refine Mark.out ?_))
  (k_with "exec For Name List cons nil" => (k_here; refine Mark.out ?_))
  (k_with "binaryOp Add str str" => (k_here; (with_reducible show wpAny _ _ (binaryOp Operator.Add (Value.str _ _) (Value.str _ _)) _ _ _); (refine add_str ?_ (by first | (walk_at "mine: size") | fail)); intro _ _))
  (k_with "mine: same" => (intro z h2 h3; (simp only [List.forall_mem_cons, List.not_mem_nil, false_implies, implies_true, and_true, ne_eq] at h2); first | ((simp only [List.contains_cons, List.contains_nil, Bool.or_false, Bool.or_eq_false_iff, beq_eq_false_iff_ne, ne_eq] at h3); (simp [h2, h3, kstB]; done)) | (simp [h2, kstB]; done)))
  (k_with "call builtin:list.append" => (k_here; (with_reducible show wpAny _ _ (call (Value.builtin _) [Value.ref _, _]) _ _ _); k_dflt (refine append_K (by first | (k_asm) | fail) (by first | (k_asm) | fail) (by first | (k_upd) | fail) ?_ (by first | (walk_at "mine: size") | fail); k_whole); intro h' F' N'; (try simp only [List.push_toArray] at N'); (try k_sweep)))
  (k_with "InvEndN" => (refine Mark.out ?_))
  (k_with "KswEnd" => (refine Mark.out ?_))
  (k_with "call builtin:str.join" => (k_here; refine Mark.out ?_))
  (k_with "mine: sameN" => (intro z h1 h2 h3; (simp only [List.forall_mem_cons, List.not_mem_nil, false_implies, implies_true, and_true, ne_eq] at h2); first | ((simp only [List.contains_cons, List.contains_nil, Bool.or_false, Bool.or_eq_false_iff, beq_eq_false_iff_ne, ne_eq] at h3); (simp [h1, h2, h3, kstB]; done)) | (simp [h1, h2, kstB]; done)))
  (k_with "exec Raise some none" => (k_here; k_dflt (refine Raise_fault (by exact rfl) ?_)))
  (k_with "mine: fault" => (k_here; k_dflt (refine fault_call (by first | (k_asm) | fail) (by first | (k_asm) | fail) (by first | (k_asm) | fail) (by first | (k_asm) | fail) (by first | (k_asm) | fail) (by first | (first | exact rfl | assumption) | fail) (by first | (ktr_room) | fail) (by first | (ktr_units) | fail) ?_); (intro e' d' tt' h' tk' F' N' hne'); (refine ⟨_, _, _, rfl, by k_in, (N' _ (List.Mem.head _)).1, ?_⟩); (try dsimp only); (try k_sweep)))
  (k_with "mine: endX" => (refine endX (by assumption) (by k_asm) (by assumption) (by assumption) (by walk_at "mine: sub") ?_))
  (k_with "mine: endR" => ((first | refine endB (by assumption) (by k_asm) (by k_asm) (by walk_at "mine: sub") ?_ | refine endI (by assumption) (by k_asm) (by k_asm) (by walk_at "mine: sub") ?_ | refine endS (by assumption) (by k_asm) (by k_asm) (by walk_at "mine: sub") ?_)))
  (k_with "mine: size" => (rw [sizeLine_eq]; (first | omega | (simp only [Str.length_append, tx_length, len_item, List.length_cons, List.length_nil, List.length_append, List.size_toArray, Array.size_push]; omega))))
  (k_with "mine: filled" => ((intro t' h' tk' F' N'); (try dsimp only); (try k_sweep); (try k_fold)))
  trivial
theorem is_digit_spec (w mean mg mb) (c : Int) (t : Tok) : PS w mean mg mb 2 166 [.int c t] (some fun _ => .bool (digI c)) := by
  walk_at "mine: start"
  k_steps
  all_goals walk_at "mine: end"
  all_goals grind
theorem is_small_spec (w mean mg mb) (c : Int) (t : Tok) : PS w mean mg mb 2 173 [.int c t] (some fun _ => .bool (smallI c)) := by
  walk_at "mine: start"
  k_steps
  all_goals walk_at "mine: end"
  all_goals grind
theorem is_capital_spec (w mean mg mb) (c : Int) (t : Tok) : PS w mean mg mb 2 180 [.int c t] (some fun _ => .bool (capI c)) := by
  walk_at "mine: start"
  k_steps
  all_goals walk_at "mine: end"
  all_goals grind
theorem lines_S1_1 : True := by
  (k_with "call ref cons nil" => (k_here; k_dflt (refine PS.ok (is_digit_spec _ _ _ _ _ _ ) (by first | (k_asm) | fail) (by first | (k_asm) | fail) (by first | (k_asm) | fail) (by first | (k_asm) | fail) (by first | (k_asm) | fail) (by first | (first | exact rfl | assumption) | fail) (by first | (ktr_room) | fail) (by first | (ktr_units) | fail) ?_); walk_at "mine: filled"))
  (k_with "call ref cons nil" => (k_here; k_dflt (refine PS.ok (is_small_spec _ _ _ _ _ _ ) (by first | (k_asm) | fail) (by first | (k_asm) | fail) (by first | (k_asm) | fail) (by first | (k_asm) | fail) (by first | (k_asm) | fail) (by first | (first | exact rfl | assumption) | fail) (by first | (ktr_room) | fail) (by first | (ktr_units) | fail) ?_); walk_at "mine: filled"))
  (k_with "call ref cons nil" => (k_here; k_dflt (refine PS.ok (is_capital_spec _ _ _ _ _ _ ) (by first | (k_asm) | fail) (by first | (k_asm) | fail) (by first | (k_asm) | fail) (by first | (k_asm) | fail) (by first | (k_asm) | fail) (by first | (first | exact rfl | assumption) | fail) (by first | (ktr_room) | fail) (by first | (ktr_units) | fail) ?_); walk_at "mine: filled"))
  trivial
theorem is_alnum_spec (w mean mg mb) (c : Int) (t : Tok) : PS w mean mg mb 3 187 [.int c t] (some fun _ => .bool (alnumI c)) := by
  walk_at "mine: start"
  k_steps
  all_goals walk_at "mine: end"
  all_goals grind [alnumI]
end
section
theorem lines_S2 : True := by
  w_top off
  k_with_none
  (k_with "mine: start" => (unfold PS; k_fill; intros; rename_i hret hexc; refine wpAny_call ?_; k_dflt cell_enter))
  (k_with "mine: sub" => (first | exact fun _ h => h | exact fun _ h => List.mem_append_left _ h | (intro _ h; simp only [List.mem_append, List.mem_cons, h, true_or, or_true])))
  (k_with "mine: end" => ((first | refine endB (by assumption) (by k_asm) (by k_asm) (by walk_at "mine: sub") (resB ?_) | refine endI (by assumption) (by k_asm) (by k_asm) (by walk_at "mine: sub") (resI ?_) | refine endS (by assumption) (by k_asm) (by k_asm) (by walk_at "mine: sub") (resS ?_))))
  (k_with "mine: fill" => ((intro t' h' tk' F' N'); (try dsimp only); (try k_sweep); (try k_fold)))
  (k_with "exec While Compare cons nil" => (k_here; refine Mark.out ?_))
  (k_with "exec For Name Name cons nil" => (k_here; refine Mark.out ?_))
  (k_with "exec For Name Call cons nil" => (k_here; refine Mark.out ?_))
  (k_with "exec For Name List cons nil" => (k_here; refine Mark.out ?_))
  (k_with "binaryOp Add str str" => (k_here; (with_reducible show wpAny _ _ (binaryOp Operator.Add (Value.str _ _) (Value.str _ _)) _ _ _); (refine add_str ?_ (by first | (walk_at "mine: size") | fail)); intro _ _))
  (k_with "mine: same" => (intro z h2 h3; (simp only [List.forall_mem_cons, List.not_mem_nil, false_implies, implies_true, and_true, ne_eq] at h2); first | ((simp only [List.contains_cons, List.contains_nil, Bool.or_false, Bool.or_eq_false_iff, beq_eq_false_iff_ne, ne_eq] at h3); (simp [h2, h3, kstB]; done)) | (simp [h2, kstB]; done)))
  (k_with "call builtin:list.append" => (k_here; (with_reducible show wpAny _ _ (call (Value.builtin _) [Value.ref _, _]) _ _ _); k_dflt (refine append_K (by first | (k_asm) | fail) (by first | (k_asm) | fail) (by first | (k_upd) | fail) ?_ (by first | (walk_at "mine: size") | fail); k_whole); intro h' F' N'; (try simp only [List.push_toArray] at N'); (try k_sweep)))
  (k_with "InvEndN" => (refine Mark.out ?_))
  (k_with "KswEnd" => (refine Mark.out ?_))
  (k_with "call builtin:str.join" => (k_here; refine Mark.out ?_))
  (k_with "mine: sameN" => (intro z h1 h2 h3; (simp only [List.forall_mem_cons, List.not_mem_nil, false_implies, implies_true, and_true, ne_eq] at h2); first | ((simp only [List.contains_cons, List.contains_nil, Bool.or_false, Bool.or_eq_false_iff, beq_eq_false_iff_ne, ne_eq] at h3); (simp [h1, h2, h3, kstB]; done)) | (simp [h1, h2, kstB]; done)))
  (k_with "exec Raise some none" => (k_here; k_dflt (refine Raise_fault (by exact rfl) ?_)))
  (k_with "mine: fault" => (k_here; k_dflt (refine fault_call (by first | (k_asm) | fail) (by first | (k_asm) | fail) (by first | (k_asm) | fail) (by first | (k_asm) | fail) (by first | (k_asm) | fail) (by first | (first | exact rfl | assumption) | fail) (by first | (ktr_room) | fail) (by first | (ktr_units) | fail) ?_); (intro e' d' tt' h' tk' F' N' hne'); (refine ⟨_, _, _, rfl, by k_in, (N' _ (List.Mem.head _)).1, ?_⟩); (try dsimp only); (try k_sweep)))
  (k_with "mine: endX" => (refine endX (by assumption) (by k_asm) (by assumption) (by assumption) (by walk_at "mine: sub") ?_))
  (k_with "mine: endR" => ((first | refine endB (by assumption) (by k_asm) (by k_asm) (by walk_at "mine: sub") ?_ | refine endI (by assumption) (by k_asm) (by k_asm) (by walk_at "mine: sub") ?_ | refine endS (by assumption) (by k_asm) (by k_asm) (by walk_at "mine: sub") ?_)))
  (k_with "mine: size" => (rw [sizeLine_eq]; (first | omega | (simp only [Str.length_append, tx_length, len_item, List.length_cons, List.length_nil, List.length_append, List.size_toArray, Array.size_push]; omega))))
  (k_with "mine: filled" => ((intro t' h' tk' F' N'); (try dsimp only); (try k_sweep); (try k_fold)))
  trivial
/-- a text is a name of letters and digits -/
def alnumName (x : Str) : Bool := match KStt.codes x with
  | [] => false
  | c :: r => smallI c && (c :: r).all alnumI
theorem codes_eq_nil {x : Str} (h : (x == Str.ofString "") = true) : KStt.codes x = [] := by
  rw [eq_of_beq h]; rfl
theorem codes_ne_nil {x : Str} (h : (x == Str.ofString "") = false) : ∃ (c : Nat) (r : List Int), KStt.codes x = (c : Int) :: r ∧ x.cps[0]? = some c := by
  obtain ⟨⟨l⟩⟩ := x
  cases l with
  | nil => exact absurd h (by decide)
  | cons c r => exact ⟨c, _, rfl, rfl⟩
theorem item0 {x : Str} {c : Nat} (h : x.cps[0]? = some c) : Txt.item x 0 = ⟨#[c]⟩ := item_meets (Int.le_refl 0) h
theorem item0_if {x : Str} {c : Nat} {b : Bool} (h : x.cps[0]? = some c)
    (h1 : (if 1 ≤ x.length ∧ 1 ≤ (Txt.item x 0).length ∧ (Txt.item x 0).length ≤ 1 then smallI ↑((Txt.item x 0).cps.getD 0 0) else false) = b) : smallI c = b := by
  have hl : 1 ≤ x.length := by
    rcases Nat.eq_zero_or_pos x.cps.size with e | e
    · rw [Array.getElem?_eq_none (by omega)] at h; cases h
    · exact e
  rw [item0 h, if_pos ⟨hl, Nat.le_refl 1, Nat.le_refl 1⟩] at h1
  exact h1
theorem an0 {x : Str} (h : (x == Str.ofString "") = true) : alnumName x = false := by
  unfold alnumName; rw [codes_eq_nil h]
theorem an1 {x : Str} {pre post : List Int} {n : Nat} (e : KStt.codes x = pre ++ (n : Int) :: post) (h : alnumI n = false) : alnumName x = false := by
  unfold alnumName; rw [e]; cases pre <;> simp [h]
theorem an2 {x : Str} (h0 : (x == Str.ofString "") = false) (h1 : (if 1 ≤ x.length ∧ 1 ≤ (Txt.item x 0).length ∧ (Txt.item x 0).length ≤ 1 then smallI ↑((Txt.item x 0).cps.getD 0 0) else false) = true) (h : (KStt.codes x).all alnumI = true) : alnumName x = true := by
  obtain ⟨c, r, e, hc⟩ := codes_ne_nil h0
  unfold alnumName; rw [e] at h ⊢; simp only [h, item0_if hc h1, Bool.and_true]
theorem an3 {x : Str} (h0 : (x == Str.ofString "") = false) (h1 : (if 1 ≤ x.length ∧ 1 ≤ (Txt.item x 0).length ∧ (Txt.item x 0).length ≤ 1 then smallI ↑((Txt.item x 0).cps.getD 0 0) else false) = false) : alnumName x = false := by
  obtain ⟨c, r, e, hc⟩ := codes_ne_nil h0
  unfold alnumName; rw [e]; simp only [item0_if hc h1, Bool.false_and]
theorem all_snoc {pre : List Int} {n : Int} {f : Int → Bool} (h : pre.all f = true) (h1 : f n = true) : (pre ++ [n]).all f = true := by
  simp only [List.all_append, h, List.all_cons, h1, List.all_nil, Bool.and_self]
theorem lines_S2_1 : True := by
  (k_with "call ref cons nil" => (k_here; k_dflt (refine PS.ok (is_small_spec _ _ _ _ _ _ ) (by first | (k_asm) | fail) (by first | (k_asm) | fail) (by first | (k_asm) | fail) (by first | (k_asm) | fail) (by first | (k_asm) | fail) (by first | (first | exact rfl | assumption) | fail) (by first | (ktr_room) | fail) (by first | (ktr_units) | fail) ?_); walk_at "mine: filled"))
  (k_with "call ref cons nil" => (k_here; k_dflt (refine PS.ok (is_alnum_spec _ _ _ _ _ _ ) (by first | (k_asm) | fail) (by first | (k_asm) | fail) (by first | (k_asm) | fail) (by first | (k_asm) | fail) (by first | (k_asm) | fail) (by first | (first | exact rfl | assumption) | fail) (by first | (ktr_room) | fail) (by first | (ktr_units) | fail) ?_); walk_at "mine: filled"))
  trivial
theorem is_alnum_name_spec (w mean mg mb) (x : Str) (t : Tok) : PS w mean mg mb 4 201 [.str x t] (some fun _ => .bool (alnumName x)) := by
  walk_at "mine: start"
  k_steps
  · walk_at "mine: end"; exact an0 (by assumption)
  · unfold Mark
    rename Fr _ _ _ _ => lF
    k_here; (with_unfolding_all refine' For_invVF lF ?k1 ?k2 ?_; (case k1 => exact rfl); (case k2 => exact rfl))
    k_steps
    rename Fr _ _ _ _ => lF
    rename News _ _ _ _ => lN
    with_unfolding_all refine' KStt.kst_text (σ := Unit) (fun _ => _) (fun _ => []) (fun _ => True) [] (fun pre _ => pre.all alnumI = true) () (by rfl) lF lN trivial (fun _ h => nomatch h) (by rfl) ?_ ?_
    · clear lF lN
      intros
      try k_fold
      k_steps
      · unfold Mark
        rename Fr _ _ _ _ => lF
        rename News _ _ _ _ => lN
        exact kst_end () lF lN (fun p hp => List.mem_append_left _ hp) (fun p hp => List.mem_append_right _ hp) rfl trivial (fun _ h => nomatch h) (by walk_at "mine: sameN") (all_snoc (by assumption) (by assumption))
      · walk_at "mine: end"; exact an1 (by assumption) (by assumption)
    · clear lF lN
      intros
      try k_fold
      k_steps
      walk_at "mine: end"; exact an2 (by assumption) (by assumption) (by assumption)
  · walk_at "mine: end"; exact an3 (by assumption) (by assumption)
end
section
theorem lines_S3 : True := by
  w_top off
  k_with_none
  (k_with "mine: start" => (unfold PS; k_fill; intros; rename_i hret hexc; refine wpAny_call ?_; k_dflt cell_enter))
  (k_with "mine: sub" => (first | exact fun _ h => h | exact fun _ h => List.mem_append_left _ h | (intro _ h; simp only [List.mem_append, List.mem_cons, h, true_or, or_true])))
  (k_with "mine: end" => ((first | refine endB (by assumption) (by k_asm) (by k_asm) (by walk_at "mine: sub") (resB ?_) | refine endI (by assumption) (by k_asm) (by k_asm) (by walk_at "mine: sub") (resI ?_) | refine endS (by assumption) (by k_asm) (by k_asm) (by walk_at "mine: sub") (resS ?_))))
  (k_with "mine: fill" => ((intro t' h' tk' F' N'); (try dsimp only); (try k_sweep); (try k_fold)))
  (k_with "exec While Compare cons nil" => (k_here; refine Mark.out ?_))
  (k_with "exec For Name Name cons nil" => (k_here; refine Mark.out ?_))
  (k_with "exec For Name Call cons nil" => (k_here; refine Mark.out ?_))
  (k_with "exec For Name List cons nil" => (k_here; refine Mark.out ?_))
  (k_with "binaryOp Add str str" => (k_here; (with_reducible show wpAny _ _ (binaryOp Operator.Add (Value.str _ _) (Value.str _ _)) _ _ _); (refine add_str ?_ (by first | (walk_at "mine: size") | fail)); intro _ _))
  (k_with "mine: same" => (intro z h2 h3; (simp only [List.forall_mem_cons, List.not_mem_nil, false_implies, implies_true, and_true, ne_eq] at h2); first | ((simp only [List.contains_cons, List.contains_nil, Bool.or_false, Bool.or_eq_false_iff, beq_eq_false_iff_ne, ne_eq] at h3); (simp [h2, h3, kstB]; done)) | (simp [h2, kstB]; done)))
  (k_with "call builtin:list.append" => (k_here; (with_reducible show wpAny _ _ (call (Value.builtin _) [Value.ref _, _]) _ _ _); k_dflt (refine append_K (by first | (k_asm) | fail) (by first | (k_asm) | fail) (by first | (k_upd) | fail) ?_ (by first | (walk_at "mine: size") | fail); k_whole); intro h' F' N'; (try simp only [List.push_toArray] at N'); (try k_sweep)))
  (k_with "InvEndN" => (refine Mark.out ?_))
  (k_with "KswEnd" => (refine Mark.out ?_))
  (k_with "call builtin:str.join" => (k_here; refine Mark.out ?_))
  (k_with "mine: sameN" => (intro z h1 h2 h3; (simp only [List.forall_mem_cons, List.not_mem_nil, false_implies, implies_true, and_true, ne_eq] at h2); first | ((simp only [List.contains_cons, List.contains_nil, Bool.or_false, Bool.or_eq_false_iff, beq_eq_false_iff_ne, ne_eq] at h3); (simp [h1, h2, h3, kstB]; done)) | (simp [h1, h2, kstB]; done)))
  (k_with "exec Raise some none" => (k_here; k_dflt (refine Raise_fault (by exact rfl) ?_)))
  (k_with "mine: fault" => (k_here; k_dflt (refine fault_call (by first | (k_asm) | fail) (by first | (k_asm) | fail) (by first | (k_asm) | fail) (by first | (k_asm) | fail) (by first | (k_asm) | fail) (by first | (first | exact rfl | assumption) | fail) (by first | (ktr_room) | fail) (by first | (ktr_units) | fail) ?_); (intro e' d' tt' h' tk' F' N' hne'); (refine ⟨_, _, _, rfl, by k_in, (N' _ (List.Mem.head _)).1, ?_⟩); (try dsimp only); (try k_sweep)))
  (k_with "mine: endX" => (refine endX (by assumption) (by k_asm) (by assumption) (by assumption) (by walk_at "mine: sub") ?_))
  (k_with "mine: endR" => ((first | refine endB (by assumption) (by k_asm) (by k_asm) (by walk_at "mine: sub") ?_ | refine endI (by assumption) (by k_asm) (by k_asm) (by walk_at "mine: sub") ?_ | refine endS (by assumption) (by k_asm) (by k_asm) (by walk_at "mine: sub") ?_)))
  (k_with "mine: size" => (rw [sizeLine_eq]; (first | omega | (simp only [Str.length_append, tx_length, len_item, List.length_cons, List.length_nil, List.length_append, List.size_toArray, Array.size_push]; omega))))
  (k_with "mine: filled" => ((intro t' h' tk' F' N'); (try dsimp only); (try k_sweep); (try k_fold)))
  trivial
def fig (n : Nat) : Nat := if n < 10 then 48 + n else 87 + n
/-- the figures of base 16 -/
def hexL (n : Nat) : List Nat := if n < 16 then [fig n] else hexL (n / 16) ++ [fig (n % 16)]
termination_by n
decreasing_by omega
/-- what is still to be put in front -/
def hexRest (n : Nat) : List Nat := if n = 0 then [] else hexL n
theorem hexRest_step (n : Nat) : hexRest (n / 16) ++ [fig (n % 16)] = hexL n := by
  rw [hexL, hexRest]
  by_cases h : n < 16
  · have : n / 16 = 0 := by omega
    rw [if_pos this, if_pos h, Nat.mod_eq_of_lt h]; rfl
  · have : ¬ n / 16 = 0 := by omega
    rw [if_neg this, if_neg h]
theorem hexRest_pos {n : Nat} (h : (0 : Int) < n) : hexRest n = hexL n := by rw [hexRest, if_neg (by omega)]
theorem hexRest_zero {n : Nat} (h : ¬ (0 : Int) < n) : hexRest n = [] := by rw [hexRest, if_pos (by omega)]
theorem item_fig (n : Nat) : Txt.item (Str.ofString "0123456789abcdef") ((n : Int).fmod 16) = tx [fig (n % 16)] := by
  have h : (n : Int).fmod 16 = ((n % 16 : Nat) : Int) := by
    rw [Int.fmod_eq_emod_of_nonneg _ (by decide)]; rfl
  have all : ∀ k, k < 16 → Txt.item (Str.ofString "0123456789abcdef") (k : Nat) = tx [fig k] := by decide +kernel
  rw [h]; exact all _ (Nat.mod_lt _ (by decide))
theorem fdiv_fig (n : Nat) : (n : Int).fdiv 16 = ((n / 16 : Nat) : Int) := by
  rw [Int.fdiv_eq_ediv_of_nonneg _ (by decide)]; rfl
theorem tx_cons (a : Nat) (l : List Nat) : tx [a] ++ tx l = tx (a :: l) := by
  refine PySem.Str.ext' ?_
  rw [PySem.Str.cps_append]
  simp [tx]
theorem vint {i j : Int} {t : Tok} (e : i = j) : some (Value.int i t) = some (Value.int j t) := by rw [e]
theorem vstr {i j : Str} {t : Tok} (e : i = j) : some (Value.str i t) = some (Value.str j t) := by rw [e]
theorem code_digits_spec (w mean mg mb) (c : Nat) (t : Tok) (hc : c ≤ 1114111) : PS w mean mg mb 2 208 [.int c t] (some fun t => .str (tx (hexL c)) t) := by
  walk_at "mine: start"
  k_steps
  unfold Mark
  rename Fr _ _ _ _ => lF
  rename News _ _ _ _ => lN
  with_unfolding_all refine' ksw_while (σ := Nat × List Nat × Tok × Tok) (fun _ => _) (fun c => [(Str.ofString "code", .int c.1 c.2.2.1), (Str.ofString "text", .str (tx c.2.1) c.2.2.2)]) (fun _ => True) [] (fun d => hexRest d.1 ++ d.2.1 = hexL c ∧ d.2.1.length + d.1 ≤ 1114112) (fun c => c.1) (c / 16, [fig (c % 16)], _, _) lF lN trivial (List.forall_mem_cons.mpr ⟨vint (fdiv_fig _), List.forall_mem_cons.mpr ⟨vstr (item_fig _), List.forall_mem_nil _⟩⟩) ⟨hexRest_step _, by show 1 + _ ≤ _; omega⟩ ?_
  clear lF lN
  rintro ⟨n, l, t1, t2⟩ u h tk hF hP kFr kNews
  dsimp only at hP
  k_fold
  k_steps
  · unfold Mark
    rename Fr _ _ _ _ => lF
    rename News _ _ _ _ => lN
    refine ksw_end (n / 16, fig (n % 16) :: l, _, _) lF lN (fun _ h => h) trivial (List.forall_mem_cons.mpr ⟨vint (fdiv_fig _), List.forall_mem_cons.mpr ⟨vstr ((congrArg (· ++ _) (item_fig _)).trans (tx_cons _ _)), List.forall_mem_nil _⟩⟩) ?_ ⟨?_, ?_⟩ ?_
    · walk_at "mine: same"
    · rw [List.append_cons, hexRest_step]; exact (congrArg (· ++ _) (hexRest_pos (by assumption)).symm).trans hP.1
    · show (l.length + 1) + n / 16 ≤ 1114112
      have : (0 : Int) < n := by assumption
      omega
    · show n / 16 < n
      have : (0 : Int) < n := by assumption
      omega
  · walk_at "mine: end"
    rw [← hP.1, hexRest_zero (by assumption)]; rfl
end
section
theorem lines_S4 : True := by
  w_top off
  k_with_none
  (k_with "mine: start" => (unfold PS; k_fill; intros; rename_i hret hexc; refine wpAny_call ?_; k_dflt cell_enter))
  (k_with "mine: sub" => (first | exact fun _ h => h | exact fun _ h => List.mem_append_left _ h | (intro _ h; simp only [List.mem_append, List.mem_cons, h, true_or, or_true])))
  (k_with "mine: end" => ((first | refine endB (by assumption) (by k_asm) (by k_asm) (by walk_at "mine: sub") (resB ?_) | refine endI (by assumption) (by k_asm) (by k_asm) (by walk_at "mine: sub") (resI ?_) | refine endS (by assumption) (by k_asm) (by k_asm) (by walk_at "mine: sub") (resS ?_))))
  (k_with "mine: fill" => ((intro t' h' tk' F' N'); (try dsimp only); (try k_sweep); (try k_fold)))
  (k_with "exec While Compare cons nil" => (k_here; refine Mark.out ?_))
  (k_with "exec For Name Name cons nil" => (k_here; refine Mark.out ?_))
  (k_with "exec For Name Call cons nil" => (k_here; refine Mark.out ?_))
  (k_with "exec For Name List cons nil" => (k_here; refine Mark.out ?_))
  (k_with "binaryOp Add str str" => (k_here; (with_reducible show wpAny _ _ (binaryOp Operator.Add (Value.str _ _) (Value.str _ _)) _ _ _); (refine add_str ?_ (by first | (walk_at "mine: size") | fail)); intro _ _))
  (k_with "mine: same" => (intro z h2 h3; (simp only [List.forall_mem_cons, List.not_mem_nil, false_implies, implies_true, and_true, ne_eq] at h2); first | ((simp only [List.contains_cons, List.contains_nil, Bool.or_false, Bool.or_eq_false_iff, beq_eq_false_iff_ne, ne_eq] at h3); (simp [h2, h3, kstB]; done)) | (simp [h2, kstB]; done)))
  (k_with "call builtin:list.append" => (k_here; (with_reducible show wpAny _ _ (call (Value.builtin _) [Value.ref _, _]) _ _ _); k_dflt (refine append_K (by first | (k_asm) | fail) (by first | (k_asm) | fail) (by first | (k_upd) | fail) ?_ (by first | (walk_at "mine: size") | fail); k_whole); intro h' F' N'; (try simp only [List.push_toArray] at N'); (try k_sweep)))
  (k_with "InvEndN" => (refine Mark.out ?_))
  (k_with "KswEnd" => (refine Mark.out ?_))
  (k_with "call builtin:str.join" => (k_here; refine Mark.out ?_))
  (k_with "mine: sameN" => (intro z h1 h2 h3; (simp only [List.forall_mem_cons, List.not_mem_nil, false_implies, implies_true, and_true, ne_eq] at h2); first | ((simp only [List.contains_cons, List.contains_nil, Bool.or_false, Bool.or_eq_false_iff, beq_eq_false_iff_ne, ne_eq] at h3); (simp [h1, h2, h3, kstB]; done)) | (simp [h1, h2, kstB]; done)))
  (k_with "exec Raise some none" => (k_here; k_dflt (refine Raise_fault (by exact rfl) ?_)))
  (k_with "mine: fault" => (k_here; k_dflt (refine fault_call (by first | (k_asm) | fail) (by first | (k_asm) | fail) (by first | (k_asm) | fail) (by first | (k_asm) | fail) (by first | (k_asm) | fail) (by first | (first | exact rfl | assumption) | fail) (by first | (ktr_room) | fail) (by first | (ktr_units) | fail) ?_); (intro e' d' tt' h' tk' F' N' hne'); (refine ⟨_, _, _, rfl, by k_in, (N' _ (List.Mem.head _)).1, ?_⟩); (try dsimp only); (try k_sweep)))
  (k_with "mine: endX" => (refine endX (by assumption) (by k_asm) (by assumption) (by assumption) (by walk_at "mine: sub") ?_))
  (k_with "mine: endR" => ((first | refine endB (by assumption) (by k_asm) (by k_asm) (by walk_at "mine: sub") ?_ | refine endI (by assumption) (by k_asm) (by k_asm) (by walk_at "mine: sub") ?_ | refine endS (by assumption) (by k_asm) (by k_asm) (by walk_at "mine: sub") ?_)))
  (k_with "mine: size" => (rw [sizeLine_eq]; (first | omega | (simp only [Str.length_append, tx_length, len_item, List.length_cons, List.length_nil, List.length_append, List.size_toArray, Array.size_push]; omega))))
  (k_with "mine: filled" => ((intro t' h' tk' F' N'); (try dsimp only); (try k_sweep); (try k_fold)))
  trivial
theorem lines_S4_1 : True := by
  (k_with "call ref cons nil" => (k_here; k_dflt (refine PS.ok (is_alnum_name_spec _ _ _ _ _ _ ) (by first | (k_asm) | fail) (by first | (k_asm) | fail) (by first | (k_asm) | fail) (by first | (k_asm) | fail) (by first | (k_asm) | fail) (by first | (first | exact rfl | assumption) | fail) (by first | (ktr_room) | fail) (by first | (ktr_units) | fail) ?_); walk_at "mine: filled"))
  (k_with "call ref cons nil" => (k_here; k_dflt (refine PS.ok (code_digits_spec _ _ _ _ _ _ (by first | (assumption) | fail)) (by first | (k_asm) | fail) (by first | (k_asm) | fail) (by first | (k_asm) | fail) (by first | (k_asm) | fail) (by first | (k_asm) | fail) (by first | (first | exact rfl | assumption) | fail) (by first | (ktr_room) | fail) (by first | (ktr_units) | fail) ?_); walk_at "mine: filled"))
  trivial
/-- a sign as it stands in a quoted name -/
def escS (n : Nat) : List Nat := if 33 ≤ n ∧ n ≤ 126 ∧ n ≠ 39 ∧ n ≠ 92 then [n] else 92 :: 120 :: (hexL n ++ [92])
theorem hexL_length (n : Nat) : (hexL n).length ≤ 1 + n / 16 := by
  induction n using Nat.strongRecOn with
  | _ n ih =>
    rw [hexL]
    by_cases h : n < 16
    · rw [if_pos h]; simp
    · rw [if_neg h, List.length_append]
      have := ih (n / 16) (by omega)
      simp only [List.length_cons, List.length_nil]
      omega
theorem hexL_le6 {n : Nat} (h : n ≤ 1114111) : (hexL n).length ≤ 6 := by
  have step : ∀ k m, m < 16 ^ (k + 1) → (hexL m).length ≤ k + 1 := by
    intro k
    induction k with
    | zero => intro m hm; rw [hexL, if_pos (by omega)]; simp
    | succ k ih =>
      intro m hm
      rw [hexL]
      by_cases h : m < 16
      · rw [if_pos h]; simp
      · rw [if_neg h, List.length_append]
        have := ih (m / 16) (by rw [Nat.pow_succ] at hm; omega)
        simp only [List.length_cons, List.length_nil]
        omega
  exact step 5 n (by omega)
def escI (i : Int) : Str := tx (escS i.toNat)
/-- a name as one word -/
def quotedL (l : List Nat) : List Nat := 39 :: (l.flatMap escS ++ [39])
def quoted (x : Str) : Str := if alnumName x then x else tx (quotedL x.cps.toList)
theorem esc_raw {n : Nat} (h1 : ¬ (⟨#[n]⟩ : Str).cps.toList < (Str.ofString "!").cps.toList) (h2 : ¬ (Str.ofString "~").cps.toList < (⟨#[n]⟩ : Str).cps.toList)
    (h3 : ((⟨#[n]⟩ : Str) != Str.ofString "'") = true) (h4 : ((⟨#[n]⟩ : Str) != Str.ofString "\\") = true) : (⟨#[n]⟩ : Str) = escI n := by
  have e1 : (Str.ofString "!").cps.toList = [33] := by decide +kernel
  have e2 : (Str.ofString "~").cps.toList = [126] := by decide +kernel
  have e3 : Str.ofString "'" = ⟨#[39]⟩ := by decide +kernel
  have e4 : Str.ofString "\\" = ⟨#[92]⟩ := by decide +kernel
  rw [e1] at h1; rw [e2] at h2; rw [e3] at h3; rw [e4] at h4
  simp [List.cons_lt_cons_iff] at h1 h2 h3 h4
  unfold escI escS tx
  rw [Int.toNat_natCast, if_pos ⟨by omega, by omega, h3, h4⟩]
theorem escI_of {n : Nat} (h : ¬ (33 ≤ n ∧ n ≤ 126 ∧ n ≠ 39 ∧ n ≠ 92)) : Str.ofString "\\x" ++ tx (hexL n) ++ Str.ofString "\\" = escI n := by
  have e1 : Str.ofString "\\x" = ⟨#[92, 120]⟩ := by decide +kernel
  have e4 : Str.ofString "\\" = ⟨#[92]⟩ := by decide +kernel
  rw [e1, e4]
  unfold escI escS
  rw [Int.toNat_natCast, if_neg h]
  refine PySem.Str.ext' ?_
  rw [PySem.Str.cps_append, PySem.Str.cps_append]
  simp [tx]
theorem esc_a {n : Nat} (h1 : (⟨#[n]⟩ : Str).cps.toList < (Str.ofString "!").cps.toList) : Str.ofString "\\x" ++ tx (hexL n) ++ Str.ofString "\\" = escI n := by
  have e1 : (Str.ofString "!").cps.toList = [33] := by decide +kernel
  rw [e1] at h1
  simp [List.cons_lt_cons_iff] at h1
  exact escI_of (by omega)
theorem esc_b {n : Nat} (h2 : (Str.ofString "~").cps.toList < (⟨#[n]⟩ : Str).cps.toList) : Str.ofString "\\x" ++ tx (hexL n) ++ Str.ofString "\\" = escI n := by
  have e1 : (Str.ofString "~").cps.toList = [126] := by decide +kernel
  rw [e1] at h2
  simp [List.cons_lt_cons_iff] at h2
  exact escI_of (by omega)
theorem esc_c {n : Nat} (h3 : ((⟨#[n]⟩ : Str) != Str.ofString "'") = false) : Str.ofString "\\x" ++ tx (hexL n) ++ Str.ofString "\\" = escI n := by
  have e3 : Str.ofString "'" = ⟨#[39]⟩ := by decide +kernel
  rw [e3] at h3
  simp at h3
  exact escI_of (by omega)
theorem esc_d {n : Nat} (h3 : ((⟨#[n]⟩ : Str) != Str.ofString "\\") = false) : Str.ofString "\\x" ++ tx (hexL n) ++ Str.ofString "\\" = escI n := by
  have e3 : Str.ofString "\\" = ⟨#[92]⟩ := by decide +kernel
  rw [e3] at h3
  simp at h3
  exact escI_of (by omega)
theorem escS_length {n : Nat} (h : n ≤ 1114111) : (escS n).length ≤ 9 := by
  unfold escS
  split
  · simp
  · have := hexL_le6 h
    simp only [List.length_cons, List.length_append, List.length_nil]; omega
theorem glued_empty (ws : List Str) : Txt.join (Str.ofString "") ws = tx (ws.flatMap (·.cps.toList)) := by
  refine PySem.Str.ext' ?_
  unfold Txt.join PySem.Builtin.Str.glued tx
  cases ws with
  | nil => rfl
  | cons a r =>
    show List.foldl (fun acc (p : Str) => acc ++ (Str.ofString "").cps ++ p.cps) a.cps r = _
    have e : (Str.ofString "").cps = #[] := by decide +kernel
    rw [e]
    have all : ∀ (l : List Str) (acc : Array Nat), (List.foldl (fun acc (p : Str) => acc ++ #[] ++ p.cps) acc l).toList = acc.toList ++ l.flatMap (·.cps.toList) := by
      intro l
      induction l with
      | nil => intro acc; simp
      | cons b t ih => intro acc; rw [List.foldl_cons, ih]; simp [List.append_assoc]
    refine Array.toList_inj.mp ?_
    rw [all]
    simp
theorem quoted_join (x : Str) : Txt.join (Str.ofString "") (Str.ofString "'" :: (KStt.codes x).map escI ++ [Str.ofString "'"]) = tx (quotedL x.cps.toList) := by
  have e3 : Str.ofString "'" = ⟨#[39]⟩ := by decide +kernel
  rw [glued_empty, e3]
  unfold quotedL KStt.codes
  congr 1
  simp only [List.flatMap_append, List.flatMap_cons, List.flatMap_nil, List.append_nil, List.map_map, List.flatMap_map, List.cons_append, List.nil_append]
  congr 2
theorem escI_length {x : Str} (hc : ∀ c ∈ x.cps.toList, c ≤ 1114111) : (((KStt.codes x).map escI).map (·.length)).sum ≤ 9 * x.length := by
  unfold KStt.codes Str.length
  rw [List.map_map, List.map_map, ← Array.length_toList]
  revert hc
  generalize x.cps.toList = l
  intro hc
  induction l with
  | nil => simp
  | cons a r ih =>
    have h1 := escS_length (hc a (.head _))
    have h2 := ih fun c h => hc c (.tail _ h)
    simp only [List.map_cons, List.sum_cons, List.length_cons, Function.comp]
    show (tx (escS (Int.toNat a))).length + _ ≤ _
    rw [tx_length, Int.toNat_natCast]
    omega
theorem codes_mem {x : Str} {pre post : List Int} {n : Nat} (e : KStt.codes x = pre ++ (n : Int) :: post) : n ∈ x.cps.toList := by
  have h : (n : Int) ∈ KStt.codes x := by rw [e]; exact List.mem_append_right _ (.head _)
  unfold KStt.codes at h
  obtain ⟨k, hk, e⟩ := List.mem_map.mp h
  have : k = n := by omega
  exact this ▸ hk
theorem codes_pre {x : Str} {pre post : List Int} {n : Int} (e : KStt.codes x = pre ++ n :: post) : pre.length + 1 ≤ x.length := by
  have := congrArg List.length e
  rw [KStt.codes_length, List.length_append, List.length_cons] at this
  omega
theorem map_snoc {pre : List Int} {n : Int} {ws : List Str} {y : Str} {a : Str} (h : ws = a :: pre.map escI) (hy : y = escI n) : ws ++ [y] = a :: (pre ++ [n]).map escI := by
  rw [h, hy, List.map_append]; rfl
theorem quoted_name_spec (w mean mg mb) (x : Str) (t : Tok) (hl : x.length ≤ 100000) (hc : ∀ c ∈ x.cps.toList, c ≤ 1114111) : PS w mean mg mb 5 215 [.str x t] (some fun t => .str (quoted x) t) := by
  walk_at "mine: start"
  k_steps
  · walk_at "mine: end"
    unfold quoted; rw [if_pos (by assumption)]
  unfold Mark
  rename Fr _ _ _ _ => lF
  rename News _ _ _ _ => lN
  k_here; (with_unfolding_all refine' For_invVF lF ?k1 ?k2 ?_; (case k1 => exact rfl); (case k2 => exact rfl))
  k_steps
  rename Fr _ _ _ _ => lF
  rename News _ _ _ _ => lN
  (with_unfolding_all refine' KStt.kst_text (σ := List Value × List Str × Nat) (fun c => (_, listOf c.1.toArray c.2.2) :: _) (fun _ => []) (fun c => StrsAre c.1 c.2.1) [] (fun pre c => c.2.1 = Str.ofString "'" :: pre.map escI) ([_], [_], _) (by rfl) lF lN (.cons _ _ .nil) (fun _ h => nomatch h) (by rfl) ?_ ?_)
  · clear lF lN
    rintro ⟨vs, ws, nn⟩ pre post n t1 u h tk own he hoff hF hP F N
    dsimp only at hP hF F N
    have hn : n ≤ 1114111 := hc n (codes_mem he)
    have hvs : vs.length ≤ 100001 := by
      have h1 := codes_pre he
      rw [hF.length, hP, List.length_cons, List.length_map]; omega
    have hh : (tx (hexL n)).length ≤ 6 := by rw [tx_length]; exact hexL_le6 hn
    have hx2 : (Str.ofString "\\x").length = 2 := by decide +kernel
    have hx1 : (Str.ofString "\\").length = 1 := by decide +kernel
    try k_fold
    k_steps
    all_goals (unfold Mark; (rename Fr _ _ _ _ => lF); (rename News _ _ _ _ => lN); (try simp only [List.push_toArray, List.append_eq] at lN); refine kst_end (vs ++ [_], ws ++ [_], nn + 1) lF lN (List.forall_mem_cons.mpr ⟨List.mem_cons_self, fun p hp => List.mem_cons_of_mem _ (List.mem_append_left _ hp)⟩) (fun p hp => List.mem_cons_of_mem _ (List.mem_append_right _ hp)) rfl (hF.append' (.cons _ _ .nil)) (fun _ h => nomatch h) (by walk_at "mine: sameN") (map_snoc hP ?_))
    · exact esc_a (by assumption)
    · exact esc_b (by assumption)
    · exact esc_raw (by assumption) (by assumption) (by assumption) (by assumption)
    · exact esc_d (by assumption)
    · exact esc_c (by assumption)
  · clear lF lN
    rintro ⟨vs, ws, nn⟩ u h tk hF hP F N
    dsimp only at hP hF F N
    have hvs : vs.length ≤ 100001 := by
      rw [hF.length, hP, List.length_cons, List.length_map, KStt.codes_length]; omega
    try k_fold
    k_steps
    unfold Mark
    rename News _ _ _ _ => lN
    try simp only [List.push_toArray, List.append_eq] at lN
    refine join_list (News.isList lN List.mem_cons_self) (by exact hF.append' (.cons _ _ .nil)) ?_ ?_
    · have h0 : (Str.ofString "").length = 0 := by decide +kernel
      have h1 : (Str.ofString "'").length = 1 := by decide +kernel
      have h2 := escI_length hc
      rw [h0, hP]
      simp only [List.map_append, List.map_cons, List.map_nil, List.sum_append, List.sum_cons, List.sum_nil, h1, Nat.mul_zero, List.cons_append]
      omega
    intro t' k
    try k_fold
    k_steps
    walk_at "mine: end"
    unfold quoted; rw [if_neg (by simp_all), hP, quoted_join]
end
section
theorem lines_S5 : True := by
  w_top off
  k_with_none
  (k_with "mine: start" => (unfold PS; k_fill; intros; rename_i hret hexc; refine wpAny_call ?_; k_dflt cell_enter))
  (k_with "mine: sub" => (first | exact fun _ h => h | exact fun _ h => List.mem_append_left _ h | (intro _ h; simp only [List.mem_append, List.mem_cons, h, true_or, or_true])))
  (k_with "mine: end" => ((first | refine endB (by assumption) (by k_asm) (by k_asm) (by walk_at "mine: sub") (resB ?_) | refine endI (by assumption) (by k_asm) (by k_asm) (by walk_at "mine: sub") (resI ?_) | refine endS (by assumption) (by k_asm) (by k_asm) (by walk_at "mine: sub") (resS ?_))))
  (k_with "mine: fill" => ((intro t' h' tk' F' N'); (try dsimp only); (try k_sweep); (try k_fold)))
  (k_with "exec While Compare cons nil" => (k_here; refine Mark.out ?_))
  (k_with "exec For Name Name cons nil" => (k_here; refine Mark.out ?_))
  (k_with "exec For Name Call cons nil" => (k_here; refine Mark.out ?_))
  (k_with "exec For Name List cons nil" => (k_here; refine Mark.out ?_))
  (k_with "binaryOp Add str str" => (k_here; (with_reducible show wpAny _ _ (binaryOp Operator.Add (Value.str _ _) (Value.str _ _)) _ _ _); (refine add_str ?_ (by first | (walk_at "mine: size") | fail)); intro _ _))
  (k_with "mine: same" => (intro z h2 h3; (simp only [List.forall_mem_cons, List.not_mem_nil, false_implies, implies_true, and_true, ne_eq] at h2); first | ((simp only [List.contains_cons, List.contains_nil, Bool.or_false, Bool.or_eq_false_iff, beq_eq_false_iff_ne, ne_eq] at h3); (simp [h2, h3, kstB]; done)) | (simp [h2, kstB]; done)))
  (k_with "call builtin:list.append" => (k_here; (with_reducible show wpAny _ _ (call (Value.builtin _) [Value.ref _, _]) _ _ _); k_dflt (refine append_K (by first | (k_asm) | fail) (by first | (k_asm) | fail) (by first | (k_upd) | fail) ?_ (by first | (walk_at "mine: size") | fail); k_whole); intro h' F' N'; (try simp only [List.push_toArray] at N'); (try k_sweep)))
  (k_with "InvEndN" => (refine Mark.out ?_))
  (k_with "KswEnd" => (refine Mark.out ?_))
  (k_with "call builtin:str.join" => (k_here; refine Mark.out ?_))
  (k_with "mine: sameN" => (intro z h1 h2 h3; (simp only [List.forall_mem_cons, List.not_mem_nil, false_implies, implies_true, and_true, ne_eq] at h2); first | ((simp only [List.contains_cons, List.contains_nil, Bool.or_false, Bool.or_eq_false_iff, beq_eq_false_iff_ne, ne_eq] at h3); (simp [h1, h2, h3, kstB]; done)) | (simp [h1, h2, kstB]; done)))
  (k_with "exec Raise some none" => (k_here; k_dflt (refine Raise_fault (by exact rfl) ?_)))
  (k_with "mine: fault" => (k_here; k_dflt (refine fault_call (by first | (k_asm) | fail) (by first | (k_asm) | fail) (by first | (k_asm) | fail) (by first | (k_asm) | fail) (by first | (k_asm) | fail) (by first | (first | exact rfl | assumption) | fail) (by first | (ktr_room) | fail) (by first | (ktr_units) | fail) ?_); (intro e' d' tt' h' tk' F' N' hne'); (refine ⟨_, _, _, rfl, by k_in, (N' _ (List.Mem.head _)).1, ?_⟩); (try dsimp only); (try k_sweep)))
  (k_with "mine: endX" => (refine endX (by assumption) (by k_asm) (by assumption) (by assumption) (by walk_at "mine: sub") ?_))
  (k_with "mine: endR" => ((first | refine endB (by assumption) (by k_asm) (by k_asm) (by walk_at "mine: sub") ?_ | refine endI (by assumption) (by k_asm) (by k_asm) (by walk_at "mine: sub") ?_ | refine endS (by assumption) (by k_asm) (by k_asm) (by walk_at "mine: sub") ?_)))
  (k_with "mine: size" => (rw [sizeLine_eq]; (first | omega | (simp only [Str.length_append, tx_length, len_item, List.length_cons, List.length_nil, List.length_append, List.size_toArray, Array.size_push]; omega))))
  (k_with "mine: filled" => ((intro t' h' tk' F' N'); (try dsimp only); (try k_sweep); (try k_fold)))
  trivial
open PySem.Builtin PySem.Builtin.ObjectAttr PySem.Calls
/-- the mro behind LinkFault, and its built-in part -/
def bmB : List Value := [.type "Exception", .type "BaseException", .type "object"]
def bmT : List Value := .ref 31 :: bmB
theorem look52 (P : Params) : (hd.heap_1 P).lookup 52 = some (excClassObj (Str.ofString "LinkFault") (Str.ofString "LinkFault") 52 51 [.ref 31] bmT true [] [] false none none (some (.ref 35)) none (some (.str (Str.ofString "LinkFault") 216)) (some (.str (Str.ofString "LinkFault") 224)) (some (.bool true)) "Exception.__new__") := by kernel_rfl
theorem tail52 (P : Params) : tailIn (hd.heap_1 P) bmB bmT = true := by kernel_rfl
theorem ns51 (P : Params) : nsOkIn (hd.heap_1 P) 51 = true := by kernel_rfl
theorem init52 (P : Params) : nsIn (hd.heap_1 P) 51 (Str.ofString "__init__") = some (some (.ref 49)) := by kernel_rfl
theorem find_sa (P : Params) : findIn (hd.heap_1 P) (.ref 52) (Str.ofString "__setattr__") = some (some (.builtin "object.__setattr__")) := by kernel_rfl
theorem find_what (P : Params) : findIn (hd.heap_1 P) (.ref 52) (Str.ofString "what") = some none := by kernel_rfl
theorem type49 (P : Params) : typeIn (hd.heap_1 P) (.ref 49) = some (.type "function") := by kernel_rfl
theorem cls52 (P : Params) : (clsIn (hd.heap_1 P) 52).any (fun c => c.hasDict && c.mro == .ref 52 :: bmT) = true := by kernel_rfl
theorem nsMap_of {K : Frag} {h : Heap} {N : Addr} {n : Str} {v : Value} (X : K.In h) (hok : nsOkIn K N = true) (e : nsIn K N n = some (some v)) : h.nsMap N n = some v := by
  have G : h.Ns N (h.nsMap N) := .of_isNs (isNs_of_in X hok)
  obtain ⟨o, es, ep, ho, hd, _, hf⟩ := G
  unfold nsIn at e
  split at e
  · rename_i c d es' n' sl q
    have := X _ _ q
    rw [ho] at this
    cases this
    cases hd
    split at e
    · rename_i en he
      cases e
      rw [← hf]
      unfold nsFind findBy
      rw [← Array.find?_toList, he]
      rfl
    · split at e <;> cases e
  · cases e
section
variable {prog : Program} {w : World} {A : Around} {E : Value → Shared → Prop} {h : Heap} {g : Array GenState} {d : Drawn} {t : Nat} {os : OsState}
variable {nm q : Str} {C N : Addr} {bs bm bB : List Value} {hdct : Bool} {sn : List Str} {sub : List Value} {ab : Bool} {col : Option Bool} {dd : Option Addr} {k0 k1 k2 k3 k5 : Option Value} {B newId initId : String}
/-- an exception class of the text's own with an __init__ of its own, its base an own class again: the call of the class -/
theorem type_call_initT (F : ExcBaseFacts B newId initId bB) (T : OwnTail h bB bm) {mN : Str → Option Value} {rest : List Value} {fI : Addr} {oI : Obj} {Q : Fin → Shared → Prop}
    (hC : h.get? C = some (excClassObj nm q C N bs bm hdct sn sub ab col dd k0 k1 k2 k3 k5 newId)) (hn : h.Ns N mN) (hi : mN "__init__" = some (.ref fI))
    (hfI : h.get? fI = some oI) (hfc : oI.cls = .type "function")
    (hq : ∀ h' e, Heap.MadeExcOf h h' e (.ref C) rest →
      wpAny (model prog w) A (call (.ref fI) (.ref e :: rest)) (fun r s' => r = .none ∧ Q (.done (.ret (.ref e))) s') E ⟨h', g, d, t, os⟩) (hrest : rest.length ≤ sizeLine) :
    wpAny (model prog w) A (Builtin.«type.__call__» ⟨.ref C :: rest, []⟩) Q E ⟨h, g, d, t, os⟩ := by
  repeat (first | with_reducible refine wpAny_loadPart_at hC ?_ | with_reducible refine wpAny_madeBy_exc hC ?_ | wp_step)
  refine codeAny_call_builtin_code (Code.quiet_builtin _ F.quiet) (wpAny_check_new_subT F T hC ?_)
  refine codeAny_exc_new_subT F T hC ?_ hrest
  show wpAny _ _ _ _ _ _
  have up : ∀ b o, h.get? b = some o → ((h.push { cls := .type "tuple", data := .seq rest.toArray }).push { cls := .ref C, data := .fields #[.ref h.objs.size, .none, .none, .none, .bool false, .none] }).get? b = some o := fun b o e => Heap.get?_push_of_some _ (Heap.get?_push_of_some _ e)
  have hget : ((h.push { cls := .type "tuple", data := .seq rest.toArray }).push
      { cls := .ref C, data := .fields #[.ref h.objs.size, .none, .none, .none, .bool false, .none] }).get? (h.objs.size + 1) = some
      { cls := .ref C, data := .fields #[.ref h.objs.size, .none, .none, .none, .bool false, .none] } := by heap_get
  have hcC : (Value.ref C :: bm).contains (.ref C) = true := by simp
  have hC₁ := up _ _ hC
  unfold isInstance
  repeat (first | with_reducible refine wpAny_loadPart_at hget ?_ | (with_reducible refine wpAny_isSubtype_exc hC₁ ?_; rw [hcC]) | wp_step)
  show wpAny _ _ (typeLookup (.ref C) _) _ _ _
  refine wpAny_typeLookup_tail hC₁ (hn.keeps up) (T.keeps up) F.mroIs F.init.lookup ?_
  rw [hi]
  refine wpAny_holding (wpAny_bind ?_)
  unfold bindSpecial
  refine wpAny_bind (wpAny_typeOf (T := "function") ⟨_, up _ _ hfI, hfc⟩ ?_)
  rw [if_pos (by decide)]
  refine wpAny_pure (wpAny_bind (wpAny_mono (hq _ (h.objs.size + 1) ⟨up, Heap.get?_none_of_le (Nat.le_succ _), h.objs.size, hget, Heap.get?_none_of_le (Nat.le_refl _), ?_⟩) (fun r s' hr => ?_) fun _ _ x => x))
  · exact Heap.get?_push_of_some _ (Heap.get?_push_at rfl rfl)
  · obtain ⟨rfl, hQ⟩ := hr
    wp_walk
    exact hQ
theorem call_initT (F : ExcBaseFacts B newId initId bB) (T : OwnTail h bB bm) {mN : Str → Option Value} {rest : List Value} {fI : Addr} {oI : Obj} {Q : Value → Shared → Prop}
    (hC : h.get? C = some (excClassObj nm q C N bs bm hdct sn sub ab col dd k0 k1 k2 k3 k5 newId)) (hn : h.Ns N mN) (hi : mN "__init__" = some (.ref fI))
    (hfI : h.get? fI = some oI) (hfc : oI.cls = .type "function")
    (hq : ∀ h' e, Heap.MadeExcOf h h' e (.ref C) rest →
      wpAny (model prog w) (A.under (.builtin "type.__call__" ⟨.ref C :: rest, []⟩)) (call (.ref fI) (.ref e :: rest)) (fun r s' => r = .none ∧ Q (.ref e) s') E ⟨h', g, d, t, os⟩) (hrest : rest.length ≤ sizeLine) :
    wpAny (model prog w) A (call (.ref C) rest) Q E ⟨h, g, d, t, os⟩ := by
  have f1 := tc_lookup
  have f2 := tc_bind (.ref C)
  have hT : (⟨h, g, d, t, os⟩ : Shared).TypeIs (.ref C) "type" := ⟨_, hC, rfl⟩
  refine wpAny_call (codeAny_of_tree ?_)
  show wpAny _ _ (callAny (.ref C) _) _ _ _
  repeat (any_goals (first | assumption | with_reducible refine wpAny_loadPart_at hC ?_ | wp_step))
  refine ⟨rfl, ?_⟩
  refine codeAny_call_builtin_at (Code.quiet_builtin _ (by decide +kernel)) entry_typeCall (wpAny_check_type_call_sub hC (type_call_initT (hrest := hrest) F T hC hn hi hfI hfc fun h' e hm => ?_))
  exact hq h' e hm
end
/-- the made exception once its __init__ has stored into it -/
structure NewX (h h' : Heap) (e : Addr) (cls : Value) : Prop where
  keeps : ∀ b o, h.get? b = some o → h'.get? b = some o
  new : h.get? e = none
  there : ∃ ob t, h'.get? e = some ob ∧ ob.cls = cls ∧ ob.data = .fields #[t, .none, .none, .none, .bool false, .none]
theorem NewX.ofNewExc {h h' : Heap} {e : Addr} {c : String} (x : Heap.NewExc h h' e c) : NewX h h' e (.type c) := ⟨x.keeps, x.new, x.there⟩
section
variable {prog : Program} {w : World} {A : Around} {E : Value → Shared → Prop} {s : Shared}
/-- self.what = v, on an exception that has no dict yet -/
theorem exc_store {e : Addr} {vs : Array Value} {v : Value} {Q : Unit → Shared → Prop} (X : (hd.heap_1 w.params).In s.heap) (he : s.heap.get? e = some { cls := .ref 52, data := .fields vs })
    (hq : ∀ h' tk', (∀ b o, b ≠ e → s.heap.get? b = some o → h'.get? b = some o) → (∃ d, h'.get? e = some { cls := .ref 52, dict := some d, data := .fields vs }) → Q () { s with heap := h', toks := tk' }) :
    wpAny (model prog w) A (setAttr (.ref e) (Str.ofString "what") v) Q E s := by
  have I : InstAt s.heap e { cls := .ref 52, data := .fields vs } 52 none := ⟨he, rfl, rfl, trivial⟩
  refine set_plain X I (find_sa w.params) ?_
  have SF := PySem.F.store_object
  obtain ⟨cd, hc, ho⟩ := any_some (cls52 w.params)
  simp only [Bool.and_eq_true, beq_iff_eq] at ho
  obtain ⟨hdict, hmro⟩ := ho
  have sub : Looks (model prog w) s.heap (isInstance (.ref e) (.type "object")) true := I.type.andThen (looks_mroIn X (by unfold mroIn; rw [hc, Option.bind_some, hmro]; rfl))
  refine codeAny_call_builtin SF.slot.plain SF.entry (@check_slot (model prog w) _ _ { s with toks := s.toks + 1 } "object.__setattr__" "object" "__setattr__" (.ref e) [.str (Str.ofString "what") s.toks, v] [] _ SF.kind SF.split sub (SF.args (.ref e) (.str (Str.ofString "what") s.toks) v) ?_)
  have hm : Looks (model prog w) s.heap (mroOf (.ref 52)) cd.mro := (looks_clsIn X hc).andThen .now
  rw [osa_eq, refuse_eq]
  refine wpAny_bind (wpAny_bind (I.type.here (s := { s with toks := s.toks + 1 }) (wpAny_bind (hm.here (s := { s with toks := s.toks + 1 }) ?_))))
  have hpass : refuseLoop (.ref e) "__setattr__" cd.mro = pure () := by
    rw [hmro]; unfold bmT; rw [refuseLoop_ref, refuseLoop_ref]; exact PySem.F.store_Exception.passes _
  rw [hpass]
  refine wpAny_pure (wpAny_bind (I.type.here (s := { s with toks := s.toks + 1 }) (wpAny_bind ((looks_findIn X (find_what w.params)).here (s := { s with toks := s.toks + 1 }) (wpAny_bind (Looks.now.here (s := { s with toks := s.toks + 1 }) ?_))))))
  show wpAny _ _ (storeInOwnDict _ _ _ _ _ _) _ _ _
  obtain ⟨h, g, d, t, os⟩ := s
  unfold storeInOwnDict
  refine wpAny_bind (wpAny_pure (wpAny_bind ?_))
  show wpAny _ _ (instanceDict e true) _ _ _
  unfold instanceDict
  refine wpAny_bind (wpAny_loadPart_at he ?_)
  dsimp only
  refine wpAny_bind ((looks_clsIn X hc).here (s := ⟨h, g, d, t + 1, os⟩) ?_)
  rw [hdict]
  have hes : e ≠ h.objs.size := Nat.ne_of_lt (Heap.lt_size he)
  have he₁ : (h.push { cls := .type "dict", data := .dict #[] }).get? e = some { cls := .ref 52, data := .fields vs } := Heap.get?_push_of_some _ he
  refine wpAny_bind (wpAny_alloc' ?_)
  refine wpAny_bind (wpAny_update' he₁ ?_)
  refine wpAny_pure ?_
  have hgd : ((h.push { cls := .type "dict", data := .dict #[] }).update e fun o => { cls := o.cls, dict := some h.objs.size, data := o.data, slots := o.slots }).get? h.objs.size = some { cls := .type "dict", data := .dict #[] } :=
    (Heap.get?_update_ne _ _ _ _ hes.symm).trans (Heap.get?_push_at rfl rfl)
  have hnd : ((h.push { cls := .type "dict", data := .dict #[] }).update e fun o => { cls := o.cls, dict := some h.objs.size, data := o.data, slots := o.slots }).Ns h.objs.size (fun _ => none) :=
    ⟨_, #[], _, hgd, rfl, fun e he => absurd he (by simp), fun _ => rfl⟩
  show wpAny _ _ (storeInDict h.objs.size (.str (Str.ofString "what") t) (Str.ofString "what") v) _ _ _
  unfold storeInDict newKeyGuard
  refine wpAny_bind (wpAny_pure (wpAny_bind (wpAny_nsSet1 (Heap.Ns1.of_empty hnd) fun h' hn' hs => ?_)))
  obtain ⟨oD, esD, epD, hoD, hdD, hcD⟩ := hn'.count (Within.cons (Str.ofString "what") v Within.nil)
  refine wpAny_bind (wpAny_lookBehind hoD (by rw [hdD]; exact pastItsLine_dict (Nat.le_trans hcD (by rw [List.length_cons, List.length_nil, sizeLine_eq]; omega))) ?_)
  refine wpAny_pure ?_
  refine hq h' _ (fun b ob hbx hb => ?_) ⟨h.objs.size, ?_⟩
  · exact (hs.2 b (Nat.ne_of_lt (Heap.lt_size hb))).trans ((Heap.get?_update_ne _ _ _ _ hbx).trans (Heap.get?_push_of_some _ hb))
  · exact (hs.2 e hes).trans (Heap.get?_update_self _ he₁ rfl)
end
section
variable {prog : Program} {w : World} {A : Around} {E : Value → Shared → Prop} {s : Shared} {h₀ : Heap} {L : Addr} {m : Str → Option Value}
theorem set_exc {e : Addr} {vs : Array Value} {v : Value} {news : List (Addr × Obj)} {Q : Unit → Shared → Prop} (F : Fr h₀ L s.heap m) (K : (hd.heap_1 w.params).In h₀) (N : News h₀ L s.heap ((e, { cls := .ref 52, data := .fields vs }) :: news)) (hne : ∀ p ∈ news, p.1 ≠ e)
    (hq : ∀ h' tk' d, Fr h₀ L h' m → News h₀ L h' ((e, { cls := .ref 52, dict := some d, data := .fields vs }) :: news) → Q () { s with heap := h', toks := tk' }) :
    wpAny (model prog w) A (setAttr (.ref e) (Str.ofString "what") v) Q E s := by
  obtain ⟨h1, h2, h3⟩ := N _ (.head _)
  refine exc_store (K.keeps F.keep) h1 fun h' tk' hk ⟨d, hd⟩ => ?_
  have ne : ∀ b o, h₀.get? b = some o → b ≠ e := fun b o q z => by rw [z, h3] at q; cases q
  obtain ⟨oL, a1, a2, hL, a3⟩ := F.ns
  refine hq h' tk' d ⟨⟨oL, a1, a2, hk _ _ (fun z => h2 z.symm) hL, a3⟩, fun b o q => hk b o (ne b o q) (F.keep b o q), F.above⟩ (fun p hp => ?_)
  rcases List.mem_cons.mp hp with rfl | hp
  · exact ⟨hd, h2, h3⟩
  · obtain ⟨q1, q2, q3⟩ := N p (.tail _ hp)
    exact ⟨hk _ _ (hne p hp) q1, q2, q3⟩
end
section
variable {w : World} {A₀ A : Around} {base h₀ : Heap} {outer : List Env} {env : Env} {L : Addr} {m mg mb : Str → Option Value} {mean : ExcName → Option Value} {news : List (Addr × Obj)} {s : Shared} {Q E : Value → Shared → Prop}
theorem lines_S5_1 : True := by
  (k_with "setAttr ref" => (k_here; k_dflt (refine set_exc (by first | (k_asm) | fail) (by first | (k_asm) | fail) (by first | (k_asm) | fail) (by first | (assumption) | fail) ?_; k_whole); intro h' tk' d' F' N'; (try k_sweep)))
  trivial
/-- LinkFault(what) -/
theorem fault_call {x : Str} {t : Tok} {dp un : Nat} {gd : Option (List Code)} {cn : Str} {cs : Scope} {a : Addr} {ccd : Value} {cl : List (Str × Addr)}
    (B : Below A₀ base outer h₀) (F : Fr h₀ L s.heap m) (K : (hd.heap_1 w.params).In h₀) (N : News h₀ L s.heap news) (T : Top vw (looseW vw [Str.ofString "LinkFault"]) mean mg mb h₀) (hk : cs.kind = .function) (hdp : dp + 2 < recursionLimit) (hu : un + 8 * 2 < cLine)
    (hq : ∀ e d tt h' tk', Fr h₀ L h' m → News h₀ L h' ((e, { cls := .ref 52, dict := some d, data := .fields #[.ref tt, .none, .none, .none, .bool false, .none] }) :: news) → (∀ p ∈ news, p.1 ≠ e) → Q (.ref e) { s with heap := h', toks := tk' }) :
    wpAny (model PySem.Challenge.rw_ok0015_01.row.prog w) (ktrTop dp un gd cn cs L a ccd cl outer) (call (.ref 52) [.str x t]) Q E s := by
  revert K; k_fill; intro K
  have X := K.keeps F.keep
  obtain ⟨hh, g, d, tk, os⟩ := s
  have hC := X _ _ (look52 w.params)
  have h49 : ((hd.heap_1 w.params).lookup 49).map (·.cls) = some (.type "function") := type49 w.params
  obtain ⟨oI, hl49, hc49⟩ := Option.map_eq_some_iff.mp h49
  have hT : OwnTail hh bmB bmT := tail_of_in X (tail52 w.params)
  refine call_initT PySem.F.excBase_Exception hT hC (.of_isNs (isNs_of_in X (ns51 w.params))) (nsMap_of X (ns51 w.params) (init52 w.params)) (X _ _ hl49) hc49 (fun h' e hm => ?_) (by rw [sizeLine_eq]; exact Nat.le_of_ble_eq_true rfl)
  have F' : Fr h₀ L h' m := F.keeps hm.keeps
  obtain ⟨tt, he, ht, htt⟩ := hm.there
  have hnew : h₀.get? e = none := by
    cases q : h₀.get? e with
    | none => rfl
    | some o => have := F.keep _ _ q; rw [hm.new] at this; cases this
  have hLe : e ≠ L := fun z => by
    obtain ⟨oL, _, _, hL, _⟩ := F.ns
    have := hm.new; rw [z, hL] at this; cases this
  have hne : ∀ p ∈ news, p.1 ≠ e := fun p hp z => by
    have := (N p hp).1; rw [z, hm.new] at this; cases this
  have N' : News h₀ L h' ((e, { cls := .ref 52, data := .fields #[.ref tt, .none, .none, .none, .bool false, .none] }) :: news) := fun p hp => by
    rcases List.mem_cons.mp hp with rfl | hp
    · exact ⟨he, hLe, hnew⟩
    · exact ⟨hm.keeps _ _ (N p hp).1, (N p hp).2⟩
  clear X hC hl49 hc49 hT h49 N F
  refine wpAny_call ?_
  k_dflt (refine' code_def ?k1 ?k2 ?k3 ?k4 ?k5 ?kA ?kF ?kK ?k6 ?k7 ?k8 ?k9 ?kB ?_ ?c2 ?c3 ?c4 ?c5; (case kA => exact rfl); (case kF => exact rfl); (case kK => assumption); (case k1 => k_asm); (case k2 => k_asm); (case k3 => k_asm); (case k4 => k_asm); (case k5 => k_asm); (case k6 => k_is); (case k7 => k_is); (case k8 => ktr_room); (case k9 => exact binds_K (by k_in) rfl (by k_is) rfl rfl rfl); (case c5 => decide); (case kB => exact locs rfl); (case c2 => exact rfl); (case c3 => exact rfl); (case c4 => exact rfl); k_whole; intro g' L' h' FG' F' N' B' X' T'; (try dsimp only); (try k_lift B'); (try k_fold))
  k_steps
  exact hq _ _ _ _ _ (by k_asm) (by k_asm) hne
end
section
variable {M : Model} {A : Around} {E : Value → Shared → Prop} {s' : Shared} {base g : Heap} {outer : List Env} {L a e : Addr} {m : Str → Option Value} {name : Str} {scope : Scope} {cd : Value} {Q : Unit → Shared → Prop} {news : List (Addr × Obj)}
/-- the made exception leaves the frame that raised it -/
theorem leave_own {cls : Value} {ob : Obj} {t : Value} (K : Below A base outer g) (F : Fr g L s'.heap m) (N : News g L s'.heap ((e, ob) :: news)) (hne : ∀ p ∈ news, p.1 ≠ e) (hcls : ob.cls = cls) (hdat : ob.data = .fields #[t, .none, .none, .none, .bool false, .none])
    (hQ : ∀ h', RaisedSN base g outer e cls news h' → g.UpToSlots h' → Q () { s' with heap := h' }) (hk : scope.kind = .function := by rfl) :
    wpAny M (A.deeper (envOf name scope L a cd)) (leaving (envOf name scope L a cd) (.ref e)) Q E s' := by
  have K' := K.push (name := name) (a := a) (cd := cd) F hk
  have he := (N _ (.head _)).1
  have hin : ∀ env ∈ (envOf name scope L a cd :: outer), ∀ b, env.frame = some b → b ∈ e :: (envOf name scope L a cd :: outer).filterMap (·.frame) := fun env he b hb => .tail _ (List.mem_filterMap.mpr ⟨env, he, hb⟩)
  have hbe : base.get? e = none := fresh_of_stays K.stays (N _ (.head _)).2.2
  have st : base.StaysIn (hideAll s'.heap (e :: (envOf name scope L a cd :: outer).filterMap (·.frame))) := fun b o q => hideAll_get _ (K'.stays b o q) fun hm => by
    rcases List.mem_cons.mp hm with rfl | hm
    · rw [hbe] at q; cases q
    · rw [(K'.frames.mem hm).1] at q; cases q
  have sg : ∀ b o, g.get? b = some o → b ∉ outer.filterMap (·.frame) → (hideAll s'.heap (e :: (envOf name scope L a cd :: outer).filterMap (·.frame))).get? b = some o := fun b o q nm => hideAll_get _ (F.keep b o q) fun hm => by
    rcases List.mem_cons.mp hm with z | hm
    · rw [z, (N _ (.head _)).2.2] at q; cases q
    · rcases kts_mem hm with z | z
      · rw [z, kts_self F] at q; cases q
      · exact nm z
  have hl : ∀ q ∈ news, (hideAll s'.heap (e :: (envOf name scope L a cd :: outer).filterMap (·.frame))).get? q.1 = some q.2 ∧ g.get? q.1 = none ∧ base.get? q.1 = none := fun q hq => by
    have Nq := N q (.tail _ hq)
    refine ⟨hideAll_get _ Nq.1 fun hm => ?_, Nq.2.2, fresh_of_stays K.stays Nq.2.2⟩
    rcases List.mem_cons.mp hm with z | hm
    · exact hne q hq z
    obtain ⟨env, he, hf⟩ := List.mem_filterMap.mp hm
    rcases List.mem_cons.mp he with rfl | he
    · exact Nq.2.1 (Option.some.inj hf).symm
    · obtain ⟨o, ho, _⟩ := (K.frames.mem (List.mem_filterMap.mpr ⟨env, he, hf⟩)).2
      rw [Nq.2.2] at ho; cases ho
  refine wpAny_leaving_firstW (a0 := t) K'.stack (funFrames_hide K'.frames hin) rfl he (fun b o hb => of_hideAll _ hb) (hideAll_none _ (.head _)) hdat rfl rfl fun h' hL => ?_
  obtain ⟨k1, ⟨_, _, k2⟩, k3, k4⟩ := hL
  exact hQ h' ⟨_, t, st, sg, hl, k1, hideAll_none _ (.head _), k2, by rw [← hcls]; exact k3⟩ ((Heap.UpToSlots.of_keeps F.keep).trans k4)
end
section
variable {prog : Program} {w : World} {A : Around} {E : Value → Shared → Prop} {s : Shared} {env : Env}
theorem Raise_fault {x : Expr} {pos : Pos} {Q : Flow → Shared → Prop} (hh : A.handled = none)
    (h : wpAny (model prog w) A (eval x env) (fun v s₁ => ∃ e d t, v = .ref e ∧ (hd.heap_1 w.params).In s₁.heap ∧ s₁.heap.get? e = some { cls := .ref 52, dict := some d, data := .fields #[.ref t, .none, .none, .none, .bool false, .none] } ∧ E (.ref e) s₁) E s) :
    wpAny (model prog w) A (exec (.Raise (some x) none pos) env) Q E s := by
  rw [arm_exec_Raise]
  refine wpAny_bind (wpAny_standAt ?_)
  simp only [evalOpt, Option.map]
  unfold raiseStmt
  dsimp only
  refine wpAny_bind (wpAny_bind (wpAny_mono h (fun v s₁ h₁ => wpAny_bind (wpAny_standAt (wpAny_pure ?_))) fun _ _ x => x))
  obtain ⟨e, dd, t, rfl, X, he, hE⟩ := h₁
  have hC := X _ _ (look52 w.params)
  obtain ⟨hp, g, d, tk, os⟩ := s₁
  have hcB : (Value.ref 52 :: bmT).contains (.type "BaseException") = true := by decide
  repeat (first | with_reducible refine wpAny_loadPart_at he ?_ | with_reducible refine wpAny_loadPart_at hC ?_ | (with_reducible refine wpAny_isSubtype_exc hC ?_; rw [hcB]) | wp_step)
  exact wpAny_raiseNew_none hh hE
end
section
variable {base h' : Heap} {l : List Env} {e : Addr} {news news' : List (Addr × Obj)} {s : Shared} {E : Value → Shared → Prop} {h₀ g : Heap} {L : Addr} {m : Str → Option Value} {tk' : Nat} {res : Option (Tok → Value)}
theorem raisedSub {cls : Value} (R : RaisedSN base g l e cls news' h') (hs : ∀ p ∈ news, p ∈ news') : RaisedSN base g l e cls news h' :=
  let ⟨B, a0, hB, hg, hl, hf⟩ := R
  ⟨B, a0, hB, hg, fun q hq => hl q (hs q hq), hf⟩
theorem endX (hexc : res = none → ∀ e g₂ h' tk', Fr h₀ L g₂ m → g₂.UpToSlots h' → RaisedSN base g₂ l e (.ref 52) news h' → E (.ref e) { s with heap := h', toks := tk' }) (FG : Fr h₀ L g m) (U : g.UpToSlots h') (R : RaisedSN base g l e (.ref 52) news' h') (hs : ∀ p ∈ news, p ∈ news') (he : res = none) : E (.ref e) { s with heap := h', toks := tk' } :=
  hexc he e g h' tk' FG U (raisedSub R hs)
end
end
local macro_rules | `(tactic| walk_at "leaving ref") => `(tactic| (k_here; (rename RaisedSN _ _ _ _ _ _ _ => rsX); k_dflt (refine' leave_onSN ?k1 ?k2 rsX ?k4 ?_; (case k1 => k_asm); (case k2 => first | assumption | k_asm); (case k4 => assumption); k_whole); intro h' R' _ U'; (try dsimp only at R' U' ⊢)))
local macro_rules | `(tactic| walk_at "leaving ref") => `(tactic| (k_here; k_dflt (refine' leave_own ?k1 ?k2 ?k3 ?k4 ?k5 ?k6 ?_); (case k2 => k_asm); (case k3 => k_asm); (case k1 => k_asm); (case k4 => assumption); (case k5 => exact rfl); (case k6 => exact rfl); k_whole; intro h' R' U'; (try dsimp only at R' U' ⊢)))
section
theorem lines_S6 : True := by
  w_top off
  k_with_none
  (k_with "mine: start" => (unfold PS; k_fill; intros; rename_i hret hexc; refine wpAny_call ?_; k_dflt cell_enter))
  (k_with "mine: sub" => (first | exact fun _ h => h | exact fun _ h => List.mem_append_left _ h | (intro _ h; simp only [List.mem_append, List.mem_cons, h, true_or, or_true])))
  (k_with "mine: end" => ((first | refine endB (by assumption) (by k_asm) (by k_asm) (by walk_at "mine: sub") (resB ?_) | refine endI (by assumption) (by k_asm) (by k_asm) (by walk_at "mine: sub") (resI ?_) | refine endS (by assumption) (by k_asm) (by k_asm) (by walk_at "mine: sub") (resS ?_))))
  (k_with "mine: fill" => ((intro t' h' tk' F' N'); (try dsimp only); (try k_sweep); (try k_fold)))
  (k_with "exec While Compare cons nil" => (k_here; refine Mark.out ?_))
  (k_with "exec For Name Name cons nil" => (k_here; refine Mark.out ?_))
  (k_with "exec For Name Call cons nil" => (k_here; refine Mark.out ?_))
  (k_with "exec For Name List cons nil" => (k_here; refine Mark.out ?_))
  (k_with "binaryOp Add str str" => (k_here; (with_reducible show wpAny _ _ (binaryOp Operator.Add (Value.str _ _) (Value.str _ _)) _ _ _); (refine add_str ?_ (by first | (walk_at "mine: size") | fail)); intro _ _))
  (k_with "mine: same" => (intro z h2 h3; (simp only [List.forall_mem_cons, List.not_mem_nil, false_implies, implies_true, and_true, ne_eq] at h2); first | ((simp only [List.contains_cons, List.contains_nil, Bool.or_false, Bool.or_eq_false_iff, beq_eq_false_iff_ne, ne_eq] at h3); (simp [h2, h3, kstB]; done)) | (simp [h2, kstB]; done)))
  (k_with "call builtin:list.append" => (k_here; (with_reducible show wpAny _ _ (call (Value.builtin _) [Value.ref _, _]) _ _ _); k_dflt (refine append_K (by first | (k_asm) | fail) (by first | (k_asm) | fail) (by first | (k_upd) | fail) ?_ (by first | (walk_at "mine: size") | fail); k_whole); intro h' F' N'; (try simp only [List.push_toArray] at N'); (try k_sweep)))
  (k_with "InvEndN" => (refine Mark.out ?_))
  (k_with "KswEnd" => (refine Mark.out ?_))
  (k_with "call builtin:str.join" => (k_here; refine Mark.out ?_))
  (k_with "mine: sameN" => (intro z h1 h2 h3; (simp only [List.forall_mem_cons, List.not_mem_nil, false_implies, implies_true, and_true, ne_eq] at h2); first | ((simp only [List.contains_cons, List.contains_nil, Bool.or_false, Bool.or_eq_false_iff, beq_eq_false_iff_ne, ne_eq] at h3); (simp [h1, h2, h3, kstB]; done)) | (simp [h1, h2, kstB]; done)))
  (k_with "exec Raise some none" => (k_here; k_dflt (refine Raise_fault (by exact rfl) ?_)))
  (k_with "mine: fault" => (k_here; k_dflt (refine fault_call (by first | (k_asm) | fail) (by first | (k_asm) | fail) (by first | (k_asm) | fail) (by first | (k_asm) | fail) (by first | (k_asm) | fail) (by first | (first | exact rfl | assumption) | fail) (by first | (ktr_room) | fail) (by first | (ktr_units) | fail) ?_); (intro e' d' tt' h' tk' F' N' hne'); (refine ⟨_, _, _, rfl, by k_in, (N' _ (List.Mem.head _)).1, ?_⟩); (try dsimp only); (try k_sweep)))
  (k_with "mine: endX" => (refine endX (by assumption) (by k_asm) (by assumption) (by assumption) (by walk_at "mine: sub") ?_))
  (k_with "mine: endR" => ((first | refine endB (by assumption) (by k_asm) (by k_asm) (by walk_at "mine: sub") ?_ | refine endI (by assumption) (by k_asm) (by k_asm) (by walk_at "mine: sub") ?_ | refine endS (by assumption) (by k_asm) (by k_asm) (by walk_at "mine: sub") ?_)))
  (k_with "mine: size" => (rw [sizeLine_eq]; (first | omega | (simp only [Str.length_append, tx_length, len_item, List.length_cons, List.length_nil, List.length_append, List.size_toArray, Array.size_push]; omega))))
  (k_with "mine: filled" => ((intro t' h' tk' F' N'); (try dsimp only); (try k_sweep); (try k_fold)))
  trivial
theorem lines_S6_1 : True := by
  (k_with "call ref cons nil" => (walk_at "mine: fault"))
  trivial
def figOf (c : Nat) : Option Nat := if 48 ≤ c ∧ c ≤ 57 then some (c - 48) else if 97 ≤ c ∧ c ≤ 102 then some (c - 87) else none
/-- figures of base 16 read, behind the value v -/
def readC : List Nat → Nat → Option Nat
  | [], v => some v
  | c :: r, v => match figOf c with
    | none => none
    | some f => if 1114111 < v * 16 + f then none else readC r (v * 16 + f)
def FIGS : Str := Str.ofString "0123456789abcdef"
theorem figs_list : FIGS.cps.toList = [48, 49, 50, 51, 52, 53, 54, 55, 56, 57, 97, 98, 99, 100, 101, 102] := by decide +kernel
theorem figs_at {i n : Nat} (h : FIGS.cps.toList[i]? = some n) : figOf n = some i := by
  rw [figs_list] at h
  have hi : i < 16 := by
    rcases Nat.lt_or_ge i 16 with q | q
    · exact q
    · rw [List.getElem?_eq_none (by simpa using q)] at h; cases h
  have all : ∀ j, j < 16 → ∀ k, ([48, 49, 50, 51, 52, 53, 54, 55, 56, 57, 97, 98, 99, 100, 101, 102] : List Nat)[j]? = some k → figOf k = some j := by
    intro j hj k hk
    have e : ([48, 49, 50, 51, 52, 53, 54, 55, 56, 57, 97, 98, 99, 100, 101, 102] : List Nat)[j]?.bind figOf = some j := by
      clear hk; revert j; decide
    rw [hk] at e; exact e
  exact all i hi n h
theorem figs_of {n f : Nat} (h : figOf n = some f) : FIGS.cps.toList[f]? = some n := by
  rw [figs_list]
  unfold figOf at h
  have all : ∀ c, c < 103 → ∀ k, figOf c = some k → ([48, 49, 50, 51, 52, 53, 54, 55, 56, 57, 97, 98, 99, 100, 101, 102] : List Nat)[k]? = some c := by
    intro c hc k hk
    have e : (figOf c).all (fun k => ([48, 49, 50, 51, 52, 53, 54, 55, 56, 57, 97, 98, 99, 100, 101, 102] : List Nat)[k]? == some c) = true := by
      clear hk; revert c; decide
    rw [hk] at e; simpa using e
  have hn : n < 103 := by
    split at h
    · omega
    · split at h
      · omega
      · cases h
  exact all n hn f h
theorem find_fig (n : Nat) : Txt.find (Str.ofString "0123456789abcdef") ⟨#[n]⟩ = match figOf n with | some f => (f : Int) | none => -1 := by
  show Txt.find FIGS ⟨#[n]⟩ = _
  unfold Txt.find
  rcases StrLaws.occ_head_from FIGS ⟨#[n]⟩ 0 1 (Nat.le_refl 1) with ⟨h0, hn⟩ | ⟨i, r, h0, _, ha, _⟩
  · rw [h0]
    cases hf : figOf n with
    | none => rfl
    | some f => exact absurd ((StrLaws.subAt_one FIGS n f).mpr (figs_of hf)) (hn f (Nat.zero_le _))
  · rw [h0, figs_at ((StrLaws.subAt_one FIGS n i).mp ha)]
theorem drop_at {x : Str} {pre post : List Int} {n : Nat} (e : KStt.codes x = pre ++ (n : Int) :: post) : x.cps.toList.drop pre.length = n :: x.cps.toList.drop (pre.length + 1) := by
  have h : (KStt.codes x)[pre.length]? = some (n : Int) := by rw [e]; simp
  have h2 : x.cps.toList[pre.length]? = some n := by
    unfold KStt.codes at h
    rw [List.getElem?_map] at h
    obtain ⟨a, ha, hb⟩ := Option.map_eq_some_iff.mp h
    rw [ha]; congr 1; omega
  obtain ⟨hlt, hv⟩ := List.getElem?_eq_some_iff.mp h2
  rw [List.drop_eq_getElem_cons hlt, hv]
theorem readC_neg {l r : List Nat} {n v : Nat} (e : l = n :: r) (h : Txt.find (Str.ofString "0123456789abcdef") ⟨#[n]⟩ < 0) : readC l v = none := by
  rw [find_fig] at h
  rw [e, readC]
  cases hf : figOf n with
  | none => rfl
  | some f => rw [hf] at h; exact absurd h (by show ¬ (f : Int) < 0; omega)
theorem readC_big {l r : List Nat} {n v : Nat} (e : l = n :: r) (h : ¬ Txt.find (Str.ofString "0123456789abcdef") ⟨#[n]⟩ < 0) (h2 : (1114111 : Int) < v * 16 + Txt.find (Str.ofString "0123456789abcdef") ⟨#[n]⟩) : readC l v = none := by
  rw [find_fig] at h h2
  rw [e, readC]
  cases hf : figOf n with
  | none => rfl
  | some f => rw [hf] at h2; dsimp only at h2 ⊢; rw [if_pos (by omega)]
theorem readC_ok {l r : List Nat} {n v : Nat} (e : l = n :: r) (h : ¬ Txt.find (Str.ofString "0123456789abcdef") ⟨#[n]⟩ < 0) (h2 : ¬ (1114111 : Int) < v * 16 + Txt.find (Str.ofString "0123456789abcdef") ⟨#[n]⟩) :
    ∃ v' : Nat, (v : Int) * 16 + Txt.find (Str.ofString "0123456789abcdef") ⟨#[n]⟩ = v' ∧ readC l v = readC r v' ∧ v' ≤ 1114111 := by
  rw [find_fig] at h h2 ⊢
  rw [e, readC]
  cases hf : figOf n with
  | none => rw [hf] at h; exact absurd (by decide) h
  | some f => rw [hf] at h2; dsimp only at h2 ⊢; exact ⟨v * 16 + f, by omega, by rw [if_neg (by omega)], by omega⟩
theorem map_none' {α β : Type} {f : α → β} {o : Option α} (h : o = none) : o.map f = none := by rw [h]; rfl
theorem map_some' {α β : Type} {f : α → β} {o : Option α} {a : α} (h : o = some a) : o.map f = some (f a) := by rw [h]; rfl
theorem read_code_spec (w mean mg mb) (x : Str) (t : Tok) : PS w mean mg mb 3 222 [.str x t] ((readC x.cps.toList 0).map fun (v : Nat) t => .int (v : Int) t) := by
  walk_at "mine: start"
  k_steps
  unfold Mark
  rename Fr _ _ _ _ => lF
  k_here; (with_unfolding_all refine' For_invVF lF ?k1 ?k2 ?_; (case k1 => exact rfl); (case k2 => exact rfl))
  k_steps
  rename Fr _ _ _ _ => lF
  rename News _ _ _ _ => lN
  (with_unfolding_all refine' KStt.kst_text (σ := Nat × Tok) (fun c => _) (fun c => [(Str.ofString "value", .int c.1 c.2)]) (fun c => True) [Str.ofString "figure"] (fun pre c => readC x.cps.toList 0 = readC (x.cps.toList.drop pre.length) c.1) (0, _) (by rfl) lF lN trivial (List.forall_mem_cons.mpr ⟨by rfl, List.forall_mem_nil _⟩) (by rfl) ?_ ?_)
  · clear lF lN
    rintro ⟨v, tv⟩ pre post n t1 u h tk own he hoff hF hP F N
    dsimp only at hP hF F N
    have hd := drop_at he
    try k_fold
    k_steps
    · walk_at "mine: endX"; exact map_none' (hP.trans (readC_neg hd (by assumption)))
    · walk_at "mine: endX"; exact map_none' (hP.trans (readC_big hd (by assumption) (by assumption)))
    · obtain ⟨v', e1, e2, _⟩ := readC_ok (v := v) hd (by assumption) (by assumption)
      unfold Mark
      rename Fr _ _ _ _ => lF
      rename News _ _ _ _ => lN
      refine kst_end (v', _) lF lN (fun p hp => List.mem_append_left _ hp) (fun p hp => List.mem_append_right _ hp) rfl trivial (List.forall_mem_cons.mpr ⟨vint e1, List.forall_mem_nil _⟩) ?_ ?_
      · walk_at "mine: sameN"
      · dsimp only; rw [List.length_append, List.length_cons, List.length_nil]; exact hP.trans e2
  · clear lF lN
    rintro ⟨v, tv⟩ u h tk hF hP F N
    dsimp only at hP hF F N
    try k_fold
    k_steps
    walk_at "mine: endR"
    rw [KStt.codes_length] at hP
    have hz : x.cps.toList.drop x.length = [] := List.drop_eq_nil_of_le (Nat.le_of_eq Array.length_toList)
    rw [hz] at hP
    exact map_some' hP
end
section
theorem lines_P1 : True := by
  w_top off
  k_with_none
  (k_with "mine: start" => (unfold PS; k_fill; intros; rename_i hret hexc; refine wpAny_call ?_; k_dflt cell_enter))
  (k_with "mine: sub" => (first | exact fun _ h => h | exact fun _ h => List.mem_append_left _ h | (intro _ h; simp only [List.mem_append, List.mem_cons, h, true_or, or_true])))
  (k_with "mine: end" => ((first | refine endB (by assumption) (by k_asm) (by k_asm) (by walk_at "mine: sub") (resB ?_) | refine endI (by assumption) (by k_asm) (by k_asm) (by walk_at "mine: sub") (resI ?_) | refine endS (by assumption) (by k_asm) (by k_asm) (by walk_at "mine: sub") (resS ?_))))
  (k_with "mine: fill" => ((intro t' h' tk' F' N'); (try dsimp only); (try k_sweep); (try k_fold)))
  (k_with "exec While Compare cons nil" => (k_here; refine Mark.out ?_))
  (k_with "exec For Name Name cons nil" => (k_here; refine Mark.out ?_))
  (k_with "exec For Name Call cons nil" => (k_here; refine Mark.out ?_))
  (k_with "exec For Name List cons nil" => (k_here; refine Mark.out ?_))
  (k_with "binaryOp Add str str" => (k_here; (with_reducible show wpAny _ _ (binaryOp Operator.Add (Value.str _ _) (Value.str _ _)) _ _ _); (refine add_str ?_ (by first | (walk_at "mine: size") | fail)); intro _ _))
  (k_with "mine: same" => (intro z h2 h3; (simp only [List.forall_mem_cons, List.not_mem_nil, false_implies, implies_true, and_true, ne_eq] at h2); first | ((simp only [List.contains_cons, List.contains_nil, Bool.or_false, Bool.or_eq_false_iff, beq_eq_false_iff_ne, ne_eq] at h3); (simp [h2, h3, kstB]; done)) | (simp [h2, kstB]; done)))
  (k_with "call builtin:list.append" => (k_here; (with_reducible show wpAny _ _ (call (Value.builtin _) [Value.ref _, _]) _ _ _); k_dflt (refine append_K (by first | (k_asm) | fail) (by first | (k_asm) | fail) (by first | (k_upd) | fail) ?_ (by first | (walk_at "mine: size") | fail); k_whole); intro h' F' N'; (try simp only [List.push_toArray] at N'); (try k_sweep)))
  (k_with "InvEndN" => (refine Mark.out ?_))
  (k_with "KswEnd" => (refine Mark.out ?_))
  (k_with "call builtin:str.join" => (k_here; refine Mark.out ?_))
  (k_with "mine: sameN" => (intro z h1 h2 h3; (simp only [List.forall_mem_cons, List.not_mem_nil, false_implies, implies_true, and_true, ne_eq] at h2); first | ((simp only [List.contains_cons, List.contains_nil, Bool.or_false, Bool.or_eq_false_iff, beq_eq_false_iff_ne, ne_eq] at h3); (simp [h1, h2, h3, kstB]; done)) | (simp [h1, h2, kstB]; done)))
  (k_with "exec Raise some none" => (k_here; k_dflt (refine Raise_fault (by exact rfl) ?_)))
  (k_with "mine: fault" => (k_here; k_dflt (refine fault_call (by first | (k_asm) | fail) (by first | (k_asm) | fail) (by first | (k_asm) | fail) (by first | (k_asm) | fail) (by first | (k_asm) | fail) (by first | (first | exact rfl | assumption) | fail) (by first | (ktr_room) | fail) (by first | (ktr_units) | fail) ?_); (intro e' d' tt' h' tk' F' N' hne'); (refine ⟨_, _, _, rfl, by k_in, (N' _ (List.Mem.head _)).1, ?_⟩); (try dsimp only); (try k_sweep)))
  (k_with "mine: endX" => (refine endX (by assumption) (by k_asm) (by assumption) (by assumption) (by walk_at "mine: sub") ?_))
  (k_with "mine: endR" => ((first | refine endB (by assumption) (by k_asm) (by k_asm) (by walk_at "mine: sub") ?_ | refine endI (by assumption) (by k_asm) (by k_asm) (by walk_at "mine: sub") ?_ | refine endS (by assumption) (by k_asm) (by k_asm) (by walk_at "mine: sub") ?_)))
  (k_with "mine: size" => (rw [sizeLine_eq]; (first | omega | (simp only [Str.length_append, tx_length, len_item, List.length_cons, List.length_nil, List.length_append, List.size_toArray, Array.size_push]; omega))))
  (k_with "mine: filled" => ((intro t' h' tk' F' N'); (try dsimp only); (try k_sweep); (try k_fold)))
  trivial
/-- the inner part of a quoted word read -/
def unesc : List Nat → Option (List Nat)
  | [] => some []
  | c :: r =>
    if c = 92 then
      if 92 ∈ r then
        match r.takeWhile (· != 92) with
        | 120 :: d :: ds => match readC (d :: ds) 0 with
          | some v => (unesc (r.drop ((r.takeWhile (· != 92)).length + 1))).map (v :: ·)
          | none => none
        | _ => none
      else none
    else (unesc r).map (c :: ·)
termination_by l => l.length
decreasing_by
  all_goals simp only [List.length_cons, List.length_drop]; omega
@[reducible] def innerOf (x : Str) : Str := Txt.slice x (some 1) (some ((x.length : Int) - 1))
def unq (x : Str) : Option Str :=
  if alnumName x then some x else if (x.length : Int) < 2 then none else if (Txt.item x 0 != Str.ofString "'") = true then none else if (Txt.item x ((x.length : Int) - 1) != Str.ofString "'") = true then none else
  match unesc (innerOf x).cps.toList with
  | none => none
  | some l => if (quoted (tx l) != x) = true then none else some (tx l)
def one (c : Nat) : Str := ⟨#[c]⟩
theorem one_toNat (n : Nat) : (⟨#[((n : Int)).toNat]⟩ : Str) = one n := rfl
theorem BS : Str.ofString "\\" = ⟨#[92]⟩ := by decide +kernel
theorem readC_le : ∀ {l : List Nat} {v r : Nat}, v ≤ 1114111 → readC l v = some r → r ≤ 1114111
  | [], v, r, h, e => by rw [readC] at e; cases e; exact h
  | c :: t, v, r, h, e => by
    rw [readC] at e
    cases hf : figOf c with
    | none => rw [hf] at e; cases e
    | some f =>
      rw [hf] at e; dsimp only at e
      by_cases hb : 1114111 < v * 16 + f
      · rw [if_pos hb] at e; cases e
      · rw [if_neg hb] at e; exact readC_le (by omega) e
theorem takeWhile_length_of {l : List Nat} {j : Nat} (h : l[j]? = some 92) (hn : ∀ k, k < j → l[k]? ≠ some 92) : (l.takeWhile (· != 92)).length = j := by
  induction l generalizing j with
  | nil => cases h
  | cons a r ih =>
    cases j with
    | zero =>
      simp only [List.getElem?_cons_zero, Option.some.injEq] at h
      rw [List.takeWhile_cons, h]; rfl
    | succ j =>
      have ha : a ≠ 92 := fun z => hn 0 (Nat.succ_pos j) (by rw [z]; rfl)
      rw [List.takeWhile_cons, if_pos (by simpa using ha), List.length_cons, ih (j := j) (by simpa using h) fun k hk => by simpa using hn (k + 1) (by omega)]
theorem find3_eq {x : Str} {p : Nat} (hp : p < x.length) : Txt.find3 x (Str.ofString "\\") ((p : Int) + 1) =
    if 92 ∈ x.cps.toList.drop (p + 1) then ((p + 1 + ((x.cps.toList.drop (p + 1)).takeWhile (· != 92)).length : Nat) : Int) else -1 := by
  rw [BS]
  unfold Txt.find3
  have hf : fromIndex x.length ((p : Int) + 1) = p + 1 := by
    unfold fromIndex
    rw [if_neg (by omega)]
    omega
  rw [hf]
  rcases StrLaws.occ_head_from x ⟨#[92]⟩ (p + 1) 1 (Nat.le_refl 1) with ⟨h0, hn⟩ | ⟨i, r, h0, hlo, ha, hn⟩
  · rw [h0, if_neg]
    intro hm
    obtain ⟨j, hj⟩ := List.mem_iff_getElem?.mp hm
    rw [List.getElem?_drop] at hj
    exact hn (p + 1 + j) (by omega) ((StrLaws.subAt_one x 92 _).mpr hj)
  · have hi := (StrLaws.subAt_one x 92 i).mp ha
    have h1 : (x.cps.toList.drop (p + 1))[i - (p + 1)]? = some 92 := by
      rw [List.getElem?_drop, show p + 1 + (i - (p + 1)) = i by omega]; exact hi
    rw [h0, if_pos (List.mem_iff_getElem?.mpr ⟨_, h1⟩), takeWhile_length_of h1]
    · dsimp only; omega
    · intro k hk hk2
      rw [List.getElem?_drop] at hk2
      exact hn (p + 1 + k) (by omega) (by omega) ((StrLaws.subAt_one x 92 _).mpr hk2)
theorem find3_lt {x : Str} {p : Nat} (hp : p < x.length) : Txt.find3 x (Str.ofString "\\") ((p : Int) + 1) < (x.length : Int) := by
  rw [find3_eq hp]
  split
  · rename_i hm
    have h2 : ((x.cps.toList.drop (p + 1)).takeWhile (· != 92)).length < (x.cps.toList.drop (p + 1)).length := by
      rcases Nat.lt_or_ge ((x.cps.toList.drop (p + 1)).takeWhile (· != 92)).length (x.cps.toList.drop (p + 1)).length with h | h
      · exact h
      · have hle := (List.takeWhile_sublist (l := x.cps.toList.drop (p + 1)) (· != 92)).length_le
        have e := (List.takeWhile_sublist (l := x.cps.toList.drop (p + 1)) (· != 92)).eq_of_length (by omega)
        rw [← e] at hm
        have := List.all_eq_true.mp (List.all_takeWhile (p := (· != 92)) (l := x.cps.toList.drop (p + 1))) 92 hm
        simp at this
    rw [List.length_drop] at h2
    have : x.cps.toList.length = x.length := Array.length_toList
    omega
  · omega
theorem item_at {x : Str} {p : Nat} (hp : p < x.length) : ∃ c, x.cps.toList[p]? = some c ∧ Txt.item x (p : Int) = one c ∧ x.cps.toList.drop p = c :: x.cps.toList.drop (p + 1) := by
  have hp' : p < x.cps.toList.length := by rw [Array.length_toList]; exact hp
  refine ⟨x.cps.toList[p], List.getElem?_eq_getElem hp', ?_, List.drop_eq_getElem_cons hp'⟩
  refine item_meets (by omega) ?_
  rw [Int.toNat_natCast, ← Array.getElem?_toList]
  exact List.getElem?_eq_getElem hp'
theorem slice_list {x : Str} {i j : Nat} (h1 : i ≤ j) (h2 : j ≤ x.length) : (Txt.slice x (some (i : Int)) (some (j : Int))).cps.toList = (x.cps.toList.drop i).take (j - i) := by
  rw [eq_of_beq (slice_closesL (x := x) (i := i) (j := j) (by omega) (by omega) (by omega))]
  simp only [Int.toNat_natCast, show ((j : Int) - (i : Int)).toNat = j - i by omega]
theorem one_ne {c d : Nat} (h : (one c != (⟨#[d]⟩ : Str)) = true) : c ≠ d := by
  intro e; rw [e] at h; simp [one] at h
theorem one_eq {c d : Nat} (h : (one c != (⟨#[d]⟩ : Str)) = false) : c = d := by
  simp [one] at h; exact h
section
variable {x : Str} {p : Nat} (hp : p < x.length)
include hp
theorem unesc_raw (h : (Txt.item x (p : Int) != Str.ofString "\\") = true) : ∃ c, Txt.item x (p : Int) = one c ∧ c ∈ x.cps.toList ∧ unesc (x.cps.toList.drop p) = (unesc (x.cps.toList.drop (p + 1))).map (c :: ·) := by
  obtain ⟨c, hc, hi, hd⟩ := item_at hp
  rw [hi, BS] at h
  refine ⟨c, hi, List.mem_of_getElem? hc, ?_⟩
  rw [hd, unesc, if_neg (one_ne h)]
theorem unesc_short (h : (Txt.item x (p : Int) != Str.ofString "\\") = false) (h3 : Txt.find3 x (Str.ofString "\\") ((p : Int) + 1) < (p : Int) + 3) : unesc (x.cps.toList.drop p) = none := by
  obtain ⟨c, hc, hi, hd⟩ := item_at hp
  rw [hi, BS] at h
  rw [find3_eq hp] at h3
  rw [hd, one_eq h, unesc, if_pos rfl]
  by_cases hm : 92 ∈ x.cps.toList.drop (p + 1)
  · rw [if_pos hm] at h3 ⊢
    have hl : ((x.cps.toList.drop (p + 1)).takeWhile (· != 92)).length < 2 := by omega
    generalize hw : (x.cps.toList.drop (p + 1)).takeWhile (· != 92) = a at hl
    match a, hl with
    | [], _ => rfl
    | [b], _ => split <;> first | rfl | (rename_i h; cases h)
    | _ :: _ :: _, hl => simp at hl; omega
  · rw [if_neg hm]
theorem unesc_long (h : (Txt.item x (p : Int) != Str.ofString "\\") = false) (h3 : ¬ Txt.find3 x (Str.ofString "\\") ((p : Int) + 1) < (p : Int) + 3) :
    ∃ (b d : Nat) (ds : List Nat) (f : Nat), Txt.find3 x (Str.ofString "\\") ((p : Int) + 1) = (f : Int) ∧ p + 3 ≤ f ∧ f < x.length ∧ Txt.item x ((p : Int) + 1) = one b ∧ (Txt.slice x (some ((p : Int) + 2)) (some (f : Int))).cps.toList = d :: ds ∧
      unesc (x.cps.toList.drop p) = if b = 120 then (match readC (d :: ds) 0 with | some v => (unesc (x.cps.toList.drop (f + 1))).map (v :: ·) | none => none) else none := by
  obtain ⟨c, hc, hi, hd⟩ := item_at hp
  rw [hi, BS] at h
  have hlt := find3_lt hp
  have hfe := find3_eq hp
  rw [hd, one_eq h]
  have hun : unesc (92 :: x.cps.toList.drop (p + 1)) = if 92 ∈ x.cps.toList.drop (p + 1) then
        match (x.cps.toList.drop (p + 1)).takeWhile (· != 92) with
        | 120 :: d :: ds => match readC (d :: ds) 0 with
          | some v => (unesc ((x.cps.toList.drop (p + 1)).drop (((x.cps.toList.drop (p + 1)).takeWhile (· != 92)).length + 1))).map (v :: ·)
          | none => none
        | _ => none
      else none := by rw [unesc, if_pos rfl]
  rw [hun]
  by_cases hm : 92 ∈ x.cps.toList.drop (p + 1)
  · rw [if_pos hm] at hfe ⊢
    have hpre : (x.cps.toList.drop (p + 1)).takeWhile (· != 92) = (x.cps.toList.drop (p + 1)).take ((x.cps.toList.drop (p + 1)).takeWhile (· != 92)).length := (List.prefix_iff_eq_take.mp (List.takeWhile_prefix _))
    have hl : 2 ≤ ((x.cps.toList.drop (p + 1)).takeWhile (· != 92)).length := by rw [hfe] at h3; omega
    generalize hw : (x.cps.toList.drop (p + 1)).takeWhile (· != 92) = a at hl hfe hpre ⊢
    match a, hl with
    | b :: d :: ds, _ =>
      have hb : x.cps.toList[p + 1]? = some b := by
        have : (x.cps.toList.drop (p + 1))[0]? = some b := by
          have e := congrArg (·[0]?) hpre
          simp only [List.getElem?_cons_zero, List.length_cons] at e
          rw [List.getElem?_take] at e
          simpa using e.symm
        rwa [List.getElem?_drop] at this
      refine ⟨b, d, ds, p + 1 + (b :: d :: ds).length, by rw [hfe], by simp only [List.length_cons]; omega, by rw [hfe] at hlt; omega, ?_, ?_, ?_⟩
      · have : Txt.item x (((p + 1 : Nat) : Int)) = one b := item_meets (by omega) (by rw [Int.toNat_natCast, ← Array.getElem?_toList]; exact hb)
        exact this
      · have hlt' : p + 1 + (b :: d :: ds).length < x.length := by rw [hfe] at hlt; omega
        have e := slice_list (x := x) (i := p + 2) (j := p + 1 + (b :: d :: ds).length) (by simp only [List.length_cons]; omega) (by omega)
        have e2 : ((p + 2 : Nat) : Int) = (p : Int) + 2 := rfl
        rw [e2] at e
        rw [e]
        have e3 := congrArg (List.drop 1) hpre
        rw [List.drop_take, List.drop_drop] at e3
        simp only [List.drop_succ_cons, List.drop_zero] at e3
        refine Eq.trans ?_ e3.symm
        congr 1
        simp only [List.length_cons]; omega
      · rw [List.drop_drop]
        by_cases h120 : b = 120
        · rw [if_pos h120, h120]
          simp only [List.length_cons]
          rfl
        · rw [if_neg h120]
          split
          · rename_i heq; cases heq; exact absurd rfl h120
          · rfl
  · rw [if_neg hm] at hfe
    rw [hfe] at h3; omega
theorem unesc_notx (h : (Txt.item x (p : Int) != Str.ofString "\\") = false) (h3 : ¬ Txt.find3 x (Str.ofString "\\") ((p : Int) + 1) < (p : Int) + 3) (hx : (Txt.item x ((p : Int) + 1) != Str.ofString "x") = true) : unesc (x.cps.toList.drop p) = none := by
  obtain ⟨b, d, ds, f, e1, e2, e3, e4, e5, e6⟩ := unesc_long hp h h3
  have hX : Str.ofString "x" = ⟨#[120]⟩ := by decide +kernel
  rw [e4, hX] at hx
  rw [e6, if_neg (one_ne hx)]
theorem unesc_badcode (h : (Txt.item x (p : Int) != Str.ofString "\\") = false) (h3 : ¬ Txt.find3 x (Str.ofString "\\") ((p : Int) + 1) < (p : Int) + 3)
    (hr : readC (Txt.slice x (some ((p : Int) + 2)) (some (Txt.find3 x (Str.ofString "\\") ((p : Int) + 1)))).cps.toList 0 = none) : unesc (x.cps.toList.drop p) = none := by
  obtain ⟨b, d, ds, f, e1, e2, e3, e4, e5, e6⟩ := unesc_long hp h h3
  rw [e1, e5] at hr
  rw [e6, hr]
  split <;> rfl
theorem unesc_code {v : Nat} (h : (Txt.item x (p : Int) != Str.ofString "\\") = false) (h3 : ¬ Txt.find3 x (Str.ofString "\\") ((p : Int) + 1) < (p : Int) + 3) (hx : (Txt.item x ((p : Int) + 1) != Str.ofString "x") = false)
    (hr : readC (Txt.slice x (some ((p : Int) + 2)) (some (Txt.find3 x (Str.ofString "\\") ((p : Int) + 1)))).cps.toList 0 = some v) :
    ∃ f : Nat, Txt.find3 x (Str.ofString "\\") ((p : Int) + 1) = (f : Int) ∧ p + 3 ≤ f ∧ f < x.length ∧ unesc (x.cps.toList.drop p) = (unesc (x.cps.toList.drop (f + 1))).map (v :: ·) := by
  obtain ⟨b, d, ds, f, e1, e2, e3, e4, e5, e6⟩ := unesc_long hp h h3
  have hX : Str.ofString "x" = ⟨#[120]⟩ := by decide +kernel
  rw [e4, hX] at hx
  rw [e1, e5] at hr
  refine ⟨f, e1, e2, e3, ?_⟩
  rw [e6, if_pos (one_eq hx), hr]
end
theorem unq_none {x : Str} (h1 : alnumName x = false) (h2 : ¬ (x.length : Int) < 2) (h3 : (Txt.item x 0 != Str.ofString "'") = false) (h4 : (Txt.item x ((x.length : Int) - 1) != Str.ofString "'") = false) (h : unesc (innerOf x).cps.toList = none) : unq x = none := by
  unfold unq
  rw [if_neg (by simp [h1]), if_neg h2, if_neg (by simp [h3]), if_neg (by simp [h4]), h]
theorem unq_some {x : Str} {l : List Nat} (h1 : alnumName x = false) (h2 : ¬ (x.length : Int) < 2) (h3 : (Txt.item x 0 != Str.ofString "'") = false) (h4 : (Txt.item x ((x.length : Int) - 1) != Str.ofString "'") = false) (h : unesc (innerOf x).cps.toList = some l) :
    unq x = if (quoted (tx l) != x) = true then none else some (tx l) := by
  unfold unq
  rw [if_neg (by simp [h1]), if_neg h2, if_neg (by simp [h3]), if_neg (by simp [h4]), h]
theorem slice_mem {x : Str} {a b : Option Int} {c : Nat} (h : c ∈ (Txt.slice x a b).cps.toList) : c ∈ x.cps.toList := by
  unfold Txt.slice at h
  split at h
  · exact h
  · simp only [List.mem_filterMap] at h
    obtain ⟨i, _, hi⟩ := h
    rw [← Array.getElem?_toList] at hi
    exact List.mem_of_getElem? hi
theorem one_snoc {vs : List Value} {l : List Nat} {c : Nat} {y : Str} {t : Tok} (h : StrsAre vs (l.map one)) (e : y = one c) : StrsAre (vs ++ [.str y t]) ((l ++ [c]).map one) := by
  rw [List.map_append, e]; exact h.append' (.cons _ _ .nil)
theorem join_one (l : List Nat) : Txt.join (Str.ofString "") (l.map one) = tx l := by
  rw [glued_empty, List.flatMap_map]
  congr 1
  induction l with
  | nil => rfl
  | cons a r ih => rw [List.flatMap_cons, ih]; rfl
theorem one_sum (l : List Nat) : ((l.map one).map (·.length)).sum = l.length := by
  rw [List.map_map]
  induction l with
  | nil => rfl
  | cons a r ih => rw [List.map_cons, List.sum_cons, ih, List.length_cons]; show 1 + _ = _; omega
theorem unesc_push {a b : Option (List Nat)} {U : Option (List Nat)} {l : List Nat} {c : Nat} (h : U = a.map (l ++ ·)) (e : a = b.map (c :: ·)) : U = b.map ((l ++ [c]) ++ ·) := by
  rw [h, e]; cases b <;> simp
theorem snoc_le {l : List Nat} {c : Nat} (h : ∀ k ∈ l, k ≤ 1114111) (hc : c ≤ 1114111) : ∀ k ∈ l ++ [c], k ≤ 1114111 := fun k hk => (List.mem_append.mp hk).elim (h k) fun z => by rw [List.mem_singleton.mp z]; exact hc
end
section
theorem lines_S7 : True := by
  w_top off
  k_with_none
  (k_with "mine: start" => (unfold PS; k_fill; intros; rename_i hret hexc; refine wpAny_call ?_; k_dflt cell_enter))
  (k_with "mine: sub" => (first | exact fun _ h => h | exact fun _ h => List.mem_append_left _ h | (intro _ h; simp only [List.mem_append, List.mem_cons, h, true_or, or_true])))
  (k_with "mine: end" => ((first | refine endB (by assumption) (by k_asm) (by k_asm) (by walk_at "mine: sub") (resB ?_) | refine endI (by assumption) (by k_asm) (by k_asm) (by walk_at "mine: sub") (resI ?_) | refine endS (by assumption) (by k_asm) (by k_asm) (by walk_at "mine: sub") (resS ?_))))
  (k_with "mine: fill" => ((intro t' h' tk' F' N'); (try dsimp only); (try k_sweep); (try k_fold)))
  (k_with "exec While Compare cons nil" => (k_here; refine Mark.out ?_))
  (k_with "exec For Name Name cons nil" => (k_here; refine Mark.out ?_))
  (k_with "exec For Name Call cons nil" => (k_here; refine Mark.out ?_))
  (k_with "exec For Name List cons nil" => (k_here; refine Mark.out ?_))
  (k_with "binaryOp Add str str" => (k_here; (with_reducible show wpAny _ _ (binaryOp Operator.Add (Value.str _ _) (Value.str _ _)) _ _ _); (refine add_str ?_ (by first | (walk_at "mine: size") | fail)); intro _ _))
  (k_with "mine: same" => (intro z h2 h3; (simp only [List.forall_mem_cons, List.not_mem_nil, false_implies, implies_true, and_true, ne_eq] at h2); first | ((simp only [List.contains_cons, List.contains_nil, Bool.or_false, Bool.or_eq_false_iff, beq_eq_false_iff_ne, ne_eq] at h3); (simp [h2, h3, kstB]; done)) | (simp [h2, kstB]; done)))
  (k_with "call builtin:list.append" => (k_here; (with_reducible show wpAny _ _ (call (Value.builtin _) [Value.ref _, _]) _ _ _); k_dflt (refine append_K (by first | (k_asm) | fail) (by first | (k_asm) | fail) (by first | (k_upd) | fail) ?_ (by first | (walk_at "mine: size") | fail); k_whole); intro h' F' N'; (try simp only [List.push_toArray] at N'); (try k_sweep)))
  (k_with "InvEndN" => (refine Mark.out ?_))
  (k_with "KswEnd" => (refine Mark.out ?_))
  (k_with "call builtin:str.join" => (k_here; refine Mark.out ?_))
  (k_with "mine: sameN" => (intro z h1 h2 h3; (simp only [List.forall_mem_cons, List.not_mem_nil, false_implies, implies_true, and_true, ne_eq] at h2); first | ((simp only [List.contains_cons, List.contains_nil, Bool.or_false, Bool.or_eq_false_iff, beq_eq_false_iff_ne, ne_eq] at h3); (simp [h1, h2, h3, kstB]; done)) | (simp [h1, h2, kstB]; done)))
  (k_with "exec Raise some none" => (k_here; k_dflt (refine Raise_fault (by exact rfl) ?_)))
  (k_with "mine: fault" => (k_here; k_dflt (refine fault_call (by first | (k_asm) | fail) (by first | (k_asm) | fail) (by first | (k_asm) | fail) (by first | (k_asm) | fail) (by first | (k_asm) | fail) (by first | (first | exact rfl | assumption) | fail) (by first | (ktr_room) | fail) (by first | (ktr_units) | fail) ?_); (intro e' d' tt' h' tk' F' N' hne'); (refine ⟨_, _, _, rfl, by k_in, (N' _ (List.Mem.head _)).1, ?_⟩); (try dsimp only); (try k_sweep)))
  (k_with "mine: endX" => (refine endX (by assumption) (by k_asm) (by assumption) (by assumption) (by walk_at "mine: sub") ?_))
  (k_with "mine: endR" => ((first | refine endB (by assumption) (by k_asm) (by k_asm) (by walk_at "mine: sub") ?_ | refine endI (by assumption) (by k_asm) (by k_asm) (by walk_at "mine: sub") ?_ | refine endS (by assumption) (by k_asm) (by k_asm) (by walk_at "mine: sub") ?_)))
  (k_with "mine: size" => (rw [sizeLine_eq]; (first | omega | (simp only [Str.length_append, tx_length, len_item, List.length_cons, List.length_nil, List.length_append, List.size_toArray, Array.size_push]; omega))))
  (k_with "mine: filled" => ((intro t' h' tk' F' N'); (try dsimp only); (try k_sweep); (try k_fold)))
  trivial
theorem find3_ok {x : Str} {p : Nat} (h : (p : Int) < (x.length : Int)) : Txt.find3 x (Str.ofString "\\") ((p : Int) + 1) < (x.length : Int) := find3_lt (by omega)
theorem lines_S7_1 : True := by
  (k_with "call ref cons nil" => (walk_at "mine: fault"))
  (k_with "call ref cons nil" => (k_here; k_dflt (refine PS.ok (is_alnum_name_spec _ _ _ _ _ _ ) (by first | (k_asm) | fail) (by first | (k_asm) | fail) (by first | (k_asm) | fail) (by first | (k_asm) | fail) (by first | (k_asm) | fail) (by first | (first | exact rfl | assumption) | fail) (by first | (ktr_room) | fail) (by first | (ktr_units) | fail) ?_); walk_at "mine: filled"))
  (k_with "call ref cons nil" => (k_here; k_dflt (refine PS.opt (read_code_spec _ _ _ _ _ _ ) (by first | (k_asm) | fail) (by first | (k_asm) | fail) (by first | (k_asm) | fail) (by first | (k_asm) | fail) (by first | (k_asm) | fail) (by first | (first | exact rfl | assumption) | fail) (by first | (ktr_room) | fail) (by first | (ktr_units) | fail) (fun r' hr' t' h' tk' F' N' => ?_) (fun hr' e' g2' h' tk' F2' U' R' => ?_)); (all_goals (try dsimp only)); (all_goals (try k_sweep)); (all_goals (try k_fold))))
  (k_with "call builtin:chr" => (k_here; (have hle' := readC_le (Nat.zero_le _) (show readC _ 0 = some _ by assumption)); (refine chr_of_range (by omega) (by omega) ?_)))
  (k_with "call ref cons nil" => (k_here; k_dflt (refine PS.ok (quoted_name_spec _ _ _ _ _ _ (by first | (assumption) | fail) (by first | (assumption) | fail)) (by first | (k_asm) | fail) (by first | (k_asm) | fail) (by first | (k_asm) | fail) (by first | (k_asm) | fail) (by first | (k_asm) | fail) (by first | (first | exact rfl | assumption) | fail) (by first | (ktr_room) | fail) (by first | (ktr_units) | fail) ?_); walk_at "mine: filled"))
  trivial
theorem unquoted_name_spec (w mean mg mb) (x : Str) (t : Tok) (hl : x.length ≤ 50000) (hc : ∀ c ∈ x.cps.toList, c ≤ 1114111) : PS w mean mg mb 6 229 [.str x t] ((unq x).map fun (y : Str) t => .str y t) := by
  walk_at "mine: start"
  have hw : (Str.ofString "wrong name in a listing: ").length = 25 := by decide +kernel
  k_steps
  · walk_at "mine: endR"; exact map_some' (by unfold unq; simp_all)
  · walk_at "mine: endX"; exact map_none' (by unfold unq; simp_all)
  · walk_at "mine: endX"; exact map_none' (by unfold unq; simp_all)
  · walk_at "mine: endX"; exact map_none' (by unfold unq; simp_all)
  unfold Mark
  rename Fr _ _ _ _ => lF
  rename News _ _ _ _ => lN
  (with_unfolding_all refine' ksw_while (σ := List Value × List Nat × Nat × Nat × Tok) (fun c => (_, listOf c.1.toArray c.2.2.1) :: _) (fun c => [(Str.ofString "place", .int c.2.2.2.1 c.2.2.2.2)]) (fun c => StrsAre c.1 (c.2.1.map one)) [Str.ofString "end"] (fun c => unesc (innerOf x).cps.toList = (unesc ((innerOf x).cps.toList.drop c.2.2.2.1)).map (c.2.1 ++ ·) ∧ c.2.2.2.1 ≤ (innerOf x).length ∧ c.2.1.length ≤ c.2.2.2.1 ∧ ∀ k ∈ c.2.1, k ≤ 1114111) (fun c => (innerOf x).length - c.2.2.2.1) ([], [], 0, 0, _) lF lN .nil (List.forall_mem_cons.mpr ⟨by rfl, List.forall_mem_nil _⟩) ⟨by simp, Nat.zero_le _, Nat.le_refl _, fun _ h => nomatch h⟩ ?_)
  clear lF lN
  rintro ⟨vs, l, nn, p, tp⟩ u h tk hF ⟨hP1, hP2, hP3, hP4⟩ F N
  dsimp only at hF hP1 hP2 hP3 hP4 F N
  have hlI : (Txt.slice x (some 1) (some ((x.length : Int) - 1))).length ≤ x.length := by assumption
  have hvs : vs.length ≤ 50000 := by
    have : (innerOf x).length ≤ x.length := hlI
    rw [hF.length, List.length_map]; omega
  have hf3 : (p : Int) < ((Txt.slice x (some 1) (some ((x.length : Int) - 1))).length : Int) → Txt.find3 (Txt.slice x (some 1) (some ((x.length : Int) - 1))) (Str.ofString "\\") ((p : Int) + 1) < ((Txt.slice x (some 1) (some ((x.length : Int) - 1))).length : Int) := find3_ok
  try k_fold
  k_steps
  · obtain ⟨c, e1, e2, e3⟩ := unesc_raw (Int.ofNat_lt.mp (by with_reducible assumption)) (by with_reducible assumption)
    unfold Mark
    rename Fr _ _ _ _ => lF
    rename News _ _ _ _ => lN
    try simp only [List.push_toArray, List.append_eq] at lN
    refine ksw_end (vs ++ [_], l ++ [c], nn + 1, p + 1, _) lF lN (List.forall_mem_cons.mpr ⟨List.mem_cons_self, fun p hp => List.mem_cons_of_mem _ hp⟩) (one_snoc hF e1) (List.forall_mem_cons.mpr ⟨vint rfl, List.forall_mem_nil _⟩) (by walk_at "mine: same") ⟨unesc_push hP1 e3, ?_, ?_, snoc_le hP4 (hc c (slice_mem e2))⟩ ?_
    · have : (p : Int) < ((Txt.slice x (some 1) (some ((x.length : Int) - 1))).length : Int) := by with_reducible assumption
      show p + 1 ≤ (Txt.slice x (some 1) (some ((x.length : Int) - 1))).length
      omega
    · show (l ++ [c]).length ≤ p + 1
      rw [List.length_append, List.length_cons, List.length_nil]; omega
    · have : (p : Int) < ((Txt.slice x (some 1) (some ((x.length : Int) - 1))).length : Int) := by with_reducible assumption
      show (Txt.slice x (some 1) (some ((x.length : Int) - 1))).length - (p + 1) < (Txt.slice x (some 1) (some ((x.length : Int) - 1))).length - p
      omega
  · walk_at "mine: endX"
    exact map_none' (unq_none (by with_reducible assumption) (by with_reducible assumption) (by with_reducible assumption) (by with_reducible assumption) (hP1.trans (map_none' (unesc_short (Int.ofNat_lt.mp (by with_reducible assumption)) (by with_reducible assumption) (by with_reducible assumption)))))
  · walk_at "mine: endX"
    exact map_none' (unq_none (by with_reducible assumption) (by with_reducible assumption) (by with_reducible assumption) (by with_reducible assumption) (hP1.trans (map_none' (unesc_notx (Int.ofNat_lt.mp (by with_reducible assumption)) (by with_reducible assumption) (by with_reducible assumption) (by with_reducible assumption)))))
  · obtain ⟨f, e1, e2, e3, e4⟩ := unesc_code (Int.ofNat_lt.mp (by with_reducible assumption)) (by with_reducible assumption) (by with_reducible assumption) (by with_reducible assumption) (by with_reducible assumption)
    unfold Mark
    rename Fr _ _ _ _ => lF
    rename News _ _ _ _ => lN
    try simp only [List.push_toArray, List.append_eq] at lN
    refine ksw_end (vs ++ [_], l ++ [_], nn + 1, f + 1, _) lF lN (List.forall_mem_cons.mpr ⟨List.mem_cons_self, fun p hp => List.mem_cons_of_mem _ hp⟩) (one_snoc hF (one_toNat _)) (List.forall_mem_cons.mpr ⟨vint (by rw [e1]; rfl), List.forall_mem_nil _⟩) (by walk_at "mine: same") ⟨unesc_push hP1 e4, e3, ?_, snoc_le hP4 (by with_reducible assumption)⟩ ?_
    · show (l ++ [_]).length ≤ f + 1
      rw [List.length_append, List.length_cons, List.length_nil]; omega
    · show (innerOf x).length - (f + 1) < (innerOf x).length - p
      have : f < (innerOf x).length := e3
      omega
  · walk_at "mine: endX"
    exact map_none' (unq_none (by with_reducible assumption) (by with_reducible assumption) (by with_reducible assumption) (by with_reducible assumption) (hP1.trans (map_none' (unesc_badcode (Int.ofNat_lt.mp (by with_reducible assumption)) (by with_reducible assumption) (by with_reducible assumption) (by with_reducible assumption)))))
  · unfold Mark
    rename News _ _ _ _ => lN
    have hge : ¬ (p : Int) < ((Txt.slice x (some 1) (some ((x.length : Int) - 1))).length : Int) := by with_reducible assumption
    have hend : unesc (innerOf x).cps.toList = some l := by
      have hz : (innerOf x).cps.toList.drop p = [] := List.drop_eq_nil_of_le (by rw [Array.length_toList]; exact (by show (Txt.slice x (some 1) (some ((x.length : Int) - 1))).length ≤ p; omega))
      rw [hz, unesc] at hP1
      simpa using hP1
    have hll : l.length ≤ 50000 := by
      have : (innerOf x).length ≤ x.length := hlI
      omega
    refine join_list (News.isList lN List.mem_cons_self) (by exact hF) ?_ ?_
    · have h0 : (Str.ofString "").length = 0 := by decide +kernel
      rw [h0, one_sum]; omega
    intro t' k
    rw [join_one]
    have ht1 : (tx l).length ≤ 100000 := by rw [tx_length]; omega
    have ht2 : ∀ c ∈ (tx l).cps.toList, c ≤ 1114111 := hP4
    skip
    try k_fold
    k_steps
    · walk_at "mine: endX"
      exact map_none' ((unq_some (by with_reducible assumption) (by with_reducible assumption) (by with_reducible assumption) (by with_reducible assumption) hend).trans (if_pos (by with_reducible assumption)))
    · walk_at "mine: endR"
      exact map_some' ((unq_some (by with_reducible assumption) (by with_reducible assumption) (by with_reducible assumption) (by with_reducible assumption) hend).trans (if_neg (by simp_all)))
end
section
theorem lines_S8 : True := by
  w_top off
  k_with_none
  (k_with "mine: start" => (unfold PS; k_fill; intros; rename_i hret hexc; refine wpAny_call ?_; k_dflt cell_enter))
  (k_with "mine: sub" => (first | exact fun _ h => h | exact fun _ h => List.mem_append_left _ h | (intro _ h; simp only [List.mem_append, List.mem_cons, h, true_or, or_true])))
  (k_with "mine: end" => ((first | refine endB (by assumption) (by k_asm) (by k_asm) (by walk_at "mine: sub") (resB ?_) | refine endI (by assumption) (by k_asm) (by k_asm) (by walk_at "mine: sub") (resI ?_) | refine endS (by assumption) (by k_asm) (by k_asm) (by walk_at "mine: sub") (resS ?_))))
  (k_with "mine: fill" => ((intro t' h' tk' F' N'); (try dsimp only); (try k_sweep); (try k_fold)))
  (k_with "exec While Compare cons nil" => (k_here; refine Mark.out ?_))
  (k_with "exec For Name Name cons nil" => (k_here; refine Mark.out ?_))
  (k_with "exec For Name Call cons nil" => (k_here; refine Mark.out ?_))
  (k_with "exec For Name List cons nil" => (k_here; refine Mark.out ?_))
  (k_with "binaryOp Add str str" => (k_here; (with_reducible show wpAny _ _ (binaryOp Operator.Add (Value.str _ _) (Value.str _ _)) _ _ _); (refine add_str ?_ (by first | (walk_at "mine: size") | fail)); intro _ _))
  (k_with "mine: same" => (intro z h2 h3; (simp only [List.forall_mem_cons, List.not_mem_nil, false_implies, implies_true, and_true, ne_eq] at h2); first | ((simp only [List.contains_cons, List.contains_nil, Bool.or_false, Bool.or_eq_false_iff, beq_eq_false_iff_ne, ne_eq] at h3); (simp [h2, h3, kstB]; done)) | (simp [h2, kstB]; done)))
  (k_with "call builtin:list.append" => (k_here; (with_reducible show wpAny _ _ (call (Value.builtin _) [Value.ref _, _]) _ _ _); k_dflt (refine append_K (by first | (k_asm) | fail) (by first | (k_asm) | fail) (by first | (k_upd) | fail) ?_ (by first | (walk_at "mine: size") | fail); k_whole); intro h' F' N'; (try simp only [List.push_toArray] at N'); (try k_sweep)))
  (k_with "InvEndN" => (refine Mark.out ?_))
  (k_with "KswEnd" => (refine Mark.out ?_))
  (k_with "call builtin:str.join" => (k_here; refine Mark.out ?_))
  (k_with "mine: sameN" => (intro z h1 h2 h3; (simp only [List.forall_mem_cons, List.not_mem_nil, false_implies, implies_true, and_true, ne_eq] at h2); first | ((simp only [List.contains_cons, List.contains_nil, Bool.or_false, Bool.or_eq_false_iff, beq_eq_false_iff_ne, ne_eq] at h3); (simp [h1, h2, h3, kstB]; done)) | (simp [h1, h2, kstB]; done)))
  (k_with "exec Raise some none" => (k_here; k_dflt (refine Raise_fault (by exact rfl) ?_)))
  (k_with "mine: fault" => (k_here; k_dflt (refine fault_call (by first | (k_asm) | fail) (by first | (k_asm) | fail) (by first | (k_asm) | fail) (by first | (k_asm) | fail) (by first | (k_asm) | fail) (by first | (first | exact rfl | assumption) | fail) (by first | (ktr_room) | fail) (by first | (ktr_units) | fail) ?_); (intro e' d' tt' h' tk' F' N' hne'); (refine ⟨_, _, _, rfl, by k_in, (N' _ (List.Mem.head _)).1, ?_⟩); (try dsimp only); (try k_sweep)))
  (k_with "mine: endX" => (refine endX (by assumption) (by k_asm) (by assumption) (by assumption) (by walk_at "mine: sub") ?_))
  (k_with "mine: endR" => ((first | refine endB (by assumption) (by k_asm) (by k_asm) (by walk_at "mine: sub") ?_ | refine endI (by assumption) (by k_asm) (by k_asm) (by walk_at "mine: sub") ?_ | refine endS (by assumption) (by k_asm) (by k_asm) (by walk_at "mine: sub") ?_)))
  (k_with "mine: size" => (rw [sizeLine_eq]; (first | omega | (simp only [Str.length_append, tx_length, len_item, List.length_cons, List.length_nil, List.length_append, List.size_toArray, Array.size_push]; omega))))
  (k_with "mine: filled" => ((intro t' h' tk' F' N'); (try dsimp only); (try k_sweep); (try k_fold)))
  trivial
section
open PySem.Builtin PySem.Builtin.Str PySem.Builtin.Int PySem.Calls
theorem nolen_lri : typeLookup (.type "list_reverseiterator") "__len__" = pure none := by rw [typeLookup_type, builtinLookup_eq_fast]; kernel_rfl
theorem hint_lri : typeLookup (.type "list_reverseiterator") "__length_hint__" = pure (some (.builtin "list_reverseiterator.__length_hint__")) := by rw [typeLookup_type, builtinLookup_eq_fast]; kernel_rfl
section
variable {prog : Program} {w : World} {A : Around} {E : Value → Shared → Prop} {s : Shared} {I : Addr} {fp wr : List Addr} {G : Array GenState → Array GenState → Prop} {n : Nat} {P : Nat → Value → Prop} {St : Nat → Shared → Prop}
/-- the items of a reversed list gathered -/
theorem collect_lri {Q : List Value → Shared → Prop}
    (W : WalksS prog w A.in1 I fp wr G n P St) (hT : ∀ i s, St i s → s.TypeIs (.ref I) "list_reverseiterator") (hst : St 0 s) (hfp : ∀ b ∈ fp, b < s.heap.objs.size) (hI : I ∈ fp)
    (hQ : ∀ s' acc, Moved wr G s s' → ItemsOf P acc n → Q acc.toList s') (hn : n ≤ sizeLine) : wpAny (model prog w) A (collect (.ref I)) Q E s := by
  have hSf : s.heap.objs.size ∉ fp := fun hm => Nat.lt_irrefl _ (hfp _ hm)
  have hSI : s.heap.objs.size ≠ I := fun e => hSf (e ▸ hI)
  unfold collect
  refine wpAny_bind (wpAny_runValue (codeAny_builtin PySem.F.entry_proto_collect ?_))
  rw [Around.under_plainId PySem.F.plain_proto_collect _]
  show wpAny _ A.in1 (newList [] >>= fun l => again (.builtin "list.__iadd__" ⟨[l, .ref I], []⟩)) _ _ s
  refine wpAny_bind (wpAny_newObj_type ?_)
  refine wpAny_pure ⟨plainId_quiet PySem.F.plain_list_iadd _, codeAny_builtin PySem.F.entry_list_iadd ?_⟩
  rw [Around.under_plainId PySem.F.plain_list_iadd _]
  have hst₁ := W.frame 0 s (s.heap.push { cls := .type "list", data := .seq ([] : List Value).toArray }) s.toks hst (Nat.le_refl _) fun b _ o e => Heap.get?_push_of_some _ e
  have hS₁ : (s.heap.push { cls := .type "list", data := .seq ([] : List Value).toArray }).get? s.heap.objs.size = some { cls := .type "list", data := .seq ([] : List Value).toArray } := Heap.get?_push_size _ rfl
  have h1 : Builtin.List.listSameRef (.ref s.heap.objs.size) (.ref I) = false := by simp [Builtin.List.listSameRef, hSI]
  show wpAny _ A.in1 (Builtin.List.listExtendWith (.ref s.heap.objs.size) (.ref I) (.ref s.heap.objs.size)) _ _ _
  unfold Builtin.List.listExtendWith
  refine wpAny_bind (wpAny_typeOf (hT 0 _ hst₁) ?_)
  rw [if_neg (by rw [h1]; decide)]
  refine wpAny_bind (W.self 0 _ _ _ hst₁ ?_)
  refine wpAny_bind (wpAny_holding ?_)
  unfold Builtin.List.listLengthHint
  refine wpAny_bind (wpAny_specialOf (hT 0 _ hst₁) nolen_lri ?_)
  show wpAny _ A.in1 (specialOf (Value.ref I) (Str.ofString "__length_hint__") >>= _) _ _ _
  refine wpAny_bind (wpAny_specialOf (hT 0 _ hst₁) hint_lri ?_)
  (generalize hid : ("list_reverseiterator.__length_hint__" : String) = id0; (fail_if_success (clear hid id0)); wp_delta; rw [show splitId id0 = some ("list_reverseiterator", "__length_hint__") from by subst hid; decide +kernel]; subst hid)
  refine wpAny_bind (wpAny_isInstance (b := true) (hT 0 _ hst₁) (by rw [isSubtype_type]; kernel_rfl) ?_)
  refine wpAny_pure ?_
  rw [if_neg (by decide)]
  refine wpAny_pure ⟨plainId_quiet PySem.F.plain_extend_loop _, codeAny_extend_loopS W hn _ hSf _ n 0 _ _ _ rfl (Nat.zero_le _) hst₁ hS₁ (ItemsOf.nil P) fun s' acc' c' hm hS' hacc => ?_⟩
  show wpAny _ A (load s.heap.objs.size >>= _) _ _ s'
  refine wpAny_bind (wpAny_load hS' ?_)
  exact wpAny_pure (hQ s' acc' (Moved.drop_new (o := { cls := .type "list", data := .seq ([] : List Value).toArray }) (tk := s.toks) hm (Nat.le_refl _)) hacc)
end
section
variable {prog : Program} {w : World} {A : Around} {E : Value → Shared → Prop} {s : Shared} {h₀ : Heap} {L : Addr} {m : Str → Option Value} {x : Str} {t : Tok} {Q : Value → Shared → Prop}
/-- sep.join(reversed(a made list of texts)) -/
theorem join_rev {I l : Addr} {vs : List Value} {ys : List Str} {nn : Nat} {news : List (Addr × Obj)} (hh : A.handled = none) (F : Fr h₀ L s.heap m) (N : News h₀ L s.heap ((I, revObj l ((vs.length : Int) - 1)) :: (l, listOf vs.toArray nn) :: news))
    (hne : ∀ p ∈ (l, listOf vs.toArray nn) :: news, p.1 ≠ I) (hi : StrsAre vs ys) (hok : (ys.map (·.length)).sum + ys.length * x.length ≤ 16777216) (hn : vs.length ≤ sizeLine)
    (h : ∀ h' tk' t', Fr h₀ L h' m → News h₀ L h' ((l, listOf vs.toArray nn) :: news) → Q (.str (Txt.join x ys.reverse) t') { s with heap := h', toks := tk' }) :
    wpAny (model prog w) A (call (.builtin "str.join") [.str x t, .ref I]) Q E s := by
  have hl : s.heap.IsList l vs.toArray := News.isList (N := fun p hp => N p (.tail _ hp)) (.head _)
  have hI := N _ (.head _)
  have hit : s.heap.IsRevIter I l (((vs.toArray.size : Nat) : Int) - 1 - ((0 : Nat) : Int)) := ⟨_, hI.1, rfl, by simp [revObj]⟩
  have hlI : l ≠ I := hne _ (.head _)
  have W := (Walks.listRev (prog := prog) (w := w) (A := A.in1.in1) hh I l hlI vs.toArray).toS
  have hsz : vs.toArray.size ≤ sizeLine := by simpa using hn
  refine wpAny_call (codeAny_call_builtin PySem.F.slot_str_join.plain PySem.F.entry_str_join (PySem.F.slot_str_join.check _ _ _ _ _ _ _ _ (typeIs_str _ _ _) (PySem.F.args_str_join_2 _ _) ?_))
  rw [join_tree_other]
  refine wpAny_bind (wpAny_typeOf hit.typeIs ?_)
  show wpAny _ A.in1 ((pyIter (.ref I)).tryCatch _ >>= fun it => collect it >>= fun items => joinTail x items) _ _ s
  refine wpAny_bind (wpAny_tryCatch (wpAny_pyIter_revIter hit ?_))
  refine wpAny_bind (collect_lri W (fun i s st => st.2.1.typeIs) ⟨Nat.zero_le _, hit, hl⟩ (fun b hb => ?_) (.head _) (fun s' acc hm hacc => ?_) hsz)
  · rcases List.mem_cons.mp hb with rfl | hb
    · exact Heap.lt_size hI.1
    · rw [List.mem_singleton.mp hb]; exact Heap.lt_size (N _ (.tail _ (.head _))).1
  have e : acc.toList = vs.reverse := by
    refine List.ext_getElem? fun i => ?_
    rw [Array.getElem?_toList]
    have hs : acc.size = vs.length := by rw [hacc.1]; simp
    by_cases hi : i < vs.length
    · have hv := hacc.2 i acc[i] (by simp [hs, hi])
      simp only [List.size_toArray, List.getElem?_toArray] at hv
      rw [List.getElem?_reverse hi, hv]; exact Array.getElem?_eq_getElem (by omega)
    · rw [Array.getElem?_eq_none (by omega), List.getElem?_eq_none (by simp; omega)]
  have hrev : StrsAre vs.reverse ys.reverse := by
    clear e hacc hm hit hl hI hok hn W hsz h N hne
    induction hi with
    | nil => exact .nil
    | cons y t h ih => rw [List.reverse_cons, List.reverse_cons]; exact ih.append' (.cons _ _ .nil)
  obtain ⟨lt, hv, ht⟩ := strsAre_values hrev
  rw [e, hv]
  have hok' : JoinOk x (lt.map (·.1)) = true := by
    rw [ht]
    refine joinOk_of ?_
    rw [List.map_reverse, List.sum_reverse, List.length_reverse]; exact hok
  have hok2 := hok'
  unfold JoinOk at hok2
  rw [Bool.not_eq_true'] at hok2
  have g : Gives (joinTail x (strValues lt)) (joinMade x lt) := by
    have g0 := gives_joinTail x lt hok2
    cases lt with
    | nil => exact g0
    | cons p r => cases r with
      | nil => exact g0
      | cons q r' => exact g0
  refine g prog w A (wants Q E) s' (post_join lt ⟨joinFit_length hok2, fun t' k => ?_⟩)
  rw [ht]
  have es : ({ s' with toks := k } : Shared) = { s with heap := s'.heap, toks := k } := by
    obtain ⟨sh, sg, sd, st, so⟩ := s'
    have h1 := hm.gens
    have h2 := hm.drawn
    have h3 := hm.os
    dsimp only at h1 h2 h3
    rw [h1, h2, h3]
  rw [es]
  have keep : ∀ b o, b ≠ I → s.heap.get? b = some o → s'.heap.get? b = some o := fun b o hb q => hm.heap b o (fun hmem => hb (List.mem_singleton.mp hmem)) q
  obtain ⟨oL, a1, a2, hL, a3⟩ := F.ns
  refine h s'.heap k t' ⟨⟨oL, a1, a2, keep _ _ (fun z => hI.2.1 z.symm) hL, a3⟩, fun b o q => keep b o (fun z => by rw [z, hI.2.2] at q; cases q) (F.keep b o q), F.above⟩ (fun p hp => ?_)
  exact ⟨keep _ _ (hne p hp) (N p (.tail _ hp)).1, (N p (.tail _ hp)).2⟩
end
end
end
section
theorem lines_N1 : True := by
  w_top off
  k_with_none
  (k_with "mine: start" => (unfold PS; k_fill; intros; rename_i hret hexc; refine wpAny_call ?_; k_dflt cell_enter))
  (k_with "mine: sub" => (first | exact fun _ h => h | exact fun _ h => List.mem_append_left _ h | (intro _ h; simp only [List.mem_append, List.mem_cons, h, true_or, or_true])))
  (k_with "mine: end" => ((first | refine endB (by assumption) (by k_asm) (by k_asm) (by walk_at "mine: sub") (resB ?_) | refine endI (by assumption) (by k_asm) (by k_asm) (by walk_at "mine: sub") (resI ?_) | refine endS (by assumption) (by k_asm) (by k_asm) (by walk_at "mine: sub") (resS ?_))))
  (k_with "mine: fill" => ((intro t' h' tk' F' N'); (try dsimp only); (try k_sweep); (try k_fold)))
  (k_with "exec While Compare cons nil" => (k_here; refine Mark.out ?_))
  (k_with "exec For Name Name cons nil" => (k_here; refine Mark.out ?_))
  (k_with "exec For Name Call cons nil" => (k_here; refine Mark.out ?_))
  (k_with "exec For Name List cons nil" => (k_here; refine Mark.out ?_))
  (k_with "binaryOp Add str str" => (k_here; (with_reducible show wpAny _ _ (binaryOp Operator.Add (Value.str _ _) (Value.str _ _)) _ _ _); (refine add_str ?_ (by first | (walk_at "mine: size") | fail)); intro _ _))
  (k_with "mine: same" => (intro z h2 h3; (simp only [List.forall_mem_cons, List.not_mem_nil, false_implies, implies_true, and_true, ne_eq] at h2); first | ((simp only [List.contains_cons, List.contains_nil, Bool.or_false, Bool.or_eq_false_iff, beq_eq_false_iff_ne, ne_eq] at h3); (simp [h2, h3, kstB]; done)) | (simp [h2, kstB]; done)))
  (k_with "call builtin:list.append" => (k_here; (with_reducible show wpAny _ _ (call (Value.builtin _) [Value.ref _, _]) _ _ _); k_dflt (refine append_K (by first | (k_asm) | fail) (by first | (k_asm) | fail) (by first | (k_upd) | fail) ?_ (by first | (walk_at "mine: size") | fail); k_whole); intro h' F' N'; (try simp only [List.push_toArray] at N'); (try k_sweep)))
  (k_with "InvEndN" => (refine Mark.out ?_))
  (k_with "KswEnd" => (refine Mark.out ?_))
  (k_with "call builtin:str.join" => (k_here; refine Mark.out ?_))
  (k_with "mine: sameN" => (intro z h1 h2 h3; (simp only [List.forall_mem_cons, List.not_mem_nil, false_implies, implies_true, and_true, ne_eq] at h2); first | ((simp only [List.contains_cons, List.contains_nil, Bool.or_false, Bool.or_eq_false_iff, beq_eq_false_iff_ne, ne_eq] at h3); (simp [h1, h2, h3, kstB]; done)) | (simp [h1, h2, kstB]; done)))
  (k_with "exec Raise some none" => (k_here; k_dflt (refine Raise_fault (by exact rfl) ?_)))
  (k_with "mine: fault" => (k_here; k_dflt (refine fault_call (by first | (k_asm) | fail) (by first | (k_asm) | fail) (by first | (k_asm) | fail) (by first | (k_asm) | fail) (by first | (k_asm) | fail) (by first | (first | exact rfl | assumption) | fail) (by first | (ktr_room) | fail) (by first | (ktr_units) | fail) ?_); (intro e' d' tt' h' tk' F' N' hne'); (refine ⟨_, _, _, rfl, by k_in, (N' _ (List.Mem.head _)).1, ?_⟩); (try dsimp only); (try k_sweep)))
  (k_with "mine: endX" => (refine endX (by assumption) (by k_asm) (by assumption) (by assumption) (by walk_at "mine: sub") ?_))
  (k_with "mine: endR" => ((first | refine endB (by assumption) (by k_asm) (by k_asm) (by walk_at "mine: sub") ?_ | refine endI (by assumption) (by k_asm) (by k_asm) (by walk_at "mine: sub") ?_ | refine endS (by assumption) (by k_asm) (by k_asm) (by walk_at "mine: sub") ?_)))
  (k_with "mine: size" => (rw [sizeLine_eq]; (first | omega | (simp only [Str.length_append, tx_length, len_item, List.length_cons, List.length_nil, List.length_append, List.size_toArray, Array.size_push]; omega))))
  (k_with "mine: filled" => ((intro t' h' tk' F' N'); (try dsimp only); (try k_sweep); (try k_fold)))
  trivial
/-! decimal words -/
abbrev AllDig (l : List Nat) : Prop := PySem.NumText.AllDigits l
abbrev digVal (l : List Nat) : Nat := PySem.NumText.digitsVal l
def dec (n : Nat) : List Nat := (Nat.toDigits 10 n).map Char.toNat
theorem dec_cps (n : Nat) : (Str.ofString (toString ((n : Nat) : Int))).cps.toList = dec n := KIN.signs_num n
theorem dec_str (n : Nat) : Str.ofString (toString ((n : Nat) : Int)) = tx (dec n) := by
  rw [← dec_cps]; rfl
theorem dec_all (n : Nat) : AllDig (dec n) := by
  intro c hc
  obtain ⟨ch, hch, e⟩ := List.mem_map.mp hc
  rw [← e]
  exact digit_range (Nat.isDigit_of_mem_toDigits (by decide) (by decide) hch)
theorem dec_val (n : Nat) : digVal (dec n) = n := KIN.val_back n
theorem dec_ne (n : Nat) : dec n ≠ [] := by
  unfold dec; rw [ne_eq, List.map_eq_nil_iff]; exact Nat.toDigits_ne_nil
theorem dec_len {n k : Nat} (hk : 0 < k) (h : n < 10 ^ k) : (dec n).length ≤ k := by
  unfold dec; rw [List.length_map]; exact (Nat.length_toDigits_le_iff (by decide) hk).mpr h
theorem dec_small {n : Nat} (h : n < 10) : dec n = [48 + n] := by
  unfold dec
  rw [Nat.toDigits_of_lt_base h, PySem.NumText.digitChar_of _ h]
  show [(Char.ofNat (48 + n)).toNat] = _
  have t : ∀ k, k < 10 → (Char.ofNat (48 + k)).toNat = 48 + k := by decide
  rw [t n h]
theorem map_ofNat {l : List Nat} (h : AllDig l) : (l.map Char.ofNat).map Char.toNat = l := by
  induction l with
  | nil => rfl
  | cons c r ih =>
    have t : ∀ k, k < 10 → (Char.ofNat (48 + k)).toNat = 48 + k := by decide
    have hc := h.head
    rw [List.map_cons, List.map_cons, ih h.tail, show c = 48 + (c - 48) by omega, t (c - 48) (by omega)]
theorem dec_back {c : Nat} {r : List Nat} (h : AllDig (c :: r)) (hc : 49 ≤ c) : dec (digVal (c :: r)) = c :: r := by
  unfold dec
  rw [PySem.NumText.toDigits_digitsVal r.length (c :: r) rfl h (Or.inr ⟨c, r, rfl, hc⟩)]
  exact map_ofNat h
theorem foldl_app (b : List Nat) (a : Nat) : b.foldl (fun acc c => acc * 10 + (c - 48)) a = a * 10 ^ b.length + digVal b := by
  induction b generalizing a with
  | nil => simp [digVal, PySem.NumText.digitsVal]
  | cons c r ih =>
    unfold digVal PySem.NumText.digitsVal at ih ⊢
    rw [List.foldl_cons, ih, List.foldl_cons, ih (0 * 10 + (c - 48)), List.length_cons, Nat.pow_succ, Nat.add_mul, Nat.zero_mul, Nat.zero_add, Nat.mul_assoc, Nat.mul_comm 10, Nat.add_assoc]
theorem digVal_app (a b : List Nat) : digVal (a ++ b) = digVal a * 10 ^ b.length + digVal b := by
  rw [← foldl_app b (digVal a)]
  unfold digVal PySem.NumText.digitsVal
  rw [List.foldl_append]
theorem digVal_zeros (k : Nat) (l : List Nat) : digVal (List.replicate k 48 ++ l) = digVal l := by
  induction k with
  | zero => rfl
  | succ k ih => rw [List.replicate_succ, List.cons_append]; exact ih
theorem dec_head {n : Nat} (h : n ≠ 0) : ∃ c r, dec n = c :: r ∧ 49 ≤ c ∧ c ≤ 57 := by
  induction n using Nat.strongRecOn with
  | _ n ih =>
    by_cases h10 : n < 10
    · exact ⟨48 + n, [], dec_small h10, by omega, by omega⟩
    · obtain ⟨c, r, e, hc⟩ := ih (n / 10) (by omega) (by omega)
      refine ⟨c, r ++ dec (n % 10), ?_, hc⟩
      have t : Nat.toDigits 10 (n / 10) ++ Nat.toDigits 10 (n % 10) = Nat.toDigits 10 (10 * (n / 10) + n % 10) := Nat.toDigits_append_toDigits (by decide) (by omega) (Nat.mod_lt _ (by decide))
      rw [Nat.div_add_mod] at t
      have t2 := congrArg (List.map Char.toNat) t
      rw [List.map_append] at t2
      show List.map Char.toNat (Nat.toDigits 10 n) = _
      rw [← t2]
      show dec (n / 10) ++ dec (n % 10) = _
      rw [e]; rfl
def pad (k m : Nat) : List Nat := List.replicate (k - (dec m).length) 48 ++ dec m
theorem pad_all (k m : Nat) : AllDig (pad k m) := by
  intro c hc
  rcases List.mem_append.mp hc with h | h
  · rw [(List.mem_replicate.mp h).2]; exact ⟨Nat.le_refl _, by decide⟩
  · exact dec_all _ _ h
theorem pad_len {k m : Nat} (hk : 0 < k) (h : m < 10 ^ k) : (pad k m).length = k := by
  have := dec_len hk h
  unfold pad; rw [List.length_append, List.length_replicate]; omega
theorem pad_val (k m : Nat) : digVal (pad k m) = m := by
  unfold pad; rw [digVal_zeros, dec_val]
theorem dec_split {n k : Nat} (hk : 0 < k) (h : 10 ^ k ≤ n) : dec n = dec (n / 10 ^ k) ++ pad k (n % 10 ^ k) := by
  have h0 : 0 < 10 ^ k := Nat.pow_pos (by decide)
  have hm : n % 10 ^ k < 10 ^ k := Nat.mod_lt _ h0
  have hq : n / 10 ^ k ≠ 0 := by
    have := Nat.div_pos h h0; omega
  obtain ⟨c, r, e, hc, _⟩ := dec_head hq
  have ha : AllDig (dec (n / 10 ^ k) ++ pad k (n % 10 ^ k)) := by
    intro c hc
    rcases List.mem_append.mp hc with h | h
    · exact dec_all _ _ h
    · exact pad_all _ _ _ h
  have hv : digVal (dec (n / 10 ^ k) ++ pad k (n % 10 ^ k)) = n := by
    rw [digVal_app, dec_val, pad_len hk hm, pad_val, Nat.mul_comm, Nat.div_add_mod]
  rw [e, List.cons_append] at ha hv ⊢
  rw [← dec_back ha hc, hv]
def numL (v : Int) : List Nat := if v < 0 then 45 :: dec v.natAbs else dec v.natAbs
open PySem.Builtin.Str in
theorem zfill_dec {m : Nat} (h : m < 10 ^ 18) : Txt.zfill (Str.ofString (toString ((m : Nat) : Int))) 18 = tx (pad 18 m) := by
  have hl : (dec m).length ≤ 18 := dec_len (by decide) h
  rw [dec_str]
  unfold Txt.zfill
  rw [tx_length]
  by_cases h18 : (18 : Int) ≤ ((dec m).length : Int)
  · rw [if_pos h18]
    unfold pad
    rw [show 18 - (dec m).length = 0 by omega]
    rfl
  · rw [if_neg h18]
    have e : zfilled (tx (dec m)) ((18 : Int).toNat - (dec m).length) = padded (tx (dec m)) ((18 : Int).toNat - (dec m).length) 0 48 := by
      unfold zfilled
      have ha := dec_all m
      cases hd' : dec m with
      | nil => rfl
      | cons c r =>
        rw [hd'] at ha
        have hc := ha.head
        have e0 : (tx (c :: r)).cps[0]? = some c := rfl
        rw [e0]
        split
        · rename_i q; cases q; omega
        · rename_i q; cases q; omega
        · rfl
    rw [e]
    unfold PySem.Builtin.Str.padded pad
    unfold tx
    simp
end
section
theorem lines_T1 : True := by
  w_top off
  k_with_none
  (k_with "mine: start" => (unfold PS; k_fill; intros; rename_i hret hexc; refine wpAny_call ?_; k_dflt cell_enter))
  (k_with "mine: sub" => (first | exact fun _ h => h | exact fun _ h => List.mem_append_left _ h | (intro _ h; simp only [List.mem_append, List.mem_cons, h, true_or, or_true])))
  (k_with "mine: end" => ((first | refine endB (by assumption) (by k_asm) (by k_asm) (by walk_at "mine: sub") (resB ?_) | refine endI (by assumption) (by k_asm) (by k_asm) (by walk_at "mine: sub") (resI ?_) | refine endS (by assumption) (by k_asm) (by k_asm) (by walk_at "mine: sub") (resS ?_))))
  (k_with "mine: fill" => ((intro t' h' tk' F' N'); (try dsimp only); (try k_sweep); (try k_fold)))
  (k_with "exec While Compare cons nil" => (k_here; refine Mark.out ?_))
  (k_with "exec For Name Name cons nil" => (k_here; refine Mark.out ?_))
  (k_with "exec For Name Call cons nil" => (k_here; refine Mark.out ?_))
  (k_with "exec For Name List cons nil" => (k_here; refine Mark.out ?_))
  (k_with "binaryOp Add str str" => (k_here; (with_reducible show wpAny _ _ (binaryOp Operator.Add (Value.str _ _) (Value.str _ _)) _ _ _); (refine add_str ?_ (by first | (walk_at "mine: size") | fail)); intro _ _))
  (k_with "mine: same" => (intro z h2 h3; (simp only [List.forall_mem_cons, List.not_mem_nil, false_implies, implies_true, and_true, ne_eq] at h2); first | ((simp only [List.contains_cons, List.contains_nil, Bool.or_false, Bool.or_eq_false_iff, beq_eq_false_iff_ne, ne_eq] at h3); (simp [h2, h3, kstB]; done)) | (simp [h2, kstB]; done)))
  (k_with "call builtin:list.append" => (k_here; (with_reducible show wpAny _ _ (call (Value.builtin _) [Value.ref _, _]) _ _ _); k_dflt (refine append_K (by first | (k_asm) | fail) (by first | (k_asm) | fail) (by first | (k_upd) | fail) ?_ (by first | (walk_at "mine: size") | fail); k_whole); intro h' F' N'; (try simp only [List.push_toArray] at N'); (try k_sweep)))
  (k_with "InvEndN" => (refine Mark.out ?_))
  (k_with "KswEnd" => (refine Mark.out ?_))
  (k_with "call builtin:str.join" => (k_here; refine Mark.out ?_))
  (k_with "mine: sameN" => (intro z h1 h2 h3; (simp only [List.forall_mem_cons, List.not_mem_nil, false_implies, implies_true, and_true, ne_eq] at h2); first | ((simp only [List.contains_cons, List.contains_nil, Bool.or_false, Bool.or_eq_false_iff, beq_eq_false_iff_ne, ne_eq] at h3); (simp [h1, h2, h3, kstB]; done)) | (simp [h1, h2, kstB]; done)))
  (k_with "exec Raise some none" => (k_here; k_dflt (refine Raise_fault (by exact rfl) ?_)))
  (k_with "mine: fault" => (k_here; k_dflt (refine fault_call (by first | (k_asm) | fail) (by first | (k_asm) | fail) (by first | (k_asm) | fail) (by first | (k_asm) | fail) (by first | (k_asm) | fail) (by first | (first | exact rfl | assumption) | fail) (by first | (ktr_room) | fail) (by first | (ktr_units) | fail) ?_); (intro e' d' tt' h' tk' F' N' hne'); (refine ⟨_, _, _, rfl, by k_in, (N' _ (List.Mem.head _)).1, ?_⟩); (try dsimp only); (try k_sweep)))
  (k_with "mine: endX" => (refine endX (by assumption) (by k_asm) (by assumption) (by assumption) (by walk_at "mine: sub") ?_))
  (k_with "mine: endR" => ((first | refine endB (by assumption) (by k_asm) (by k_asm) (by walk_at "mine: sub") ?_ | refine endI (by assumption) (by k_asm) (by k_asm) (by walk_at "mine: sub") ?_ | refine endS (by assumption) (by k_asm) (by k_asm) (by walk_at "mine: sub") ?_)))
  (k_with "mine: size" => (rw [sizeLine_eq]; (first | omega | (simp only [Str.length_append, tx_length, len_item, List.length_cons, List.length_nil, List.length_append, List.size_toArray, Array.size_push]; omega))))
  (k_with "mine: filled" => ((intro t' h' tk' F' N'); (try dsimp only); (try k_sweep); (try k_fold)))
  trivial
theorem allLt_ne {d : Addr} (l : List (Addr × Obj)) (h : AllLt d l) : ∀ p ∈ l, p.1 ≠ d := by
  induction l with
  | nil => exact fun _ hp => nomatch hp
  | cons q r ih =>
    intro p hp
    rcases List.mem_cons.mp hp with e | e
    · rw [e]; exact Nat.ne_of_lt h.1
    · exact ih h.2 p e
theorem allLt_ne2 {d l : Addr} {o : Obj} {news : List (Addr × Obj)} (h : l < d ∧ AllLt d news) : ∀ p ∈ (l, o) :: news, p.1 ≠ d := allLt_ne ((l, o) :: news) h
theorem news_t {h₀ : Heap} {L : Addr} {h : Heap} {p : Addr × Obj} {news : List (Addr × Obj)} (N : News h₀ L h (p :: news)) : News h₀ L h news := fun q hq => N q (.tail _ hq)
theorem log_of {a : Int} (h : a.natAbs < 10 ^ 72) : a.natAbs.log2 < 1920 := by
  have h2 : a.natAbs < 2 ^ 1920 := Nat.lt_of_lt_of_le h (by decide +kernel)
  rcases Nat.eq_zero_or_pos a.natAbs with e | e
  · rw [e]; decide
  · exact (Nat.log2_lt (by omega)).mpr h2
theorem ten18 : (10 : Int) ^ Int.toNat 18 = ((10 ^ 18 : Nat) : Int) := by decide +kernel
theorem fmod18 (r : Nat) : (r : Int).fmod (10 ^ Int.toNat 18) = ((r % 10 ^ 18 : Nat) : Int) := by
  rw [ten18, Int.fmod_eq_emod_of_nonneg _ (by decide)]; exact (Int.natCast_emod _ _).symm
theorem fdiv18 (r : Nat) : (r : Int).fdiv (10 ^ Int.toNat 18) = ((r / 10 ^ 18 : Nat) : Int) := by
  rw [ten18, Int.fdiv_eq_ediv_of_nonneg _ (by decide)]; exact (Int.natCast_ediv _ _).symm
def flatS (ws : List Str) : List Nat := ws.flatMap (·.cps.toList)
theorem num_step {v r : Nat} {ws : List Str} (h : dec v = dec r ++ flatS ws.reverse) (hr : 10 ^ 18 ≤ r) :
    dec v = dec (r / 10 ^ 18) ++ flatS (ws ++ [Txt.zfill (Str.ofString (toString ((r : Int).fmod (10 ^ Int.toNat 18)))) 18]).reverse := by
  rw [fmod18, zfill_dec (Nat.mod_lt _ (by decide)), List.reverse_append, List.reverse_singleton]
  unfold flatS
  rw [List.singleton_append, List.flatMap_cons]
  show _ = _ ++ (pad 18 (r % 10 ^ 18) ++ _)
  rw [← List.append_assoc, ← dec_split (by decide) hr]
  exact h
theorem zf_len (r : Nat) : (Txt.zfill (Str.ofString (toString ((r : Int).fmod (10 ^ Int.toNat 18)))) 18).length = 18 := by
  rw [fmod18, zfill_dec (Nat.mod_lt _ (by decide)), tx_length, pad_len (by decide) (Nat.mod_lt _ (by decide))]
theorem num_end {v r : Nat} {ws : List Str} (h : dec v = dec r ++ flatS ws.reverse) : Txt.join (Str.ofString "") (ws ++ [Str.ofString (toString (r : Int))]).reverse = tx (dec v) := by
  rw [glued_empty, List.reverse_append, List.reverse_singleton, List.singleton_append, List.flatMap_cons, h, dec_cps]
  rfl
theorem num_end_neg {v r : Nat} {ws : List Str} (h : dec v = dec r ++ flatS ws.reverse) : Txt.join (Str.ofString "") (ws ++ [Str.ofString (toString (r : Int))] ++ [Str.ofString "-"]).reverse = tx (45 :: dec v) := by
  have e : (Str.ofString "-").cps.toList = [45] := by decide +kernel
  rw [glued_empty, List.reverse_append, List.reverse_append, List.reverse_singleton, List.reverse_singleton, List.singleton_append, List.singleton_append, List.flatMap_cons, List.flatMap_cons, h, dec_cps, e]
  rfl
theorem few {v r n : Nat} (hv : v < 10 ^ 72) (hr : 1 ≤ r) (h : r * 10 ^ (18 * n) ≤ v) : n ≤ 3 := by
  refine Nat.le_of_lt_succ (Nat.lt_of_not_le fun h4 => ?_)
  have h1 : 10 ^ 72 ≤ 10 ^ (18 * n) := Nat.pow_le_pow_right (by decide) (by omega)
  have h2 : 1 * 10 ^ (18 * n) ≤ r * 10 ^ (18 * n) := Nat.mul_le_mul_right _ hr
  omega
theorem few0 {v r n : Nat} (hv : v < 10 ^ 72) (h : r * 10 ^ (18 * n) ≤ v) : r < 10 ^ 72 := by
  have h1 : 1 ≤ 10 ^ (18 * n) := Nat.pow_pos (by decide)
  have h2 : r * 1 ≤ r * 10 ^ (18 * n) := Nat.mul_le_mul_left _ h1
  omega
theorem few_step {v r n : Nat} (h : r * 10 ^ (18 * n) ≤ v) : r / 10 ^ 18 * 10 ^ (18 * (n + 1)) ≤ v := by
  refine Nat.le_trans ?_ h
  rw [show 18 * (n + 1) = 18 + 18 * n by omega, Nat.pow_add, ← Nat.mul_assoc]
  exact Nat.mul_le_mul_right _ (Nat.div_mul_le_self _ _)
theorem all18 {ws : List Str} (h : ∀ y ∈ ws, y.length = 18) : (ws.map (·.length)).sum = 18 * ws.length := by
  induction ws with
  | nil => rfl
  | cons a r ih => rw [List.map_cons, List.sum_cons, ih (fun y hy => h y (.tail _ hy)), h a (.head _), List.length_cons]; omega
theorem dec_tlen {r : Nat} (h : r < 10 ^ 72) : (Str.ofString (toString (r : Int))).length ≤ 72 := by
  rw [dec_str, tx_length]; exact dec_len (by decide) h
theorem szA {vs : List Value} (h : vs.length ≤ 4) : vs.toArray.size ≤ sizeLine := by rw [sizeLine_eq, List.size_toArray]; omega
theorem szB {vs : List Value} {a : Value} (h : vs.length ≤ 4) : (vs ++ [a]).toArray.size ≤ sizeLine := by rw [sizeLine_eq, List.size_toArray, List.length_append, List.length_singleton]; omega
theorem lines_T1_1 : True := by
  (k_with "mine: size" => (first | exact szA (by with_reducible assumption) | exact szB (by with_reducible assumption)))
  (k_with "call type:str" => (k_here; (with_reducible show wpAny _ _ (call (Value.type "str") [Value.int _ _]) _ _ _); refine PySem.P.str_of_int (log_of (by assumption)) ?_))
  (k_with "call builtin:list.append" => (k_here; (with_reducible show wpAny _ _ (call (Value.builtin _) [Value.ref _, _]) _ _ _); k_dflt ((first | (refine append_K (by first | (k_asm) | fail) (by first | (k_asm) | fail) (by first | (k_upd) | fail) ?_ (by first | (walk_at "mine: size") | fail)) | (refine append_K (by first | (k_asm) | fail) (news_t (by first | (k_asm) | fail)) (by first | (k_upd) | fail) ?_ (by first | (walk_at "mine: size") | fail))); k_whole); intro h' F' N'; (try simp only [List.push_toArray] at N'); (try k_sweep)))
  trivial
theorem abs_eq (v : Int) : (if v < 0 then -v else v) = ((v.natAbs : Nat) : Int) := by split <;> omega
theorem number_text_spec (w mean mg mb) (v : Int) (t : Tok) (hv : v.natAbs < 10 ^ 72) : PS w mean mg mb 3 194 [.int v t] (some fun t => .str (tx (numL v)) t) := by
  walk_at "mine: start"
  k_steps
  unfold Mark
  rename Fr _ _ _ _ => lF
  rename News _ _ _ _ => lN
  (with_unfolding_all refine' ksw_while (σ := List Value × List Str × Nat × Nat × Tok) (fun c => (_, listOf c.1.toArray c.2.2.1) :: _) (fun c => [(Str.ofString "rest", .int c.2.2.2.1 c.2.2.2.2)]) (fun c => StrsAre c.1 c.2.1) [Str.ofString "piece"] (fun c => c.2.2.2.1 * 10 ^ (18 * c.1.length) ≤ v.natAbs ∧ dec v.natAbs = dec c.2.2.2.1 ++ flatS c.2.1.reverse ∧ (∀ y ∈ c.2.1, y.length = 18) ∧ c.1.length ≤ 4) (fun c => c.2.2.2.1) ([], [], 0, v.natAbs, _) lF lN .nil (List.forall_mem_cons.mpr ⟨vint (abs_eq v), List.forall_mem_nil _⟩) ⟨by simp, by simp [flatS], (fun _ h => nomatch h), Nat.zero_le _⟩ ?_)
  clear lF lN
  rintro ⟨vs, ws, nn, r, tr⟩ u h tk hF ⟨hP1, hP2, hP3, hl⟩ F N
  dsimp only at hF hP1 hP2 hP3 F N
  have hr72 : r < 10 ^ 72 := few0 hv hP1
  have hb1 : ((r : Int).fmod (10 ^ Int.toNat 18)).natAbs < 10 ^ 72 := by
    rw [fmod18]; have : r % 10 ^ 18 < 10 ^ 18 := Nat.mod_lt _ (by decide)
    show r % 10 ^ 18 < 10 ^ 72
    exact Nat.lt_trans this (by decide)
  have hb2 : (r : Int).natAbs < 10 ^ 72 := hr72
  try k_fold
  k_steps
  · have hge : 10 ^ 18 ≤ r := by
      have h1 : (10 : Int) ^ Int.toNat 18 ≤ (r : Int) := by with_reducible assumption
      rw [ten18] at h1; exact Int.ofNat_le.mp h1
    unfold Mark
    rename Fr _ _ _ _ => lF
    rename News _ _ _ _ => lN
    try simp only [List.push_toArray, List.append_eq] at lN
    have h3 : vs.length ≤ 3 := few hv (by omega) hP1
    refine ksw_end (vs ++ [_], ws ++ [_], nn + 1, r / 10 ^ 18, _) lF lN (List.forall_mem_cons.mpr ⟨List.mem_cons_self, fun p hp => List.mem_cons_of_mem _ hp⟩) (hF.append' (.cons _ _ .nil)) (List.forall_mem_cons.mpr ⟨vint (fdiv18 r), List.forall_mem_nil _⟩) (by walk_at "mine: same") ⟨?_, num_step hP2 hge, ?_, ?_⟩ ?_
    · show r / 10 ^ 18 * 10 ^ (18 * (vs ++ [_]).length) ≤ _
      rw [List.length_append]; exact few_step hP1
    · intro y hy
      rcases List.mem_append.mp hy with h | h
      · exact hP3 y h
      · rw [List.mem_singleton.mp h]; exact zf_len r
    · show (vs ++ [_]).length ≤ 4
      rw [List.length_append, List.length_singleton]; omega
    · show r / 10 ^ 18 < r
      exact Nat.div_lt_self (by omega) (by decide)
  · unfold Mark
    rename Fr _ _ _ _ => lF
    rename News _ _ _ _ => lN
    refine join_rev (by exact rfl) lF lN (allLt_ne2 (by with_reducible assumption)) ((hF.append' (.cons _ _ .nil)).append' (.cons _ _ .nil)) ?_ ?_ (fun h' tk' t' F' N' => ?_)
    · have h0 : (Str.ofString "").length = 0 := by decide +kernel
      have h1 : (Str.ofString "-").length = 1 := by decide +kernel
      have h2 := all18 hP3
      have h3 := dec_tlen hr72
      have h4 : vs.length ≤ 4 := hl
      have h5 := hF.length
      simp only [List.map_append, List.sum_append, List.map_cons, List.map_nil, List.sum_cons, List.sum_nil, h0, h1, h2]
      omega
    · have h4 : vs.length ≤ 4 := hl
      rw [sizeLine_eq, List.length_append, List.length_append, List.length_singleton, List.length_singleton]; omega
    rw [num_end_neg hP2]
    try k_fold
    k_steps
    walk_at "mine: end"
    unfold numL; rw [if_pos (by with_reducible assumption)]
  · unfold Mark
    rename Fr _ _ _ _ => lF
    rename News _ _ _ _ => lN
    refine join_rev (by exact rfl) lF lN (allLt_ne2 (by with_reducible assumption)) (hF.append' (.cons _ _ .nil)) ?_ ?_ (fun h' tk' t' F' N' => ?_)
    · have h0 : (Str.ofString "").length = 0 := by decide +kernel
      have h2 := all18 hP3
      have h3 := dec_tlen hr72
      have h4 : vs.length ≤ 4 := hl
      have h5 := hF.length
      simp only [List.map_append, List.sum_append, List.map_cons, List.map_nil, List.sum_cons, List.sum_nil, h0, h2]
      omega
    · have h4 : vs.length ≤ 4 := hl
      rw [sizeLine_eq, List.length_append, List.length_singleton]; omega
    rw [num_end hP2]
    try k_fold
    k_steps
    walk_at "mine: end"
    unfold numL; rw [if_neg (by with_reducible assumption)]
end
section
theorem lines_L1 : True := by
  w_top off
  k_with_none
  (k_with "mine: start" => (unfold PS; k_fill; intros; rename_i hret hexc; refine wpAny_call ?_; k_dflt cell_enter))
  (k_with "mine: sub" => (first | exact fun _ h => h | exact fun _ h => List.mem_append_left _ h | (intro _ h; simp only [List.mem_append, List.mem_cons, h, true_or, or_true])))
  (k_with "mine: end" => ((first | refine endB (by assumption) (by k_asm) (by k_asm) (by walk_at "mine: sub") (resB ?_) | refine endI (by assumption) (by k_asm) (by k_asm) (by walk_at "mine: sub") (resI ?_) | refine endS (by assumption) (by k_asm) (by k_asm) (by walk_at "mine: sub") (resS ?_))))
  (k_with "mine: fill" => ((intro t' h' tk' F' N'); (try dsimp only); (try k_sweep); (try k_fold)))
  (k_with "exec While Compare cons nil" => (k_here; refine Mark.out ?_))
  (k_with "exec For Name Name cons nil" => (k_here; refine Mark.out ?_))
  (k_with "exec For Name Call cons nil" => (k_here; refine Mark.out ?_))
  (k_with "exec For Name List cons nil" => (k_here; refine Mark.out ?_))
  (k_with "binaryOp Add str str" => (k_here; (with_reducible show wpAny _ _ (binaryOp Operator.Add (Value.str _ _) (Value.str _ _)) _ _ _); (refine add_str ?_ (by first | (walk_at "mine: size") | fail)); intro _ _))
  (k_with "mine: same" => (intro z h2 h3; (simp only [List.forall_mem_cons, List.not_mem_nil, false_implies, implies_true, and_true, ne_eq] at h2); first | ((simp only [List.contains_cons, List.contains_nil, Bool.or_false, Bool.or_eq_false_iff, beq_eq_false_iff_ne, ne_eq] at h3); (simp [h2, h3, kstB]; done)) | (simp [h2, kstB]; done)))
  (k_with "call builtin:list.append" => (k_here; (with_reducible show wpAny _ _ (call (Value.builtin _) [Value.ref _, _]) _ _ _); k_dflt (refine append_K (by first | (k_asm) | fail) (by first | (k_asm) | fail) (by first | (k_upd) | fail) ?_ (by first | (walk_at "mine: size") | fail); k_whole); intro h' F' N'; (try simp only [List.push_toArray] at N'); (try k_sweep)))
  (k_with "InvEndN" => (refine Mark.out ?_))
  (k_with "KswEnd" => (refine Mark.out ?_))
  (k_with "call builtin:str.join" => (k_here; refine Mark.out ?_))
  (k_with "mine: sameN" => (intro z h1 h2 h3; (simp only [List.forall_mem_cons, List.not_mem_nil, false_implies, implies_true, and_true, ne_eq] at h2); first | ((simp only [List.contains_cons, List.contains_nil, Bool.or_false, Bool.or_eq_false_iff, beq_eq_false_iff_ne, ne_eq] at h3); (simp [h1, h2, h3, kstB]; done)) | (simp [h1, h2, kstB]; done)))
  (k_with "exec Raise some none" => (k_here; k_dflt (refine Raise_fault (by exact rfl) ?_)))
  (k_with "mine: fault" => (k_here; k_dflt (refine fault_call (by first | (k_asm) | fail) (by first | (k_asm) | fail) (by first | (k_asm) | fail) (by first | (k_asm) | fail) (by first | (k_asm) | fail) (by first | (first | exact rfl | assumption) | fail) (by first | (ktr_room) | fail) (by first | (ktr_units) | fail) ?_); (intro e' d' tt' h' tk' F' N' hne'); (refine ⟨_, _, _, rfl, by k_in, (N' _ (List.Mem.head _)).1, ?_⟩); (try dsimp only); (try k_sweep)))
  (k_with "mine: endX" => (refine endX (by assumption) (by k_asm) (by assumption) (by assumption) (by walk_at "mine: sub") ?_))
  (k_with "mine: endR" => ((first | refine endB (by assumption) (by k_asm) (by k_asm) (by walk_at "mine: sub") ?_ | refine endI (by assumption) (by k_asm) (by k_asm) (by walk_at "mine: sub") ?_ | refine endS (by assumption) (by k_asm) (by k_asm) (by walk_at "mine: sub") ?_)))
  (k_with "mine: size" => (rw [sizeLine_eq]; (first | omega | (simp only [Str.length_append, tx_length, len_item, List.length_cons, List.length_nil, List.length_append, List.size_toArray, Array.size_push]; omega))))
  (k_with "mine: filled" => ((intro t' h' tk' F' N'); (try dsimp only); (try k_sweep); (try k_fold)))
  trivial
/-! loop rules of my own: a range with any step; a list, a tuple of any values -/
section
open PySem.Builtin
variable {prog : Program} {w : World} {A : Around} {E : Value → Shared → Prop} {s : Shared} {env : Env} {h₀ : Heap} {x : Str} {body : List Stmt} {Q : Flow → Shared → Prop}
theorem my_range {σ : Type} {r : Addr} {a₀ b₀ st : Int} {t₀ u₀ v₀ : Tok} {n : Nat} {m₀ : Str → Option Value} (Led : σ → List (Addr × Obj)) (ps : σ → List (Str × Value)) (Facts : σ → Prop) (stored : List Str) (P : Nat → σ → Prop) (c₀ : σ)
    (hh : A.handled = none) (hr : IsRange s.heap r a₀ b₀ st t₀ u₀ v₀) (hsmall : Builtin.Range.small a₀ b₀ st = true) (hn : Builtin.Range.rangeSize a₀ b₀ st = (n : Int)) (F : Fr h₀ env.locals s.heap m₀) (N : News h₀ env.locals s.heap (Led c₀)) (hf : Facts c₀) (hk : ∀ p ∈ ps c₀, m₀ p.1 = some p.2) (hp : P 0 c₀)
    (turn : ∀ (c : σ) (i : Nat) t (u : Str → Option Value) h tk own, i < n → OwnOff own ((Led c₀).map (·.1)) → Facts c → P i c →
      Fr h₀ env.locals h (fun y => if y = x then some (.int (a₀ + (i : Int) * st) t) else kstB (fun z => if stored.contains z then u z else m₀ z) (ps c) y) → News h₀ env.locals h (Led c ++ own) →
      wpAny (model prog w) A (execs body env) (InvPostN h₀ env.locals (KstS Led ps Facts x stored m₀ (fun _ c => P (i + 1) c) []) own ((Led c₀).map (·.1)) { s with heap := h, toks := tk } Q) E { s with heap := h, toks := tk })
    (done : ∀ (c : σ) (u : Str → Option Value) h tk, Facts c → P n c → Fr h₀ env.locals h (fun y => if y = x then u y else kstB (fun z => if stored.contains z then u z else m₀ z) (ps c) y) → News h₀ env.locals h (Led c) → Q .next { s with heap := h, toks := tk }) :
    wpAny (model prog w) A (pyIter (.ref r)) (fun it s₂ => LoopAtV prog w A h₀ env x body Q E it s₂) E s := by
  refine wpAny_pyIter_range hr hsmall ?_
  have W : Walks prog w A s.heap.objs.size [s.heap.objs.size] [s.heap.objs.size] n (fun i v => i < n ∧ ∃ t, v = .int (a₀ + i * st) t)
      (fun i h => IsRangeIter h s.heap.objs.size (a₀ + (i : Nat) * st) ((n : Int) - (i : Nat)) st) := (Walks.range hh _ a₀ st n).bound
  refine loop_invN (fun i m nx => KstS Led ps Facts x stored m₀ (fun _ c => P i c) [] m nx) W ?_ ?_ ?_ ?_ (by show IsRangeIter _ _ _ _ _; rw [hn]; simpa using Heap.get?_push_size _ rfl) (F.push _) (fun p hp => ⟨Heap.get?_push_of_some _ (N p hp).1, (N p hp).2⟩) ⟨c₀, rfl, hf, hk, fun _ _ _ _ => rfl, hp⟩ ?_ ?_
  · intro hm
    exact absurd F.ns.lt ((List.mem_singleton.mp hm) ▸ Nat.lt_irrefl _)
  · intro b hb
    rw [List.mem_singleton.mp hb]
    exact next_is_new F
  · intro p hp hI
    exact absurd (Heap.lt_size (N p hp).1) ((List.mem_singleton.mp hI) ▸ Nat.lt_irrefl _)
  · intro p hp hI
    exact absurd (Heap.lt_size (N p hp).1) ((List.mem_singleton.mp hI) ▸ Nat.lt_irrefl _)
  · rintro i v m₁ nx h tk own hi ⟨_, t, rfl⟩ _ hoff ⟨c, rfl, hf', h1, h2, hp'⟩ F₁ N₁
    exact turn c i t m₁ h tk own hi hoff hf' hp' (kst_fr h1 h2 F₁) N₁
  · rintro m₁ nx h tk ⟨c, rfl, hf', h1, h2, hp'⟩ F₁ N₁
    exact done c m₁ h tk hf' hp' (kst_frOut h1 h2 F₁) N₁
/-- the loop over an object of the ledger that holds values in a row; the ledger may grow -/
theorem vals_inv {St : Nat → Heap → Prop} {l : Addr} {lo ito : Obj} {vs : List Value} {m₀ : Str → Option Value} {news : List (Addr × Obj)} (J : Nat → (Str → Option Value) → List (Addr × Obj) → Prop)
    (W : Walks prog w A s.heap.objs.size [s.heap.objs.size, l] [s.heap.objs.size] vs.length (fun i v => vs[i]? = some v) St) (hst : St 0 (s.heap.push ito))
    (hl : (l, lo) ∈ news) (hJl : ∀ i m nx, J i m nx → (l, lo) ∈ nx) (F : Fr h₀ env.locals s.heap m₀) (N : News h₀ env.locals s.heap news) (hj : J 0 m₀ news)
    (turn : ∀ i v m₁ news₁ h tk own, vs[i]? = some v → OwnOff own (news.map (·.1)) → news₁.map (·.1) = news.map (·.1) → J i m₁ news₁ → Fr h₀ env.locals h (fun y => if y = x then some v else m₁ y) → News h₀ env.locals h (news₁ ++ own) →
      wpAny (model prog w) A (execs body env) (InvPostN h₀ env.locals (J (i + 1)) own (news.map (·.1)) { s with heap := h, toks := tk } Q) E { s with heap := h, toks := tk })
    (done : ∀ m₁ news₁ h tk, J vs.length m₁ news₁ → Fr h₀ env.locals h m₁ → News h₀ env.locals h news₁ → Q .next { s with heap := h, toks := tk }) :
    LoopAtV prog w A h₀ env x body Q E (.ref s.heap.objs.size) { s with heap := s.heap.push ito } := by
  have hol : s.heap.get? l = some lo := (N _ hl).1
  refine ⟨_, _, _, vs.length, _, _, m₀, news, (fun i m nx => nx.map (·.1) = news.map (·.1) ∧ J i m nx), rfl, W, ?_, ?_, ?_, hst, F.push _, (fun p hp => ⟨Heap.get?_push_of_some _ (N p hp).1, (N p hp).2⟩), ⟨rfl, hj⟩, ?_, ?_⟩
  · intro hm
    rcases List.mem_cons.mp hm with e | hm
    · exact absurd F.ns.lt (e ▸ Nat.lt_irrefl _)
    · exact (N _ hl).2.1 ((List.mem_singleton.mp hm).symm)
  · intro b hb
    rw [List.mem_singleton.mp hb]
    exact next_is_new F
  · intro p hp hI
    exact absurd (Heap.lt_size (N p hp).1) ((List.mem_singleton.mp hI) ▸ Nat.lt_irrefl _)
  · rintro i v m₁ news₁ s₁ own ⟨hh', tk', rfl⟩ hin hP ⟨hadr, hJ⟩ hoff hown hget hfp _ F₁ N₁
    have hl₁ : (l, lo) ∈ news₁ := hJl _ _ _ hJ
    have hsep : OwnOff (own.filter fun p => decide (p.1 = s.heap.objs.size)) (news.map (·.1)) := by
      intro p hp b hb e
      obtain ⟨q, hq, rfl⟩ := List.mem_map.mp hb
      have h1 : p.1 = s.heap.objs.size := by simpa using (List.mem_filter.mp hp).2
      exact absurd (Heap.lt_size (N q hq).1) (by rw [← e, h1]; exact Nat.lt_irrefl _)
    have N₂ : News h₀ env.locals hh' (news₁ ++ own.filter fun p => decide (p.1 = s.heap.objs.size)) := fun p hp => N₁ p ((List.mem_append.mp hp).elim (fun h => List.mem_append.mpr (.inr h)) fun h => List.mem_append.mpr (.inl ((List.mem_filter.mp h).1)))
    have hlo : hh'.get? l = some lo := (N₁ _ (List.mem_append.mpr (.inr hl₁))).1
    refine wpAny_mono (turn i v m₁ news₁ hh' tk' _ hP hsep hadr hJ F₁ N₂) (fun f s₂ p => ?_) fun _ _ e => e
    have fin : InvEndN h₀ env.locals (J (i + 1)) (own.filter fun p => decide (p.1 = s.heap.objs.size)) (news.map (·.1)) { s with heap := hh', toks := tk' } s₂ →
        LoopStepU h₀ env.locals [s.heap.objs.size] own (fun m nx => nx.map (·.1) = news.map (·.1) ∧ J (i + 1) m nx) { s with heap := hh', toks := tk' } .next s₂ := by
      rintro ⟨h', tk, m', news', nx, e, F', N', hn, ho, ha, hm⟩
      refine ⟨rfl, h', tk, m', nx, e, F', fun p hp => ?_, fun p hp => ?_, ha, hm⟩
      · rcases List.mem_append.mp hp with h | h
        · by_cases hI : p.1 = s.heap.objs.size
          · exact N' p (ho p (List.mem_filter.mpr ⟨h, by simpa using hI⟩))
          · have h1 : p.1 = l := by
              rcases List.mem_cons.mp (hown p h) with h2 | h2
              · exact absurd h2 hI
              · exact List.mem_singleton.mp h2
            have h2 : hh'.get? p.1 = some p.2 := hget p h
            rw [h1, hlo] at h2
            have h3 : p = (l, lo) := Prod.ext h1 (Option.some.inj h2).symm
            rw [h3]
            exact N' _ (hn _ (hJl _ _ _ hm))
        · exact N' p (hn p h)
      · have h1 : p.1 ∈ nx.map (·.1) := List.mem_map.mpr ⟨p, hp, rfl⟩
        rw [ha] at h1
        obtain ⟨q, hq, e⟩ := List.mem_map.mp h1
        intro hI
        exact absurd (Heap.lt_size (N q hq).1) (by rw [e, List.mem_singleton.mp hI]; exact Nat.lt_irrefl _)
    cases f with
    | ret v => exact .ret p
    | brk => exact .brk p
    | next => exact .next (fin p)
    | cont => exact .cont (fin p)
  · rintro h' tk m' news' F' N' _ ⟨_, hJ⟩
    exact done m' news' h' tk hJ F' N'
theorem my_vals {σ : Type} {l : Addr} {vs : List Value} {nn : Nat} {m₀ : Str → Option Value} (Led : σ → List (Addr × Obj)) (ps : σ → List (Str × Value)) (Facts : σ → Prop) (stored : List Str) (P : Nat → σ → Prop) (c₀ : σ)
    (hh : A.handled = none) (hl : ∀ c : σ, (l, listOf vs.toArray nn) ∈ Led c) (F : Fr h₀ env.locals s.heap m₀) (N : News h₀ env.locals s.heap (Led c₀)) (hf : Facts c₀) (hk : ∀ p ∈ ps c₀, m₀ p.1 = some p.2) (hp : P 0 c₀)
    (turn : ∀ (c : σ) (i : Nat) v (u : Str → Option Value) h tk own, vs[i]? = some v → OwnOff own ((Led c₀).map (·.1)) → Facts c → P i c →
      Fr h₀ env.locals h (fun y => if y = x then some v else kstB (fun z => if stored.contains z then u z else m₀ z) (ps c) y) → News h₀ env.locals h (Led c ++ own) →
      wpAny (model prog w) A (execs body env) (InvPostN h₀ env.locals (KstS Led ps Facts x stored m₀ (fun _ c => P (i + 1) c) []) own ((Led c₀).map (·.1)) { s with heap := h, toks := tk } Q) E { s with heap := h, toks := tk })
    (done : ∀ (c : σ) (u : Str → Option Value) h tk, Facts c → P vs.length c → Fr h₀ env.locals h (fun y => if y = x then u y else kstB (fun z => if stored.contains z then u z else m₀ z) (ps c) y) → News h₀ env.locals h (Led c) → Q .next { s with heap := h, toks := tk }) :
    wpAny (model prog w) A (pyIter (.ref l)) (fun it s₂ => LoopAtV prog w A h₀ env x body Q E it s₂) E s := by
  have hol : s.heap.get? l = some (listOf vs.toArray nn) := (N _ (hl c₀)).1
  have hls : s.heap.IsList l vs.toArray := ⟨_, hol, rfl, nn, rfl⟩
  have hne : l ≠ s.heap.objs.size := Nat.ne_of_lt (Heap.lt_size hol)
  refine wpAny_pyIter_list hls ?_
  have W := Walks.list (prog := prog) (w := w) hh s.heap.objs.size l hne vs.toArray
  have W2 : Walks prog w A s.heap.objs.size [s.heap.objs.size, l] [s.heap.objs.size] vs.length (fun i v => vs[i]? = some v) (fun i h => h.IsListIter s.heap.objs.size l i ∧ h.IsList l vs.toArray) := by
    have e : (fun (i : Nat) (v : Value) => vs.toArray[i]? = some v) = fun i v => vs[i]? = some v := by funext i v; rw [List.getElem?_toArray]
    rw [e] at W
    exact W
  refine vals_inv (vs := vs) (fun i m nx => KstS Led ps Facts x stored m₀ (fun _ c => P i c) [] m nx) W2 ⟨⟨_, Heap.get?_push_size _ rfl, rfl, rfl⟩, hls.at fun o e => Heap.get?_push_of_some _ e⟩ (hl c₀) (fun i m nx h => by obtain ⟨c, rfl, _⟩ := h; exact hl c) F N ⟨c₀, rfl, hf, hk, fun _ _ _ _ => rfl, hp⟩ ?_ ?_
  · rintro i v m₁ nx h tk own hi hoff _ ⟨c, rfl, hf', h1, h2, hp'⟩ F₁ N₁
    exact turn c i v m₁ h tk own hi hoff hf' hp' (kst_fr h1 h2 F₁) N₁
  · rintro m₁ nx h tk ⟨c, rfl, hf', h1, h2, hp'⟩ F₁ N₁
    exact done c m₁ h tk hf' hp' (kst_frOut h1 h2 F₁) N₁
end
end
section
theorem lines_T2 : True := by
  w_top off
  k_with_none
  (k_with "mine: start" => (unfold PS; k_fill; intros; rename_i hret hexc; refine wpAny_call ?_; k_dflt cell_enter))
  (k_with "mine: sub" => (first | exact fun _ h => h | exact fun _ h => List.mem_append_left _ h | (intro _ h; simp only [List.mem_append, List.mem_cons, h, true_or, or_true])))
  (k_with "mine: end" => ((first | refine endB (by assumption) (by k_asm) (by k_asm) (by walk_at "mine: sub") (resB ?_) | refine endI (by assumption) (by k_asm) (by k_asm) (by walk_at "mine: sub") (resI ?_) | refine endS (by assumption) (by k_asm) (by k_asm) (by walk_at "mine: sub") (resS ?_))))
  (k_with "mine: fill" => ((intro t' h' tk' F' N'); (try dsimp only); (try k_sweep); (try k_fold)))
  (k_with "exec While Compare cons nil" => (k_here; refine Mark.out ?_))
  (k_with "exec For Name Name cons nil" => (k_here; refine Mark.out ?_))
  (k_with "exec For Name Call cons nil" => (k_here; refine Mark.out ?_))
  (k_with "exec For Name List cons nil" => (k_here; refine Mark.out ?_))
  (k_with "binaryOp Add str str" => (k_here; (with_reducible show wpAny _ _ (binaryOp Operator.Add (Value.str _ _) (Value.str _ _)) _ _ _); (refine add_str ?_ (by first | (walk_at "mine: size") | fail)); intro _ _))
  (k_with "mine: same" => (intro z h2 h3; (simp only [List.forall_mem_cons, List.not_mem_nil, false_implies, implies_true, and_true, ne_eq] at h2); first | ((simp only [List.contains_cons, List.contains_nil, Bool.or_false, Bool.or_eq_false_iff, beq_eq_false_iff_ne, ne_eq] at h3); (simp [h2, h3, kstB]; done)) | (simp [h2, kstB]; done)))
  (k_with "call builtin:list.append" => (k_here; (with_reducible show wpAny _ _ (call (Value.builtin _) [Value.ref _, _]) _ _ _); k_dflt (refine append_K (by first | (k_asm) | fail) (by first | (k_asm) | fail) (by first | (k_upd) | fail) ?_ (by first | (walk_at "mine: size") | fail); k_whole); intro h' F' N'; (try simp only [List.push_toArray] at N'); (try k_sweep)))
  (k_with "InvEndN" => (refine Mark.out ?_))
  (k_with "KswEnd" => (refine Mark.out ?_))
  (k_with "call builtin:str.join" => (k_here; refine Mark.out ?_))
  (k_with "mine: sameN" => (intro z h1 h2 h3; (simp only [List.forall_mem_cons, List.not_mem_nil, false_implies, implies_true, and_true, ne_eq] at h2); first | ((simp only [List.contains_cons, List.contains_nil, Bool.or_false, Bool.or_eq_false_iff, beq_eq_false_iff_ne, ne_eq] at h3); (simp [h1, h2, h3, kstB]; done)) | (simp [h1, h2, kstB]; done)))
  (k_with "exec Raise some none" => (k_here; k_dflt (refine Raise_fault (by exact rfl) ?_)))
  (k_with "mine: fault" => (k_here; k_dflt (refine fault_call (by first | (k_asm) | fail) (by first | (k_asm) | fail) (by first | (k_asm) | fail) (by first | (k_asm) | fail) (by first | (k_asm) | fail) (by first | (first | exact rfl | assumption) | fail) (by first | (ktr_room) | fail) (by first | (ktr_units) | fail) ?_); (intro e' d' tt' h' tk' F' N' hne'); (refine ⟨_, _, _, rfl, by k_in, (N' _ (List.Mem.head _)).1, ?_⟩); (try dsimp only); (try k_sweep)))
  (k_with "mine: endX" => (refine endX (by assumption) (by k_asm) (by assumption) (by assumption) (by walk_at "mine: sub") ?_))
  (k_with "mine: endR" => ((first | refine endB (by assumption) (by k_asm) (by k_asm) (by walk_at "mine: sub") ?_ | refine endI (by assumption) (by k_asm) (by k_asm) (by walk_at "mine: sub") ?_ | refine endS (by assumption) (by k_asm) (by k_asm) (by walk_at "mine: sub") ?_)))
  (k_with "mine: size" => (rw [sizeLine_eq]; (first | omega | (simp only [Str.length_append, tx_length, len_item, List.length_cons, List.length_nil, List.length_append, List.size_toArray, Array.size_push]; omega))))
  (k_with "mine: filled" => ((intro t' h' tk' F' N'); (try dsimp only); (try k_sweep); (try k_fold)))
  trivial
def isDig (c : Nat) : Bool := decide (48 ≤ c) && decide (c ≤ 57)
def readN (x : Str) : Option Nat :=
  if (x == Str.ofString "") = true then none else
  if (Txt.item x 0 == Str.ofString "0") = true ∧ (x != Str.ofString "0") = true then none else
  if x.cps.toList.all isDig then some (digVal x.cps.toList) else none
theorem dig_no {x : Str} {pre post : List Int} {n : Nat} (he : KStt.codes x = pre ++ (n : Int) :: post) (h : isDig n = false) : x.cps.toList.all isDig = false := by
  rw [List.all_eq_false]
  exact ⟨n, codes_mem he, by rw [h]; decide⟩
theorem dig_lo {n : Nat} (h : (⟨#[n]⟩ : Str).cps.toList < (Str.ofString "0").cps.toList) : isDig n = false := by
  have e1 : (Str.ofString "0").cps.toList = [48] := by decide +kernel
  rw [e1] at h
  simp [List.cons_lt_cons_iff] at h
  unfold isDig; simp; omega
theorem dig_hi {n : Nat} (h : (Str.ofString "9").cps.toList < (⟨#[n]⟩ : Str).cps.toList) : isDig n = false := by
  have e1 : (Str.ofString "9").cps.toList = [57] := by decide +kernel
  rw [e1] at h
  simp [List.cons_lt_cons_iff] at h
  unfold isDig; simp; omega
theorem dig_in {n : Nat} (h : ¬ (⟨#[n]⟩ : Str).cps.toList < (Str.ofString "0").cps.toList) (h2 : ¬ (Str.ofString "9").cps.toList < (⟨#[n]⟩ : Str).cps.toList) : isDig n = true := by
  have e1 : (Str.ofString "0").cps.toList = [48] := by decide +kernel
  have e2 : (Str.ofString "9").cps.toList = [57] := by decide +kernel
  rw [e1] at h
  rw [e2] at h2
  simp [List.cons_lt_cons_iff] at h h2
  unfold isDig; simp; omega
theorem dig_push {pre : List Int} {n : Nat} (h : ∀ k : Nat, (k : Int) ∈ pre → isDig k = true) (hn : isDig n = true) : ∀ k : Nat, (k : Int) ∈ pre ++ [(n : Int)] → isDig k = true := fun k hk => (List.mem_append.mp hk).elim (h k) fun z => by rw [Int.ofNat.inj (List.mem_singleton.mp z)]; exact hn
theorem dig_done {x : Str} (h : ∀ k : Nat, (k : Int) ∈ KStt.codes x → isDig k = true) : x.cps.toList.all isDig = true := by
  rw [List.all_eq_true]
  exact fun k hk => h k (List.mem_map.mpr ⟨k, hk, rfl⟩)
theorem dig_all {l : List Nat} (h : l.all isDig = true) : AllDig l := fun c hc => by
  have := List.all_eq_true.mp h c hc
  unfold isDig at this
  simpa using this
theorem size18 (n : Nat) : Builtin.Range.rangeSize 0 (n : Int) 18 = (((n + 17) / 18 : Nat) : Int) := by
  unfold Builtin.Range.rangeSize
  rw [if_pos (by decide)]
  by_cases h : (0 : Int) < n
  · rw [if_pos h]; omega
  · rw [if_neg h]; omega
theorem fits18 {k : Int} (h1 : -100000 < k) (h2 : k < 100000) : Builtin.Range.rangeFitsLong k = true := by
  unfold Builtin.Range.rangeFitsLong; simp; omega
theorem small18 {n : Nat} (h : n ≤ 1000) : Builtin.Range.small 0 (n : Int) 18 = true := by
  unfold Builtin.Range.small
  rw [size18, fits18 (by omega) (by omega), fits18 (by omega) (by omega), fits18 (by omega) (by omega), fits18 (by omega) (by omega), if_pos (by decide), fits18 (by omega) (by omega)]
  simp
theorem slice_clamp {x : Str} {i j : Int} (h0 : 0 ≤ i) (hj : (x.length : Int) ≤ j) : Txt.slice x (some i) (some j) = Txt.slice x (some i) (some (x.length : Int)) := by
  have e : PySem.Builtin.Str.strSliceIndices (some i) (some j) 1 x.length = PySem.Builtin.Str.strSliceIndices (some i) (some (x.length : Int)) 1 x.length := by
    have a1 : ¬ i < 0 := by omega
    have a2 : ¬ j < 0 := by omega
    have a3 : ¬ ((x.length : Int) < 0) := by omega
    have e : max (0 : Int) (min j (x.length : Int)) = max 0 (min (x.length : Int) (x.length : Int)) := by omega
    simp [PySem.Builtin.Str.strSliceIndices, a1, a2, a3, e]
  unfold Txt.slice
  rw [e]
theorem slice_18 {x : Str} {i : Nat} (hi : i < (x.length + 17) / 18) : (Txt.slice x (some (0 + (i : Int) * 18)) (some (0 + (i : Int) * 18 + 18))).cps.toList = (x.cps.toList.drop (18 * i)).take 18 := by
  have e1 : 0 + (i : Int) * 18 = ((18 * i : Nat) : Int) := by omega
  by_cases h : 18 * i + 18 ≤ x.length
  · have e2 : 0 + (i : Int) * 18 + 18 = ((18 * i + 18 : Nat) : Int) := by omega
    rw [e2, e1, slice_list (by omega) h, show 18 * i + 18 - 18 * i = 18 by omega]
  · rw [slice_clamp (by omega) (by omega), e1, slice_list (by omega) (Nat.le_refl _)]
    have hl : x.cps.toList.length = x.length := Array.length_toList
    rw [List.take_of_length_le (by rw [List.length_drop]; omega), List.take_of_length_le (by rw [List.length_drop]; omega)]
theorem slice_18_len {x : Str} {i : Nat} (hi : i < (x.length + 17) / 18) : (Txt.slice x (some (0 + (i : Int) * 18)) (some (0 + (i : Int) * 18 + 18))).length ≤ 18 := by
  have h := congrArg List.length (slice_18 hi)
  rw [Array.length_toList, List.length_take] at h
  show (Txt.slice x (some (0 + (i : Int) * 18)) (some (0 + (i : Int) * 18 + 18))).cps.size ≤ 18
  omega
theorem slice_18_int {x : Str} {i : Nat} (hi : i < (x.length + 17) / 18) (ha : x.cps.toList.all isDig = true) :
    PySem.intText? (Txt.slice x (some (0 + (i : Int) * 18)) (some (0 + (i : Int) * 18 + 18))) = some ((digVal ((x.cps.toList.drop (18 * i)).take 18) : Nat) : Int) := by
  have e := slice_18 hi
  have h := PySem.intText_digits (x := Txt.slice x (some (0 + (i : Int) * 18)) (some (0 + (i : Int) * 18 + 18)))
  rw [e] at h
  refine h (fun c hc => dig_all ha c (List.mem_of_mem_drop (List.mem_of_mem_take hc))) (fun hz => ?_) (by have := slice_18_len hi; omega)
  have := congrArg List.length hz
  have hl : x.cps.toList.length = x.length := Array.length_toList
  rw [List.length_take, List.length_drop, hl, List.length_nil] at this
  omega
theorem mul_18 {a : Int} {n : Nat} (h : n ≤ 18) : IntMulOk a (10 ^ ((n : Nat) : Int).toNat) := by
  refine .of_right (intBits_le_64 ?_ ?_)
  · have : (0 : Int) < 10 ^ ((n : Nat) : Int).toNat := Int.pow_pos (by decide)
    omega
  · rw [Int.toNat_natCast]
    have h1 : (10 : Nat) ^ n ≤ 10 ^ 18 := Nat.pow_le_pow_right (by decide) h
    have h2 : ((10 : Int) ^ n) = ((10 ^ n : Nat) : Int) := by rw [Int.natCast_pow]; rfl
    rw [h2]
    have h3 : (10 : Nat) ^ 18 < 2 ^ 64 := by decide
    omega
theorem digVal_step {x : Str} {i v : Nat} (hi : i < (x.length + 17) / 18) (hv : v = digVal (x.cps.toList.take (18 * i))) :
    (v : Int) * 10 ^ (((Txt.slice x (some (0 + (i : Int) * 18)) (some (0 + (i : Int) * 18 + 18))).length : Nat) : Int).toNat + ((digVal ((x.cps.toList.drop (18 * i)).take 18) : Nat) : Int) = ((digVal (x.cps.toList.take (18 * (i + 1))) : Nat) : Int) := by
  have hl : (Txt.slice x (some (0 + (i : Int) * 18)) (some (0 + (i : Int) * 18 + 18))).length = ((x.cps.toList.drop (18 * i)).take 18).length := by
    have h := congrArg List.length (slice_18 hi)
    rw [Array.length_toList] at h
    exact h
  rw [hl, Int.toNat_natCast, show 18 * (i + 1) = 18 * i + 18 by omega, List.take_add, digVal_app, hv]
  rw [Int.natCast_add, Int.natCast_mul, Int.natCast_pow]
  rfl
theorem readN_a {x : Str} (h1 : (x == Str.ofString "") = false) (h2 : (Txt.item x 0 == Str.ofString "0") = false) : readN x = if x.cps.toList.all isDig then some (digVal x.cps.toList) else none := by
  unfold readN; rw [h1, h2]; simp
theorem readN_b {x : Str} (h1 : (x == Str.ofString "") = false) (h2 : (x != Str.ofString "0") = false) : readN x = if x.cps.toList.all isDig then some (digVal x.cps.toList) else none := by
  unfold readN; rw [h1, h2]; simp
theorem lines_T2_1 : True := by
  (k_with "binaryOp Mult int int" => (k_here; (refine mul_int ?_ (mul_18 (by with_reducible assumption)))))
  (k_with "call type:int" => (k_here; (refine KIN.call_text (by with_reducible assumption) (Nat.le_trans (m := 18) (by with_reducible assumption) (by decide)) ?_)))
  (k_with "call ref cons nil" => (walk_at "mine: fault"))
  trivial
theorem read_count_spec (w mean mg mb) (x : Str) (t : Tok) (hv : x.length ≤ 1000) : PS w mean mg mb 3 257 [.str x t] ((readN x).map fun (v : Nat) t => .int (v : Int) t) := by
  walk_at "mine: start"
  have hw : (Str.ofString "wrong number in a listing: ").length = 27 := by decide +kernel
  k_steps
  · walk_at "mine: endX"
    refine map_none' ?_
    unfold readN; rw [if_pos (by with_reducible assumption)]
  · walk_at "mine: endX"
    refine map_none' ?_
    unfold readN; rw [if_neg (by simp_all), if_pos ⟨by with_reducible assumption, by with_reducible assumption⟩]
  all_goals have hgo : readN x = if x.cps.toList.all isDig then some (digVal x.cps.toList) else none := (by first | exact readN_a (by with_reducible assumption) (by with_reducible assumption) | exact readN_b (by with_reducible assumption) (by with_reducible assumption))
  all_goals
    unfold Mark
    rename Fr _ _ _ _ => lF
    k_here; (with_unfolding_all refine' For_invVF lF ?k1 ?k2 ?_; (case k1 => exact rfl); (case k2 => exact rfl))
    k_steps
    rename Fr _ _ _ _ => lF
    rename News _ _ _ _ => lN
    (with_unfolding_all refine' KStt.kst_text (σ := Unit) (fun c => _) (fun c => []) (fun c => True) [] (fun pre c => ∀ n : Nat, (n : Int) ∈ pre → isDig n = true) () (by rfl) lF lN trivial (fun _ h => nomatch h) (fun _ h => nomatch h) ?_ ?_)
  · clear lF lN
    rintro ⟨⟩ pre post n t1 u h tk own he hoff hF hP F N
    dsimp only at hP hF F N
    try k_fold
    k_steps
    · walk_at "mine: endX"; exact map_none' (hgo.trans (if_neg (by rw [dig_no he (dig_lo (by with_reducible assumption))]; decide)))
    · walk_at "mine: endX"; exact map_none' (hgo.trans (if_neg (by rw [dig_no he (dig_hi (by with_reducible assumption))]; decide)))
    · have hd := dig_in (by with_reducible assumption) (by with_reducible assumption)
      unfold Mark
      rename Fr _ _ _ _ => lF
      rename News _ _ _ _ => lN
      refine kst_end () lF lN (fun p hp => List.mem_append_left _ hp) (fun p hp => List.mem_append_right _ hp) rfl trivial (fun _ h => nomatch h) ?_ (dig_push hP hd)
      walk_at "mine: sameN"
  · clear lF lN
    rintro ⟨⟩ u h tk hF hP F N
    dsimp only at hP hF F N
    have hall := dig_done hP
    try k_fold
    k_steps
    unfold Mark
    rename Fr _ _ _ _ => lF
    k_here; (with_unfolding_all refine' For_invVF lF ?k1 ?k2 ?_; (case k1 => exact rfl); (case k2 => exact rfl))
    k_steps
    rename Fr _ _ _ _ => lF
    rename News _ _ _ _ => lN
    rename IsRange _ _ _ _ _ _ _ _ => hR
    (with_unfolding_all refine' my_range (n := (x.length + 17) / 18) (σ := Nat × Tok) (fun c => _) (fun c => [(Str.ofString "value", .int c.1 c.2)]) (fun c => True) [Str.ofString "piece"] (fun i c => c.1 = digVal (x.cps.toList.take (18 * i))) (0, _) (by rfl) (by exact hR) (small18 hv) (size18 x.length) lF lN trivial (List.forall_mem_cons.mpr ⟨by rfl, List.forall_mem_nil _⟩) (by rfl) ?_ ?_)
    · clear lF lN
      rintro ⟨v, tv⟩ i t1 u h tk own hi hoff hF hP F N
      dsimp only at hP hF F N
      have hs18 := slice_18_len hi
      have hi18 := slice_18_int hi hall
      try k_fold
      k_steps
      unfold Mark
      rename Fr _ _ _ _ => lF
      rename News _ _ _ _ => lN
      refine kst_end (digVal (x.cps.toList.take (18 * (i + 1))), _) lF lN (fun p hp => List.mem_append_left _ hp) (fun p hp => List.mem_append_right _ hp) rfl trivial (List.forall_mem_cons.mpr ⟨vint (digVal_step hi hP), List.forall_mem_nil _⟩) ?_ rfl
      walk_at "mine: sameN"
    · clear lF lN
      rintro ⟨v, tv⟩ u h tk hF hP F N
      dsimp only at hP hF F N
      try k_fold
      k_steps
      walk_at "mine: endR"
      refine map_some' (hgo.trans ((if_pos hall).trans ?_))
      rw [hP, List.take_of_length_le (by have : x.cps.toList.length = x.length := Array.length_toList; omega)]
  · clear lF lN
    rintro ⟨⟩ pre post n t1 u h tk own he hoff hF hP F N
    dsimp only at hP hF F N
    try k_fold
    k_steps
    · walk_at "mine: endX"; exact map_none' (hgo.trans (if_neg (by rw [dig_no he (dig_lo (by with_reducible assumption))]; decide)))
    · walk_at "mine: endX"; exact map_none' (hgo.trans (if_neg (by rw [dig_no he (dig_hi (by with_reducible assumption))]; decide)))
    · have hd := dig_in (by with_reducible assumption) (by with_reducible assumption)
      unfold Mark
      rename Fr _ _ _ _ => lF
      rename News _ _ _ _ => lN
      refine kst_end () lF lN (fun p hp => List.mem_append_left _ hp) (fun p hp => List.mem_append_right _ hp) rfl trivial (fun _ h => nomatch h) ?_ (dig_push hP hd)
      walk_at "mine: sameN"
  · clear lF lN
    rintro ⟨⟩ u h tk hF hP F N
    dsimp only at hP hF F N
    have hall := dig_done hP
    try k_fold
    k_steps
    unfold Mark
    rename Fr _ _ _ _ => lF
    k_here; (with_unfolding_all refine' For_invVF lF ?k1 ?k2 ?_; (case k1 => exact rfl); (case k2 => exact rfl))
    k_steps
    rename Fr _ _ _ _ => lF
    rename News _ _ _ _ => lN
    rename IsRange _ _ _ _ _ _ _ _ => hR
    (with_unfolding_all refine' my_range (n := (x.length + 17) / 18) (σ := Nat × Tok) (fun c => _) (fun c => [(Str.ofString "value", .int c.1 c.2)]) (fun c => True) [Str.ofString "piece"] (fun i c => c.1 = digVal (x.cps.toList.take (18 * i))) (0, _) (by rfl) (by exact hR) (small18 hv) (size18 x.length) lF lN trivial (List.forall_mem_cons.mpr ⟨by rfl, List.forall_mem_nil _⟩) (by rfl) ?_ ?_)
    · clear lF lN
      rintro ⟨v, tv⟩ i t1 u h tk own hi hoff hF hP F N
      dsimp only at hP hF F N
      have hs18 := slice_18_len hi
      have hi18 := slice_18_int hi hall
      try k_fold
      k_steps
      unfold Mark
      rename Fr _ _ _ _ => lF
      rename News _ _ _ _ => lN
      refine kst_end (digVal (x.cps.toList.take (18 * (i + 1))), _) lF lN (fun p hp => List.mem_append_left _ hp) (fun p hp => List.mem_append_right _ hp) rfl trivial (List.forall_mem_cons.mpr ⟨vint (digVal_step hi hP), List.forall_mem_nil _⟩) ?_ rfl
      walk_at "mine: sameN"
    · clear lF lN
      rintro ⟨v, tv⟩ u h tk hF hP F N
      dsimp only at hP hF F N
      try k_fold
      k_steps
      walk_at "mine: endR"
      refine map_some' (hgo.trans ((if_pos hall).trans ?_))
      rw [hP, List.take_of_length_le (by have : x.cps.toList.length = x.length := Array.length_toList; omega)]
end
section
theorem lines_T3 : True := by
  w_top off
  k_with_none
  (k_with "mine: start" => (unfold PS; k_fill; intros; rename_i hret hexc; refine wpAny_call ?_; k_dflt cell_enter))
  (k_with "mine: sub" => (first | exact fun _ h => h | exact fun _ h => List.mem_append_left _ h | (intro _ h; simp only [List.mem_append, List.mem_cons, h, true_or, or_true])))
  (k_with "mine: end" => ((first | refine endB (by assumption) (by k_asm) (by k_asm) (by walk_at "mine: sub") (resB ?_) | refine endI (by assumption) (by k_asm) (by k_asm) (by walk_at "mine: sub") (resI ?_) | refine endS (by assumption) (by k_asm) (by k_asm) (by walk_at "mine: sub") (resS ?_))))
  (k_with "mine: fill" => ((intro t' h' tk' F' N'); (try dsimp only); (try k_sweep); (try k_fold)))
  (k_with "exec While Compare cons nil" => (k_here; refine Mark.out ?_))
  (k_with "exec For Name Name cons nil" => (k_here; refine Mark.out ?_))
  (k_with "exec For Name Call cons nil" => (k_here; refine Mark.out ?_))
  (k_with "exec For Name List cons nil" => (k_here; refine Mark.out ?_))
  (k_with "binaryOp Add str str" => (k_here; (with_reducible show wpAny _ _ (binaryOp Operator.Add (Value.str _ _) (Value.str _ _)) _ _ _); (refine add_str ?_ (by first | (walk_at "mine: size") | fail)); intro _ _))
  (k_with "mine: same" => (intro z h2 h3; (simp only [List.forall_mem_cons, List.not_mem_nil, false_implies, implies_true, and_true, ne_eq] at h2); first | ((simp only [List.contains_cons, List.contains_nil, Bool.or_false, Bool.or_eq_false_iff, beq_eq_false_iff_ne, ne_eq] at h3); (simp [h2, h3, kstB]; done)) | (simp [h2, kstB]; done)))
  (k_with "call builtin:list.append" => (k_here; (with_reducible show wpAny _ _ (call (Value.builtin _) [Value.ref _, _]) _ _ _); k_dflt (refine append_K (by first | (k_asm) | fail) (by first | (k_asm) | fail) (by first | (k_upd) | fail) ?_ (by first | (walk_at "mine: size") | fail); k_whole); intro h' F' N'; (try simp only [List.push_toArray] at N'); (try k_sweep)))
  (k_with "InvEndN" => (refine Mark.out ?_))
  (k_with "KswEnd" => (refine Mark.out ?_))
  (k_with "call builtin:str.join" => (k_here; refine Mark.out ?_))
  (k_with "mine: sameN" => (intro z h1 h2 h3; (simp only [List.forall_mem_cons, List.not_mem_nil, false_implies, implies_true, and_true, ne_eq] at h2); first | ((simp only [List.contains_cons, List.contains_nil, Bool.or_false, Bool.or_eq_false_iff, beq_eq_false_iff_ne, ne_eq] at h3); (simp [h1, h2, h3, kstB]; done)) | (simp [h1, h2, kstB]; done)))
  (k_with "exec Raise some none" => (k_here; k_dflt (refine Raise_fault (by exact rfl) ?_)))
  (k_with "mine: fault" => (k_here; k_dflt (refine fault_call (by first | (k_asm) | fail) (by first | (k_asm) | fail) (by first | (k_asm) | fail) (by first | (k_asm) | fail) (by first | (k_asm) | fail) (by first | (first | exact rfl | assumption) | fail) (by first | (ktr_room) | fail) (by first | (ktr_units) | fail) ?_); (intro e' d' tt' h' tk' F' N' hne'); (refine ⟨_, _, _, rfl, by k_in, (N' _ (List.Mem.head _)).1, ?_⟩); (try dsimp only); (try k_sweep)))
  (k_with "mine: endX" => (refine endX (by assumption) (by k_asm) (by assumption) (by assumption) (by walk_at "mine: sub") ?_))
  (k_with "mine: endR" => ((first | refine endB (by assumption) (by k_asm) (by k_asm) (by walk_at "mine: sub") ?_ | refine endI (by assumption) (by k_asm) (by k_asm) (by walk_at "mine: sub") ?_ | refine endS (by assumption) (by k_asm) (by k_asm) (by walk_at "mine: sub") ?_)))
  (k_with "mine: size" => (rw [sizeLine_eq]; (first | omega | (simp only [Str.length_append, tx_length, len_item, List.length_cons, List.length_nil, List.length_append, List.size_toArray, Array.size_push]; omega))))
  (k_with "mine: filled" => ((intro t' h' tk' F' N'); (try dsimp only); (try k_sweep); (try k_fold)))
  trivial
/-- what a call of the def at `f` does in general: from a ledger to a ledger, with a value; or a LinkFault -/
def PZ (w : World) (mean : ExcName → Option Value) (mg mb : Str → Option Value) (n : Nat) (f : Addr) (vs : List Value) (Pre : Heap → List (Addr × Obj) → Prop) (Post : List (Addr × Obj) → Value → List (Addr × Obj) → Prop) (bad : Prop) : Prop :=
  ∀ (news : List (Addr × Obj)) (dp un : Nat) (gd : Option (List Code)) (cn : Str) (cs : Scope) (a : Addr) (ccd : Value) (cl : List (Str × Addr)) (outer : List Env) (A₀ : Around) (base h₀ : Heap) (L : Addr) (m : Str → Option Value) (s : Shared) (Q E : Value → Shared → Prop),
    Below A₀ base outer h₀ → Fr h₀ L s.heap m → (hd.heap_1 w.params).In h₀ → News h₀ L s.heap news → Top vw (looseW vw [Str.ofString "LinkFault"]) mean mg mb h₀ → cs.kind = .function → dp + n < recursionLimit → un + 8 * n < cLine → Pre h₀ news →
    (∀ v news' h' tk', Post news v news' → Fr h₀ L h' m → News h₀ L h' news' → Q v { s with heap := h', toks := tk' }) →
    (bad → ∀ e g₂ h' tk', Fr h₀ L g₂ m → g₂.UpToSlots h' → RaisedSN base g₂ (envX cn cs L a ccd cl :: outer) e (.ref 52) news h' → E (.ref e) { s with heap := h', toks := tk' }) →
    wpAny (model PySem.Challenge.rw_ok0015_01.row.prog w) (ktrTop dp un gd cn cs L a ccd cl outer) (call (.ref f) vs) Q E s
section
variable {w : World} {mean : ExcName → Option Value} {mg mb : Str → Option Value} {n : Nat} {f : Addr} {vs : List Value} {news : List (Addr × Obj)}
    {dp un : Nat} {gd : Option (List Code)} {cn : Str} {cs : Scope} {a : Addr} {ccd : Value} {cl : List (Str × Addr)} {outer : List Env} {A₀ : Around} {base h₀ : Heap} {L : Addr} {m : Str → Option Value} {s : Shared} {Q E : Value → Shared → Prop}
    {Pre : Heap → List (Addr × Obj) → Prop} {Post : List (Addr × Obj) → Value → List (Addr × Obj) → Prop} {bad : Prop}
theorem PZ.use (S : PZ w mean mg mb n f vs Pre Post bad)
    (B : Below A₀ base outer h₀) (F : Fr h₀ L s.heap m) (K : (hd.heap_1 w.params).In h₀) (N : News h₀ L s.heap news) (T : Top vw (looseW vw [Str.ofString "LinkFault"]) mean mg mb h₀) (hk : cs.kind = .function) (hdp : dp + n < recursionLimit) (hu : un + 8 * n < cLine) (hpre : Pre h₀ news)
    (hret : ∀ v news' h' tk', Post news v news' → Fr h₀ L h' m → News h₀ L h' news' → Q v { s with heap := h', toks := tk' })
    (hexc : bad → ∀ e g₂ h' tk', Fr h₀ L g₂ m → g₂.UpToSlots h' → RaisedSN base g₂ (envX cn cs L a ccd cl :: outer) e (.ref 52) news h' → E (.ref e) { s with heap := h', toks := tk' }) :
    wpAny (model PySem.Challenge.rw_ok0015_01.row.prog w) (ktrTop dp un gd cn cs L a ccd cl outer) (call (.ref f) vs) Q E s :=
  S news dp un gd cn cs a ccd cl outer A₀ base h₀ L m s Q E B F K N T hk hdp hu hpre hret hexc
theorem PZ.calm (S : PZ w mean mg mb n f vs Pre Post False)
    (B : Below A₀ base outer h₀) (F : Fr h₀ L s.heap m) (K : (hd.heap_1 w.params).In h₀) (N : News h₀ L s.heap news) (T : Top vw (looseW vw [Str.ofString "LinkFault"]) mean mg mb h₀) (hk : cs.kind = .function) (hdp : dp + n < recursionLimit) (hu : un + 8 * n < cLine) (hpre : Pre h₀ news)
    (hret : ∀ v news' h' tk', Post news v news' → Fr h₀ L h' m → News h₀ L h' news' → Q v { s with heap := h', toks := tk' }) :
    wpAny (model PySem.Challenge.rw_ok0015_01.row.prog w) (ktrTop dp un gd cn cs L a ccd cl outer) (call (.ref f) vs) Q E s :=
  S.use B F K N T hk hdp hu hpre hret False.elim
end
theorem lines_T3_1 : True := by
  (k_with "mine: startZ" => (unfold PZ; k_fill; intros; rename_i hpre hret hexc; refine wpAny_call ?_; k_dflt cell_enter))
  trivial
section
variable {h₀ h' g : Heap} {L : Addr} {m : Str → Option Value} {base : Heap} {l : List Env} {e : Addr} {news news' : List (Addr × Obj)} {s : Shared} {Q E : Value → Shared → Prop} {tk' : Nat} {bad : Prop} {v : Value}
theorem endXZ (hexc : bad → ∀ e g₂ h' tk', Fr h₀ L g₂ m → g₂.UpToSlots h' → RaisedSN base g₂ l e (.ref 52) news h' → E (.ref e) { s with heap := h', toks := tk' }) (FG : Fr h₀ L g m) (U : g.UpToSlots h') (R : RaisedSN base g l e (.ref 52) news' h') (hs : ∀ p ∈ news, p ∈ news') (he : bad) : E (.ref e) { s with heap := h', toks := tk' } :=
  hexc he e g h' tk' FG U (raisedSub R hs)
theorem endZs {PP : Value → List (Addr × Obj) → Prop} {news₂ : List (Addr × Obj)} (hret : ∀ v news' h' tk', PP v news' → Fr h₀ L h' m → News h₀ L h' news' → Q v { s with heap := h', toks := tk' }) (F : Fr h₀ L h' m) (N : News h₀ L h' news₂) (hp : PP v news') (hs : ∀ p ∈ news', p ∈ news₂) : Q v { s with heap := h', toks := tk' } :=
  hret v news' h' tk' hp F fun p q => N p (hs p q)
theorem endZ {PP : Value → List (Addr × Obj) → Prop} (hret : ∀ v news' h' tk', PP v news' → Fr h₀ L h' m → News h₀ L h' news' → Q v { s with heap := h', toks := tk' }) (F : Fr h₀ L h' m) (N : News h₀ L h' news') (hp : PP v news') : Q v { s with heap := h', toks := tk' } :=
  hret v news' h' tk' hp F N
end
theorem lines_T3_2 : True := by
  (k_with "mine: endXZ" => (refine endXZ (by assumption) (by k_asm) (by assumption) (by assumption) (by walk_at "mine: sub") ?_))
  (k_with "mine: endZ" => (refine endZ (by assumption) (by k_asm) (by k_asm) ?_))
  trivial
/-- a made list of these texts, at the head of the ledger -/
def GivesList (ys : List Str) (news : List (Addr × Obj)) (v : Value) (news' : List (Addr × Obj)) : Prop := ∃ l vs n, v = .ref l ∧ StrsAre vs ys ∧ news' = (l, listOf vs.toArray n) :: news ∧ ∀ p ∈ news, p.1 ≠ l
abbrev partsOf (x : Str) : List Str := Txt.split x (Str.ofString " ")
theorem strs_get {vs : List Value} {ys : List Str} (h : StrsAre vs ys) : ∀ {i : Nat} {v : Value}, vs[i]? = some v → ∃ y t, v = .str y t ∧ ys[i]? = some y := by
  induction h with
  | nil => intro i v e; cases e
  | cons y t _ ih =>
    intro i v e
    cases i with
    | zero => exact ⟨y, t, (Option.some.inj e).symm, rfl⟩
    | succ i => exact ih (i := i) (by simpa using e)
theorem parts_push {ps : List Str} {i : Nat} {y : Str} (hP : ∀ k, k < i → ps[k]? ≠ some (Str.ofString "")) (hy : ps[i]? = some y) (h : (y == Str.ofString "") = false) : ∀ k, k < i + 1 → ps[k]? ≠ some (Str.ofString "") := by
  intro k hk
  rcases Nat.lt_or_ge k i with h1 | h1
  · exact hP k h1
  · rw [show k = i by omega, hy]
    intro z
    rw [Option.some.inj z] at h
    simp at h
theorem parts_none {ps : List Str} {n : Nat} (hn : ps.length ≤ n) (hP : ∀ k, k < n → ps[k]? ≠ some (Str.ofString "")) : ¬ Str.ofString "" ∈ ps := by
  intro h
  obtain ⟨k, hk, e⟩ := List.mem_iff_getElem.mp h
  exact hP k (by omega) (by rw [List.getElem?_eq_getElem hk, e])
theorem lines_T3_3 : True := by
  (k_with "call ref cons nil" => (walk_at "mine: fault"))
  (k_with "call builtin:str.split" => (k_here; (with_reducible show wpAny _ _ (call (Value.builtin "str.split") _) _ _ _); (refine KSpl.split1 (by k_asm) (by k_asm) (by decide) ?_ (by walk_at "mine: size")); intro D' l' h' k' e' a' F' N' l1))
  trivial
theorem split_row_spec (w mean mg mb) (x : Str) (t : Tok) (hv : x.length ≤ 1000000) : PZ w mean mg mb 3 250 [.str x t] (fun _ _ => True) (fun news v news' => ¬ Str.ofString "" ∈ partsOf x ∧ GivesList (partsOf x) news v news') (Str.ofString "" ∈ partsOf x) := by
  walk_at "mine: startZ"
  k_steps
  unfold Mark
  rename Fr _ _ _ _ => lF
  k_here; (with_unfolding_all refine' For_invVF lF ?k1 ?k2 ?_; (case k1 => exact rfl); (case k2 => exact rfl))
  k_steps
  rename Fr _ _ _ _ => lF
  rename News _ _ _ _ => lN
  rename StrsAre _ _ => hA
  rename _ = Txt.split _ _ => hS
  (with_unfolding_all refine' my_vals (σ := Unit) (fun c => _) (fun c => []) (fun c => True) [] (fun i c => ∀ k, k < i → (partsOf x)[k]? ≠ some (Str.ofString "")) () (by rfl) (fun _ => .head _) lF lN trivial (fun _ h => nomatch h) (fun _ h => nomatch h) ?_ ?_)
  · clear lF lN
    rintro ⟨⟩ i v u h tk own hi hoff hF hP F N
    dsimp only at hP hF F N
    obtain ⟨y, ty, hv', hy⟩ := strs_get hA hi
    rw [hS] at hy
    rw [hv'] at F
    try k_fold
    k_steps
    · walk_at "mine: endXZ"
      rw [eq_of_beq (show (y == Str.ofString "") = true by with_reducible assumption)] at hy
      exact List.mem_of_getElem? hy
    · unfold Mark
      rename Fr _ _ _ _ => lF
      rename News _ _ _ _ => lN
      refine kst_end () lF lN (fun p hp => List.mem_append_left _ hp) (fun p hp => List.mem_append_right _ hp) rfl trivial (fun _ h => nomatch h) ?_ (parts_push hP hy (by with_reducible assumption))
      walk_at "mine: sameN"
  · clear lF lN
    rintro ⟨⟩ u h tk hF hP F N
    dsimp only at hP hF F N
    try k_fold
    k_steps
    walk_at "mine: endZ"
    refine ⟨parts_none ?_ hP, _, _, _, rfl, ?_, rfl, apart_lt (by with_reducible assumption)⟩
    · rw [hA.length]
      exact Nat.le_of_eq (congrArg List.length hS).symm
    · have hA2 := hA
      rw [hS] at hA2
      exact hA2
end
local macro_rules | `(tactic| walk_at "mine: endZs") => `(tactic| (refine' endZs ?ka ?kF ?kN ?kp ?ks; (case ka => assumption); (case kF => k_asm); (case kN => k_asm)))
section
theorem lines_U1 : True := by
  w_top off
  k_with_none
  (k_with "mine: start" => (unfold PS; k_fill; intros; rename_i hret hexc; refine wpAny_call ?_; k_dflt cell_enter))
  (k_with "mine: sub" => (first | exact fun _ h => h | exact fun _ h => List.mem_append_left _ h | (intro _ h; simp only [List.mem_append, List.mem_cons, h, true_or, or_true])))
  (k_with "mine: end" => ((first | refine endB (by assumption) (by k_asm) (by k_asm) (by walk_at "mine: sub") (resB ?_) | refine endI (by assumption) (by k_asm) (by k_asm) (by walk_at "mine: sub") (resI ?_) | refine endS (by assumption) (by k_asm) (by k_asm) (by walk_at "mine: sub") (resS ?_))))
  (k_with "mine: fill" => ((intro t' h' tk' F' N'); (try dsimp only); (try k_sweep); (try k_fold)))
  (k_with "exec While Compare cons nil" => (k_here; refine Mark.out ?_))
  (k_with "exec For Name Name cons nil" => (k_here; refine Mark.out ?_))
  (k_with "exec For Name Call cons nil" => (k_here; refine Mark.out ?_))
  (k_with "exec For Name List cons nil" => (k_here; refine Mark.out ?_))
  (k_with "binaryOp Add str str" => (k_here; (with_reducible show wpAny _ _ (binaryOp Operator.Add (Value.str _ _) (Value.str _ _)) _ _ _); (refine add_str ?_ (by first | (walk_at "mine: size") | fail)); intro _ _))
  (k_with "mine: same" => (intro z h2 h3; (simp only [List.forall_mem_cons, List.not_mem_nil, false_implies, implies_true, and_true, ne_eq] at h2); first | ((simp only [List.contains_cons, List.contains_nil, Bool.or_false, Bool.or_eq_false_iff, beq_eq_false_iff_ne, ne_eq] at h3); (simp [h2, h3, kstB]; done)) | (simp [h2, kstB]; done)))
  (k_with "call builtin:list.append" => (k_here; (with_reducible show wpAny _ _ (call (Value.builtin _) [Value.ref _, _]) _ _ _); k_dflt (refine append_K (by first | (k_asm) | fail) (by first | (k_asm) | fail) (by first | (k_upd) | fail) ?_ (by first | (walk_at "mine: size") | fail); k_whole); intro h' F' N'; (try simp only [List.push_toArray] at N'); (try k_sweep)))
  (k_with "InvEndN" => (refine Mark.out ?_))
  (k_with "KswEnd" => (refine Mark.out ?_))
  (k_with "call builtin:str.join" => (k_here; refine Mark.out ?_))
  (k_with "mine: sameN" => (intro z h1 h2 h3; (simp only [List.forall_mem_cons, List.not_mem_nil, false_implies, implies_true, and_true, ne_eq] at h2); first | ((simp only [List.contains_cons, List.contains_nil, Bool.or_false, Bool.or_eq_false_iff, beq_eq_false_iff_ne, ne_eq] at h3); (simp [h1, h2, h3, kstB]; done)) | (simp [h1, h2, kstB]; done)))
  (k_with "exec Raise some none" => (k_here; k_dflt (refine Raise_fault (by exact rfl) ?_)))
  (k_with "mine: fault" => (k_here; k_dflt (refine fault_call (by first | (k_asm) | fail) (by first | (k_asm) | fail) (by first | (k_asm) | fail) (by first | (k_asm) | fail) (by first | (k_asm) | fail) (by first | (first | exact rfl | assumption) | fail) (by first | (ktr_room) | fail) (by first | (ktr_units) | fail) ?_); (intro e' d' tt' h' tk' F' N' hne'); (refine ⟨_, _, _, rfl, by k_in, (N' _ (List.Mem.head _)).1, ?_⟩); (try dsimp only); (try k_sweep)))
  (k_with "mine: endX" => (refine endX (by assumption) (by k_asm) (by assumption) (by assumption) (by walk_at "mine: sub") ?_))
  (k_with "mine: endR" => ((first | refine endB (by assumption) (by k_asm) (by k_asm) (by walk_at "mine: sub") ?_ | refine endI (by assumption) (by k_asm) (by k_asm) (by walk_at "mine: sub") ?_ | refine endS (by assumption) (by k_asm) (by k_asm) (by walk_at "mine: sub") ?_)))
  (k_with "mine: size" => (rw [sizeLine_eq]; (first | omega | (simp only [Str.length_append, tx_length, len_item, List.length_cons, List.length_nil, List.length_append, List.size_toArray, Array.size_push]; omega))))
  (k_with "mine: filled" => ((intro t' h' tk' F' N'); (try dsimp only); (try k_sweep); (try k_fold)))
  (k_with "mine: startZ" => (unfold PZ; k_fill; intros; rename_i hpre hret hexc; refine wpAny_call ?_; k_dflt cell_enter))
  (k_with "mine: endXZ" => (refine endXZ (by assumption) (by k_asm) (by assumption) (by assumption) (by walk_at "mine: sub") ?_))
  (k_with "mine: endZ" => (refine endZ (by assumption) (by k_asm) (by k_asm) ?_))
  trivial
/-- a list of ints that lies in the base or in the ledger -/
def IntList (l : Addr) (h₀ : Heap) (news : List (Addr × Obj)) : Prop := ∃ vs ns, IntsAre vs ns ∧ ns.length ≤ 1000 ∧ (h₀.IsList l vs.toArray ∨ ∃ n, (l, listOf vs.toArray n) ∈ news)
theorem fr_list {h₀ h : Heap} {L l : Addr} {m : Str → Option Value} {its : Array Value} (F : Fr h₀ L h m) (x : h₀.IsList l its) : h.IsList l its := x.at fun o e => F.keep l o e
theorem size_63 {vs : List Value} {ns : List Int} (hi : IntsAre vs ns) (h : ns.length ≤ 1000) : ((vs.toArray.size : Nat) : Int) < 2 ^ 63 := by
  rw [List.size_toArray, hi.length]; omega
theorem lt_ns {vs : List Value} {ns : List Int} {a : Int} (hi : IntsAre vs ns) (h : a < ((vs.toArray.size : Nat) : Int)) : a < (ns.length : Int) := by
  rw [List.size_toArray, hi.length] at h; exact h
theorem nat_63 {vs : List Value} {ns : List Int} {a : Int} (hi : IntsAre vs ns) (hn : ns.length ≤ 1000) (h : a < ((vs.toArray.size : Nat) : Int)) : a < 2 ^ 63 := by
  rw [List.size_toArray, hi.length] at h; omega
theorem mod_nat {x : Int} {b : Nat} (hb : 0 < b) : ∃ k : Nat, x.fmod (b : Int) = (k : Int) ∧ k < b := by
  have h1 := Int.fmod_nonneg_of_pos x (show (0 : Int) < b by omega)
  have h2 := Int.fmod_lt_of_pos x (show (0 : Int) < b by omega)
  exact ⟨(x.fmod (b : Int)).toNat, by omega, by omega⟩
theorem lines_U1_1 : True := by
  (k_with "call builtin:len" => (k_here; (refine len_list (by with_reducible assumption) (size_63 (by with_reducible assumption) (by with_reducible assumption)) ?_)))
  (k_with "subscriptTail" => (k_here; (refine item_list_ints (by with_reducible assumption) (by with_reducible assumption) (by with_reducible assumption) (lt_ns (by with_reducible assumption) (by with_reducible assumption)) (nat_63 (by with_reducible assumption) (by with_reducible assumption) (by with_reducible assumption)) ?_); intro _))
  trivial
theorem law_piece_spec (w mean mg mb) (l : Addr) (a : Int) (b : Nat) (t u : Tok) (ha : 0 ≤ a) (hb : 0 < b) : PZ w mean mg mb 2 278 [.ref l, .int a t, .int b u] (IntList l) (fun news v news' => news' = news ∧ ∃ (k : Nat) (t' : Tok), v = .int k t' ∧ k < b) False := by
  walk_at "mine: startZ"
  rename IntList _ _ _ => hL
  obtain ⟨vs, ns, hi, hn, hl⟩ := hL
  rename Fr _ _ _ _ => lF
  rename News _ _ _ _ => lN
  have hI : Heap.IsList _ l vs.toArray := hl.elim (fun z => fr_list lF (fr_list (by with_reducible assumption) z)) (fun ⟨_, z⟩ => News.isList lN z)
  k_steps
  · obtain ⟨k, e, hk⟩ := mod_nat (x := ns.getD a.toNat 0) hb
    walk_at "mine: endZ"
    exact ⟨rfl, k, _, by rw [e], hk⟩
  · walk_at "mine: endZ"
    exact ⟨rfl, 0, _, rfl, hb⟩
theorem piece_call {w mean mg mb} {news : List (Addr × Obj)}
    {dp un : Nat} {gd : Option (List Code)} {cn : Str} {cs : Scope} {a : Addr} {ccd : Value} {cl : List (Str × Addr)} {outer : List Env} {A₀ : Around} {base h₀ : Heap} {L : Addr} {m : Str → Option Value} {s : Shared} {Q E : Value → Shared → Prop}
    {l : Addr} {p : Int} {b : Nat} {t u : Tok} (hp : 0 ≤ p) (hb : 0 < b)
    (B : Below A₀ base outer h₀) (F : Fr h₀ L s.heap m) (K : (hd.heap_1 w.params).In h₀) (N : News h₀ L s.heap news) (T : Top vw (looseW vw [Str.ofString "LinkFault"]) mean mg mb h₀) (hk : cs.kind = .function) (hdp : dp + 2 < recursionLimit) (hu : un + 8 * 2 < cLine) (hpre : IntList l h₀ news)
    (hret : ∀ (k : Nat) t' h' tk', k < b → Fr h₀ L h' m → News h₀ L h' news → Q (.int k t') { s with heap := h', toks := tk' }) :
    wpAny (model PySem.Challenge.rw_ok0015_01.row.prog w) (ktrTop dp un gd cn cs L a ccd cl outer) (call (.ref 278) [.ref l, .int p t, .int b u]) Q E s :=
  (law_piece_spec w mean mg mb l p b t u hp hb).calm B F K N T hk hdp hu hpre fun v news' h' tk' ⟨e1, k, t', e2, hk'⟩ F2 N2 => by
    rw [e2]
    rw [e1] at N2
    exact hret k t' h' tk' hk' F2 N2
theorem intlist_in {l L : Addr} {h₀ h : Heap} {m : Str → Option Value} {news news' : List (Addr × Obj)} (x : IntList l h₀ news) (F : Fr h₀ L h m) (hs : ∀ p ∈ news, p ∈ news') : IntList l h news' :=
  let ⟨vs, ns, hi, hn, hl⟩ := x
  ⟨vs, ns, hi, hn, hl.elim (fun z => .inl (fr_list F z)) fun ⟨n, z⟩ => .inr ⟨n, hs _ z⟩⟩
theorem small1 {n : Nat} (h : n ≤ 1000) : Builtin.Range.small 0 (n : Int) 1 = true := by
  unfold Builtin.Range.small
  have e : Builtin.Range.rangeSize 0 (n : Int) 1 = (n : Int) := by
    unfold Builtin.Range.rangeSize
    rw [if_pos (by decide)]
    by_cases h : (0 : Int) < n
    · rw [if_pos h]; omega
    · rw [if_neg h]; omega
  rw [e, fits18 (by omega) (by omega), fits18 (by omega) (by omega), fits18 (by omega) (by omega), if_pos (by decide), fits18 (by omega) (by omega)]
  simp
theorem size1 (n : Nat) : Builtin.Range.rangeSize 0 (n : Int) 1 = (n : Int) := by
  unfold Builtin.Range.rangeSize
  rw [if_pos (by decide)]
  by_cases h : (0 : Int) < n
  · rw [if_pos h]; omega
  · rw [if_neg h]; omega
end
section
theorem lines_U2 : True := by
  w_top off
  k_with_none
  (k_with "mine: start" => (unfold PS; k_fill; intros; rename_i hret hexc; refine wpAny_call ?_; k_dflt cell_enter))
  (k_with "mine: sub" => (first | exact fun _ h => h | exact fun _ h => List.mem_append_left _ h | (intro _ h; simp only [List.mem_append, List.mem_cons, h, true_or, or_true])))
  (k_with "mine: end" => ((first | refine endB (by assumption) (by k_asm) (by k_asm) (by walk_at "mine: sub") (resB ?_) | refine endI (by assumption) (by k_asm) (by k_asm) (by walk_at "mine: sub") (resI ?_) | refine endS (by assumption) (by k_asm) (by k_asm) (by walk_at "mine: sub") (resS ?_))))
  (k_with "mine: fill" => ((intro t' h' tk' F' N'); (try dsimp only); (try k_sweep); (try k_fold)))
  (k_with "exec While Compare cons nil" => (k_here; refine Mark.out ?_))
  (k_with "exec For Name Name cons nil" => (k_here; refine Mark.out ?_))
  (k_with "exec For Name Call cons nil" => (k_here; refine Mark.out ?_))
  (k_with "exec For Name List cons nil" => (k_here; refine Mark.out ?_))
  (k_with "binaryOp Add str str" => (k_here; (with_reducible show wpAny _ _ (binaryOp Operator.Add (Value.str _ _) (Value.str _ _)) _ _ _); (refine add_str ?_ (by first | (walk_at "mine: size") | fail)); intro _ _))
  (k_with "mine: same" => (intro z h2 h3; (simp only [List.forall_mem_cons, List.not_mem_nil, false_implies, implies_true, and_true, ne_eq] at h2); first | ((simp only [List.contains_cons, List.contains_nil, Bool.or_false, Bool.or_eq_false_iff, beq_eq_false_iff_ne, ne_eq] at h3); (simp [h2, h3, kstB]; done)) | (simp [h2, kstB]; done)))
  (k_with "call builtin:list.append" => (k_here; (with_reducible show wpAny _ _ (call (Value.builtin _) [Value.ref _, _]) _ _ _); k_dflt (refine append_K (by first | (k_asm) | fail) (by first | (k_asm) | fail) (by first | (k_upd) | fail) ?_ (by first | (walk_at "mine: size") | fail); k_whole); intro h' F' N'; (try simp only [List.push_toArray] at N'); (try k_sweep)))
  (k_with "InvEndN" => (refine Mark.out ?_))
  (k_with "KswEnd" => (refine Mark.out ?_))
  (k_with "call builtin:str.join" => (k_here; refine Mark.out ?_))
  (k_with "mine: sameN" => (intro z h1 h2 h3; (simp only [List.forall_mem_cons, List.not_mem_nil, false_implies, implies_true, and_true, ne_eq] at h2); first | ((simp only [List.contains_cons, List.contains_nil, Bool.or_false, Bool.or_eq_false_iff, beq_eq_false_iff_ne, ne_eq] at h3); (simp [h1, h2, h3, kstB]; done)) | (simp [h1, h2, kstB]; done)))
  (k_with "exec Raise some none" => (k_here; k_dflt (refine Raise_fault (by exact rfl) ?_)))
  (k_with "mine: fault" => (k_here; k_dflt (refine fault_call (by first | (k_asm) | fail) (by first | (k_asm) | fail) (by first | (k_asm) | fail) (by first | (k_asm) | fail) (by first | (k_asm) | fail) (by first | (first | exact rfl | assumption) | fail) (by first | (ktr_room) | fail) (by first | (ktr_units) | fail) ?_); (intro e' d' tt' h' tk' F' N' hne'); (refine ⟨_, _, _, rfl, by k_in, (N' _ (List.Mem.head _)).1, ?_⟩); (try dsimp only); (try k_sweep)))
  (k_with "mine: endX" => (refine endX (by assumption) (by k_asm) (by assumption) (by assumption) (by walk_at "mine: sub") ?_))
  (k_with "mine: endR" => ((first | refine endB (by assumption) (by k_asm) (by k_asm) (by walk_at "mine: sub") ?_ | refine endI (by assumption) (by k_asm) (by k_asm) (by walk_at "mine: sub") ?_ | refine endS (by assumption) (by k_asm) (by k_asm) (by walk_at "mine: sub") ?_)))
  (k_with "mine: size" => (rw [sizeLine_eq]; (first | omega | (simp only [Str.length_append, tx_length, len_item, List.length_cons, List.length_nil, List.length_append, List.size_toArray, Array.size_push]; omega))))
  (k_with "mine: filled" => ((intro t' h' tk' F' N'); (try dsimp only); (try k_sweep); (try k_fold)))
  (k_with "mine: startZ" => (unfold PZ; k_fill; intros; rename_i hpre hret hexc; refine wpAny_call ?_; k_dflt cell_enter))
  (k_with "mine: endXZ" => (refine endXZ (by assumption) (by k_asm) (by assumption) (by assumption) (by walk_at "mine: sub") ?_))
  (k_with "mine: endZ" => (refine endZ (by assumption) (by k_asm) (by k_asm) ?_))
  trivial
theorem lines_U2_1 : True := by
  (k_with "call ref cons nil" => (k_here; k_dflt (refine piece_call (by first | (first | assumption | omega) | fail) (by first | (decide) | fail) (by first | (k_asm) | fail) (by first | (k_asm) | fail) (by first | (k_asm) | fail) (by first | (k_asm) | fail) (by first | (k_asm) | fail) (by first | (first | exact rfl | assumption) | fail) (by first | (ktr_room) | fail) (by first | (ktr_units) | fail) (by first | (walk_at "mine: intlist") | fail) ?_); (intro k' t' h' tk' hk' F' N'); (try dsimp only); (try k_sweep); (try k_fold)))
  (k_with "mine: intlist" => (first | assumption | exact intlist_in (by assumption) (by k_asm) (by walk_at "mine: sub")))
  trivial
def SIGNS : List Str := [Str.ofString "a", Str.ofString "B", Str.ofString "7", Str.ofString "_", Str.ofString " ", Str.ofString "'", Str.ofString "\\", Str.ofString "/", Str.ofString ":", Str.ofString "{", Str.ofString "\n", Str.ofString "é", Str.ofString "\x7f", Str.ofString "z", Str.ofString "€", Str.ofString "!", Str.ofString "~", Str.ofString "-"]
theorem sig_ok : ∀ k, k < 18 → (SIGNS.getD k Str.empty).length = 1 ∧ ∀ c ∈ (SIGNS.getD k Str.empty).cps.toList, c ≤ 1114111 := by decide +kernel
theorem sig_lt {k : Nat} (h : k < 18) : ((k : Nat) : Int) < ((SIGNS.length : Nat) : Int) := Int.ofNat_lt.mpr h
theorem fit_18 {k : Nat} (h : k < 18) : ((k : Nat) : Int) < 2 ^ 63 := by omega
theorem sig_push {x : Str} {i k : Nat} (hk : k < 18) (h : x.length ≤ i ∧ ∀ q ∈ x.cps.toList, q ≤ 1114111) : (x ++ SIGNS.getD ((k : Nat) : Int).toNat Str.empty).length ≤ i + 1 ∧ ∀ q ∈ (x ++ SIGNS.getD ((k : Nat) : Int).toNat Str.empty).cps.toList, q ≤ 1114111 := by
  obtain ⟨h1, h2⟩ := sig_ok k hk
  rw [Int.toNat_natCast]
  refine ⟨by rw [Str.length_append, h1]; omega, fun q hq => ?_⟩
  rw [Str.cps_append, Array.toList_append] at hq
  exact (List.mem_append.mp hq).elim (h.2 q) (h2 q)
theorem sig_size {x : Str} {k : Nat} (hk : k < 18) (h : x.length ≤ 100) : x.length + (SIGNS.getD ((k : Nat) : Int).toNat Str.empty).length ≤ sizeLine := by
  rw [sizeLine_eq, Int.toNat_natCast, (sig_ok k hk).1]; omega
theorem lines_U2_2 : True := by
  (k_with "subscriptTail" => (k_here; (refine KTb.item_list (ws := SIGNS) (News.isList (by k_asm) (.head _)) (by repeat (first | exact .nil | refine .cons _ _ ?_)) (Int.natCast_nonneg _) (sig_lt (by assumption)) (fit_18 (by assumption)) ?_); intro _ _))
  (k_with "inplaceOp Add str str" => (k_here; (with_reducible show wpAny _ _ (inplaceOp Operator.Add (Value.str _ _) (Value.str _ _)) _ _ _); (refine iadd_str ?_ (by first | (exact sig_size (by with_reducible assumption) (by with_reducible assumption)) | fail)); intro _ _))
  trivial
theorem law_name_spec (w mean mg mb) (l : Addr) (a : Int) (t : Tok) (ha : 0 ≤ a) : PZ w mean mg mb 3 285 [.ref l, .int a t] (IntList l) (fun news v news' => news' = news ∧ ∃ (x : Str) (t' : Tok), v = .str x t' ∧ x.length ≤ 8 ∧ ∀ c ∈ x.cps.toList, c ≤ 1114111) False := by
  walk_at "mine: startZ"
  k_steps
  unfold Mark
  rename Fr _ _ _ _ => lF
  k_here; (with_unfolding_all refine' For_invVF lF ?k1 ?k2 ?_; (case k1 => exact rfl); (case k2 => exact rfl))
  k_steps
  rename Fr _ _ _ _ => lF
  rename News _ _ _ _ => lN
  rename IsRange _ _ _ _ _ _ _ _ => hR
  rename _ < 9 => h9
  have h9' : _ < (9 : Nat) := h9
  (with_unfolding_all refine' my_range (n := _) (σ := Str × Tok) (fun c => _) (fun c => [(Str.ofString "made", .str c.1 c.2)]) (fun c => True) [] (fun i c => c.1.length ≤ i ∧ ∀ q ∈ c.1.cps.toList, q ≤ 1114111) (Str.ofString "", _) (by rfl) (by exact hR) (small1 (by omega)) (size1 _) lF lN trivial (List.forall_mem_cons.mpr ⟨by rfl, List.forall_mem_nil _⟩) ⟨(by decide +kernel : (Str.ofString "").length ≤ 0), (by decide +kernel : ∀ q ∈ (Str.ofString "").cps.toList, q ≤ 1114111)⟩ ?_ ?_)
  · clear lF lN
    rintro ⟨x, tx⟩ i t1 u h tk own hi hoff hF hP F N
    dsimp only at hP hF F N
    try k_fold
    have hx8 : x.length ≤ 100 := by omega
    k_steps
    unfold Mark
    rename Fr _ _ _ _ => lF
    rename News _ _ _ _ => lN
    refine kst_end (_, _) lF lN (fun p hp => List.mem_append_left _ hp) (fun p hp => List.mem_append_right _ hp) rfl trivial (List.forall_mem_cons.mpr ⟨by rfl, List.forall_mem_nil _⟩) ?_ (sig_push (by assumption) hP)
    walk_at "mine: sameN"
  · clear lF lN
    rintro ⟨x, tx⟩ u h tk hF hP F N
    dsimp only at hP hF F N
    try k_fold
    k_steps
    walk_at "mine: endZs"
    (case kp => exact ⟨rfl, x, _, rfl, by omega, hP.2⟩)
    (case ks => walk_at "mine: sub")
end
section
theorem lines_U3 : True := by
  w_top off
  k_with_none
  (k_with "mine: start" => (unfold PS; k_fill; intros; rename_i hret hexc; refine wpAny_call ?_; k_dflt cell_enter))
  (k_with "mine: sub" => (first | exact fun _ h => h | exact fun _ h => List.mem_append_left _ h | (intro _ h; simp only [List.mem_append, List.mem_cons, h, true_or, or_true])))
  (k_with "mine: end" => ((first | refine endB (by assumption) (by k_asm) (by k_asm) (by walk_at "mine: sub") (resB ?_) | refine endI (by assumption) (by k_asm) (by k_asm) (by walk_at "mine: sub") (resI ?_) | refine endS (by assumption) (by k_asm) (by k_asm) (by walk_at "mine: sub") (resS ?_))))
  (k_with "mine: fill" => ((intro t' h' tk' F' N'); (try dsimp only); (try k_sweep); (try k_fold)))
  (k_with "exec While Compare cons nil" => (k_here; refine Mark.out ?_))
  (k_with "exec For Name Name cons nil" => (k_here; refine Mark.out ?_))
  (k_with "exec For Name Call cons nil" => (k_here; refine Mark.out ?_))
  (k_with "exec For Name List cons nil" => (k_here; refine Mark.out ?_))
  (k_with "binaryOp Add str str" => (k_here; (with_reducible show wpAny _ _ (binaryOp Operator.Add (Value.str _ _) (Value.str _ _)) _ _ _); (refine add_str ?_ (by first | (walk_at "mine: size") | fail)); intro _ _))
  (k_with "mine: same" => (intro z h2 h3; (simp only [List.forall_mem_cons, List.not_mem_nil, false_implies, implies_true, and_true, ne_eq] at h2); first | ((simp only [List.contains_cons, List.contains_nil, Bool.or_false, Bool.or_eq_false_iff, beq_eq_false_iff_ne, ne_eq] at h3); (simp [h2, h3, kstB]; done)) | (simp [h2, kstB]; done)))
  (k_with "call builtin:list.append" => (k_here; (with_reducible show wpAny _ _ (call (Value.builtin _) [Value.ref _, _]) _ _ _); k_dflt (refine append_K (by first | (k_asm) | fail) (by first | (k_asm) | fail) (by first | (k_upd) | fail) ?_ (by first | (walk_at "mine: size") | fail); k_whole); intro h' F' N'; (try simp only [List.push_toArray] at N'); (try k_sweep)))
  (k_with "InvEndN" => (refine Mark.out ?_))
  (k_with "KswEnd" => (refine Mark.out ?_))
  (k_with "call builtin:str.join" => (k_here; refine Mark.out ?_))
  (k_with "mine: sameN" => (intro z h1 h2 h3; (simp only [List.forall_mem_cons, List.not_mem_nil, false_implies, implies_true, and_true, ne_eq] at h2); first | ((simp only [List.contains_cons, List.contains_nil, Bool.or_false, Bool.or_eq_false_iff, beq_eq_false_iff_ne, ne_eq] at h3); (simp [h1, h2, h3, kstB]; done)) | (simp [h1, h2, kstB]; done)))
  (k_with "exec Raise some none" => (k_here; k_dflt (refine Raise_fault (by exact rfl) ?_)))
  (k_with "mine: fault" => (k_here; k_dflt (refine fault_call (by first | (k_asm) | fail) (by first | (k_asm) | fail) (by first | (k_asm) | fail) (by first | (k_asm) | fail) (by first | (k_asm) | fail) (by first | (first | exact rfl | assumption) | fail) (by first | (ktr_room) | fail) (by first | (ktr_units) | fail) ?_); (intro e' d' tt' h' tk' F' N' hne'); (refine ⟨_, _, _, rfl, by k_in, (N' _ (List.Mem.head _)).1, ?_⟩); (try dsimp only); (try k_sweep)))
  (k_with "mine: endX" => (refine endX (by assumption) (by k_asm) (by assumption) (by assumption) (by walk_at "mine: sub") ?_))
  (k_with "mine: endR" => ((first | refine endB (by assumption) (by k_asm) (by k_asm) (by walk_at "mine: sub") ?_ | refine endI (by assumption) (by k_asm) (by k_asm) (by walk_at "mine: sub") ?_ | refine endS (by assumption) (by k_asm) (by k_asm) (by walk_at "mine: sub") ?_)))
  (k_with "mine: size" => (rw [sizeLine_eq]; (first | omega | (simp only [Str.length_append, tx_length, len_item, List.length_cons, List.length_nil, List.length_append, List.size_toArray, Array.size_push]; omega))))
  (k_with "mine: filled" => ((intro t' h' tk' F' N'); (try dsimp only); (try k_sweep); (try k_fold)))
  (k_with "mine: startZ" => (unfold PZ; k_fill; intros; rename_i hpre hret hexc; refine wpAny_call ?_; k_dflt cell_enter))
  (k_with "mine: endXZ" => (refine endXZ (by assumption) (by k_asm) (by assumption) (by assumption) (by walk_at "mine: sub") ?_))
  (k_with "mine: endZ" => (refine endZ (by assumption) (by k_asm) (by k_asm) ?_))
  trivial
section
variable {prog : Program} {w : World} {A₀ : Around} {E : Value → Shared → Prop} {s' : Shared} {base g g₀ G : Heap} {outer : List Env} {L a e C : Addr} {m : Str → Option Value} {name : Str} {scope : Scope} {cd : Value}
  {b₀ : Stmt} {suite : List Stmt} {pos np : Pos} {rest : List ExceptHandler} {Q : Flow → Shared → Prop} {news : List (Addr × Obj)} {KF : Frag}
  {p : Program} {loose : List Str} {mean : ExcName → Option Value} {mg mb : Str → Option Value} {x : Str}
/-- an exception of a class of the program, caught by its own name in a called def -/
theorem caught_own (R : RaisedSN base G (envOf name scope L a cd :: outer) e (.ref C) news s'.heap) (F : Fr g L G m) (K : Below A₀ base outer g) (hsm : G.UpToSlots s'.heap) (XB : KF.In base) (TB : Top p loose mean mg mb base)
    (T0 : KtsTurn (outer.filterMap (·.frame)) g₀ g)
    (ex : nsIn KF mainGlobals x = some (some (.ref C))) (q : ktsIn KF C "BaseException" = true)
    (k : ∀ h' g', KtsTurn (outer.filterMap (·.frame)) g₀ g' → Fr g' L h' m → News g' L h' news → Below A₀ base outer g' → KF.In g' → Top p loose mean mg mb g' →
      wpAny (model prog w) ((A₀.deeper (envOf name scope L a cd)).mark (some (.ref e))) (execs (b₀ :: suite) (envOf name scope L a cd)) Q E { s' with heap := h' })
    (hk : scope.kind = .function := by rfl) (hx : (envOf name scope L a cd).kindOf x = some .globalImplicit := by rfl) (hd : (x == ("__debug__" : Str)) = false := by decide)
    (hE : PassesOwnAt (model prog w) ((A₀.deeper (envOf name scope L a cd)).mark (some (.ref e))) (A₀.deeper (envOf name scope L a cd)) (envOf name scope L a cd) E := by passes_own) :
    wpAny (model prog w) (A₀.deeper (envOf name scope L a cd)) (noteFrame (.ref e) (envOf name scope L a cd))
      (fun _ s₂ => wpAny (model prog w) (A₀.deeper (envOf name scope L a cd)) (setFlight (.ref e) none) (fun _ s₃ =>
        wpAny (model prog w) (A₀.deeper (envOf name scope L a cd)) (handleBy (.ref e) (envOf name scope L a cd) (.ExceptHandler (some (.Name x np)) none (b₀ :: suite) pos :: rest)) Q E s₃) E s₂) E s' := by
  obtain ⟨B, a0, hB, hBG, hl, hfl⟩ := R
  have hL : B.get? L = none := by
    obtain ⟨_, ⟨L', _, hf, hn', _⟩, _⟩ := hfl.2.2.1
    obtain rfl : L = L' := Option.some.inj hf
    exact hn'
  refine wpAny_looks_onW (Around.frames_deeper K.stack) rfl hfl fun h₄ hheld₄ hsm₄ => ?_
  refine wpAny_landsW hheld₄ fun h₅ hheld hsm₅' => ?_
  have hsm₅ := hsm₄.trans hsm₅'
  obtain ⟨g₅, T₅, F₅, K₅⟩ := kts_ground K F hBG hheld.1 (hsm.trans hsm₅)
  have X₅ : KF.In g₅ := XB.keeps K₅.stays
  have P₅ : TopRead p loose mg mb g₅ := topRead_of (TB.keeps K₅.stays)
  obtain ⟨ob, hob, hobc⟩ := hheld.there
  obtain ⟨nm, q', N, bs, bm, hdct, sn, sub, ab, col, dd, k0, k1, k2, k3, k5, newId, hC, hbase, hbT⟩ := kts_cls X₅ q
  have hC₅ := F₅.keep _ _ hC
  refine wpAny_handleBy_cons (codeAny_handlers_test (name_K F₅ X₅ P₅ ex ?_ hk hx hd)) (by intro q; cases q)
  refine wpAny_excMatches_sub_self hC₅ hob hobc hbase (codeAny_handlers_suite ?_)
  refine lands_againW hheld fun h₆ hfl₆ hsm₆ => ?_
  obtain ⟨g₆, T₆, F₆, K₆⟩ := kts_ground K F hBG hfl₆.1 ((hsm.trans hsm₅).trans hsm₆)
  have Nl : News g₆ L h₆ news := fun q hq => ⟨hfl₆.1 _ _ (hl q hq).1, (fun z => by have := (hl q hq).1; rw [z, hL] at this; cases this), T₆.none_ _ (kts_none F.keep (hl q hq).2.1)⟩
  exact wpAny_passesOwnAt hE (k h₆ g₆ (T0.trans T₆) F₆ Nl K₆ (XB.keeps K₆.stays) (TB.keeps K₆.stays))
end
/-- what a call, from the law itself, of a def that catches does -/
def PT (w : World) (mean : ExcName → Option Value) (mg mb : Str → Option Value) (n : Nat) (f : Addr) (vs : List Value) (Pre : Heap → List (Addr × Obj) → Prop) (Post : List (Addr × Obj) → Value → List (Addr × Obj) → Prop) : Prop :=
  ∀ (news : List (Addr × Obj)) (dp un : Nat) (gd : Option (List Code)) (cn : Str) (cs : Scope) (a : Addr) (ccd : Value) (A₀ : Around) (h₀ : Heap) (L : Addr) (m : Str → Option Value) (s : Shared) (Q E : Value → Shared → Prop),
    Below A₀ h₀ [] h₀ → Fr h₀ L s.heap m → (hd.heap_1 w.params).In h₀ → News h₀ L s.heap news → Top vw (looseW vw [Str.ofString "LinkFault"]) mean mg mb h₀ → cs.kind = .function → dp + n < recursionLimit → un + 8 * n < cLine → Pre h₀ news →
    (∀ v news' h' tk', Post news v news' → Fr h₀ L h' m → News h₀ L h' news' → Q v { s with heap := h', toks := tk' }) →
    wpAny (model PySem.Challenge.rw_ok0015_01.row.prog w) (ktrTop dp un gd cn cs L a ccd [] []) (call (.ref f) vs) Q E s
theorem in52 (P : Params) : ktsIn (hd.heap_1 P) 52 "BaseException" = true := by kernel_rfl
theorem name52 (P : Params) : nsIn (hd.heap_1 P) mainGlobals (Str.ofString "LinkFault") = some (some (.ref 52)) := by kernel_rfl
theorem lines_U3_1 : True := by
  (k_with "mine: startT" => (unfold PT; k_fill; intros; rename_i hpre hret; refine wpAny_call ?_; k_dflt (refine code_defS0 (by first | (k_asm) | fail) (by first | (k_asm) | fail) (by first | (k_asm) | fail) (by first | (k_asm) | fail) (by first | (k_asm) | fail) (by first | (exact rfl) | fail) (by first | (k_is) | fail) (by first | (k_is) | fail) (by first | (ktr_room) | fail) (by first | (exact BindsTo.of_eq rfl) | fail) (by first | (exact locs rfl) | fail) ?_ (by first | (assumption) | fail) (by first | (exact rfl) | fail) (by first | (exact rfl) | fail) (by first | (exact rfl) | fail) (by first | (decide) | fail); k_whole; intro g' L' h' FG' F' N' B' X' T' D'; (try dsimp only); (try k_lift B'); (try k_fold))))
  (k_with "noteFrame ref" => (k_here; (rename RaisedSN _ _ _ _ _ _ _ => rsX); k_dflt (refine caught_own rsX (by first | (k_asm) | fail) (by first | (k_asm) | fail) (by first | (assumption) | fail) (by first | (k_asm) | fail) (by first | (k_asm) | fail) (by first | (exact KtsTurn.refl) | fail) (name52 _) (in52 _) ?_; k_whole); intro h' g' TT' F' N' B' X' T'; (try dsimp only); (try k_fold)))
  (k_with "call ref cons nil" => (k_here; k_dflt (refine PS.opt (read_count_spec _ _ _ _ _ _ (by first | (assumption) | fail)) (by first | (k_asm) | fail) (by first | (k_asm) | fail) (by first | (k_asm) | fail) (by first | (k_asm) | fail) (by first | (k_asm) | fail) (by first | (first | exact rfl | assumption) | fail) (by first | (ktr_room) | fail) (by first | (ktr_units) | fail) (fun r' hr' t' h' tk' F' N' => ?_) (fun hr' e' g2' h' tk' F2' U' R' => ?_)); (all_goals (try dsimp only)); (all_goals (try k_sweep)); (all_goals (try k_fold))))
  trivial
def countedV (x : Str) : Int := match readN x with | some n => (n : Int) | none => -1
theorem counted_some {x : Str} {r : Nat} (h : readN x = some r) : countedV x = (r : Int) := by unfold countedV; rw [h]
theorem counted_none {x : Str} (h : readN x = none) : countedV x = -1 := by unfold countedV; rw [h]
theorem law_counted_spec (w mean mg mb) (x : Str) (t : Tok) (hv : x.length ≤ 1000) : PT w mean mg mb 4 299 [.str x t] (fun _ _ => True) (fun news v news' => news' = news ∧ ∃ t', v = .int (countedV x) t') := by
  walk_at "mine: startT"
  k_steps
  · walk_at "mine: endZ"
    exact ⟨rfl, _, by rw [counted_some (by with_reducible assumption)]⟩
  · walk_at "mine: endZ"
    exact ⟨rfl, _, by rw [counted_none (by with_reducible assumption)]⟩
/-- a made pair of texts, at the head of the ledger -/
def GivesPair (y z : Str) (news : List (Addr × Obj)) (v : Value) (news' : List (Addr × Obj)) : Prop := ∃ (D : Addr) (t u : Tok), v = .ref D ∧ news' = (D, { cls := .type "tuple", data := .seq #[.str y t, .str z u] }) :: news ∧ ∀ p ∈ news, p.1 ≠ D
def readV (x : Str) : Str × Str := match unq x with | some y => (Str.ofString "name", y) | none => (Str.ofString "fault", Str.ofString "")
theorem read_some {x y : Str} (h : unq x = some y) : readV x = (Str.ofString "name", y) := by unfold readV; rw [h]
theorem read_none {x : Str} (h : unq x = none) : readV x = (Str.ofString "fault", Str.ofString "") := by unfold readV; rw [h]
theorem lines_U3_2 : True := by
  (k_with "call ref cons nil" => (k_here; k_dflt (refine PS.opt (unquoted_name_spec _ _ _ _ _ _ (by first | (assumption) | fail) (by first | (assumption) | fail)) (by first | (k_asm) | fail) (by first | (k_asm) | fail) (by first | (k_asm) | fail) (by first | (k_asm) | fail) (by first | (k_asm) | fail) (by first | (first | exact rfl | assumption) | fail) (by first | (ktr_room) | fail) (by first | (ktr_units) | fail) (fun r' hr' t' h' tk' F' N' => ?_) (fun hr' e' g2' h' tk' F2' U' R' => ?_)); (all_goals (try dsimp only)); (all_goals (try k_sweep)); (all_goals (try k_fold))))
  trivial
theorem law_read_spec (w mean mg mb) (x : Str) (t : Tok) (hv : x.length ≤ 50000) (hc : ∀ c ∈ x.cps.toList, c ≤ 1114111) : PT w mean mg mb 7 292 [.str x t] (fun _ _ => True) (fun news v news' => GivesPair (readV x).1 (readV x).2 news v news') := by
  walk_at "mine: startT"
  k_steps
  · walk_at "mine: endZ"
    rw [read_some (by with_reducible assumption)]
    exact ⟨_, _, _, rfl, rfl, by first | exact allLt_ne _ (by assumption) | exact apart_lt (by with_reducible assumption)⟩
  · walk_at "mine: endZ"
    rw [read_none (by with_reducible assumption)]
    exact ⟨_, _, _, rfl, rfl, by first | exact allLt_ne _ (by assumption) | exact apart_lt (by with_reducible assumption)⟩
theorem split_call {w mean mg mb} {news : List (Addr × Obj)}
    {dp un : Nat} {gd : Option (List Code)} {cn : Str} {cs : Scope} {a : Addr} {ccd : Value} {cl : List (Str × Addr)} {outer : List Env} {A₀ : Around} {base h₀ : Heap} {L : Addr} {m : Str → Option Value} {s : Shared} {Q E : Value → Shared → Prop}
    {x : Str} {t : Tok} (hx : x.length ≤ 1000000)
    (B : Below A₀ base outer h₀) (F : Fr h₀ L s.heap m) (K : (hd.heap_1 w.params).In h₀) (N : News h₀ L s.heap news) (T : Top vw (looseW vw [Str.ofString "LinkFault"]) mean mg mb h₀) (hk : cs.kind = .function) (hdp : dp + 3 < recursionLimit) (hu : un + 8 * 3 < cLine)
    (hret : ∀ D vs n h' tk', ¬ Str.ofString "" ∈ partsOf x → StrsAre vs (partsOf x) → Fr h₀ L h' m → News h₀ L h' ((D, listOf vs.toArray n) :: news) → (∀ p ∈ news, p.1 ≠ D) → Q (.ref D) { s with heap := h', toks := tk' })
    (hexc : Str.ofString "" ∈ partsOf x → ∀ e g₂ h' tk', Fr h₀ L g₂ m → g₂.UpToSlots h' → RaisedSN base g₂ (envX cn cs L a ccd cl :: outer) e (.ref 52) news h' → E (.ref e) { s with heap := h', toks := tk' }) :
    wpAny (model PySem.Challenge.rw_ok0015_01.row.prog w) (ktrTop dp un gd cn cs L a ccd cl outer) (call (.ref 250) [.str x t]) Q E s :=
  (split_row_spec w mean mg mb x t hx).use B F K N T hk hdp hu trivial (fun v news' h' tk' ⟨hno, D, vs, n, e1, hA, e2, hne⟩ F2 N2 => by
    rw [e1]
    rw [e2] at N2
    exact hret D vs n h' tk' hno hA F2 N2 hne) hexc
theorem lines_U3_3 : True := by
  (k_with "call ref cons nil" => (k_here; k_dflt (refine split_call (by first | (assumption) | fail) (by first | (k_asm) | fail) (by first | (k_asm) | fail) (by first | (k_asm) | fail) (by first | (k_asm) | fail) (by first | (k_asm) | fail) (by first | (first | exact rfl | assumption) | fail) (by first | (ktr_room) | fail) (by first | (ktr_units) | fail) (fun D' vs' n' h' tk' hno' hA' F' N' hne' => ?_) (fun hbad' e' g2' h' tk' F2' U' R' => ?_)); (all_goals (try dsimp only)); (all_goals (try k_sweep)); (all_goals (try k_fold))))
  trivial
def partedL (x : Str) : List Str := if Str.ofString "" ∈ partsOf x then [] else partsOf x
theorem law_parted_spec (w mean mg mb) (x : Str) (t : Tok) (hv : x.length ≤ 1000000) : PT w mean mg mb 4 306 [.str x t] (fun _ _ => True) (GivesList (partedL x)) := by
  walk_at "mine: startT"
  k_steps
  · walk_at "mine: endZ"
    refine ⟨_, _, _, rfl, ?_, rfl, by with_reducible assumption⟩
    unfold partedL; rw [if_neg (by with_reducible assumption)]; assumption
  · walk_at "mine: endZ"
    refine ⟨_, [], _, rfl, ?_, rfl, apart_lt (by with_reducible assumption)⟩
    unfold partedL; rw [if_pos (by with_reducible assumption)]; exact .nil
end
section
theorem lines_Y1 : True := by
  w_top off
  k_with_none
  (k_with "mine: start" => (unfold PS; k_fill; intros; rename_i hret hexc; refine wpAny_call ?_; k_dflt cell_enter))
  (k_with "mine: sub" => (first | exact fun _ h => h | exact fun _ h => List.mem_append_left _ h | (intro _ h; simp only [List.mem_append, List.mem_cons, h, true_or, or_true])))
  (k_with "mine: end" => ((first | refine endB (by assumption) (by k_asm) (by k_asm) (by walk_at "mine: sub") (resB ?_) | refine endI (by assumption) (by k_asm) (by k_asm) (by walk_at "mine: sub") (resI ?_) | refine endS (by assumption) (by k_asm) (by k_asm) (by walk_at "mine: sub") (resS ?_))))
  (k_with "mine: fill" => ((intro t' h' tk' F' N'); (try dsimp only); (try k_sweep); (try k_fold)))
  (k_with "exec While Compare cons nil" => (k_here; refine Mark.out ?_))
  (k_with "exec For Name Name cons nil" => (k_here; refine Mark.out ?_))
  (k_with "exec For Name Call cons nil" => (k_here; refine Mark.out ?_))
  (k_with "exec For Name List cons nil" => (k_here; refine Mark.out ?_))
  (k_with "binaryOp Add str str" => (k_here; (with_reducible show wpAny _ _ (binaryOp Operator.Add (Value.str _ _) (Value.str _ _)) _ _ _); (refine add_str ?_ (by first | (walk_at "mine: size") | fail)); intro _ _))
  (k_with "mine: same" => (intro z h2 h3; (simp only [List.forall_mem_cons, List.not_mem_nil, false_implies, implies_true, and_true, ne_eq] at h2); first | ((simp only [List.contains_cons, List.contains_nil, Bool.or_false, Bool.or_eq_false_iff, beq_eq_false_iff_ne, ne_eq] at h3); (simp [h2, h3, kstB]; done)) | (simp [h2, kstB]; done)))
  (k_with "call builtin:list.append" => (k_here; (with_reducible show wpAny _ _ (call (Value.builtin _) [Value.ref _, _]) _ _ _); k_dflt (refine append_K (by first | (k_asm) | fail) (by first | (k_asm) | fail) (by first | (k_upd) | fail) ?_ (by first | (walk_at "mine: size") | fail); k_whole); intro h' F' N'; (try simp only [List.push_toArray] at N'); (try k_sweep)))
  (k_with "InvEndN" => (refine Mark.out ?_))
  (k_with "KswEnd" => (refine Mark.out ?_))
  (k_with "call builtin:str.join" => (k_here; refine Mark.out ?_))
  (k_with "mine: sameN" => (intro z h1 h2 h3; (simp only [List.forall_mem_cons, List.not_mem_nil, false_implies, implies_true, and_true, ne_eq] at h2); first | ((simp only [List.contains_cons, List.contains_nil, Bool.or_false, Bool.or_eq_false_iff, beq_eq_false_iff_ne, ne_eq] at h3); (simp [h1, h2, h3, kstB]; done)) | (simp [h1, h2, kstB]; done)))
  (k_with "exec Raise some none" => (k_here; k_dflt (refine Raise_fault (by exact rfl) ?_)))
  (k_with "mine: fault" => (k_here; k_dflt (refine fault_call (by first | (k_asm) | fail) (by first | (k_asm) | fail) (by first | (k_asm) | fail) (by first | (k_asm) | fail) (by first | (k_asm) | fail) (by first | (first | exact rfl | assumption) | fail) (by first | (ktr_room) | fail) (by first | (ktr_units) | fail) ?_); (intro e' d' tt' h' tk' F' N' hne'); (refine ⟨_, _, _, rfl, by k_in, (N' _ (List.Mem.head _)).1, ?_⟩); (try dsimp only); (try k_sweep)))
  (k_with "mine: endX" => (refine endX (by assumption) (by k_asm) (by assumption) (by assumption) (by walk_at "mine: sub") ?_))
  (k_with "mine: endR" => ((first | refine endB (by assumption) (by k_asm) (by k_asm) (by walk_at "mine: sub") ?_ | refine endI (by assumption) (by k_asm) (by k_asm) (by walk_at "mine: sub") ?_ | refine endS (by assumption) (by k_asm) (by k_asm) (by walk_at "mine: sub") ?_)))
  (k_with "mine: size" => (rw [sizeLine_eq]; (first | omega | (simp only [Str.length_append, tx_length, len_item, List.length_cons, List.length_nil, List.length_append, List.size_toArray, Array.size_push]; omega))))
  (k_with "mine: filled" => ((intro t' h' tk' F' N'); (try dsimp only); (try k_sweep); (try k_fold)))
  (k_with "mine: startZ" => (unfold PZ; k_fill; intros; rename_i hpre hret hexc; refine wpAny_call ?_; k_dflt cell_enter))
  (k_with "mine: endXZ" => (refine endXZ (by assumption) (by k_asm) (by assumption) (by assumption) (by walk_at "mine: sub") ?_))
  (k_with "mine: endZ" => (refine endZ (by assumption) (by k_asm) (by k_asm) ?_))
  trivial
/-! the symbols: what the ledger says of a Symbols object -/
section
open PySem.Spec PyProof.V
abbrev LPR (w : World) := PySem.Challenge.rw_ok0015_01.row.prog
theorem ne_cls {h₀ h : Heap} {L b c : Addr} {news : List (Addr × Obj)} {ob oc : Obj} (N : News h₀ L h news) (hp : (b, ob) ∈ news) (hq : (c, oc) ∈ news) (hne : ob.cls ≠ oc.cls) : b ≠ c := by
  intro e
  have h1 := (N _ hp).1
  have h2 := (N _ hq).1
  dsimp only at h1 h2
  rw [e, h2] at h1
  exact hne (congrArg Obj.cls (Option.some.inj h1)).symm
theorem nRL : (Value.ref 155) ≠ .type "list" := fun h => nomatch h
theorem nRD : (Value.ref 155) ≠ .type "dict" := fun h => nomatch h
theorem nDL : (Value.type "dict") ≠ .type "list" := fun h => absurd (Value.type.inj h) (by decide)
theorem nTL : (Value.type "tuple") ≠ .type "list" := fun h => absurd (Value.type.inj h) (by decide)
theorem nTD : (Value.type "tuple") ≠ .type "dict" := fun h => absurd (Value.type.inj h) (by decide)
/-- the ledger but for one address -/
def off (l : Addr) (news : List (Addr × Obj)) : List (Addr × Obj) := news.filter fun p => decide (p.1 ≠ l)
theorem mem_off {l : Addr} {news : List (Addr × Obj)} {p : Addr × Obj} (h : p ∈ news) (hne : p.1 ≠ l) : p ∈ off l news := List.mem_filter.mpr ⟨h, by simpa using hne⟩
theorem off_ne {l : Addr} {news : List (Addr × Obj)} : ∀ p ∈ off l news, p.1 ≠ l := fun p hp => by simpa using (List.mem_filter.mp hp).2
theorem off_sub {l : Addr} {news : List (Addr × Obj)} {p : Addr × Obj} (h : p ∈ off l news) : p ∈ news := (List.mem_filter.mp h).1
abbrev attr (w : World) (n : String) (t : Tok) (a : Addr) : DictEntry := { hash := PyData.keyHash w.params (Str.ofString n), key := .str (Str.ofString n) t, val := .ref a }
abbrev symDict (w : World) (l d f e : Addr) (t1 t2 t3 t4 : Tok) (n : Nat) : Obj := dictOf [attr w "texts" t1 l, attr w "atom_numbers" t2 d, attr w "functors" t3 f, attr w "functor_numbers" t4 e] n
/-- the numbers of the texts -/
def tabOf (ts : List Str) : List (Str × Int) := ts.zipIdx.map fun p => (p.1, (p.2 : Int))
abbrev keyEnc (ks : List Int) : PyData := encTuple PyData.int ks
def tab2 (fs : List (List Int)) : List (PyData × PyData) := fs.zipIdx.map fun p => (keyEnc p.1, PyData.int (p.2 : Int))
abbrev ikind (w : World) := intKind PySem.Challenge.rw_ok0015_01.row.prog w
abbrev skind (w : World) := PySem.strKind PySem.Challenge.rw_ok0015_01.row.prog w
def TextPart (w : World) (news : List (Addr × Obj)) (l d : Addr) (ts : List Str) : Prop :=
  ∃ vs n od kvs, (l, listOf vs.toArray n) ∈ news ∧ StrsAre vs ts ∧ (d, od) ∈ news ∧ od.IsDictOf (skind w) kvs ∧ FlatPairs PyData.str kvs (kdpD (tabOf ts)) ∧ (d == sysModules) = false ∧ ts.Nodup
def TupsAre (w : World) (news : List (Addr × Obj)) (fvs : List Value) (fs : List (List Int)) : Prop :=
  fvs.length = fs.length ∧ ∀ (i : Nat) (ks : List Int), fs[i]? = some ks → ∃ D ok, fvs[i]? = some (.ref D) ∧ (D, ok) ∈ news ∧ TupKeyObj (ikind w) ks ok
def FunPart (w : World) (news : List (Addr × Obj)) (f e : Addr) (fs : List (List Int)) : Prop :=
  ∃ fvs n, (f, listOf fvs.toArray n) ∈ news ∧ TupsAre w news fvs fs ∧ TupTab (ikind w) PyData.int news e (tab2 fs) ∧ fs.Nodup
structure Sym (w : World) (news : List (Addr × Obj)) (o dx l d f e : Addr) (ts : List Str) (fs : List (List Int)) : Prop where
  inst : (o, instObj 155 dx) ∈ news
  dict : ∃ t1 t2 t3 t4 n, (dx, symDict w l d f e t1 t2 t3 t4 n) ∈ news
  text : TextPart w news l d ts
  fun_ : FunPart w news f e fs
  lf : l ≠ f
  ddx : d ≠ dx
  edx : e ≠ dx
  de : d ≠ e
theorem tupKey_cls {w : World} {ks : List Int} {ok : Obj} (h : TupKeyObj (ikind w) ks ok) : ok.cls = .type "tuple" := h.1
theorem dict_cls {w : World} {l d f e : Addr} {t1 t2 t3 t4 : Tok} {n : Nat} : (symDict w l d f e t1 t2 t3 t4 n).cls = .type "dict" := rfl
theorem tupsAre_mono {w : World} {news news' : List (Addr × Obj)} {fvs : List Value} {fs : List (List Int)} (h : TupsAre w news fvs fs) (hs : ∀ p ∈ news, p.2.cls = .type "tuple" → p ∈ news') : TupsAre w news' fvs fs :=
  ⟨h.1, fun i ks e => let ⟨D, ok, h1, h2, h3⟩ := h.2 i ks e; ⟨D, ok, h1, hs _ h2 (tupKey_cls h3), h3⟩⟩
theorem tupTab_mono {w : World} {news news' : List (Addr × Obj)} {e : Addr} {D : List (PyData × PyData)} (h : TupTab (ikind w) PyData.int news e D) (he : ∀ o, (e, o) ∈ news → o.cls = .type "dict" → (e, o) ∈ news') (hs : ∀ p ∈ news, p.2.cls = .type "tuple" → p ∈ news') : TupTab (ikind w) PyData.int news' e D := by
  obtain ⟨lo, o, es, ep, xs, hm, hc, hd, he', hn, hk, hf⟩ := h
  exact ⟨lo, o, es, ep, xs, he o hm hc.1, hc, hd, he', hn, fun x hx => let ⟨okx, hmk, t⟩ := hk x hx; ⟨okx, hs _ hmk (tupKey_cls t), t⟩, hf⟩
theorem funPart_mono {w : World} {news news' : List (Addr × Obj)} {f e : Addr} {fs : List (List Int)} (h : FunPart w news f e fs) (hf : ∀ o, (f, o) ∈ news → o.cls = .type "list" → (f, o) ∈ news') (he : ∀ o, (e, o) ∈ news → o.cls = .type "dict" → (e, o) ∈ news') (hs : ∀ p ∈ news, p.2.cls = .type "tuple" → p ∈ news') : FunPart w news' f e fs :=
  let ⟨fvs, n, h1, h2, h3, h4⟩ := h
  ⟨fvs, n, hf _ h1 rfl, tupsAre_mono h2 hs, tupTab_mono h3 he hs, h4⟩
theorem textPart_mono {w : World} {news news' : List (Addr × Obj)} {l d : Addr} {ts : List Str} (h : TextPart w news l d ts) (hl : ∀ o, (l, o) ∈ news → o.cls = .type "list" → (l, o) ∈ news') (hd : ∀ o, (d, o) ∈ news → o.cls = .type "dict" → (d, o) ∈ news') : TextPart w news' l d ts :=
  let ⟨vs, n, od, kvs, h1, h2, h3, h4, h5⟩ := h
  ⟨vs, n, od, kvs, hl _ h1 rfl, h2, hd _ h3 (by obtain ⟨es, ep, hc, _⟩ := h4; exact hc.1), h4, h5⟩
/-- a larger ledger says the same -/
theorem Sym.mono {w : World} {news news' : List (Addr × Obj)} {o dx l d f e : Addr} {ts : List Str} {fs : List (List Int)} (S : Sym w news o dx l d f e ts fs) (hs : ∀ p ∈ news, p ∈ news') : Sym w news' o dx l d f e ts fs where
  inst := hs _ S.inst
  dict := let ⟨t1, t2, t3, t4, n, h⟩ := S.dict; ⟨t1, t2, t3, t4, n, hs _ h⟩
  text := textPart_mono S.text (fun _ h _ => hs _ h) fun _ h _ => hs _ h
  fun_ := funPart_mono S.fun_ (fun _ h _ => hs _ h) (fun _ h _ => hs _ h) fun _ h _ => hs _ h
  lf := S.lf
  ddx := S.ddx
  edx := S.edx
  de := S.de
theorem look_from (x : Str) (dflt : Int) : ∀ (ts : List Str) (k : Nat), kdpLook ((ts.zipIdx k).map fun p => (p.1, (p.2 : Int))) x dflt = if x ∈ ts then ((k + ts.idxOf x : Nat) : Int) else dflt
  | [], k => rfl
  | a :: ts, k => by
    have ih := look_from x dflt ts (k + 1)
    unfold kdpLook at ih ⊢
    rw [List.zipIdx_cons, List.map_cons, List.find?_cons]
    dsimp only
    by_cases h : a = x
    · subst h
      simp
    · have h' : ¬ x = a := fun z => h z.symm
      simp only [decide_eq_false h]
      rw [ih]
      by_cases hx : x ∈ ts
      · rw [if_pos hx, if_pos (List.mem_cons_of_mem _ hx), List.idxOf_cons]
        have : (a == x) = false := by simpa using h
        rw [this]
        simp only [cond_false]
        congr 1; omega
      · rw [if_neg hx, if_neg (by simp [h', hx])]
theorem look_tab (ts : List Str) (x : Str) : kdpLook (tabOf ts) x (-1) = if x ∈ ts then ((ts.idxOf x : Nat) : Int) else -1 := by
  unfold tabOf
  rw [look_from]
  simp
theorem tabOf_snoc (ts : List Str) (x : Str) : tabOf (ts ++ [x]) = tabOf ts ++ [(x, (ts.length : Int))] := by
  unfold tabOf
  rw [List.zipIdx_append, List.map_append]
  simp
theorem tabOf_any (ts : List Str) (x : Str) : ((tabOf ts).any fun p => decide (p.1 = x)) = decide (x ∈ ts) := by
  unfold tabOf
  rw [List.any_map]
  have e : ∀ (l : List Str) (k : Nat), ((l.zipIdx k).any ((fun p : Str × Int => decide (p.1 = x)) ∘ fun p => (p.1, (p.2 : Int)))) = decide (x ∈ l) := by
    intro l
    induction l with
    | nil => intro k; simp
    | cons a l ih =>
      intro k
      rw [List.zipIdx_cons, List.any_cons, ih]
      by_cases h : a = x
      · simp [h]
      · have h' : ¬ x = a := fun z => h z.symm
        simp [h, h']
  exact e ts 0
theorem put_tab {ts : List Str} {x : Str} (h : x ∉ ts) : kdpPut (tabOf ts) x (ts.length : Int) = tabOf (ts ++ [x]) := by
  unfold kdpPut
  rw [tabOf_any, decide_eq_false h, if_neg (by decide), tabOf_snoc]
def addA (ts : List Str) (x : Str) : List Str := if x ∈ ts then ts else ts ++ [x]
theorem addA_nodup {ts : List Str} {x : Str} (h : ts.Nodup) (hx : x ∉ ts) : (ts ++ [x]).Nodup := by
  rw [List.nodup_append]
  exact ⟨h, by simp, fun a ha b hb => by rw [List.mem_singleton.mp hb]; exact fun z => hx (z ▸ ha)⟩
end
section
variable {prog : Program} {w : World} {A : Around} {E : Value → Shared → Prop} {s : Shared} {h₀ : Heap} {L : Addr} {m : Str → Option Value} {led : List (Addr × Obj)} {D : Addr}
theorem news_off {o : Obj} (N : News h₀ L s.heap led) (hm : (D, o) ∈ led) : News h₀ L s.heap ((D, o) :: off D led) := fun p hp => (List.mem_cons.mp hp).elim (fun e => e ▸ N _ hm) fun h => N _ (off_sub h)
theorem append_off {its : Array Value} {n : Nat} {x : Value} {Q : Value → Shared → Prop} (F : Fr h₀ L s.heap m) (N : News h₀ L s.heap led) (hm : (D, listOf its n) ∈ led) (hsz : its.size ≤ sizeLine)
    (h : ∀ h', Fr h₀ L h' m → News h₀ L h' ((D, listOf (its.push x) (n + 1)) :: off D led) → Q .none { s with heap := h' }) :
    wpAny (model prog w) A (call (.builtin "list.append") [.ref D, x]) Q E s :=
  append_K (hsz := hsz) F (news_off N hm) (Upd.head off_ne) h
theorem setItem_off {k : Str} {e : Int} {tk te : Tok} {o : Obj} {kvs : List (Str × Value)} {c : List (Str × Int)} {Q : Unit → Shared → Prop} (F : Fr h₀ L s.heap m) (N : News h₀ L s.heap led) (hm : (D, o) ∈ led) (hd : o.IsDictOf (PySem.strKind prog w) kvs) (hf : PyProof.V.FlatPairs PyData.str kvs (kdpD c)) (hc : c.length ≤ 16777216)
    (h : ∀ h' o' kvs', Fr h₀ L h' m → News h₀ L h' ((D, o') :: off D led) → o'.IsDictOf (PySem.strKind prog w) kvs' → PyProof.V.FlatPairs PyData.str kvs' (kdpD (kdpPut c k e)) → Q () { s with heap := h', toks := s.toks + 1 }) :
    wpAny (model prog w) A (setItem (.ref D) (.str k tk) (.int e te)) Q E s :=
  kdp_setItem F (news_off N hm) (UpdF.head off_ne) hd hf hc h
theorem heads3 {h : Heap} {o dx l d : Addr} {a1 a2 a3 a4 b : Obj} {news : List (Addr × Obj)} (N : News h₀ L h ((l, b) :: off l ((o, a1) :: (dx, a2) :: (l, a3) :: (d, a4) :: news))) (h1 : o ≠ l) (h2 : dx ≠ l) (h3 : d ≠ l) :
    News h₀ L h ((o, a1) :: (dx, a2) :: (l, b) :: (d, a4) :: off l news) := fun p hp => by
  have inn : ∀ q ∈ (o, a1) :: (dx, a2) :: (l, a3) :: (d, a4) :: news, q.1 ≠ l → q ∈ (l, b) :: off l ((o, a1) :: (dx, a2) :: (l, a3) :: (d, a4) :: news) := fun q hq hne => .tail _ (mem_off hq hne)
  rcases List.mem_cons.mp hp with e | hp
  · rw [e]; exact N _ (inn _ (.head _) h1)
  rcases List.mem_cons.mp hp with e | hp
  · rw [e]; exact N _ (inn _ (.tail _ (.head _)) h2)
  rcases List.mem_cons.mp hp with e | hp
  · rw [e]; exact N _ (.head _)
  rcases List.mem_cons.mp hp with e | hp
  · rw [e]; exact N _ (inn _ (.tail _ (.tail _ (.tail _ (.head _)))) h3)
  exact N _ (inn _ (.tail _ (.tail _ (.tail _ (.tail _ (off_sub hp))))) (off_ne _ hp))
theorem heads4 {h : Heap} {o dx l d : Addr} {a1 a2 a3 a4 b : Obj} {news : List (Addr × Obj)} (N : News h₀ L h ((d, b) :: off d ((o, a1) :: (dx, a2) :: (l, a3) :: (d, a4) :: news))) (h1 : o ≠ d) (h2 : dx ≠ d) (h3 : l ≠ d) :
    News h₀ L h ((o, a1) :: (dx, a2) :: (l, a3) :: (d, b) :: off d news) := fun p hp => by
  have inn : ∀ q ∈ (o, a1) :: (dx, a2) :: (l, a3) :: (d, a4) :: news, q.1 ≠ d → q ∈ (d, b) :: off d ((o, a1) :: (dx, a2) :: (l, a3) :: (d, a4) :: news) := fun q hq hne => .tail _ (mem_off hq hne)
  rcases List.mem_cons.mp hp with e | hp
  · rw [e]; exact N _ (inn _ (.head _) h1)
  rcases List.mem_cons.mp hp with e | hp
  · rw [e]; exact N _ (inn _ (.tail _ (.head _)) h2)
  rcases List.mem_cons.mp hp with e | hp
  · rw [e]; exact N _ (inn _ (.tail _ (.tail _ (.head _))) h3)
  rcases List.mem_cons.mp hp with e | hp
  · rw [e]; exact N _ (.head _)
  exact N _ (inn _ (.tail _ (.tail _ (.tail _ (.tail _ (off_sub hp))))) (off_ne _ hp))
end
theorem look_found {ts : List Str} {x : Str} (h : 0 ≤ kdpLook (tabOf ts) x (-1)) : kdpLook (tabOf ts) x (-1) = (((addA ts x).idxOf x : Nat) : Int) ∧ addA ts x = ts := by
  rw [look_tab] at h ⊢
  unfold addA
  by_cases hx : x ∈ ts
  · rw [if_pos hx, if_pos hx]; exact ⟨rfl, rfl⟩
  · rw [if_neg hx] at h; exact absurd h (by decide)
theorem look_missing {ts : List Str} {x : Str} (h : ¬ 0 ≤ kdpLook (tabOf ts) x (-1)) : x ∉ ts := by
  rw [look_tab] at h
  intro hx
  rw [if_pos hx] at h
  exact h (Int.natCast_nonneg _)
theorem addA_new {ts : List Str} {x : Str} (h : x ∉ ts) : addA ts x = ts ++ [x] ∧ (addA ts x).idxOf x = ts.length := by
  unfold addA
  rw [if_neg h]
  refine ⟨rfl, ?_⟩
  rw [List.idxOf_append, if_neg h]
  simp
section
variable {w : World} {h₀ h : Heap} {L : Addr} {news : List (Addr × Obj)} {o dx l d f e : Addr} {ts : List Str} {fs : List (List Int)}
/-- the symbols with one more text -/
theorem Sym.grown (S : Sym w news o dx l d f e ts fs) (N : News h₀ L h news) {x : Str} (hx : x ∉ ts) {t : Tok} {vs : List Value} {n : Nat} {od : Obj} {kvs : List (Str × Value)} {c : List (Str × Int)} (hA : StrsAre vs ts)
    (hdx : ∃ t1 t2 t3 t4 n, (dx, symDict w l d f e t1 t2 t3 t4 n) ∈ news) (hc : c = kdpPut (tabOf ts) x (ts.length : Int)) (hK : od.IsDictOf (skind w) kvs) (hP : PyProof.V.FlatPairs PyData.str kvs (kdpD c)) {a1 a2 : Obj} (h1 : (o, a1) ∈ news) (h2 : a1 = instObj 155 dx) (h3 : (dx, a2) ∈ news) :
    Sym w ((o, a1) :: (dx, a2) :: (l, listOf (vs ++ [Value.str x t]).toArray n) :: (d, od) :: off d (off l news)) o dx l d f e (addA ts x) fs := by
  obtain ⟨vs0, n0, od0, kvs0, hl, hA0, hd', hK0, hP0, hlo, hnd⟩ := S.text
  have hod : od0.cls = .type "dict" := by obtain ⟨es, ep, hc, _⟩ := hK0; exact hc.1
  obtain ⟨t1, t2, t3, t4, n1, hdx⟩ := hdx
  have ha2 : a2 = symDict w l d f e t1 t2 t3 t4 n1 := Option.some.inj ((N _ h3).1.symm.trans (N _ hdx).1)
  have keep : ∀ p ∈ news, p.1 ≠ l → p.1 ≠ d → p ∈ (o, a1) :: (dx, a2) :: (l, listOf (vs ++ [Value.str x t]).toArray n) :: (d, od) :: off d (off l news) := fun p hp q1 q2 => .tail _ (.tail _ (.tail _ (.tail _ (mem_off (mem_off hp q1) q2))))
  have nl : ∀ b ob, (b, ob) ∈ news → ob.cls ≠ .type "list" → b ≠ l := fun b ob hb hne => ne_cls N hb hl hne
  have nd : ∀ b ob, (b, ob) ∈ news → ob.cls ≠ .type "dict" → b ≠ d := fun b ob hb hne => ne_cls N hb hd' (by rw [hod]; exact hne)
  refine ⟨by subst h2; exact .head _, ⟨t1, t2, t3, t4, n1, by subst ha2; exact .tail _ (.head _)⟩, ?_, ?_, S.lf, S.ddx, S.edx, S.de⟩
  · refine ⟨_, n, od, kvs, .tail _ (.tail _ (.head _)), ?_, .tail _ (.tail _ (.tail _ (.head _))), hK, ?_, hlo, ?_⟩
    · rw [(addA_new hx).1]; exact hA.append' (.cons _ _ .nil)
    · rw [(addA_new hx).1, ← put_tab hx, ← hc]; exact hP
    · rw [(addA_new hx).1]; exact addA_nodup hnd hx
  · refine funPart_mono S.fun_ (fun ob hb hcl => keep _ hb S.lf.symm ?_) (fun ob hb hcl => keep _ hb ?_ S.de.symm) fun p hp hcl => keep _ hp ?_ ?_
    · exact nd _ _ hb (by rw [hcl]; exact nDL.symm)
    · exact nl _ _ hb (by rw [hcl]; exact nDL)
    · exact nl _ p.2 hp (by rw [hcl]; exact nTL)
    · exact nd _ p.2 hp (by rw [hcl]; exact nTD)
end
end
section
theorem lines_Y2 : True := by
  w_top off
  k_with_none
  (k_with "mine: start" => (unfold PS; k_fill; intros; rename_i hret hexc; refine wpAny_call ?_; k_dflt cell_enter))
  (k_with "mine: sub" => (first | exact fun _ h => h | exact fun _ h => List.mem_append_left _ h | (intro _ h; simp only [List.mem_append, List.mem_cons, h, true_or, or_true])))
  (k_with "mine: end" => ((first | refine endB (by assumption) (by k_asm) (by k_asm) (by walk_at "mine: sub") (resB ?_) | refine endI (by assumption) (by k_asm) (by k_asm) (by walk_at "mine: sub") (resI ?_) | refine endS (by assumption) (by k_asm) (by k_asm) (by walk_at "mine: sub") (resS ?_))))
  (k_with "mine: fill" => ((intro t' h' tk' F' N'); (try dsimp only); (try k_sweep); (try k_fold)))
  (k_with "exec While Compare cons nil" => (k_here; refine Mark.out ?_))
  (k_with "exec For Name Name cons nil" => (k_here; refine Mark.out ?_))
  (k_with "exec For Name Call cons nil" => (k_here; refine Mark.out ?_))
  (k_with "exec For Name List cons nil" => (k_here; refine Mark.out ?_))
  (k_with "binaryOp Add str str" => (k_here; (with_reducible show wpAny _ _ (binaryOp Operator.Add (Value.str _ _) (Value.str _ _)) _ _ _); (refine add_str ?_ (by first | (walk_at "mine: size") | fail)); intro _ _))
  (k_with "mine: same" => (intro z h2 h3; (simp only [List.forall_mem_cons, List.not_mem_nil, false_implies, implies_true, and_true, ne_eq] at h2); first | ((simp only [List.contains_cons, List.contains_nil, Bool.or_false, Bool.or_eq_false_iff, beq_eq_false_iff_ne, ne_eq] at h3); (simp [h2, h3, kstB]; done)) | (simp [h2, kstB]; done)))
  (k_with "call builtin:list.append" => (k_here; (with_reducible show wpAny _ _ (call (Value.builtin _) [Value.ref _, _]) _ _ _); k_dflt (refine append_K (by first | (k_asm) | fail) (by first | (k_asm) | fail) (by first | (k_upd) | fail) ?_ (by first | (walk_at "mine: size") | fail); k_whole); intro h' F' N'; (try simp only [List.push_toArray] at N'); (try k_sweep)))
  (k_with "InvEndN" => (refine Mark.out ?_))
  (k_with "KswEnd" => (refine Mark.out ?_))
  (k_with "call builtin:str.join" => (k_here; refine Mark.out ?_))
  (k_with "mine: sameN" => (intro z h1 h2 h3; (simp only [List.forall_mem_cons, List.not_mem_nil, false_implies, implies_true, and_true, ne_eq] at h2); first | ((simp only [List.contains_cons, List.contains_nil, Bool.or_false, Bool.or_eq_false_iff, beq_eq_false_iff_ne, ne_eq] at h3); (simp [h1, h2, h3, kstB]; done)) | (simp [h1, h2, kstB]; done)))
  (k_with "exec Raise some none" => (k_here; k_dflt (refine Raise_fault (by exact rfl) ?_)))
  (k_with "mine: fault" => (k_here; k_dflt (refine fault_call (by first | (k_asm) | fail) (by first | (k_asm) | fail) (by first | (k_asm) | fail) (by first | (k_asm) | fail) (by first | (k_asm) | fail) (by first | (first | exact rfl | assumption) | fail) (by first | (ktr_room) | fail) (by first | (ktr_units) | fail) ?_); (intro e' d' tt' h' tk' F' N' hne'); (refine ⟨_, _, _, rfl, by k_in, (N' _ (List.Mem.head _)).1, ?_⟩); (try dsimp only); (try k_sweep)))
  (k_with "mine: endX" => (refine endX (by assumption) (by k_asm) (by assumption) (by assumption) (by walk_at "mine: sub") ?_))
  (k_with "mine: endR" => ((first | refine endB (by assumption) (by k_asm) (by k_asm) (by walk_at "mine: sub") ?_ | refine endI (by assumption) (by k_asm) (by k_asm) (by walk_at "mine: sub") ?_ | refine endS (by assumption) (by k_asm) (by k_asm) (by walk_at "mine: sub") ?_)))
  (k_with "mine: size" => (rw [sizeLine_eq]; (first | omega | (simp only [Str.length_append, tx_length, len_item, List.length_cons, List.length_nil, List.length_append, List.size_toArray, Array.size_push]; omega))))
  (k_with "mine: filled" => ((intro t' h' tk' F' N'); (try dsimp only); (try k_sweep); (try k_fold)))
  (k_with "mine: startZ" => (unfold PZ; k_fill; intros; rename_i hpre hret hexc; refine wpAny_call ?_; k_dflt cell_enter))
  (k_with "mine: endXZ" => (refine endXZ (by assumption) (by k_asm) (by assumption) (by assumption) (by walk_at "mine: sub") ?_))
  (k_with "mine: endZ" => (refine endZ (by assumption) (by k_asm) (by k_asm) ?_))
  trivial
theorem atom_spec (w mean mg mb) (o dx l d f e : Addr) (ts : List Str) (fs : List (List Int)) (x : Str) (t : Tok) (hts : ts.length ≤ 1000) :
    PZ w mean mg mb 3 89 [.ref o, .str x t] (fun _ news => Sym w news o dx l d f e ts fs) (fun news v news' => (∃ t', v = .int (((addA ts x).idxOf x : Nat) : Int) t') ∧ Sym w news' o dx l d f e (addA ts x) fs ∧ ∀ p ∈ news, p.1 ≠ l → p.1 ≠ d → p ∈ news') False := by
  walk_at "mine: startZ"
  rename Sym _ _ _ _ _ _ _ _ _ _ => hS
  rename News _ _ _ _ => lN
  obtain ⟨t1, t2, t3, t4, n0, hdx⟩ := hS.dict
  obtain ⟨vs, n, od, kvs, hl, hA, hd', hK, hP, hlo, hnd⟩ := hS.text
  have hod : od.cls = .type "dict" := by obtain ⟨es, ep, hc, _⟩ := hK; exact hc.1
  have ol : o ≠ l := ne_cls lN hS.inst hl nRL
  have od' : o ≠ d := ne_cls lN hS.inst hd' (by rw [hod]; exact nRD)
  have dxl : dx ≠ l := ne_cls lN hdx hl nDL
  have dl : d ≠ l := ne_cls lN hd' hl (by rw [hod]; exact nDL)
  have hN : News _ _ _ ((o, instObj 155 dx) :: (dx, symDict w l d f e t1 t2 t3 t4 n0) :: (l, listOf vs.toArray n) :: (d, od) :: _) := fun p hp => by
    rcases List.mem_cons.mp hp with h | hp
    · rw [h]; exact lN _ hS.inst
    rcases List.mem_cons.mp hp with h | hp
    · rw [h]; exact lN _ hdx
    rcases List.mem_cons.mp hp with h | hp
    · rw [h]; exact lN _ hl
    rcases List.mem_cons.mp hp with h | hp
    · rw [h]; exact lN _ hd'
    exact lN _ hp
  have hA0 : True → StrsAre vs ts := fun _ => hA
  have lN0 : True → News _ _ _ _ := fun _ => lN
  clear lN
  have hsz : vs.toArray.size ≤ sizeLine := by rw [sizeLine_eq, List.size_toArray, hA.length]; omega
  k_steps
  · obtain ⟨q1, q2⟩ := look_found (show 0 ≤ kdpLook (tabOf ts) x (-1) by with_reducible assumption)
    walk_at "mine: endZs"
    (case kp => exact ⟨⟨_, by rw [q1]⟩, by rw [q2]; exact hS, fun p hp _ _ => hp⟩)
    (case ks => exact fun p hp => .tail _ (.tail _ (.tail _ (.tail _ hp))))
  · rename Fr _ _ _ _ => lF
    rename News _ _ _ _ => lN
    (with_unfolding_all refine' append_off lF lN (.tail _ (.tail _ (.head _))) hsz (fun h' F' N' => ?_))
    clear lF lN
    rename News _ _ _ _ => lN
    have hN := heads3 lN ol dxl dl
    clear lN
    (try simp only [List.push_toArray] at hN)
    try k_fold
    k_steps
    rename Fr _ _ _ _ => lF
    rename News _ _ _ _ => lN
    (with_unfolding_all refine' setItem_off lF lN (.tail _ (.tail _ (.tail _ (.head _)))) hK hP (by unfold tabOf; rw [List.length_map, List.length_zipIdx]; omega) (fun h' o' kvs' F' N' hK' hP' => ?_))
    clear lF lN
    rename News _ _ _ _ => lN
    have hN := heads4 lN od' hS.ddx.symm dl.symm
    clear lN
    try k_fold
    k_steps
    walk_at "mine: endZ"
    have hx := look_missing (show ¬ 0 ≤ kdpLook (tabOf ts) x (-1) by with_reducible assumption)
    refine ⟨⟨_, by rw [(addA_new hx).2]⟩, hS.grown (lN0 trivial) hx (hA0 trivial) hS.dict rfl hK' hP' hS.inst rfl hdx, fun p hp q1 q2 => .tail _ (.tail _ (.tail _ (.tail _ (mem_off (mem_off hp q1) q2))))⟩
end
section
theorem lines_Y3 : True := by
  w_top off
  k_with_none
  (k_with "mine: start" => (unfold PS; k_fill; intros; rename_i hret hexc; refine wpAny_call ?_; k_dflt cell_enter))
  (k_with "mine: sub" => (first | exact fun _ h => h | exact fun _ h => List.mem_append_left _ h | (intro _ h; simp only [List.mem_append, List.mem_cons, h, true_or, or_true])))
  (k_with "mine: end" => ((first | refine endB (by assumption) (by k_asm) (by k_asm) (by walk_at "mine: sub") (resB ?_) | refine endI (by assumption) (by k_asm) (by k_asm) (by walk_at "mine: sub") (resI ?_) | refine endS (by assumption) (by k_asm) (by k_asm) (by walk_at "mine: sub") (resS ?_))))
  (k_with "mine: fill" => ((intro t' h' tk' F' N'); (try dsimp only); (try k_sweep); (try k_fold)))
  (k_with "exec While Compare cons nil" => (k_here; refine Mark.out ?_))
  (k_with "exec For Name Name cons nil" => (k_here; refine Mark.out ?_))
  (k_with "exec For Name Call cons nil" => (k_here; refine Mark.out ?_))
  (k_with "exec For Name List cons nil" => (k_here; refine Mark.out ?_))
  (k_with "binaryOp Add str str" => (k_here; (with_reducible show wpAny _ _ (binaryOp Operator.Add (Value.str _ _) (Value.str _ _)) _ _ _); (refine add_str ?_ (by first | (walk_at "mine: size") | fail)); intro _ _))
  (k_with "mine: same" => (intro z h2 h3; (simp only [List.forall_mem_cons, List.not_mem_nil, false_implies, implies_true, and_true, ne_eq] at h2); first | ((simp only [List.contains_cons, List.contains_nil, Bool.or_false, Bool.or_eq_false_iff, beq_eq_false_iff_ne, ne_eq] at h3); (simp [h2, h3, kstB]; done)) | (simp [h2, kstB]; done)))
  (k_with "call builtin:list.append" => (k_here; (with_reducible show wpAny _ _ (call (Value.builtin _) [Value.ref _, _]) _ _ _); k_dflt (refine append_K (by first | (k_asm) | fail) (by first | (k_asm) | fail) (by first | (k_upd) | fail) ?_ (by first | (walk_at "mine: size") | fail); k_whole); intro h' F' N'; (try simp only [List.push_toArray] at N'); (try k_sweep)))
  (k_with "InvEndN" => (refine Mark.out ?_))
  (k_with "KswEnd" => (refine Mark.out ?_))
  (k_with "call builtin:str.join" => (k_here; refine Mark.out ?_))
  (k_with "mine: sameN" => (intro z h1 h2 h3; (simp only [List.forall_mem_cons, List.not_mem_nil, false_implies, implies_true, and_true, ne_eq] at h2); first | ((simp only [List.contains_cons, List.contains_nil, Bool.or_false, Bool.or_eq_false_iff, beq_eq_false_iff_ne, ne_eq] at h3); (simp [h1, h2, h3, kstB]; done)) | (simp [h1, h2, kstB]; done)))
  (k_with "exec Raise some none" => (k_here; k_dflt (refine Raise_fault (by exact rfl) ?_)))
  (k_with "mine: fault" => (k_here; k_dflt (refine fault_call (by first | (k_asm) | fail) (by first | (k_asm) | fail) (by first | (k_asm) | fail) (by first | (k_asm) | fail) (by first | (k_asm) | fail) (by first | (first | exact rfl | assumption) | fail) (by first | (ktr_room) | fail) (by first | (ktr_units) | fail) ?_); (intro e' d' tt' h' tk' F' N' hne'); (refine ⟨_, _, _, rfl, by k_in, (N' _ (List.Mem.head _)).1, ?_⟩); (try dsimp only); (try k_sweep)))
  (k_with "mine: endX" => (refine endX (by assumption) (by k_asm) (by assumption) (by assumption) (by walk_at "mine: sub") ?_))
  (k_with "mine: endR" => ((first | refine endB (by assumption) (by k_asm) (by k_asm) (by walk_at "mine: sub") ?_ | refine endI (by assumption) (by k_asm) (by k_asm) (by walk_at "mine: sub") ?_ | refine endS (by assumption) (by k_asm) (by k_asm) (by walk_at "mine: sub") ?_)))
  (k_with "mine: size" => (rw [sizeLine_eq]; (first | omega | (simp only [Str.length_append, tx_length, len_item, List.length_cons, List.length_nil, List.length_append, List.size_toArray, Array.size_push]; omega))))
  (k_with "mine: filled" => ((intro t' h' tk' F' N'); (try dsimp only); (try k_sweep); (try k_fold)))
  (k_with "mine: startZ" => (unfold PZ; k_fill; intros; rename_i hpre hret hexc; refine wpAny_call ?_; k_dflt cell_enter))
  (k_with "mine: endXZ" => (refine endXZ (by assumption) (by k_asm) (by assumption) (by assumption) (by walk_at "mine: sub") ?_))
  (k_with "mine: endZ" => (refine endZ (by assumption) (by k_asm) (by k_asm) ?_))
  trivial
section
open PySem.Spec PyProof.V
theorem same_key (a b : List Int) : same (keyEnc a) (keyEnc b) = decide (a = b) := same_encTuple PyProof.V.same_int a b
theorem look2_from (ks : List Int) (dflt : PyData) : ∀ (fs : List (List Int)) (k : Nat), (PySem.Spec.lookup (keyEnc ks) ((fs.zipIdx k).map fun p => (keyEnc p.1, PyData.int (p.2 : Int)))).getD dflt = if ks ∈ fs then PyData.int ((k + fs.idxOf ks : Nat) : Int) else dflt
  | [], k => rfl
  | a :: fs, k => by
    have ih := look2_from ks dflt fs (k + 1)
    rw [List.zipIdx_cons, List.map_cons]
    show (if same (keyEnc a) (keyEnc ks) = true then some (PyData.int (k : Int)) else PySem.Spec.lookup (keyEnc ks) _).getD dflt = _
    rw [same_key]
    by_cases h : a = ks
    · subst h
      simp
    · have h' : ¬ ks = a := fun z => h z.symm
      rw [decide_eq_false h, if_neg (by decide), ih]
      by_cases hx : ks ∈ fs
      · rw [if_pos hx, if_pos (List.mem_cons_of_mem _ hx), List.idxOf_cons]
        have : (a == ks) = false := by simpa using h
        rw [this]
        simp only [cond_false]
        congr 2; omega
      · rw [if_neg hx, if_neg (by simp [h', hx])]
def look2 (fs : List (List Int)) (ks : List Int) : Int := if ks ∈ fs then ((fs.idxOf ks : Nat) : Int) else -1
theorem look2_tab (fs : List (List Int)) (ks : List Int) : (PySem.Spec.lookup (keyEnc ks) (tab2 fs)).getD (PyData.int (-1)) = PyData.int (look2 fs ks) := by
  unfold tab2 look2
  rw [look2_from]
  by_cases h : ks ∈ fs
  · rw [if_pos h, if_pos h]; simp
  · rw [if_neg h, if_neg h]
theorem tab2_snoc (fs : List (List Int)) (ks : List Int) : tab2 (fs ++ [ks]) = tab2 fs ++ [(keyEnc ks, PyData.int (fs.length : Int))] := by
  unfold tab2
  rw [List.zipIdx_append, List.map_append]
  simp
theorem tab2_any (fs : List (List Int)) (ks : List Int) : ((tab2 fs).any fun p => same p.1 (keyEnc ks)) = decide (ks ∈ fs) := by
  unfold tab2
  rw [List.any_map]
  have e : ∀ (l : List (List Int)) (k : Nat), ((l.zipIdx k).any ((fun p : PyData × PyData => same p.1 (keyEnc ks)) ∘ fun p => (keyEnc p.1, PyData.int (p.2 : Int)))) = decide (ks ∈ l) := by
    intro l
    induction l with
    | nil => intro k; simp
    | cons a l ih =>
      intro k
      rw [List.zipIdx_cons, List.any_cons, ih]
      show (same (keyEnc a) (keyEnc ks) || _) = _
      rw [same_key]
      by_cases h : a = ks
      · simp [h]
      · have h' : ¬ ks = a := fun z => h z.symm
        simp [h, h']
  exact e fs 0
theorem put_tab2 {fs : List (List Int)} {ks : List Int} (h : ks ∉ fs) : putD (keyEnc ks) (PyData.int (fs.length : Int)) (tab2 fs) = tab2 (fs ++ [ks]) := by
  unfold putD
  rw [tab2_any, decide_eq_false h, if_neg (by decide), tab2_snoc]
theorem key_made {w : World} (a k : Int) (t u : Tok) : TupKeyObj (ikind w) [a, k] { cls := .type "tuple", data := .seq #[.int a t, .int k u] } :=
  ⟨rfl, #[.int a t, .int k u], 0, rfl, .cons (by show Value.isInt a (.int a t) = true; simp [Value.isInt]) (.cons (by show Value.isInt k (.int k u) = true; simp [Value.isInt]) .nil)⟩
end
def addF (fs : List (List Int)) (ks : List Int) : List (List Int) := if ks ∈ fs then fs else fs ++ [ks]
theorem look2_found {fs : List (List Int)} {ks : List Int} (h : 0 ≤ look2 fs ks) : look2 fs ks = (((addF fs ks).idxOf ks : Nat) : Int) ∧ addF fs ks = fs := by
  unfold look2 at h ⊢
  unfold addF
  by_cases hx : ks ∈ fs
  · rw [if_pos hx, if_pos hx]; exact ⟨rfl, rfl⟩
  · rw [if_neg hx] at h; exact absurd h (by decide)
theorem look2_missing {fs : List (List Int)} {ks : List Int} (h : ¬ 0 ≤ look2 fs ks) : ks ∉ fs := by
  unfold look2 at h
  intro hx
  rw [if_pos hx] at h
  exact h (Int.natCast_nonneg _)
theorem addF_new {fs : List (List Int)} {ks : List Int} (h : ks ∉ fs) : addF fs ks = fs ++ [ks] ∧ (addF fs ks).idxOf ks = fs.length := by
  unfold addF
  rw [if_neg h]
  refine ⟨rfl, ?_⟩
  rw [List.idxOf_append, if_neg h]
  simp
section
variable {w : World} {h₀ h : Heap} {L : Addr} {news news' : List (Addr × Obj)} {o dx l d f e : Addr} {ts : List Str} {fs : List (List Int)}
/-- the symbols with one more functor -/
theorem Sym.grown2 (S : Sym w news o dx l d f e ts fs) (N : News h₀ L h news) {ks : List Int} (hx : ks ∉ fs) {D : Addr} {ok : Obj} {fvs : List Value} {n n0 : Nat} (hT : TupsAre w news fvs fs) (hf : (f, listOf fvs.toArray n0) ∈ news)
    (keep : ∀ p ∈ news, p.1 ≠ f → p.1 ≠ e → p ∈ news') (hfn : (f, listOf (fvs ++ [Value.ref D]).toArray n) ∈ news') (hD : (D, ok) ∈ news') (tk : TupKeyObj (ikind w) ks ok)
    (hTab : TupTab (ikind w) PyData.int news' e (PyProof.V.putD (keyEnc ks) (PyData.int (fs.length : Int)) (tab2 fs))) : Sym w news' o dx l d f e ts (addF fs ks) := by
  obtain ⟨fvs0, n1, hf0, hT0, hTab0, hnd⟩ := S.fun_
  obtain ⟨lo, oe, es, ep, xs, hme, hce, _⟩ := hTab0
  have nf : ∀ b ob, (b, ob) ∈ news → ob.cls ≠ .type "list" → b ≠ f := fun b ob hb hne => ne_cls N hb hf hne
  have ne : ∀ b ob, (b, ob) ∈ news → ob.cls ≠ .type "dict" → b ≠ e := fun b ob hb hne => ne_cls N hb hme (by rw [hce.1]; exact hne)
  obtain ⟨t1, t2, t3, t4, n2, hdx⟩ := S.dict
  refine ⟨keep _ S.inst (nf _ _ S.inst nRL) (ne _ _ S.inst nRD), ⟨t1, t2, t3, t4, n2, keep _ hdx (nf _ _ hdx nDL) S.edx.symm⟩, ?_, ?_, S.lf, S.ddx, S.edx, S.de⟩
  · refine textPart_mono S.text (fun ob hb hcl => keep _ hb S.lf ?_) fun ob hb hcl => keep _ hb ?_ S.de
    · exact ne _ _ hb (by rw [hcl]; exact nDL.symm)
    · exact nf _ _ hb (by rw [hcl]; exact nDL)
  · rw [(addF_new hx).1]
    refine ⟨_, n, hfn, ⟨by rw [List.length_append, List.length_append, hT.1]; rfl, fun i ks' hi => ?_⟩, by rw [← put_tab2 hx]; exact hTab, ?_⟩
    · by_cases h1 : i < fs.length
      · rw [List.getElem?_append_left h1] at hi
        obtain ⟨D', ok', q1, q2, q3⟩ := hT.2 i ks' hi
        refine ⟨D', ok', by rw [List.getElem?_append_left (by rw [hT.1]; exact h1)]; exact q1, keep _ q2 (nf _ _ q2 ?_) (ne _ _ q2 ?_), q3⟩
        · rw [tupKey_cls q3]; exact nTL
        · rw [tupKey_cls q3]; exact nTD
      · rw [List.getElem?_append_right (by omega)] at hi
        have h2 : i = fs.length := by
          have := (List.getElem?_eq_some_iff.mp hi).1
          simp at this; omega
        subst h2
        simp at hi
        subst hi
        exact ⟨D, ok, by rw [List.getElem?_append_right (by rw [hT.1]; exact Nat.le_refl _), hT.1]; simp, hD, tk⟩
    · rw [List.nodup_append]
      exact ⟨hnd, by simp, fun a ha b hb => by rw [List.mem_singleton.mp hb]; exact fun z => hx (z ▸ ha)⟩
end
theorem lines_Y3_1 : True := by
  (k_with "mine: heads" => (rename Sym _ _ _ _ _ _ _ _ _ _ => hS; rename News _ _ _ _ => lN))
  trivial
theorem text_spec (w mean mg mb) (o dx l d f e : Addr) (ts : List Str) (fs : List (List Int)) (k : Nat) (t : Tok) (hk : k < ts.length) (hts : ts.length ≤ 1000) :
    PZ w mean mg mb 3 96 [.ref o, .int (k : Int) t] (fun _ news => Sym w news o dx l d f e ts fs) (fun news v news' => news' = news ∧ ∃ t', v = .str (ts.getD k Str.empty) t') False := by
  walk_at "mine: startZ"
  rename Sym _ _ _ _ _ _ _ _ _ _ => hS
  rename News _ _ _ _ => lN
  obtain ⟨t1, t2, t3, t4, n0, hdx⟩ := hS.dict
  obtain ⟨vs, n, od, kvs, hl, hA, hd', hK, hP, hlo, hnd⟩ := hS.text
  have hN : News _ _ _ ((o, instObj 155 dx) :: (dx, symDict w l d f e t1 t2 t3 t4 n0) :: (l, listOf vs.toArray n) :: _) := fun p hp => by
    rcases List.mem_cons.mp hp with h | hp
    · rw [h]; exact lN _ hS.inst
    rcases List.mem_cons.mp hp with h | hp
    · rw [h]; exact lN _ hdx
    rcases List.mem_cons.mp hp with h | hp
    · rw [h]; exact lN _ hl
    exact lN _ hp
  have hA0 : True → StrsAre vs ts := fun _ => hA
  clear lN
  k_steps
  walk_at "mine: endZs"
  (case kp => exact ⟨rfl, _, by rw [Int.toNat_natCast]⟩)
  (case ks => exact fun p hp => .tail _ (.tail _ (.tail _ hp)))
theorem functor_spec (w mean mg mb) (o dx l d f e : Addr) (ts : List Str) (fs : List (List Int)) (a k : Int) (t u : Tok) (hts : fs.length ≤ 1000) :
    PZ w mean mg mb 3 103 [.ref o, .int a t, .int k u] (fun _ news => Sym w news o dx l d f e ts fs) (fun news v news' => (∃ t', v = .int (((addF fs [a, k]).idxOf [a, k] : Nat) : Int) t') ∧ Sym w news' o dx l d f e ts (addF fs [a, k]) ∧ ∀ p ∈ news, p.1 ≠ f → p.1 ≠ e → p ∈ news') False := by
  walk_at "mine: startZ"
  rename Sym _ _ _ _ _ _ _ _ _ _ => hS
  rename News _ _ _ _ => lN
  obtain ⟨t1, t2, t3, t4, n0, hdx⟩ := hS.dict
  obtain ⟨fvs, n, hf, hT, hTab, hnd⟩ := hS.fun_
  have hN : News _ _ _ ((o, instObj 155 dx) :: (dx, symDict w l d f e t1 t2 t3 t4 n0) :: (f, listOf fvs.toArray n) :: _) := fun p hp => by
    rcases List.mem_cons.mp hp with h | hp
    · rw [h]; exact lN _ hS.inst
    rcases List.mem_cons.mp hp with h | hp
    · rw [h]; exact lN _ hdx
    rcases List.mem_cons.mp hp with h | hp
    · rw [h]; exact lN _ hf
    exact lN _ hp
  have lN0 : True → News _ _ _ _ := fun _ => lN
  have hT0 : True → TupsAre w _ fvs fs := fun _ => hT
  have hsz : ((fvs.toArray.size : Nat) : Int) < 2 ^ 63 := by rw [List.size_toArray, hT.1]; omega
  have hsz2 : fvs.toArray.size ≤ sizeLine := by rw [sizeLine_eq, List.size_toArray, hT.1]; omega
  clear lN
  k_steps
  rename News _ _ _ _ => lN
  (with_unfolding_all refine' getMethod_tupTab_get (knd := ikind w) (enc := PyData.int) (D := tab2 fs) lN ?hT ?_; (case hT => exact tupTab_mono hTab (fun _ h _ => .tail _ (.tail _ (.tail _ (.tail _ h)))) (fun _ h _ => .tail _ (.tail _ (.tail _ (.tail _ h))))))
  try k_fold
  k_steps
  rename News _ _ _ _ => lN
  (with_unfolding_all refine' call_get2_tupTab (knd := ikind w) (enc := PyData.int) (ks := [a, k]) (D := tab2 fs) PyProof.V.same_int ?_ lN ?hT (.head _) (key_made a k _ _) (PyProof.V.Flat.int _ _) (fun v hv => ?_); (case hT => exact tupTab_mono hTab (fun _ h _ => .tail _ (.tail _ (.tail _ (.tail _ h)))) (fun _ h _ => .tail _ (.tail _ (.tail _ (.tail _ h))))))
  · ktr_units
  have hv1 : PyProof.V.Flat v ((PySem.Spec.lookup (keyEnc [a, k]) (tab2 fs)).getD (PyData.int (-1))) := hv
  rw [look2_tab] at hv1
  obtain ⟨tv, hv2⟩ := PyProof.V.Flat.int_inv hv1
  rw [hv2]
  clear hv hv1
  try k_fold
  k_steps
  · obtain ⟨q1, q2⟩ := look2_found (show 0 ≤ look2 fs [a, k] by with_reducible assumption)
    walk_at "mine: endZs"
    (case kp => exact ⟨⟨_, by rw [q1]⟩, by rw [q2]; exact hS, fun p hp _ _ => hp⟩)
    (case ks => exact fun p hp => .tail _ (.tail _ (.tail _ (.tail _ hp))))
  · have hx := look2_missing (show ¬ 0 ≤ look2 fs [a, k] by with_reducible assumption)
    rename News _ _ _ _ => lN
    rename Fr _ _ _ _ => lF
    have Df := ne_cls lN (.head _) (.tail _ (.tail _ (.tail _ (.head _)))) nTL
    have of' := ne_cls lN (.tail _ (.head _)) (.tail _ (.tail _ (.tail _ (.head _)))) nRL
    have dxf := ne_cls lN (.tail _ (.tail _ (.head _))) (.tail _ (.tail _ (.tail _ (.head _)))) nDL
    (with_unfolding_all refine' append_off lF lN (.tail _ (.tail _ (.tail _ (.head _)))) hsz2 (fun h' F' N' => ?_))
    clear lF lN
    rename News _ _ _ _ => lN
    have hN := heads4 lN Df of' dxf
    clear lN
    (try simp only [List.push_toArray] at hN)
    try k_fold
    k_steps
    rename Fr _ _ _ _ => lF
    rename News _ _ _ _ => lN
    (with_unfolding_all refine' setItem_tupTab (knd := ikind w) (enc := PyData.int) (ks := [a, k]) (D := tab2 fs) PyProof.V.same_int ?_ (PyProof.V.Flat.int _ _) lF lN ?hT (.head _) (key_made a k _ _) (fun h' news' F' N' T' hk' keep' => ?_) ?hz)
    (case hT => exact tupTab_mono hTab (fun ob h hc => .tail _ (.tail _ (.tail _ (.tail _ (mem_off h (ne_cls (lN0 trivial) h hf (by rw [hc]; exact nDL))))))) (fun p h hc => .tail _ (.tail _ (.tail _ (.tail _ (mem_off h (ne_cls (lN0 trivial) (b := p.1) (ob := p.2) h hf (by rw [hc]; exact nTL))))))))
    (case hz => rw [sizeLine_eq]; unfold tab2; rw [List.length_map, List.length_zipIdx]; omega)
    · ktr_units
    · clear lN
      try k_fold
      try dsimp only
      k_steps
      walk_at "mine: endZ"
      have kept : ∀ p : Addr × Obj, p ∈ _ → p.1 ≠ f → p.1 ≠ e → p ∈ _ := fun p hp q1 q2 => keep' p (.tail _ (.tail _ (.tail _ (.tail _ (mem_off hp q1))))) q2
      have fe : f ≠ e := by
        obtain ⟨lo, oe, es, ep, xs, hme, hce, _⟩ := hTab
        exact (ne_cls (lN0 trivial) hme hf (by rw [hce.1]; exact nDL)).symm
      exact ⟨⟨_, by rw [(addF_new hx).2, ← hT.1]; simp; rfl⟩, hS.grown2 (lN0 trivial) hx hT hf kept (keep' _ (.tail _ (.tail _ (.tail _ (.head _)))) fe) hk' (key_made a k _ _) (by rw [← hT.1]; exact T'), kept⟩
end
section
theorem lines_Y4 : True := by
  w_top off
  k_with_none
  (k_with "mine: start" => (unfold PS; k_fill; intros; rename_i hret hexc; refine wpAny_call ?_; k_dflt cell_enter))
  (k_with "mine: sub" => (first | exact fun _ h => h | exact fun _ h => List.mem_append_left _ h | (intro _ h; simp only [List.mem_append, List.mem_cons, h, true_or, or_true])))
  (k_with "mine: end" => ((first | refine endB (by assumption) (by k_asm) (by k_asm) (by walk_at "mine: sub") (resB ?_) | refine endI (by assumption) (by k_asm) (by k_asm) (by walk_at "mine: sub") (resI ?_) | refine endS (by assumption) (by k_asm) (by k_asm) (by walk_at "mine: sub") (resS ?_))))
  (k_with "mine: fill" => ((intro t' h' tk' F' N'); (try dsimp only); (try k_sweep); (try k_fold)))
  (k_with "exec While Compare cons nil" => (k_here; refine Mark.out ?_))
  (k_with "exec For Name Name cons nil" => (k_here; refine Mark.out ?_))
  (k_with "exec For Name Call cons nil" => (k_here; refine Mark.out ?_))
  (k_with "exec For Name List cons nil" => (k_here; refine Mark.out ?_))
  (k_with "binaryOp Add str str" => (k_here; (with_reducible show wpAny _ _ (binaryOp Operator.Add (Value.str _ _) (Value.str _ _)) _ _ _); (refine add_str ?_ (by first | (walk_at "mine: size") | fail)); intro _ _))
  (k_with "mine: same" => (intro z h2 h3; (simp only [List.forall_mem_cons, List.not_mem_nil, false_implies, implies_true, and_true, ne_eq] at h2); first | ((simp only [List.contains_cons, List.contains_nil, Bool.or_false, Bool.or_eq_false_iff, beq_eq_false_iff_ne, ne_eq] at h3); (simp [h2, h3, kstB]; done)) | (simp [h2, kstB]; done)))
  (k_with "call builtin:list.append" => (k_here; (with_reducible show wpAny _ _ (call (Value.builtin _) [Value.ref _, _]) _ _ _); k_dflt (refine append_K (by first | (k_asm) | fail) (by first | (k_asm) | fail) (by first | (k_upd) | fail) ?_ (by first | (walk_at "mine: size") | fail); k_whole); intro h' F' N'; (try simp only [List.push_toArray] at N'); (try k_sweep)))
  (k_with "InvEndN" => (refine Mark.out ?_))
  (k_with "KswEnd" => (refine Mark.out ?_))
  (k_with "call builtin:str.join" => (k_here; refine Mark.out ?_))
  (k_with "mine: sameN" => (intro z h1 h2 h3; (simp only [List.forall_mem_cons, List.not_mem_nil, false_implies, implies_true, and_true, ne_eq] at h2); first | ((simp only [List.contains_cons, List.contains_nil, Bool.or_false, Bool.or_eq_false_iff, beq_eq_false_iff_ne, ne_eq] at h3); (simp [h1, h2, h3, kstB]; done)) | (simp [h1, h2, kstB]; done)))
  (k_with "exec Raise some none" => (k_here; k_dflt (refine Raise_fault (by exact rfl) ?_)))
  (k_with "mine: fault" => (k_here; k_dflt (refine fault_call (by first | (k_asm) | fail) (by first | (k_asm) | fail) (by first | (k_asm) | fail) (by first | (k_asm) | fail) (by first | (k_asm) | fail) (by first | (first | exact rfl | assumption) | fail) (by first | (ktr_room) | fail) (by first | (ktr_units) | fail) ?_); (intro e' d' tt' h' tk' F' N' hne'); (refine ⟨_, _, _, rfl, by k_in, (N' _ (List.Mem.head _)).1, ?_⟩); (try dsimp only); (try k_sweep)))
  (k_with "mine: endX" => (refine endX (by assumption) (by k_asm) (by assumption) (by assumption) (by walk_at "mine: sub") ?_))
  (k_with "mine: endR" => ((first | refine endB (by assumption) (by k_asm) (by k_asm) (by walk_at "mine: sub") ?_ | refine endI (by assumption) (by k_asm) (by k_asm) (by walk_at "mine: sub") ?_ | refine endS (by assumption) (by k_asm) (by k_asm) (by walk_at "mine: sub") ?_)))
  (k_with "mine: size" => (rw [sizeLine_eq]; (first | omega | (simp only [Str.length_append, tx_length, len_item, List.length_cons, List.length_nil, List.length_append, List.size_toArray, Array.size_push]; omega))))
  (k_with "mine: filled" => ((intro t' h' tk' F' N'); (try dsimp only); (try k_sweep); (try k_fold)))
  (k_with "mine: startZ" => (unfold PZ; k_fill; intros; rename_i hpre hret hexc; refine wpAny_call ?_; k_dflt cell_enter))
  (k_with "mine: endXZ" => (refine endXZ (by assumption) (by k_asm) (by assumption) (by assumption) (by walk_at "mine: sub") ?_))
  (k_with "mine: endZ" => (refine endZ (by assumption) (by k_asm) (by k_asm) ?_))
  trivial
theorem key_shape {w : World} {a b : Int} {ok : Obj} (h : TupKeyObj (ikind w) [a, b] ok) : ∃ t u n, ok.data = .seq #[.int a t, .int b u] n := by
  obtain ⟨_, items, n, hd, hi⟩ := h
  obtain ⟨l⟩ := items
  cases hi with
  | cons h1 h2 =>
    cases h2 with
    | cons h3 h4 =>
      cases h4
      obtain ⟨t, e1⟩ := Value.isInt_shape h1
      obtain ⟨u, e2⟩ := Value.isInt_shape h3
      exact ⟨t, u, n, by rw [hd]; subst e1 e2; rfl⟩
theorem key_tup {w : World} {h₀ h : Heap} {L D : Addr} {news : List (Addr × Obj)} {a b : Int} {ok : Obj} (N : News h₀ L h news) (hm : (D, ok) ∈ news) (hk : TupKeyObj (ikind w) [a, b] ok) : ∃ t u, IsTup h D #[.int a t, .int b u] :=
  let ⟨t, u, n, e⟩ := key_shape hk
  ⟨t, u, ok, (N _ hm).1, hk.1, n, e⟩
theorem name_spec (w mean mg mb) (o dx l d f e : Addr) (ts : List Str) (fs : List (List Int)) (k : Nat) (t : Tok) (a b : Int) (hk : fs[k]? = some [a, b]) (hts : fs.length ≤ 1000) :
    PZ w mean mg mb 3 117 [.ref o, .int (k : Int) t] (fun _ news => Sym w news o dx l d f e ts fs) (fun news v news' => news' = news ∧ ∃ t', v = .int a t') False := by
  walk_at "mine: startZ"
  rename Sym _ _ _ _ _ _ _ _ _ _ => hS
  rename News _ _ _ _ => lN
  obtain ⟨t1, t2, t3, t4, n0, hdx⟩ := hS.dict
  obtain ⟨fvs, n, hf, hT, hTab, hnd⟩ := hS.fun_
  have hN : News _ _ _ ((o, instObj 155 dx) :: (dx, symDict w l d f e t1 t2 t3 t4 n0) :: (f, listOf fvs.toArray n) :: _) := fun p hp => by
    rcases List.mem_cons.mp hp with h | hp
    · rw [h]; exact lN _ hS.inst
    rcases List.mem_cons.mp hp with h | hp
    · rw [h]; exact lN _ hdx
    rcases List.mem_cons.mp hp with h | hp
    · rw [h]; exact lN _ hf
    exact lN _ hp
  have lN0 : True → News _ _ _ _ := fun _ => lN
  clear lN
  k_steps
  rename News _ _ _ _ => lN
  obtain ⟨D, ok, q1, q2, q3⟩ := hT.2 k _ hk
  have hk2 := (List.getElem?_eq_some_iff.mp hk).1
  (with_unfolding_all refine' item_list ?hl (Int.natCast_nonneg _) (by omega) (x := .ref D) ?hx ?_; (case hl => exact News.isList lN (.tail _ (.tail _ (.head _)))); (case hx => (rw [Int.toNat_natCast, List.getElem?_toArray]; exact q1)))
  obtain ⟨t5, t6, hIT⟩ := key_tup lN (.tail _ (.tail _ (.tail _ q2))) q3
  try k_fold
  k_steps
  walk_at "mine: endZs"
  (case kp => exact ⟨rfl, _, rfl⟩)
  (case ks => exact fun p hp => .tail _ (.tail _ (.tail _ hp)))
theorem arity_spec (w mean mg mb) (o dx l d f e : Addr) (ts : List Str) (fs : List (List Int)) (k : Nat) (t : Tok) (a b : Int) (hk : fs[k]? = some [a, b]) (hts : fs.length ≤ 1000) :
    PZ w mean mg mb 3 124 [.ref o, .int (k : Int) t] (fun _ news => Sym w news o dx l d f e ts fs) (fun news v news' => news' = news ∧ ∃ t', v = .int b t') False := by
  walk_at "mine: startZ"
  rename Sym _ _ _ _ _ _ _ _ _ _ => hS
  rename News _ _ _ _ => lN
  obtain ⟨t1, t2, t3, t4, n0, hdx⟩ := hS.dict
  obtain ⟨fvs, n, hf, hT, hTab, hnd⟩ := hS.fun_
  have hN : News _ _ _ ((o, instObj 155 dx) :: (dx, symDict w l d f e t1 t2 t3 t4 n0) :: (f, listOf fvs.toArray n) :: _) := fun p hp => by
    rcases List.mem_cons.mp hp with h | hp
    · rw [h]; exact lN _ hS.inst
    rcases List.mem_cons.mp hp with h | hp
    · rw [h]; exact lN _ hdx
    rcases List.mem_cons.mp hp with h | hp
    · rw [h]; exact lN _ hf
    exact lN _ hp
  have lN0 : True → News _ _ _ _ := fun _ => lN
  clear lN
  k_steps
  rename News _ _ _ _ => lN
  obtain ⟨D, ok, q1, q2, q3⟩ := hT.2 k _ hk
  have hk2 := (List.getElem?_eq_some_iff.mp hk).1
  (with_unfolding_all refine' item_list ?hl (Int.natCast_nonneg _) (by omega) (x := .ref D) ?hx ?_; (case hl => exact News.isList lN (.tail _ (.tail _ (.head _)))); (case hx => (rw [Int.toNat_natCast, List.getElem?_toArray]; exact q1)))
  obtain ⟨t5, t6, hIT⟩ := key_tup lN (.tail _ (.tail _ (.tail _ q2))) q3
  try k_fold
  k_steps
  walk_at "mine: endZs"
  (case kp => exact ⟨rfl, _, rfl⟩)
  (case ks => exact fun p hp => .tail _ (.tail _ (.tail _ hp)))
end
section
theorem lines_Y5 : True := by
  w_top off
  k_with_none
  (k_with "mine: start" => (unfold PS; k_fill; intros; rename_i hret hexc; refine wpAny_call ?_; k_dflt cell_enter))
  (k_with "mine: sub" => (first | exact fun _ h => h | exact fun _ h => List.mem_append_left _ h | (intro _ h; simp only [List.mem_append, List.mem_cons, h, true_or, or_true])))
  (k_with "mine: end" => ((first | refine endB (by assumption) (by k_asm) (by k_asm) (by walk_at "mine: sub") (resB ?_) | refine endI (by assumption) (by k_asm) (by k_asm) (by walk_at "mine: sub") (resI ?_) | refine endS (by assumption) (by k_asm) (by k_asm) (by walk_at "mine: sub") (resS ?_))))
  (k_with "mine: fill" => ((intro t' h' tk' F' N'); (try dsimp only); (try k_sweep); (try k_fold)))
  (k_with "exec While Compare cons nil" => (k_here; refine Mark.out ?_))
  (k_with "exec For Name Name cons nil" => (k_here; refine Mark.out ?_))
  (k_with "exec For Name Call cons nil" => (k_here; refine Mark.out ?_))
  (k_with "exec For Name List cons nil" => (k_here; refine Mark.out ?_))
  (k_with "binaryOp Add str str" => (k_here; (with_reducible show wpAny _ _ (binaryOp Operator.Add (Value.str _ _) (Value.str _ _)) _ _ _); (refine add_str ?_ (by first | (walk_at "mine: size") | fail)); intro _ _))
  (k_with "mine: same" => (intro z h2 h3; (simp only [List.forall_mem_cons, List.not_mem_nil, false_implies, implies_true, and_true, ne_eq] at h2); first | ((simp only [List.contains_cons, List.contains_nil, Bool.or_false, Bool.or_eq_false_iff, beq_eq_false_iff_ne, ne_eq] at h3); (simp [h2, h3, kstB]; done)) | (simp [h2, kstB]; done)))
  (k_with "call builtin:list.append" => (k_here; (with_reducible show wpAny _ _ (call (Value.builtin _) [Value.ref _, _]) _ _ _); k_dflt (refine append_K (by first | (k_asm) | fail) (by first | (k_asm) | fail) (by first | (k_upd) | fail) ?_ (by first | (walk_at "mine: size") | fail); k_whole); intro h' F' N'; (try simp only [List.push_toArray] at N'); (try k_sweep)))
  (k_with "InvEndN" => (refine Mark.out ?_))
  (k_with "KswEnd" => (refine Mark.out ?_))
  (k_with "call builtin:str.join" => (k_here; refine Mark.out ?_))
  (k_with "mine: sameN" => (intro z h1 h2 h3; (simp only [List.forall_mem_cons, List.not_mem_nil, false_implies, implies_true, and_true, ne_eq] at h2); first | ((simp only [List.contains_cons, List.contains_nil, Bool.or_false, Bool.or_eq_false_iff, beq_eq_false_iff_ne, ne_eq] at h3); (simp [h1, h2, h3, kstB]; done)) | (simp [h1, h2, kstB]; done)))
  (k_with "exec Raise some none" => (k_here; k_dflt (refine Raise_fault (by exact rfl) ?_)))
  (k_with "mine: fault" => (k_here; k_dflt (refine fault_call (by first | (k_asm) | fail) (by first | (k_asm) | fail) (by first | (k_asm) | fail) (by first | (k_asm) | fail) (by first | (k_asm) | fail) (by first | (first | exact rfl | assumption) | fail) (by first | (ktr_room) | fail) (by first | (ktr_units) | fail) ?_); (intro e' d' tt' h' tk' F' N' hne'); (refine ⟨_, _, _, rfl, by k_in, (N' _ (List.Mem.head _)).1, ?_⟩); (try dsimp only); (try k_sweep)))
  (k_with "mine: endX" => (refine endX (by assumption) (by k_asm) (by assumption) (by assumption) (by walk_at "mine: sub") ?_))
  (k_with "mine: endR" => ((first | refine endB (by assumption) (by k_asm) (by k_asm) (by walk_at "mine: sub") ?_ | refine endI (by assumption) (by k_asm) (by k_asm) (by walk_at "mine: sub") ?_ | refine endS (by assumption) (by k_asm) (by k_asm) (by walk_at "mine: sub") ?_)))
  (k_with "mine: size" => (rw [sizeLine_eq]; (first | omega | (simp only [Str.length_append, tx_length, len_item, List.length_cons, List.length_nil, List.length_append, List.size_toArray, Array.size_push]; omega))))
  (k_with "mine: filled" => ((intro t' h' tk' F' N'); (try dsimp only); (try k_sweep); (try k_fold)))
  (k_with "mine: startZ" => (unfold PZ; k_fill; intros; rename_i hpre hret hexc; refine wpAny_call ?_; k_dflt cell_enter))
  (k_with "mine: endXZ" => (refine endXZ (by assumption) (by k_asm) (by assumption) (by assumption) (by walk_at "mine: sub") ?_))
  (k_with "mine: endZ" => (refine endZ (by assumption) (by k_asm) (by k_asm) ?_))
  trivial
section
variable {w : World} {mean : ExcName → Option Value} {mg mb : Str → Option Value} {news : List (Addr × Obj)}
    {dp un : Nat} {gd : Option (List Code)} {cn : Str} {cs : Scope} {a : Addr} {ccd : Value} {cl : List (Str × Addr)} {outer : List Env} {A₀ : Around} {base h₀ : Heap} {L : Addr} {m : Str → Option Value} {s : Shared} {Q E : Value → Shared → Prop}
    {o dx l d f e : Addr} {ts : List Str} {fs : List (List Int)}
theorem sym_heads {h : Heap} (S : Sym w news o dx l d f e ts fs) (N : News h₀ L h news) : ∃ t1 t2 t3 t4 n, News h₀ L h ((o, instObj 155 dx) :: (dx, symDict w l d f e t1 t2 t3 t4 n) :: news) := by
  obtain ⟨t1, t2, t3, t4, n, hdx⟩ := S.dict
  refine ⟨t1, t2, t3, t4, n, fun p hp => ?_⟩
  rcases List.mem_cons.mp hp with h | hp
  · rw [h]; exact N _ S.inst
  rcases List.mem_cons.mp hp with h | hp
  · rw [h]; exact N _ hdx
  exact N _ hp
variable (B : Below A₀ base outer h₀) (F : Fr h₀ L s.heap m) (K : (hd.heap_1 w.params).In h₀) (N : News h₀ L s.heap news) (T : Top vw (looseW vw [Str.ofString "LinkFault"]) mean mg mb h₀) (hk : cs.kind = .function) (hdp : dp + 3 < recursionLimit) (hu : un + 8 * 3 < cLine) (S : Sym w news o dx l d f e ts fs)
include B F K N T hk hdp hu S
theorem atom_call {x : Str} {t : Tok} (hts : ts.length ≤ 1000)
    (hret : ∀ t' news' t1 t2 t3 t4 n h' tk', Sym w news' o dx l d f e (addA ts x) fs → (∀ p ∈ news, p.1 ≠ l → p.1 ≠ d → p ∈ news') → Fr h₀ L h' m → News h₀ L h' ((o, instObj 155 dx) :: (dx, symDict w l d f e t1 t2 t3 t4 n) :: news') → Q (.int (((addA ts x).idxOf x : Nat) : Int) t') { s with heap := h', toks := tk' }) :
    wpAny (model PySem.Challenge.rw_ok0015_01.row.prog w) (ktrTop dp un gd cn cs L a ccd cl outer) (call (.ref 89) [.ref o, .str x t]) Q E s :=
  (atom_spec w mean mg mb o dx l d f e ts fs x t hts).calm B F K N T hk hdp hu S fun v news' h' tk' ⟨⟨t', e1⟩, S', keep⟩ F2 N2 => by
    obtain ⟨t1, t2, t3, t4, n, N3⟩ := sym_heads S' N2
    rw [e1]
    exact hret t' news' t1 t2 t3 t4 n h' tk' S' keep F2 N3
theorem functor_call {x k : Int} {t u : Tok} (hts : fs.length ≤ 1000)
    (hret : ∀ t' news' t1 t2 t3 t4 n h' tk', Sym w news' o dx l d f e ts (addF fs [x, k]) → (∀ p ∈ news, p.1 ≠ f → p.1 ≠ e → p ∈ news') → Fr h₀ L h' m → News h₀ L h' ((o, instObj 155 dx) :: (dx, symDict w l d f e t1 t2 t3 t4 n) :: news') → Q (.int (((addF fs [x, k]).idxOf [x, k] : Nat) : Int) t') { s with heap := h', toks := tk' }) :
    wpAny (model PySem.Challenge.rw_ok0015_01.row.prog w) (ktrTop dp un gd cn cs L a ccd cl outer) (call (.ref 103) [.ref o, .int x t, .int k u]) Q E s :=
  (functor_spec w mean mg mb o dx l d f e ts fs x k t u hts).calm B F K N T hk hdp hu S fun v news' h' tk' ⟨⟨t', e1⟩, S', keep⟩ F2 N2 => by
    obtain ⟨t1, t2, t3, t4, n, N3⟩ := sym_heads S' N2
    rw [e1]
    exact hret t' news' t1 t2 t3 t4 n h' tk' S' keep F2 N3
theorem text_call {k : Nat} {t : Tok} (hk2 : k < ts.length) (hts : ts.length ≤ 1000)
    (hret : ∀ t' h' tk', Fr h₀ L h' m → News h₀ L h' news → Q (.str (ts.getD k Str.empty) t') { s with heap := h', toks := tk' }) :
    wpAny (model PySem.Challenge.rw_ok0015_01.row.prog w) (ktrTop dp un gd cn cs L a ccd cl outer) (call (.ref 96) [.ref o, .int (k : Int) t]) Q E s :=
  (text_spec w mean mg mb o dx l d f e ts fs k t hk2 hts).calm B F K N T hk hdp hu S fun v news' h' tk' ⟨e0, t', e1⟩ F2 N2 => by
    rw [e1]
    rw [e0] at N2
    exact hret t' h' tk' F2 N2
theorem name_call {k : Nat} {t : Tok} {x y : Int} (hk2 : fs[k]? = some [x, y]) (hts : fs.length ≤ 1000)
    (hret : ∀ t' h' tk', Fr h₀ L h' m → News h₀ L h' news → Q (.int x t') { s with heap := h', toks := tk' }) :
    wpAny (model PySem.Challenge.rw_ok0015_01.row.prog w) (ktrTop dp un gd cn cs L a ccd cl outer) (call (.ref 117) [.ref o, .int (k : Int) t]) Q E s :=
  (name_spec w mean mg mb o dx l d f e ts fs k t x y hk2 hts).calm B F K N T hk hdp hu S fun v news' h' tk' ⟨e0, t', e1⟩ F2 N2 => by
    rw [e1]
    rw [e0] at N2
    exact hret t' h' tk' F2 N2
theorem arity_call {k : Nat} {t : Tok} {x y : Int} (hk2 : fs[k]? = some [x, y]) (hts : fs.length ≤ 1000)
    (hret : ∀ t' h' tk', Fr h₀ L h' m → News h₀ L h' news → Q (.int y t') { s with heap := h', toks := tk' }) :
    wpAny (model PySem.Challenge.rw_ok0015_01.row.prog w) (ktrTop dp un gd cn cs L a ccd cl outer) (call (.ref 124) [.ref o, .int (k : Int) t]) Q E s :=
  (arity_spec w mean mg mb o dx l d f e ts fs k t x y hk2 hts).calm B F K N T hk hdp hu S fun v news' h' tk' ⟨e0, t', e1⟩ F2 N2 => by
    rw [e1]
    rw [e0] at N2
    exact hret t' h' tk' F2 N2
end
end
section
theorem lines_V1 : True := by
  w_top off
  k_with_none
  (k_with "mine: start" => (unfold PS; k_fill; intros; rename_i hret hexc; refine wpAny_call ?_; k_dflt cell_enter))
  (k_with "mine: sub" => (first | exact fun _ h => h | exact fun _ h => List.mem_append_left _ h | (intro _ h; simp only [List.mem_append, List.mem_cons, h, true_or, or_true])))
  (k_with "mine: end" => ((first | refine endB (by assumption) (by k_asm) (by k_asm) (by walk_at "mine: sub") (resB ?_) | refine endI (by assumption) (by k_asm) (by k_asm) (by walk_at "mine: sub") (resI ?_) | refine endS (by assumption) (by k_asm) (by k_asm) (by walk_at "mine: sub") (resS ?_))))
  (k_with "mine: fill" => ((intro t' h' tk' F' N'); (try dsimp only); (try k_sweep); (try k_fold)))
  (k_with "exec While Compare cons nil" => (k_here; refine Mark.out ?_))
  (k_with "exec For Name Name cons nil" => (k_here; refine Mark.out ?_))
  (k_with "exec For Name Call cons nil" => (k_here; refine Mark.out ?_))
  (k_with "exec For Name List cons nil" => (k_here; refine Mark.out ?_))
  (k_with "binaryOp Add str str" => (k_here; (with_reducible show wpAny _ _ (binaryOp Operator.Add (Value.str _ _) (Value.str _ _)) _ _ _); (refine add_str ?_ (by first | (walk_at "mine: size") | fail)); intro _ _))
  (k_with "mine: same" => (intro z h2 h3; (simp only [List.forall_mem_cons, List.not_mem_nil, false_implies, implies_true, and_true, ne_eq] at h2); first | ((simp only [List.contains_cons, List.contains_nil, Bool.or_false, Bool.or_eq_false_iff, beq_eq_false_iff_ne, ne_eq] at h3); (simp [h2, h3, kstB]; done)) | (simp [h2, kstB]; done)))
  (k_with "call builtin:list.append" => (k_here; (with_reducible show wpAny _ _ (call (Value.builtin _) [Value.ref _, _]) _ _ _); k_dflt (refine append_K (by first | (k_asm) | fail) (by first | (k_asm) | fail) (by first | (k_upd) | fail) ?_ (by first | (walk_at "mine: size") | fail); k_whole); intro h' F' N'; (try simp only [List.push_toArray] at N'); (try k_sweep)))
  (k_with "InvEndN" => (refine Mark.out ?_))
  (k_with "KswEnd" => (refine Mark.out ?_))
  (k_with "call builtin:str.join" => (k_here; refine Mark.out ?_))
  (k_with "mine: sameN" => (intro z h1 h2 h3; (simp only [List.forall_mem_cons, List.not_mem_nil, false_implies, implies_true, and_true, ne_eq] at h2); first | ((simp only [List.contains_cons, List.contains_nil, Bool.or_false, Bool.or_eq_false_iff, beq_eq_false_iff_ne, ne_eq] at h3); (simp [h1, h2, h3, kstB]; done)) | (simp [h1, h2, kstB]; done)))
  (k_with "exec Raise some none" => (k_here; k_dflt (refine Raise_fault (by exact rfl) ?_)))
  (k_with "mine: fault" => (k_here; k_dflt (refine fault_call (by first | (k_asm) | fail) (by first | (k_asm) | fail) (by first | (k_asm) | fail) (by first | (k_asm) | fail) (by first | (k_asm) | fail) (by first | (first | exact rfl | assumption) | fail) (by first | (ktr_room) | fail) (by first | (ktr_units) | fail) ?_); (intro e' d' tt' h' tk' F' N' hne'); (refine ⟨_, _, _, rfl, by k_in, (N' _ (List.Mem.head _)).1, ?_⟩); (try dsimp only); (try k_sweep)))
  (k_with "mine: endX" => (refine endX (by assumption) (by k_asm) (by assumption) (by assumption) (by walk_at "mine: sub") ?_))
  (k_with "mine: endR" => ((first | refine endB (by assumption) (by k_asm) (by k_asm) (by walk_at "mine: sub") ?_ | refine endI (by assumption) (by k_asm) (by k_asm) (by walk_at "mine: sub") ?_ | refine endS (by assumption) (by k_asm) (by k_asm) (by walk_at "mine: sub") ?_)))
  (k_with "mine: size" => (rw [sizeLine_eq]; (first | omega | (simp only [Str.length_append, tx_length, len_item, List.length_cons, List.length_nil, List.length_append, List.size_toArray, Array.size_push]; omega))))
  (k_with "mine: filled" => ((intro t' h' tk' F' N'); (try dsimp only); (try k_sweep); (try k_fold)))
  (k_with "mine: startZ" => (unfold PZ; k_fill; intros; rename_i hpre hret hexc; refine wpAny_call ?_; k_dflt cell_enter))
  (k_with "mine: endXZ" => (refine endXZ (by assumption) (by k_asm) (by assumption) (by assumption) (by walk_at "mine: sub") ?_))
  (k_with "mine: endZ" => (refine endZ (by assumption) (by k_asm) (by k_asm) ?_))
  trivial
def tup2 (a b : Int) (t u : Tok) : Obj := { cls := .type "tuple", data := .seq #[.int a t, .int b u] }
theorem news_cons {h₀ h : Heap} {L : Addr} {news : List (Addr × Obj)} {p : Addr × Obj} (N : News h₀ L h news) (hp : p ∈ news) : News h₀ L h (p :: news) := fun q hq => (List.mem_cons.mp hq).elim (fun e => e ▸ N _ hp) fun h => N _ h
theorem lines_V1_1 : True := by
  (k_with "call ref cons nil" => (k_here; k_dflt (refine PS.ok (number_text_spec _ _ _ _ _ _ (by first | (assumption) | fail)) (by first | (k_asm) | fail) (by first | (k_asm) | fail) (by first | (k_asm) | fail) (by first | (k_asm) | fail) (by first | (k_asm) | fail) (by first | (first | exact rfl | assumption) | fail) (by first | (ktr_room) | fail) (by first | (ktr_units) | fail) ?_); walk_at "mine: filled"))
  trivial
theorem constant_int_spec (w mean mg mb) (sv : Value) (D : Addr) (v : Int) (t u : Tok) (hv : v.natAbs < 10 ^ 72) :
    PZ w mean mg mb 4 236 [sv, .ref D] (fun _ news => (D, { cls := .type "tuple", data := .seq #[.int 5 t, .int v u] }) ∈ news) (fun news r news' => news' = news ∧ ∃ t', r = .str (tx (numL v)) t') False := by
  walk_at "mine: startZ"
  rename (_ ∈ _) => hD
  rename News _ _ _ _ => lN
  have hN := news_cons lN hD
  clear lN
  k_steps
  walk_at "mine: endZs"
  (case kp => exact ⟨rfl, _, rfl⟩)
  (case ks => exact fun p hp => .tail _ hp)
theorem lines_V1_2 : True := by
  (k_with "call ref cons nil" => (k_here; k_dflt (refine PS.ok (quoted_name_spec _ _ _ _ _ _ (by first | (assumption) | fail) (by first | (assumption) | fail)) (by first | (k_asm) | fail) (by first | (k_asm) | fail) (by first | (k_asm) | fail) (by first | (k_asm) | fail) (by first | (k_asm) | fail) (by first | (first | exact rfl | assumption) | fail) (by first | (ktr_room) | fail) (by first | (ktr_units) | fail) ?_); walk_at "mine: filled"))
  (k_with "call ref cons nil" => (k_here; k_dflt (refine text_call (by first | (k_asm) | fail) (by first | (k_asm) | fail) (by first | (k_asm) | fail) (by first | (k_asm) | fail) (by first | (k_asm) | fail) (by first | (first | exact rfl | assumption) | fail) (by first | (ktr_room) | fail) (by first | (ktr_units) | fail) (by first | (assumption) | fail) (by first | (assumption) | fail) (by first | (assumption) | fail) ?_); intro t' h' tk' F' N'; (try dsimp only); (try k_sweep); (try k_fold)))
  trivial
theorem constant_con_spec (w mean mg mb) (o dx l d f e : Addr) (ts : List Str) (fs : List (List Int)) (D : Addr) (k : Nat) (t u : Tok) (hk : k < ts.length) (hts : ts.length ≤ 1000) (hl : (ts.getD k Str.empty).length ≤ 100000) (hc : ∀ c ∈ (ts.getD k Str.empty).cps.toList, c ≤ 1114111) :
    PZ w mean mg mb 6 236 [.ref o, .ref D] (fun _ news => Sym w news o dx l d f e ts fs ∧ (D, { cls := .type "tuple", data := .seq #[.int 4 t, .int (k : Int) u] }) ∈ news) (fun news r news' => news' = news ∧ ∃ t', r = .str (quoted (ts.getD k Str.empty)) t') False := by
  walk_at "mine: startZ"
  rename (_ ∧ _) => hSD
  obtain ⟨hS, hD⟩ := hSD
  rename News _ _ _ _ => lN
  obtain ⟨t1, t2, t3, t4, n0, lN2⟩ := sym_heads hS lN
  have hN := news_cons lN2 (.tail _ (.tail _ hD))
  clear lN lN2
  have hS2 := hS.mono (news' := (D, { cls := .type "tuple", data := .seq #[.int 4 t, .int (k : Int) u] }) :: (o, instObj 155 dx) :: (dx, symDict w l d f e t1 t2 t3 t4 n0) :: _) fun p hp => .tail _ (.tail _ (.tail _ hp))
  k_steps
  walk_at "mine: endZs"
  (case kp => exact ⟨rfl, _, rfl⟩)
  (case ks => exact fun p hp => .tail _ (.tail _ (.tail _ hp)))
theorem lines_V1_3 : True := by
  (k_with "call ref cons nil" => (k_here; k_dflt (refine PS.ok (number_text_spec _ _ _ _ _ _ (by first | (assumption) | fail)) (by first | (k_asm) | fail) (by first | (k_asm) | fail) (by first | (k_asm) | fail) (by first | (k_asm) | fail) (by first | (k_asm) | fail) (by first | (first | exact rfl | assumption) | fail) (by first | (ktr_room) | fail) (by first | (ktr_units) | fail) ?_); walk_at "mine: filled"))
  (k_with "call ref cons nil" => (k_here; k_dflt (refine name_call (by first | (k_asm) | fail) (by first | (k_asm) | fail) (by first | (k_asm) | fail) (by first | (k_asm) | fail) (by first | (k_asm) | fail) (by first | (first | exact rfl | assumption) | fail) (by first | (ktr_room) | fail) (by first | (ktr_units) | fail) (by first | (assumption) | fail) (by first | (assumption) | fail) (by first | (assumption) | fail) ?_); intro t' h' tk' F' N'; (try dsimp only); (try k_sweep); (try k_fold)))
  (k_with "call ref cons nil" => (k_here; k_dflt (refine arity_call (by first | (k_asm) | fail) (by first | (k_asm) | fail) (by first | (k_asm) | fail) (by first | (k_asm) | fail) (by first | (k_asm) | fail) (by first | (first | exact rfl | assumption) | fail) (by first | (ktr_room) | fail) (by first | (ktr_units) | fail) (by first | (assumption) | fail) (by first | (assumption) | fail) (by first | (assumption) | fail) ?_); intro t' h' tk' F' N'; (try dsimp only); (try k_sweep); (try k_fold)))
  trivial
theorem flat_len {l : List Nat} (h : ∀ c ∈ l, c ≤ 1114111) : (l.flatMap escS).length ≤ 9 * l.length := by
  induction l with
  | nil => exact Nat.le_refl _
  | cons a r ih =>
    rw [List.flatMap_cons, List.length_append, List.length_cons]
    have h1 := escS_length (h a (.head _))
    have h2 := ih fun c hc => h c (.tail _ hc)
    omega
theorem quoted_len {x : Str} (hl : x.length ≤ 100000) (hc : ∀ c ∈ x.cps.toList, c ≤ 1114111) : (quoted x).length ≤ 900002 := by
  unfold quoted
  split
  · omega
  · rw [tx_length]
    unfold quotedL
    have h1 := flat_len hc
    have h2 : x.cps.toList.length = x.length := Array.length_toList
    simp only [List.length_cons, List.length_append, List.length_nil]
    omega
theorem numL_len {q : Int} (h : q.natAbs < 10 ^ 72) : (tx (numL q)).length ≤ 73 := by
  have h1 := dec_len (k := 72) (by decide) h
  rw [tx_length]
  unfold numL
  split
  · rw [List.length_cons]; omega
  · omega
theorem functor_text_spec (w mean mg mb) (o dx l d f e : Addr) (ts : List Str) (fs : List (List Int)) (j k : Nat) (q : Int) (u : Tok) (hj : fs[j]? = some [(k : Int), q]) (hfs : fs.length ≤ 1000) (hk : k < ts.length) (hts : ts.length ≤ 1000) (hl : (ts.getD k Str.empty).length ≤ 100000) (hc : ∀ c ∈ (ts.getD k Str.empty).cps.toList, c ≤ 1114111) (hq : q.natAbs < 10 ^ 72) :
    PZ w mean mg mb 6 243 [.ref o, .int (j : Int) u] (fun _ news => Sym w news o dx l d f e ts fs) (fun news r news' => news' = news ∧ ∃ t', r = .str (quoted (ts.getD k Str.empty) ++ Str.ofString "/" ++ tx (numL q)) t') False := by
  walk_at "mine: startZ"
  rename Sym _ _ _ _ _ _ _ _ _ _ => hS
  rename News _ _ _ _ => lN
  obtain ⟨t1, t2, t3, t4, n0, hN⟩ := sym_heads hS lN
  clear lN
  have hz1 := quoted_len hl hc
  have hz2 : (Str.ofString "/").length = 1 := by decide +kernel
  have hz3 := numL_len hq
  have hq0 : True → q.natAbs < 10 ^ 72 := fun _ => hq
  have hS2 := hS.mono (news' := (o, instObj 155 dx) :: (dx, symDict w l d f e t1 t2 t3 t4 n0) :: _) fun p hp => .tail _ (.tail _ hp)
  k_steps
  walk_at "mine: endZs"
  (case kp => exact ⟨rfl, _, rfl⟩)
  (case ks => exact fun p hp => .tail _ (.tail _ hp))
end
section
theorem lines_V2 : True := by
  w_top off
  k_with_none
  (k_with "mine: start" => (unfold PS; k_fill; intros; rename_i hret hexc; refine wpAny_call ?_; k_dflt cell_enter))
  (k_with "mine: sub" => (first | exact fun _ h => h | exact fun _ h => List.mem_append_left _ h | (intro _ h; simp only [List.mem_append, List.mem_cons, h, true_or, or_true])))
  (k_with "mine: end" => ((first | refine endB (by assumption) (by k_asm) (by k_asm) (by walk_at "mine: sub") (resB ?_) | refine endI (by assumption) (by k_asm) (by k_asm) (by walk_at "mine: sub") (resI ?_) | refine endS (by assumption) (by k_asm) (by k_asm) (by walk_at "mine: sub") (resS ?_))))
  (k_with "mine: fill" => ((intro t' h' tk' F' N'); (try dsimp only); (try k_sweep); (try k_fold)))
  (k_with "exec While Compare cons nil" => (k_here; refine Mark.out ?_))
  (k_with "exec For Name Name cons nil" => (k_here; refine Mark.out ?_))
  (k_with "exec For Name Call cons nil" => (k_here; refine Mark.out ?_))
  (k_with "exec For Name List cons nil" => (k_here; refine Mark.out ?_))
  (k_with "binaryOp Add str str" => (k_here; (with_reducible show wpAny _ _ (binaryOp Operator.Add (Value.str _ _) (Value.str _ _)) _ _ _); (refine add_str ?_ (by first | (walk_at "mine: size") | fail)); intro _ _))
  (k_with "mine: same" => (intro z h2 h3; (simp only [List.forall_mem_cons, List.not_mem_nil, false_implies, implies_true, and_true, ne_eq] at h2); first | ((simp only [List.contains_cons, List.contains_nil, Bool.or_false, Bool.or_eq_false_iff, beq_eq_false_iff_ne, ne_eq] at h3); (simp [h2, h3, kstB]; done)) | (simp [h2, kstB]; done)))
  (k_with "call builtin:list.append" => (k_here; (with_reducible show wpAny _ _ (call (Value.builtin _) [Value.ref _, _]) _ _ _); k_dflt (refine append_K (by first | (k_asm) | fail) (by first | (k_asm) | fail) (by first | (k_upd) | fail) ?_ (by first | (walk_at "mine: size") | fail); k_whole); intro h' F' N'; (try simp only [List.push_toArray] at N'); (try k_sweep)))
  (k_with "InvEndN" => (refine Mark.out ?_))
  (k_with "KswEnd" => (refine Mark.out ?_))
  (k_with "call builtin:str.join" => (k_here; refine Mark.out ?_))
  (k_with "mine: sameN" => (intro z h1 h2 h3; (simp only [List.forall_mem_cons, List.not_mem_nil, false_implies, implies_true, and_true, ne_eq] at h2); first | ((simp only [List.contains_cons, List.contains_nil, Bool.or_false, Bool.or_eq_false_iff, beq_eq_false_iff_ne, ne_eq] at h3); (simp [h1, h2, h3, kstB]; done)) | (simp [h1, h2, kstB]; done)))
  (k_with "exec Raise some none" => (k_here; k_dflt (refine Raise_fault (by exact rfl) ?_)))
  (k_with "mine: fault" => (k_here; k_dflt (refine fault_call (by first | (k_asm) | fail) (by first | (k_asm) | fail) (by first | (k_asm) | fail) (by first | (k_asm) | fail) (by first | (k_asm) | fail) (by first | (first | exact rfl | assumption) | fail) (by first | (ktr_room) | fail) (by first | (ktr_units) | fail) ?_); (intro e' d' tt' h' tk' F' N' hne'); (refine ⟨_, _, _, rfl, by k_in, (N' _ (List.Mem.head _)).1, ?_⟩); (try dsimp only); (try k_sweep)))
  (k_with "mine: endX" => (refine endX (by assumption) (by k_asm) (by assumption) (by assumption) (by walk_at "mine: sub") ?_))
  (k_with "mine: endR" => ((first | refine endB (by assumption) (by k_asm) (by k_asm) (by walk_at "mine: sub") ?_ | refine endI (by assumption) (by k_asm) (by k_asm) (by walk_at "mine: sub") ?_ | refine endS (by assumption) (by k_asm) (by k_asm) (by walk_at "mine: sub") ?_)))
  (k_with "mine: size" => (rw [sizeLine_eq]; (first | omega | (simp only [Str.length_append, tx_length, len_item, List.length_cons, List.length_nil, List.length_append, List.size_toArray, Array.size_push]; omega))))
  (k_with "mine: filled" => ((intro t' h' tk' F' N'); (try dsimp only); (try k_sweep); (try k_fold)))
  (k_with "mine: startZ" => (unfold PZ; k_fill; intros; rename_i hpre hret hexc; refine wpAny_call ?_; k_dflt cell_enter))
  (k_with "mine: endXZ" => (refine endXZ (by assumption) (by k_asm) (by assumption) (by assumption) (by walk_at "mine: sub") ?_))
  (k_with "mine: endZ" => (refine endZ (by assumption) (by k_asm) (by k_asm) ?_))
  trivial
theorem lines_V2_1 : True := by
  (k_with "call ref cons nil" => (k_here; k_dflt (refine PS.opt (read_count_spec _ _ _ _ _ _ (by first | (assumption) | fail)) (by first | (k_asm) | fail) (by first | (k_asm) | fail) (by first | (k_asm) | fail) (by first | (k_asm) | fail) (by first | (k_asm) | fail) (by first | (first | exact rfl | assumption) | fail) (by first | (ktr_room) | fail) (by first | (ktr_units) | fail) (fun r' hr' t' h' tk' F' N' => ?_) (fun hr' e' g2' h' tk' F2' U' R' => ?_)); (all_goals (try dsimp only)); (all_goals (try k_sweep)); (all_goals (try k_fold))))
  trivial
theorem read_number_spec (w mean mg mb) (sv : Value) (x : Str) (n : Nat) (t : Tok) (hr : readN x = some n) (h1 : 1 ≤ x.length) (h2 : x.length ≤ 1000) (h3 : ¬ (Txt.item x 0).cps.toList < (Str.ofString "0").cps.toList) (h4 : ¬ (Str.ofString "9").cps.toList < (Txt.item x 0).cps.toList) :
    PZ w mean mg mb 5 264 [sv, .str x t] (fun _ _ => True) (fun news r news' => ∃ D t u, r = .ref D ∧ news' = (D, { cls := .type "tuple", data := .seq #[.int 5 t, .int (n : Int) u] }) :: news) False := by
  walk_at "mine: startZ"
  k_steps
  · rename (readN x = some _) => hq
    have e := Option.some.inj (hr.symm.trans hq)
    walk_at "mine: endZ"
    exact ⟨_, _, _, rfl, by rw [e]⟩
  · have hz := (show readN x = none by with_reducible assumption)
    rw [hr] at hz
    cases hz
theorem read_minus_spec (w mean mg mb) (sv : Value) (x : Str) (n : Nat) (t : Tok) (hr : readN (Txt.slice x (some 1) none) = some n) (hn : n ≠ 0) (h1 : 1 ≤ x.length) (h2 : x.length ≤ 1000) (h3 : (Txt.item x 0 == Str.ofString "-") = true) (h5 : (Txt.item x 0).cps.toList < (Str.ofString "0").cps.toList) :
    PZ w mean mg mb 5 264 [sv, .str x t] (fun _ _ => True) (fun news r news' => ∃ D t u, r = .ref D ∧ news' = (D, { cls := .type "tuple", data := .seq #[.int 5 t, .int (-(n : Int)) u] }) :: news) False := by
  walk_at "mine: startZ"
  have h4 : (Txt.slice x (some 1) none).length ≤ 1000 := Nat.le_trans (Txt.slice_le _ _ _) h2
  have hw : (Str.ofString "wrong number in a listing: ").length = 27 := by decide +kernel
  k_steps
  · rename (readN (Txt.slice x (some 1) none) = some _) => hq
    have e := Option.some.inj (hr.symm.trans hq)
    rename ((_ : Int) = 0) => hz
    exact absurd (Int.ofNat.inj hz) (fun z => hn (e.trans z))
  · rename (readN (Txt.slice x (some 1) none) = some _) => hq
    have e := Option.some.inj (hr.symm.trans hq)
    walk_at "mine: endZ"
    exact ⟨_, _, _, rfl, by rw [e]⟩
  · have hz := (show readN (Txt.slice x (some 1) none) = none by with_reducible assumption)
    rw [hr] at hz
    cases hz
end
section
theorem lines_V3 : True := by
  w_top off
  k_with_none
  (k_with "mine: start" => (unfold PS; k_fill; intros; rename_i hret hexc; refine wpAny_call ?_; k_dflt cell_enter))
  (k_with "mine: sub" => (first | exact fun _ h => h | exact fun _ h => List.mem_append_left _ h | (intro _ h; simp only [List.mem_append, List.mem_cons, h, true_or, or_true])))
  (k_with "mine: end" => ((first | refine endB (by assumption) (by k_asm) (by k_asm) (by walk_at "mine: sub") (resB ?_) | refine endI (by assumption) (by k_asm) (by k_asm) (by walk_at "mine: sub") (resI ?_) | refine endS (by assumption) (by k_asm) (by k_asm) (by walk_at "mine: sub") (resS ?_))))
  (k_with "mine: fill" => ((intro t' h' tk' F' N'); (try dsimp only); (try k_sweep); (try k_fold)))
  (k_with "exec While Compare cons nil" => (k_here; refine Mark.out ?_))
  (k_with "exec For Name Name cons nil" => (k_here; refine Mark.out ?_))
  (k_with "exec For Name Call cons nil" => (k_here; refine Mark.out ?_))
  (k_with "exec For Name List cons nil" => (k_here; refine Mark.out ?_))
  (k_with "binaryOp Add str str" => (k_here; (with_reducible show wpAny _ _ (binaryOp Operator.Add (Value.str _ _) (Value.str _ _)) _ _ _); (refine add_str ?_ (by first | (walk_at "mine: size") | fail)); intro _ _))
  (k_with "mine: same" => (intro z h2 h3; (simp only [List.forall_mem_cons, List.not_mem_nil, false_implies, implies_true, and_true, ne_eq] at h2); first | ((simp only [List.contains_cons, List.contains_nil, Bool.or_false, Bool.or_eq_false_iff, beq_eq_false_iff_ne, ne_eq] at h3); (simp [h2, h3, kstB]; done)) | (simp [h2, kstB]; done)))
  (k_with "call builtin:list.append" => (k_here; (with_reducible show wpAny _ _ (call (Value.builtin _) [Value.ref _, _]) _ _ _); k_dflt (refine append_K (by first | (k_asm) | fail) (by first | (k_asm) | fail) (by first | (k_upd) | fail) ?_ (by first | (walk_at "mine: size") | fail); k_whole); intro h' F' N'; (try simp only [List.push_toArray] at N'); (try k_sweep)))
  (k_with "InvEndN" => (refine Mark.out ?_))
  (k_with "KswEnd" => (refine Mark.out ?_))
  (k_with "call builtin:str.join" => (k_here; refine Mark.out ?_))
  (k_with "mine: sameN" => (intro z h1 h2 h3; (simp only [List.forall_mem_cons, List.not_mem_nil, false_implies, implies_true, and_true, ne_eq] at h2); first | ((simp only [List.contains_cons, List.contains_nil, Bool.or_false, Bool.or_eq_false_iff, beq_eq_false_iff_ne, ne_eq] at h3); (simp [h1, h2, h3, kstB]; done)) | (simp [h1, h2, kstB]; done)))
  (k_with "exec Raise some none" => (k_here; k_dflt (refine Raise_fault (by exact rfl) ?_)))
  (k_with "mine: fault" => (k_here; k_dflt (refine fault_call (by first | (k_asm) | fail) (by first | (k_asm) | fail) (by first | (k_asm) | fail) (by first | (k_asm) | fail) (by first | (k_asm) | fail) (by first | (first | exact rfl | assumption) | fail) (by first | (ktr_room) | fail) (by first | (ktr_units) | fail) ?_); (intro e' d' tt' h' tk' F' N' hne'); (refine ⟨_, _, _, rfl, by k_in, (N' _ (List.Mem.head _)).1, ?_⟩); (try dsimp only); (try k_sweep)))
  (k_with "mine: endX" => (refine endX (by assumption) (by k_asm) (by assumption) (by assumption) (by walk_at "mine: sub") ?_))
  (k_with "mine: endR" => ((first | refine endB (by assumption) (by k_asm) (by k_asm) (by walk_at "mine: sub") ?_ | refine endI (by assumption) (by k_asm) (by k_asm) (by walk_at "mine: sub") ?_ | refine endS (by assumption) (by k_asm) (by k_asm) (by walk_at "mine: sub") ?_)))
  (k_with "mine: size" => (rw [sizeLine_eq]; (first | omega | (simp only [Str.length_append, tx_length, len_item, List.length_cons, List.length_nil, List.length_append, List.size_toArray, Array.size_push]; omega))))
  (k_with "mine: filled" => ((intro t' h' tk' F' N'); (try dsimp only); (try k_sweep); (try k_fold)))
  (k_with "mine: startZ" => (unfold PZ; k_fill; intros; rename_i hpre hret hexc; refine wpAny_call ?_; k_dflt cell_enter))
  (k_with "mine: endXZ" => (refine endXZ (by assumption) (by k_asm) (by assumption) (by assumption) (by walk_at "mine: sub") ?_))
  (k_with "mine: endZ" => (refine endZ (by assumption) (by k_asm) (by k_asm) ?_))
  trivial
theorem lines_V3_1 : True := by
  (k_with "call ref cons nil" => (k_here; k_dflt (refine PS.opt (unquoted_name_spec _ _ _ _ _ _ (by first | (assumption) | fail) (by first | (assumption) | fail)) (by first | (k_asm) | fail) (by first | (k_asm) | fail) (by first | (k_asm) | fail) (by first | (k_asm) | fail) (by first | (k_asm) | fail) (by first | (first | exact rfl | assumption) | fail) (by first | (ktr_room) | fail) (by first | (ktr_units) | fail) (fun r' hr' t' h' tk' F' N' => ?_) (fun hr' e' g2' h' tk' F2' U' R' => ?_)); (all_goals (try dsimp only)); (all_goals (try k_sweep)); (all_goals (try k_fold))))
  (k_with "call ref cons nil" => (k_here; k_dflt (refine PS.opt (read_count_spec _ _ _ _ _ _ (by first | (assumption) | fail)) (by first | (k_asm) | fail) (by first | (k_asm) | fail) (by first | (k_asm) | fail) (by first | (k_asm) | fail) (by first | (k_asm) | fail) (by first | (first | exact rfl | assumption) | fail) (by first | (ktr_room) | fail) (by first | (ktr_units) | fail) (fun r' hr' t' h' tk' F' N' => ?_) (fun hr' e' g2' h' tk' F2' U' R' => ?_)); (all_goals (try dsimp only)); (all_goals (try k_sweep)); (all_goals (try k_fold))))
  (k_with "call ref cons nil" => (k_here; k_dflt (refine atom_call (by first | (k_asm) | fail) (by first | (k_asm) | fail) (by first | (k_asm) | fail) (by first | (k_asm) | fail) (by first | (k_asm) | fail) (by first | (first | exact rfl | assumption) | fail) (by first | (ktr_room) | fail) (by first | (ktr_units) | fail) (by first | (assumption) | fail) (by first | (assumption) | fail) (fun t' news' t1' t2' t3' t4' n' h' tk' S' keep' F' N' => ?_)); (try dsimp only); (try k_sweep); (try k_fold)))
  trivial
theorem read_name_spec (w mean mg mb) (o dx l d f e : Addr) (ts : List Str) (fs : List (List Int)) (x y : Str) (t : Tok) (hu : unq x = some y) (hts : ts.length ≤ 1000) (h1 : 1 ≤ x.length) (h2 : x.length ≤ 50000) (hc : ∀ c ∈ x.cps.toList, c ≤ 1114111) (h3 : (Txt.item x 0 == Str.ofString "-") = false) (h4 : (Txt.item x 0).cps.toList < (Str.ofString "0").cps.toList ∨ (Str.ofString "9").cps.toList < (Txt.item x 0).cps.toList) :
    PZ w mean mg mb 8 264 [.ref o, .str x t] (fun _ news => Sym w news o dx l d f e ts fs) (fun news r news' => ∃ D t u news₁, r = .ref D ∧ news' = (D, { cls := .type "tuple", data := .seq #[.int 4 t, .int (((addA ts y).idxOf y : Nat) : Int) u] }) :: news₁ ∧ Sym w news₁ o dx l d f e (addA ts y) fs) False := by
  walk_at "mine: startZ"
  rename Sym _ _ _ _ _ _ _ _ _ _ => hS
  rename News _ _ _ _ => lN
  obtain ⟨t1, t2, t3, t4, n0, hN⟩ := sym_heads hS lN
  clear lN
  have hS2 := hS.mono (news' := (o, instObj 155 dx) :: (dx, symDict w l d f e t1 t2 t3 t4 n0) :: _) fun p hp => .tail _ (.tail _ hp)
  k_steps
  · rename (unq x = some _) => hq
    have e := Option.some.inj (hu.symm.trans hq)
    rename Sym _ _ _ _ _ _ _ _ _ _ => hS3
    walk_at "mine: endZ"
    rw [e]
    exact ⟨_, _, _, _, rfl, rfl, hS3.mono fun p hp => .tail _ (.tail _ hp)⟩
  · have hz := (show unq x = none by with_reducible assumption)
    rw [hu] at hz
    cases hz
  · rename (unq x = some _) => hq
    have e := Option.some.inj (hu.symm.trans hq)
    rename Sym _ _ _ _ _ _ _ _ _ _ => hS3
    walk_at "mine: endZ"
    rw [e]
    exact ⟨_, _, _, _, rfl, rfl, hS3.mono fun p hp => .tail _ (.tail _ hp)⟩
  · have hz := (show unq x = none by with_reducible assumption)
    rw [hu] at hz
    cases hz
  · exact (h4.elim (fun z => absurd z (by with_reducible assumption)) fun z => absurd z (by with_reducible assumption))
end
section
theorem lines_V4 : True := by
  w_top off
  k_with_none
  (k_with "mine: start" => (unfold PS; k_fill; intros; rename_i hret hexc; refine wpAny_call ?_; k_dflt cell_enter))
  (k_with "mine: sub" => (first | exact fun _ h => h | exact fun _ h => List.mem_append_left _ h | (intro _ h; simp only [List.mem_append, List.mem_cons, h, true_or, or_true])))
  (k_with "mine: end" => ((first | refine endB (by assumption) (by k_asm) (by k_asm) (by walk_at "mine: sub") (resB ?_) | refine endI (by assumption) (by k_asm) (by k_asm) (by walk_at "mine: sub") (resI ?_) | refine endS (by assumption) (by k_asm) (by k_asm) (by walk_at "mine: sub") (resS ?_))))
  (k_with "mine: fill" => ((intro t' h' tk' F' N'); (try dsimp only); (try k_sweep); (try k_fold)))
  (k_with "exec While Compare cons nil" => (k_here; refine Mark.out ?_))
  (k_with "exec For Name Name cons nil" => (k_here; refine Mark.out ?_))
  (k_with "exec For Name Call cons nil" => (k_here; refine Mark.out ?_))
  (k_with "exec For Name List cons nil" => (k_here; refine Mark.out ?_))
  (k_with "binaryOp Add str str" => (k_here; (with_reducible show wpAny _ _ (binaryOp Operator.Add (Value.str _ _) (Value.str _ _)) _ _ _); (refine add_str ?_ (by first | (walk_at "mine: size") | fail)); intro _ _))
  (k_with "mine: same" => (intro z h2 h3; (simp only [List.forall_mem_cons, List.not_mem_nil, false_implies, implies_true, and_true, ne_eq] at h2); first | ((simp only [List.contains_cons, List.contains_nil, Bool.or_false, Bool.or_eq_false_iff, beq_eq_false_iff_ne, ne_eq] at h3); (simp [h2, h3, kstB]; done)) | (simp [h2, kstB]; done)))
  (k_with "call builtin:list.append" => (k_here; (with_reducible show wpAny _ _ (call (Value.builtin _) [Value.ref _, _]) _ _ _); k_dflt (refine append_K (by first | (k_asm) | fail) (by first | (k_asm) | fail) (by first | (k_upd) | fail) ?_ (by first | (walk_at "mine: size") | fail); k_whole); intro h' F' N'; (try simp only [List.push_toArray] at N'); (try k_sweep)))
  (k_with "InvEndN" => (refine Mark.out ?_))
  (k_with "KswEnd" => (refine Mark.out ?_))
  (k_with "call builtin:str.join" => (k_here; refine Mark.out ?_))
  (k_with "mine: sameN" => (intro z h1 h2 h3; (simp only [List.forall_mem_cons, List.not_mem_nil, false_implies, implies_true, and_true, ne_eq] at h2); first | ((simp only [List.contains_cons, List.contains_nil, Bool.or_false, Bool.or_eq_false_iff, beq_eq_false_iff_ne, ne_eq] at h3); (simp [h1, h2, h3, kstB]; done)) | (simp [h1, h2, kstB]; done)))
  (k_with "exec Raise some none" => (k_here; k_dflt (refine Raise_fault (by exact rfl) ?_)))
  (k_with "mine: fault" => (k_here; k_dflt (refine fault_call (by first | (k_asm) | fail) (by first | (k_asm) | fail) (by first | (k_asm) | fail) (by first | (k_asm) | fail) (by first | (k_asm) | fail) (by first | (first | exact rfl | assumption) | fail) (by first | (ktr_room) | fail) (by first | (ktr_units) | fail) ?_); (intro e' d' tt' h' tk' F' N' hne'); (refine ⟨_, _, _, rfl, by k_in, (N' _ (List.Mem.head _)).1, ?_⟩); (try dsimp only); (try k_sweep)))
  (k_with "mine: endX" => (refine endX (by assumption) (by k_asm) (by assumption) (by assumption) (by walk_at "mine: sub") ?_))
  (k_with "mine: endR" => ((first | refine endB (by assumption) (by k_asm) (by k_asm) (by walk_at "mine: sub") ?_ | refine endI (by assumption) (by k_asm) (by k_asm) (by walk_at "mine: sub") ?_ | refine endS (by assumption) (by k_asm) (by k_asm) (by walk_at "mine: sub") ?_)))
  (k_with "mine: size" => (rw [sizeLine_eq]; (first | omega | (simp only [Str.length_append, tx_length, len_item, List.length_cons, List.length_nil, List.length_append, List.size_toArray, Array.size_push]; omega))))
  (k_with "mine: filled" => ((intro t' h' tk' F' N'); (try dsimp only); (try k_sweep); (try k_fold)))
  (k_with "mine: startZ" => (unfold PZ; k_fill; intros; rename_i hpre hret hexc; refine wpAny_call ?_; k_dflt cell_enter))
  (k_with "mine: endXZ" => (refine endXZ (by assumption) (by k_asm) (by assumption) (by assumption) (by walk_at "mine: sub") ?_))
  (k_with "mine: endZ" => (refine endZ (by assumption) (by k_asm) (by k_asm) ?_))
  trivial
theorem sym_up {w : World} {h₀ h : Heap} {L : Addr} {p q : Addr × Obj} {news : List (Addr × Obj)} {o dx l d f e : Addr} {ts : List Str} {fs : List (List Int)} (_ : News h₀ L h (p :: q :: news)) (S : Sym w news o dx l d f e ts fs) : Sym w (p :: q :: news) o dx l d f e ts fs := S.mono fun _ hp => .tail _ (.tail _ hp)
theorem lines_V4_1 : True := by
  (k_with "call ref cons nil" => (k_here; k_dflt (refine PS.opt (unquoted_name_spec _ _ _ _ _ _ (by first | (assumption) | fail) (by first | (assumption) | fail)) (by first | (k_asm) | fail) (by first | (k_asm) | fail) (by first | (k_asm) | fail) (by first | (k_asm) | fail) (by first | (k_asm) | fail) (by first | (first | exact rfl | assumption) | fail) (by first | (ktr_room) | fail) (by first | (ktr_units) | fail) (fun r' hr' t' h' tk' F' N' => ?_) (fun hr' e' g2' h' tk' F2' U' R' => ?_)); (all_goals (try dsimp only)); (all_goals (try k_sweep)); (all_goals (try k_fold))))
  (k_with "call ref cons nil" => (k_here; k_dflt (refine PS.opt (read_count_spec _ _ _ _ _ _ (by first | (assumption) | fail)) (by first | (k_asm) | fail) (by first | (k_asm) | fail) (by first | (k_asm) | fail) (by first | (k_asm) | fail) (by first | (k_asm) | fail) (by first | (first | exact rfl | assumption) | fail) (by first | (ktr_room) | fail) (by first | (ktr_units) | fail) (fun r' hr' t' h' tk' F' N' => ?_) (fun hr' e' g2' h' tk' F2' U' R' => ?_)); (all_goals (try dsimp only)); (all_goals (try k_sweep)); (all_goals (try k_fold))))
  (k_with "call ref cons nil" => (k_here; k_dflt (refine atom_call (by first | (k_asm) | fail) (by first | (k_asm) | fail) (by first | (k_asm) | fail) (by first | (k_asm) | fail) (by first | (k_asm) | fail) (by first | (first | exact rfl | assumption) | fail) (by first | (ktr_room) | fail) (by first | (ktr_units) | fail) (by first | (assumption) | fail) (by first | (assumption) | fail) (fun t' news' t1' t2' t3' t4' n' h' tk' S' keep' F' N' => ?_)); (have S2' := sym_up N' S'); (try dsimp only); (try k_sweep); (try k_fold)))
  (k_with "call ref cons nil" => (k_here; k_dflt (refine functor_call (by first | (k_asm) | fail) (by first | (k_asm) | fail) (by first | (k_asm) | fail) (by first | (k_asm) | fail) (by first | (k_asm) | fail) (by first | (first | exact rfl | assumption) | fail) (by first | (ktr_room) | fail) (by first | (ktr_units) | fail) (by first | (assumption) | fail) (by first | (assumption) | fail) (fun t' news' t1' t2' t3' t4' n' h' tk' S' keep' F' N' => ?_)); (try dsimp only); (try k_sweep); (try k_fold)))
  trivial
theorem read_functor_spec (w mean mg mb) (o dx l d f e : Addr) (ts : List Str) (fs : List (List Int)) (z y : Str) (q : Nat) (t : Tok) (hp1 : ¬ Txt.rfind z (Str.ofString "/") < 1) (hu : unq (Txt.slice z none (some (Txt.rfind z (Str.ofString "/")))) = some y) (hr : readN (Txt.slice z (some (Txt.rfind z (Str.ofString "/") + 1)) none) = some q) (hts : ts.length ≤ 1000) (hfs : fs.length ≤ 1000) (h2 : z.length ≤ 50000) (hc : ∀ c ∈ (Txt.slice z none (some (Txt.rfind z (Str.ofString "/")))).cps.toList, c ≤ 1114111)
    (hl1 : (Txt.slice z none (some (Txt.rfind z (Str.ofString "/")))).length ≤ 50000) (hl2 : (Txt.slice z (some (Txt.rfind z (Str.ofString "/") + 1)) none).length ≤ 1000) :
    PZ w mean mg mb 8 271 [.ref o, .str z t] (fun _ news => Sym w news o dx l d f e ts fs) (fun news r news' => ∃ u, r = .int (((addF fs [(((addA ts y).idxOf y : Nat) : Int), (q : Int)]).idxOf [(((addA ts y).idxOf y : Nat) : Int), (q : Int)] : Nat) : Int) u ∧ Sym w news' o dx l d f e (addA ts y) (addF fs [(((addA ts y).idxOf y : Nat) : Int), (q : Int)])) False := by
  walk_at "mine: startZ"
  rename Sym _ _ _ _ _ _ _ _ _ _ => hS
  rename News _ _ _ _ => lN
  obtain ⟨t1, t2, t3, t4, n0, hN⟩ := sym_heads hS lN
  clear lN
  have hS2 := hS.mono (news' := (o, instObj 155 dx) :: (dx, symDict w l d f e t1 t2 t3 t4 n0) :: _) fun p hp => .tail _ (.tail _ hp)
  k_steps
  · rename (unq _ = some _) => hq
    rename (readN _ = some _) => hq2
    have e := Option.some.inj (hu.symm.trans hq)
    have e2 := Option.some.inj (hr.symm.trans hq2)
    rename Sym _ _ _ _ _ _ _ _ _ _ => hS3
    walk_at "mine: endZ"
    rw [e, e2]
    exact ⟨_, rfl, hS3.mono fun p hp => .tail _ (.tail _ hp)⟩
  · have hz := (show readN _ = none by with_reducible assumption)
    rw [hr] at hz
    cases hz
  · have hz := (show unq _ = none by with_reducible assumption)
    rw [hu] at hz
    cases hz
end
section
theorem lines_V5 : True := by
  w_top off
  k_with_none
  (k_with "mine: start" => (unfold PS; k_fill; intros; rename_i hret hexc; refine wpAny_call ?_; k_dflt cell_enter))
  (k_with "mine: sub" => (first | exact fun _ h => h | exact fun _ h => List.mem_append_left _ h | (intro _ h; simp only [List.mem_append, List.mem_cons, h, true_or, or_true])))
  (k_with "mine: end" => ((first | refine endB (by assumption) (by k_asm) (by k_asm) (by walk_at "mine: sub") (resB ?_) | refine endI (by assumption) (by k_asm) (by k_asm) (by walk_at "mine: sub") (resI ?_) | refine endS (by assumption) (by k_asm) (by k_asm) (by walk_at "mine: sub") (resS ?_))))
  (k_with "mine: fill" => ((intro t' h' tk' F' N'); (try dsimp only); (try k_sweep); (try k_fold)))
  (k_with "exec While Compare cons nil" => (k_here; refine Mark.out ?_))
  (k_with "exec For Name Name cons nil" => (k_here; refine Mark.out ?_))
  (k_with "exec For Name Call cons nil" => (k_here; refine Mark.out ?_))
  (k_with "exec For Name List cons nil" => (k_here; refine Mark.out ?_))
  (k_with "binaryOp Add str str" => (k_here; (with_reducible show wpAny _ _ (binaryOp Operator.Add (Value.str _ _) (Value.str _ _)) _ _ _); (refine add_str ?_ (by first | (walk_at "mine: size") | fail)); intro _ _))
  (k_with "mine: same" => (intro z h2 h3; (simp only [List.forall_mem_cons, List.not_mem_nil, false_implies, implies_true, and_true, ne_eq] at h2); first | ((simp only [List.contains_cons, List.contains_nil, Bool.or_false, Bool.or_eq_false_iff, beq_eq_false_iff_ne, ne_eq] at h3); (simp [h2, h3, kstB]; done)) | (simp [h2, kstB]; done)))
  (k_with "call builtin:list.append" => (k_here; (with_reducible show wpAny _ _ (call (Value.builtin _) [Value.ref _, _]) _ _ _); k_dflt (refine append_K (by first | (k_asm) | fail) (by first | (k_asm) | fail) (by first | (k_upd) | fail) ?_ (by first | (walk_at "mine: size") | fail); k_whole); intro h' F' N'; (try simp only [List.push_toArray] at N'); (try k_sweep)))
  (k_with "InvEndN" => (refine Mark.out ?_))
  (k_with "KswEnd" => (refine Mark.out ?_))
  (k_with "call builtin:str.join" => (k_here; refine Mark.out ?_))
  (k_with "mine: sameN" => (intro z h1 h2 h3; (simp only [List.forall_mem_cons, List.not_mem_nil, false_implies, implies_true, and_true, ne_eq] at h2); first | ((simp only [List.contains_cons, List.contains_nil, Bool.or_false, Bool.or_eq_false_iff, beq_eq_false_iff_ne, ne_eq] at h3); (simp [h1, h2, h3, kstB]; done)) | (simp [h1, h2, kstB]; done)))
  (k_with "exec Raise some none" => (k_here; k_dflt (refine Raise_fault (by exact rfl) ?_)))
  (k_with "mine: fault" => (k_here; k_dflt (refine fault_call (by first | (k_asm) | fail) (by first | (k_asm) | fail) (by first | (k_asm) | fail) (by first | (k_asm) | fail) (by first | (k_asm) | fail) (by first | (first | exact rfl | assumption) | fail) (by first | (ktr_room) | fail) (by first | (ktr_units) | fail) ?_); (intro e' d' tt' h' tk' F' N' hne'); (refine ⟨_, _, _, rfl, by k_in, (N' _ (List.Mem.head _)).1, ?_⟩); (try dsimp only); (try k_sweep)))
  (k_with "mine: endX" => (refine endX (by assumption) (by k_asm) (by assumption) (by assumption) (by walk_at "mine: sub") ?_))
  (k_with "mine: endR" => ((first | refine endB (by assumption) (by k_asm) (by k_asm) (by walk_at "mine: sub") ?_ | refine endI (by assumption) (by k_asm) (by k_asm) (by walk_at "mine: sub") ?_ | refine endS (by assumption) (by k_asm) (by k_asm) (by walk_at "mine: sub") ?_)))
  (k_with "mine: size" => (rw [sizeLine_eq]; (first | omega | (simp only [Str.length_append, tx_length, len_item, List.length_cons, List.length_nil, List.length_append, List.size_toArray, Array.size_push]; omega))))
  (k_with "mine: filled" => ((intro t' h' tk' F' N'); (try dsimp only); (try k_sweep); (try k_fold)))
  (k_with "mine: startZ" => (unfold PZ; k_fill; intros; rename_i hpre hret hexc; refine wpAny_call ?_; k_dflt cell_enter))
  (k_with "mine: endXZ" => (refine endXZ (by assumption) (by k_asm) (by assumption) (by assumption) (by walk_at "mine: sub") ?_))
  (k_with "mine: endZ" => (refine endZ (by assumption) (by k_asm) (by k_asm) ?_))
  trivial
theorem lines_V5_1 : True := by
  (k_with "call ref cons nil" => (k_here; k_dflt (refine atom_call (by first | (k_asm) | fail) (by first | (k_asm) | fail) (by first | (k_asm) | fail) (by first | (k_asm) | fail) (by first | (k_asm) | fail) (by first | (first | exact rfl | assumption) | fail) (by first | (ktr_room) | fail) (by first | (ktr_units) | fail) (by first | (assumption) | fail) (by first | (assumption) | fail) (fun t' news' t1' t2' t3' t4' n' h' tk' S' keep' F' N' => ?_)); (have S2' := sym_up N' S'); (try dsimp only); (try k_sweep); (try k_fold)))
  (k_with "call ref cons nil" => (k_here; k_dflt (refine functor_call (by first | (k_asm) | fail) (by first | (k_asm) | fail) (by first | (k_asm) | fail) (by first | (k_asm) | fail) (by first | (k_asm) | fail) (by first | (first | exact rfl | assumption) | fail) (by first | (ktr_room) | fail) (by first | (ktr_units) | fail) (by first | (assumption) | fail) (by first | (assumption) | fail) (fun t' news' t1' t2' t3' t4' n' h' tk' S' keep' F' N' => ?_)); (try dsimp only); (try k_sweep); (try k_fold)))
  trivial
theorem func_spec (w mean mg mb) (o dx l d f e : Addr) (ts : List Str) (fs : List (List Int)) (x : Str) (k : Int) (t u : Tok) (hts : ts.length ≤ 1000) (hfs : fs.length ≤ 1000) :
    PZ w mean mg mb 5 110 [.ref o, .str x t, .int k u] (fun _ news => Sym w news o dx l d f e ts fs) (fun news _ news' => Sym w news' o dx l d f e (addA ts x) (addF fs [(((addA ts x).idxOf x : Nat) : Int), k]) ∧ ∀ p ∈ news, p.1 ≠ l → p.1 ≠ d → p.1 ≠ f → p.1 ≠ e → p ∈ news') False := by
  walk_at "mine: startZ"
  rename Sym _ _ _ _ _ _ _ _ _ _ => hS
  rename News _ _ _ _ => lN
  obtain ⟨t1, t2, t3, t4, n0, hN⟩ := sym_heads hS lN
  clear lN
  have hS2 := hS.mono (news' := (o, instObj 155 dx) :: (dx, symDict w l d f e t1 t2 t3 t4 n0) :: _) fun p hp => .tail _ (.tail _ hp)
  k_steps
  rename Sym _ _ _ _ _ _ _ _ _ _ => hS3
  rename (∀ _ : Addr × Obj, _ → _ ≠ f → _ ≠ e → _) => keep2
  rename (∀ _ : Addr × Obj, _ → _ ≠ l → _ ≠ d → _) => keep1
  walk_at "mine: endZs"
  (case kp => exact ⟨hS3, fun p hp q1 q2 q3 q4 => keep2 p (.tail _ (.tail _ (keep1 p (.tail _ (.tail _ hp)) q1 q2))) q3 q4⟩)
  (case ks => exact fun p hp => .tail _ (.tail _ hp))
end
section
theorem lines_V6 : True := by
  w_top off
  k_with_none
  (k_with "mine: start" => (unfold PS; k_fill; intros; rename_i hret hexc; refine wpAny_call ?_; k_dflt cell_enter))
  (k_with "mine: sub" => (first | exact fun _ h => h | exact fun _ h => List.mem_append_left _ h | (intro _ h; simp only [List.mem_append, List.mem_cons, h, true_or, or_true])))
  (k_with "mine: end" => ((first | refine endB (by assumption) (by k_asm) (by k_asm) (by walk_at "mine: sub") (resB ?_) | refine endI (by assumption) (by k_asm) (by k_asm) (by walk_at "mine: sub") (resI ?_) | refine endS (by assumption) (by k_asm) (by k_asm) (by walk_at "mine: sub") (resS ?_))))
  (k_with "mine: fill" => ((intro t' h' tk' F' N'); (try dsimp only); (try k_sweep); (try k_fold)))
  (k_with "exec While Compare cons nil" => (k_here; refine Mark.out ?_))
  (k_with "exec For Name Name cons nil" => (k_here; refine Mark.out ?_))
  (k_with "exec For Name Call cons nil" => (k_here; refine Mark.out ?_))
  (k_with "exec For Name List cons nil" => (k_here; refine Mark.out ?_))
  (k_with "binaryOp Add str str" => (k_here; (with_reducible show wpAny _ _ (binaryOp Operator.Add (Value.str _ _) (Value.str _ _)) _ _ _); (refine add_str ?_ (by first | (walk_at "mine: size") | fail)); intro _ _))
  (k_with "mine: same" => (intro z h2 h3; (simp only [List.forall_mem_cons, List.not_mem_nil, false_implies, implies_true, and_true, ne_eq] at h2); first | ((simp only [List.contains_cons, List.contains_nil, Bool.or_false, Bool.or_eq_false_iff, beq_eq_false_iff_ne, ne_eq] at h3); (simp [h2, h3, kstB]; done)) | (simp [h2, kstB]; done)))
  (k_with "call builtin:list.append" => (k_here; (with_reducible show wpAny _ _ (call (Value.builtin _) [Value.ref _, _]) _ _ _); k_dflt (refine append_K (by first | (k_asm) | fail) (by first | (k_asm) | fail) (by first | (k_upd) | fail) ?_ (by first | (walk_at "mine: size") | fail); k_whole); intro h' F' N'; (try simp only [List.push_toArray] at N'); (try k_sweep)))
  (k_with "InvEndN" => (refine Mark.out ?_))
  (k_with "KswEnd" => (refine Mark.out ?_))
  (k_with "call builtin:str.join" => (k_here; refine Mark.out ?_))
  (k_with "mine: sameN" => (intro z h1 h2 h3; (simp only [List.forall_mem_cons, List.not_mem_nil, false_implies, implies_true, and_true, ne_eq] at h2); first | ((simp only [List.contains_cons, List.contains_nil, Bool.or_false, Bool.or_eq_false_iff, beq_eq_false_iff_ne, ne_eq] at h3); (simp [h1, h2, h3, kstB]; done)) | (simp [h1, h2, kstB]; done)))
  (k_with "exec Raise some none" => (k_here; k_dflt (refine Raise_fault (by exact rfl) ?_)))
  (k_with "mine: fault" => (k_here; k_dflt (refine fault_call (by first | (k_asm) | fail) (by first | (k_asm) | fail) (by first | (k_asm) | fail) (by first | (k_asm) | fail) (by first | (k_asm) | fail) (by first | (first | exact rfl | assumption) | fail) (by first | (ktr_room) | fail) (by first | (ktr_units) | fail) ?_); (intro e' d' tt' h' tk' F' N' hne'); (refine ⟨_, _, _, rfl, by k_in, (N' _ (List.Mem.head _)).1, ?_⟩); (try dsimp only); (try k_sweep)))
  (k_with "mine: endX" => (refine endX (by assumption) (by k_asm) (by assumption) (by assumption) (by walk_at "mine: sub") ?_))
  (k_with "mine: endR" => ((first | refine endB (by assumption) (by k_asm) (by k_asm) (by walk_at "mine: sub") ?_ | refine endI (by assumption) (by k_asm) (by k_asm) (by walk_at "mine: sub") ?_ | refine endS (by assumption) (by k_asm) (by k_asm) (by walk_at "mine: sub") ?_)))
  (k_with "mine: size" => (rw [sizeLine_eq]; (first | omega | (simp only [Str.length_append, tx_length, len_item, List.length_cons, List.length_nil, List.length_append, List.size_toArray, Array.size_push]; omega))))
  (k_with "mine: filled" => ((intro t' h' tk' F' N'); (try dsimp only); (try k_sweep); (try k_fold)))
  (k_with "mine: startZ" => (unfold PZ; k_fill; intros; rename_i hpre hret hexc; refine wpAny_call ?_; k_dflt cell_enter))
  (k_with "mine: endXZ" => (refine endXZ (by assumption) (by k_asm) (by assumption) (by assumption) (by walk_at "mine: sub") ?_))
  (k_with "mine: endZ" => (refine endZ (by assumption) (by k_asm) (by k_asm) ?_))
  trivial
section
variable {prog : Program} {w : World} {A : Around} {E : Value → Shared → Prop} {s : Shared} {env : Env} {h₀ : Heap} {x : Str} {body : List Stmt} {Q : Flow → Shared → Prop}
abbrev tupOf (vs : List Value) (nn : Nat) : Obj := { cls := .type "tuple", data := .seq vs.toArray nn }
/-- the loop over a tuple of the ledger; the ledger may grow -/
theorem tup_grow {l : Addr} {vs : List Value} {nn : Nat} {m₀ : Str → Option Value} {news : List (Addr × Obj)} (Inv : Nat → List (Addr × Obj) → Prop)
    (hh : A.handled = none) (hl : (l, tupOf vs nn) ∈ news) (F : Fr h₀ env.locals s.heap m₀) (N : News h₀ env.locals s.heap news) (hj : Inv 0 news)
    (turn : ∀ i v h tk led own oi, vs[i]? = some v → Inv i led → (l, tupOf vs nn) ∈ led → (∀ p ∈ led, p.1 ≠ s.heap.objs.size) → (s.heap.objs.size, oi) ∈ own → oi.cls = .type "tuple_iterator" → (∀ p ∈ own, p.2.cls = .type "tuple_iterator" ∨ p.2.cls = .type "tuple") →
      Fr h₀ env.locals h (fun y => if y = x then some v else m₀ y) → News h₀ env.locals h (own ++ led) →
      ∀ R : Flow → Shared → Prop, (∀ h' tk' m' news', Fr h₀ env.locals h' m' → (∀ z, z ≠ x → m' z = m₀ z) → News h₀ env.locals h' news' → (∀ p ∈ own, p ∈ news') → (l, tupOf vs nn) ∈ news' → Inv (i + 1) (off s.heap.objs.size news') → R .next { s with heap := h', toks := tk' }) →
      wpAny (model prog w) A (execs body env) R E { s with heap := h, toks := tk })
    (done : ∀ (m₁ : Str → Option Value) led h tk, Inv vs.length led → (l, tupOf vs nn) ∈ led → Fr h₀ env.locals h (fun y => if y = x then m₁ y else m₀ y) → News h₀ env.locals h led → Q .next { s with heap := h, toks := tk }) :
    wpAny (model prog w) A (pyIter (.ref l)) (fun it s₂ => LoopAtV prog w A h₀ env x body Q E it s₂) E s := by
  have hol : s.heap.get? l = some (tupOf vs nn) := (N _ hl).1
  have hls : s.heap.IsTuple l vs.toArray := ⟨_, hol, rfl, nn, rfl⟩
  have hne : l ≠ s.heap.objs.size := Nat.ne_of_lt (Heap.lt_size hol)
  refine wpAny_pyIter_tuple hls ?_
  have W := Walks.tuple (prog := prog) (w := w) hh s.heap.objs.size l hne vs.toArray
  have e : (fun (i : Nat) (v : Value) => vs.toArray[i]? = some v) = fun i v => vs[i]? = some v := by funext i v; rw [List.getElem?_toArray]
  rw [e] at W
  refine ⟨_, _, _, vs.length, _, _, m₀, news, (fun i m nx => (∀ z, z ≠ x → m z = m₀ z) ∧ (l, tupOf vs nn) ∈ nx ∧ Inv i nx), rfl, W, ?_, ?_, ?_, ⟨⟨_, Heap.get?_push_size _ rfl, rfl, rfl⟩, hls.at fun o e => Heap.get?_push_of_some _ e⟩, F.push _, (fun p hp => ⟨Heap.get?_push_of_some _ (N p hp).1, (N p hp).2⟩), ⟨fun _ _ => rfl, hl, hj⟩, ?_, ?_⟩
  · intro hm
    rcases List.mem_cons.mp hm with e | hm
    · exact absurd F.ns.lt (e ▸ Nat.lt_irrefl _)
    · exact (N _ hl).2.1 ((List.mem_singleton.mp hm).symm)
  · intro b hb
    rw [List.mem_singleton.mp hb]
    exact next_is_new F
  · intro p hp hI
    exact absurd (Heap.lt_size (N p hp).1) ((List.mem_singleton.mp hI) ▸ Nat.lt_irrefl _)
  · rintro i v m₁ news₁ s₁ own ⟨hh', tk', rfl⟩ hin hP ⟨hm, hll, hJ⟩ hoff hown hget hfp st F₁ N₁
    obtain ⟨oi, hoi, hic, _⟩ := st.1
    have hin' : (s.heap.objs.size, oi) ∈ own := hfp _ (.head _) (next_is_new F) oi hoi
    have em : (fun y => if y = x then some v else m₁ y) = fun y => if y = x then some v else m₀ y := by
      funext y
      by_cases h : y = x
      · rw [if_pos h, if_pos h]
      · rw [if_neg h, if_neg h, hm y h]
    rw [em] at F₁
    have hcl : ∀ p ∈ own, p.2.cls = .type "tuple_iterator" ∨ p.2.cls = .type "tuple" := fun p hp => by
      have hg := hget p hp
      dsimp only at hg
      rcases List.mem_cons.mp (hown p hp) with z | z
      · rw [z, hoi] at hg
        exact .inl (by rw [← Option.some.inj hg]; exact hic)
      · have hg2 : hh'.get? l = some (tupOf vs nn) := (N₁ _ (List.mem_append_right _ hll)).1
        rw [List.mem_singleton.mp z, hg2] at hg
        exact .inr (by rw [← Option.some.inj hg])
    refine turn i v hh' tk' news₁ own oi hP hJ hll (fun p hp z => hoff p hp (by rw [z]; exact .head _)) hin' hic hcl F₁ N₁ _ fun h' tk2 m' news' F2 hm2 N2 ho hl2 hI2 => ?_
    exact .next ⟨rfl, h', tk2, m', off s.heap.objs.size news', rfl, F2, fun p hp => (List.mem_append.mp hp).elim (fun z => N2 p (ho p z)) (fun z => N2 p (off_sub z)), (fun p hp z => off_ne p hp (List.mem_singleton.mp z)), hm2, mem_off hl2 hne, hI2⟩
  · rintro h' tk m' news' F' N' _ ⟨hm, hll, hJ⟩
    have em : m' = fun y => if y = x then m' y else m₀ y := by
      funext y
      by_cases h : y = x
      · rw [if_pos h]
      · rw [if_neg h, hm y h]
    rw [em] at F'
    exact done m' news' h' tk hJ hll F' N'
end
end
section
theorem lines_X0 : True := by
  w_top off
  k_with_none
  (k_with "mine: start" => (unfold PS; k_fill; intros; rename_i hret hexc; refine wpAny_call ?_; k_dflt cell_enter))
  (k_with "mine: sub" => (first | exact fun _ h => h | exact fun _ h => List.mem_append_left _ h | (intro _ h; simp only [List.mem_append, List.mem_cons, h, true_or, or_true])))
  (k_with "mine: end" => ((first | refine endB (by assumption) (by k_asm) (by k_asm) (by walk_at "mine: sub") (resB ?_) | refine endI (by assumption) (by k_asm) (by k_asm) (by walk_at "mine: sub") (resI ?_) | refine endS (by assumption) (by k_asm) (by k_asm) (by walk_at "mine: sub") (resS ?_))))
  (k_with "mine: fill" => ((intro t' h' tk' F' N'); (try dsimp only); (try k_sweep); (try k_fold)))
  (k_with "exec While Compare cons nil" => (k_here; refine Mark.out ?_))
  (k_with "exec For Name Name cons nil" => (k_here; refine Mark.out ?_))
  (k_with "exec For Name Call cons nil" => (k_here; refine Mark.out ?_))
  (k_with "exec For Name List cons nil" => (k_here; refine Mark.out ?_))
  (k_with "binaryOp Add str str" => (k_here; (with_reducible show wpAny _ _ (binaryOp Operator.Add (Value.str _ _) (Value.str _ _)) _ _ _); (refine add_str ?_ (by first | (walk_at "mine: size") | fail)); intro _ _))
  (k_with "mine: same" => (intro z h2 h3; (simp only [List.forall_mem_cons, List.not_mem_nil, false_implies, implies_true, and_true, ne_eq] at h2); first | ((simp only [List.contains_cons, List.contains_nil, Bool.or_false, Bool.or_eq_false_iff, beq_eq_false_iff_ne, ne_eq] at h3); (simp [h2, h3, kstB]; done)) | (simp [h2, kstB]; done)))
  (k_with "call builtin:list.append" => (k_here; (with_reducible show wpAny _ _ (call (Value.builtin _) [Value.ref _, _]) _ _ _); k_dflt (refine append_K (by first | (k_asm) | fail) (by first | (k_asm) | fail) (by first | (k_upd) | fail) ?_ (by first | (walk_at "mine: size") | fail); k_whole); intro h' F' N'; (try simp only [List.push_toArray] at N'); (try k_sweep)))
  (k_with "InvEndN" => (refine Mark.out ?_))
  (k_with "KswEnd" => (refine Mark.out ?_))
  (k_with "call builtin:str.join" => (k_here; refine Mark.out ?_))
  (k_with "mine: sameN" => (intro z h1 h2 h3; (simp only [List.forall_mem_cons, List.not_mem_nil, false_implies, implies_true, and_true, ne_eq] at h2); first | ((simp only [List.contains_cons, List.contains_nil, Bool.or_false, Bool.or_eq_false_iff, beq_eq_false_iff_ne, ne_eq] at h3); (simp [h1, h2, h3, kstB]; done)) | (simp [h1, h2, kstB]; done)))
  (k_with "exec Raise some none" => (k_here; k_dflt (refine Raise_fault (by exact rfl) ?_)))
  (k_with "mine: fault" => (k_here; k_dflt (refine fault_call (by first | (k_asm) | fail) (by first | (k_asm) | fail) (by first | (k_asm) | fail) (by first | (k_asm) | fail) (by first | (k_asm) | fail) (by first | (first | exact rfl | assumption) | fail) (by first | (ktr_room) | fail) (by first | (ktr_units) | fail) ?_); (intro e' d' tt' h' tk' F' N' hne'); (refine ⟨_, _, _, rfl, by k_in, (N' _ (List.Mem.head _)).1, ?_⟩); (try dsimp only); (try k_sweep)))
  (k_with "mine: endX" => (refine endX (by assumption) (by k_asm) (by assumption) (by assumption) (by walk_at "mine: sub") ?_))
  (k_with "mine: endR" => ((first | refine endB (by assumption) (by k_asm) (by k_asm) (by walk_at "mine: sub") ?_ | refine endI (by assumption) (by k_asm) (by k_asm) (by walk_at "mine: sub") ?_ | refine endS (by assumption) (by k_asm) (by k_asm) (by walk_at "mine: sub") ?_)))
  (k_with "mine: size" => (rw [sizeLine_eq]; (first | omega | (simp only [Str.length_append, tx_length, len_item, List.length_cons, List.length_nil, List.length_append, List.size_toArray, Array.size_push]; omega))))
  (k_with "mine: filled" => ((intro t' h' tk' F' N'); (try dsimp only); (try k_sweep); (try k_fold)))
  (k_with "mine: startZ" => (unfold PZ; k_fill; intros; rename_i hpre hret hexc; refine wpAny_call ?_; k_dflt cell_enter))
  (k_with "mine: endXZ" => (refine endXZ (by assumption) (by k_asm) (by assumption) (by assumption) (by walk_at "mine: sub") ?_))
  (k_with "mine: endZ" => (refine endZ (by assumption) (by k_asm) (by k_asm) ?_))
  trivial
local macro_rules | `(tactic| walk_at "newTuple") => `(tactic| (k_here; k_dflt (refine' kup_newTuple ?F ?N ?_ ?z; (case F => k_asm); (case N => k_asm); (case z => kmk_size)); intro D' h' F' N' l1; clear l1; (try k_sweep)))
theorem fixed_atoms_spec (w mean mg mb) : PZ w mean mg mb 2 61 [] (fun _ _ => True) (fun news v news' => ∃ D vs ys n, v = .ref D ∧ StrsAre vs ys ∧ vs.length = 29 ∧ news' = (D, tupOf vs n) :: news) False := by
  walk_at "mine: startZ"
  k_steps
  walk_at "mine: endZ"
  exact ⟨_, [_, _, _, _, _, _, _, _, _, _, _, _, _, _, _, _, _, _, _, _, _, _, _, _, _, _, _, _, _], [_, _, _, _, _, _, _, _, _, _, _, _, _, _, _, _, _, _, _, _, _, _, _, _, _, _, _, _, _], _, rfl, by repeat (first | exact .nil | refine .cons _ _ ?_), rfl, rfl⟩
/-- each value is a made pair of a text and a number -/
def RowsIn (nx : List (Addr × Obj)) (vs : List Value) : Prop := ∀ v ∈ vs, ∃ D x t k u, v = .ref D ∧ (D, { cls := .type "tuple", data := .seq #[.str x t, .int k u] }) ∈ nx
theorem fixed_functors_spec (w mean mg mb) : PZ w mean mg mb 2 68 [] (fun _ _ => True) (fun news v news' => ∃ D vs n, v = .ref D ∧ RowsIn news' vs ∧ vs.length = 32 ∧ (D, tupOf vs n) ∈ news' ∧ ∀ p ∈ news, p ∈ news') False := by
  walk_at "mine: startZ"
  k_steps
  walk_at "mine: endZ"
  refine ⟨_, [_, _, _, _, _, _, _, _, _, _, _, _, _, _, _, _, _, _, _, _, _, _, _, _, _, _, _, _, _, _, _, _], _, rfl, ?_, rfl, .head _, fun p hp => ?_⟩
  · unfold RowsIn
    repeat (first | exact List.forall_mem_nil _ | refine List.forall_mem_cons.mpr ⟨⟨_, _, _, _, _, rfl, by k_mem⟩, ?_⟩)
  · repeat (first | exact hp | refine List.Mem.tail _ ?_)
end
section
theorem lines_X1 : True := by
  w_top off
  k_with_none
  (k_with "mine: start" => (unfold PS; k_fill; intros; rename_i hret hexc; refine wpAny_call ?_; k_dflt cell_enter))
  (k_with "mine: sub" => (first | exact fun _ h => h | exact fun _ h => List.mem_append_left _ h | (intro _ h; simp only [List.mem_append, List.mem_cons, h, true_or, or_true])))
  (k_with "mine: end" => ((first | refine endB (by assumption) (by k_asm) (by k_asm) (by walk_at "mine: sub") (resB ?_) | refine endI (by assumption) (by k_asm) (by k_asm) (by walk_at "mine: sub") (resI ?_) | refine endS (by assumption) (by k_asm) (by k_asm) (by walk_at "mine: sub") (resS ?_))))
  (k_with "mine: fill" => ((intro t' h' tk' F' N'); (try dsimp only); (try k_sweep); (try k_fold)))
  (k_with "exec While Compare cons nil" => (k_here; refine Mark.out ?_))
  (k_with "exec For Name Name cons nil" => (k_here; refine Mark.out ?_))
  (k_with "exec For Name Call cons nil" => (k_here; refine Mark.out ?_))
  (k_with "exec For Name List cons nil" => (k_here; refine Mark.out ?_))
  (k_with "binaryOp Add str str" => (k_here; (with_reducible show wpAny _ _ (binaryOp Operator.Add (Value.str _ _) (Value.str _ _)) _ _ _); (refine add_str ?_ (by first | (walk_at "mine: size") | fail)); intro _ _))
  (k_with "mine: same" => (intro z h2 h3; (simp only [List.forall_mem_cons, List.not_mem_nil, false_implies, implies_true, and_true, ne_eq] at h2); first | ((simp only [List.contains_cons, List.contains_nil, Bool.or_false, Bool.or_eq_false_iff, beq_eq_false_iff_ne, ne_eq] at h3); (simp [h2, h3, kstB]; done)) | (simp [h2, kstB]; done)))
  (k_with "call builtin:list.append" => (k_here; (with_reducible show wpAny _ _ (call (Value.builtin _) [Value.ref _, _]) _ _ _); k_dflt (refine append_K (by first | (k_asm) | fail) (by first | (k_asm) | fail) (by first | (k_upd) | fail) ?_ (by first | (walk_at "mine: size") | fail); k_whole); intro h' F' N'; (try simp only [List.push_toArray] at N'); (try k_sweep)))
  (k_with "InvEndN" => (refine Mark.out ?_))
  (k_with "KswEnd" => (refine Mark.out ?_))
  (k_with "call builtin:str.join" => (k_here; refine Mark.out ?_))
  (k_with "mine: sameN" => (intro z h1 h2 h3; (simp only [List.forall_mem_cons, List.not_mem_nil, false_implies, implies_true, and_true, ne_eq] at h2); first | ((simp only [List.contains_cons, List.contains_nil, Bool.or_false, Bool.or_eq_false_iff, beq_eq_false_iff_ne, ne_eq] at h3); (simp [h1, h2, h3, kstB]; done)) | (simp [h1, h2, kstB]; done)))
  (k_with "exec Raise some none" => (k_here; k_dflt (refine Raise_fault (by exact rfl) ?_)))
  (k_with "mine: fault" => (k_here; k_dflt (refine fault_call (by first | (k_asm) | fail) (by first | (k_asm) | fail) (by first | (k_asm) | fail) (by first | (k_asm) | fail) (by first | (k_asm) | fail) (by first | (first | exact rfl | assumption) | fail) (by first | (ktr_room) | fail) (by first | (ktr_units) | fail) ?_); (intro e' d' tt' h' tk' F' N' hne'); (refine ⟨_, _, _, rfl, by k_in, (N' _ (List.Mem.head _)).1, ?_⟩); (try dsimp only); (try k_sweep)))
  (k_with "mine: endX" => (refine endX (by assumption) (by k_asm) (by assumption) (by assumption) (by walk_at "mine: sub") ?_))
  (k_with "mine: endR" => ((first | refine endB (by assumption) (by k_asm) (by k_asm) (by walk_at "mine: sub") ?_ | refine endI (by assumption) (by k_asm) (by k_asm) (by walk_at "mine: sub") ?_ | refine endS (by assumption) (by k_asm) (by k_asm) (by walk_at "mine: sub") ?_)))
  (k_with "mine: size" => (rw [sizeLine_eq]; (first | omega | (simp only [Str.length_append, tx_length, len_item, List.length_cons, List.length_nil, List.length_append, List.size_toArray, Array.size_push]; omega))))
  (k_with "mine: filled" => ((intro t' h' tk' F' N'); (try dsimp only); (try k_sweep); (try k_fold)))
  (k_with "mine: startZ" => (unfold PZ; k_fill; intros; rename_i hpre hret hexc; refine wpAny_call ?_; k_dflt cell_enter))
  (k_with "mine: endXZ" => (refine endXZ (by assumption) (by k_asm) (by assumption) (by assumption) (by walk_at "mine: sub") ?_))
  (k_with "mine: endZ" => (refine endZ (by assumption) (by k_asm) (by k_asm) ?_))
  trivial
local macro_rules | `(tactic| ktr_units) => `(tactic| (have hcL9 := cLine_is; ((try simp only [units_under_make, units_in1, units_deeper, Around.mark_units, units_caller] at *); (try dsimp only [ktrTop] at *); omega)))
theorem lines_X1_1 : True := by
  (k_with "mine: enter" => (refine code_def (by first | (k_asm) | fail) (by first | (k_asm) | fail) (by first | (k_asm) | fail) (by first | (k_asm) | fail) (by first | (k_asm) | fail) (by first | (exact rfl) | fail) (by first | (exact rfl) | fail) (by first | (assumption) | fail) (by first | (k_is) | fail) (by first | (k_is) | fail) (by first | (ktr_room) | fail) (by first | (first | exact BindsTo.of_eq rfl | exact binds_K (by k_in) rfl (by k_is) rfl rfl rfl) | fail) (by first | (exact locs rfl) | fail) ?_ (by first | (exact rfl) | fail) (by first | (exact rfl) | fail) (by first | (exact rfl) | fail) (by first | (decide) | fail); k_whole; intro g' L' h' FG' F' N' B' X' T'; (try dsimp only); (try k_lift B'); (try k_fold)))
  trivial
local macro_rules | `(tactic| walk_at "mine: calm") => `(tactic| ((case kB => k_asm); (case kF => k_asm); (case kX => k_asm); (case kN => k_asm); (case kT => k_asm); (case kK => first | exact rfl | assumption); (case kd => ktr_room); (case ku => ktr_units)))
theorem lines_X1_2 : True := by
  (k_with "call ref cons nil" => (k_here; k_dflt (refine atom_call (by first | (k_asm) | fail) (by first | (k_asm) | fail) (by first | (k_asm) | fail) (by first | (k_asm) | fail) (by first | (k_asm) | fail) (by first | (first | exact rfl | assumption) | fail) (by first | (ktr_room) | fail) (by first | (ktr_units) | fail) (by first | (assumption) | fail) (by first | (first | assumption | omega) | fail) (fun t' news' t1' t2' t3' t4' n' h' tk' S' keep' F' N' => ?_)); (try dsimp only); (try k_sweep); (try k_fold)))
  trivial
section
variable {w : World} {mean : ExcName → Option Value} {mg mb : Str → Option Value} {news : List (Addr × Obj)}
    {dp un : Nat} {gd : Option (List Code)} {cn : Str} {cs : Scope} {a : Addr} {ccd : Value} {cl : List (Str × Addr)} {outer : List Env} {A₀ : Around} {base h₀ : Heap} {L : Addr} {m : Str → Option Value} {s : Shared} {Q E : Value → Shared → Prop}
    {o dx l d f e : Addr} {ts : List Str} {fs : List (List Int)}
theorem func_call {x : Str} {k : Int} {t u : Tok} (B : Below A₀ base outer h₀) (F : Fr h₀ L s.heap m) (K : (hd.heap_1 w.params).In h₀) (N : News h₀ L s.heap news) (T : Top vw (looseW vw [Str.ofString "LinkFault"]) mean mg mb h₀) (hk : cs.kind = .function) (hdp : dp + 5 < recursionLimit) (hu : un + 8 * 5 < cLine) (S : Sym w news o dx l d f e ts fs) (hts : ts.length ≤ 1000) (hfs : fs.length ≤ 1000)
    (hret : ∀ v news' h' tk', Sym w news' o dx l d f e (addA ts x) (addF fs [(((addA ts x).idxOf x : Nat) : Int), k]) → (∀ p ∈ news, p.1 ≠ l → p.1 ≠ d → p.1 ≠ f → p.1 ≠ e → p ∈ news') → Fr h₀ L h' m → News h₀ L h' news' → Q v { s with heap := h', toks := tk' }) :
    wpAny (model PySem.Challenge.rw_ok0015_01.row.prog w) (ktrTop dp un gd cn cs L a ccd cl outer) (call (.ref 110) [.ref o, .str x t, .int k u]) Q E s :=
  (func_spec w mean mg mb o dx l d f e ts fs x k t u hts hfs).calm B F K N T hk hdp hu S fun v news' h' tk' ⟨S', keep⟩ F2 N2 => hret v news' h' tk' S' keep F2 N2
end
theorem lines_X1_3 : True := by
  (k_with "call ref cons nil" => (k_here; k_dflt (refine func_call (by first | (k_asm) | fail) (by first | (k_asm) | fail) (by first | (k_asm) | fail) (by first | (k_asm) | fail) (by first | (k_asm) | fail) (by first | (first | exact rfl | assumption) | fail) (by first | (ktr_room) | fail) (by first | (ktr_units) | fail) (by first | (assumption) | fail) (by first | (assumption) | fail) (by first | (assumption) | fail) (fun v' news' h' tk' S' keep' F' N' => ?_)); (try dsimp only); (try k_sweep); (try k_fold)))
  trivial
theorem addA_len (ts : List Str) (x : Str) : (addA ts x).length ≤ ts.length + 1 := by
  unfold addA
  split
  · omega
  · rw [List.length_append, List.length_singleton]; omega
theorem addF_len (fs : List (List Int)) (k : List Int) : (addF fs k).length ≤ fs.length + 1 := by
  unfold addF
  split
  · omega
  · rw [List.length_append, List.length_singleton]; omega
section
variable {w : World} {h₀ h : Heap} {L : Addr} {news : List (Addr × Obj)} {o dx l d f e I : Addr} {ts : List Str} {fs : List (List Int)} {oi : Obj}
theorem nIR : (Value.ref 155) ≠ .type "tuple_iterator" := fun h => nomatch h
theorem nID : (Value.type "dict") ≠ .type "tuple_iterator" := fun h => absurd (Value.type.inj h) (by decide)
theorem nIL : (Value.type "list") ≠ .type "tuple_iterator" := fun h => absurd (Value.type.inj h) (by decide)
theorem nIT : (Value.type "tuple") ≠ .type "tuple_iterator" := fun h => absurd (Value.type.inj h) (by decide)
theorem keep_off (N : News h₀ L h news) (hI : (I, oi) ∈ news) (hc : oi.cls = .type "tuple_iterator") {p : Addr × Obj} (hp : p ∈ news) (hn : p.2.cls ≠ .type "tuple_iterator") : p ∈ off I news :=
  mem_off hp (ne_cls N (b := p.1) (ob := p.2) hp hI (by rw [hc]; exact hn))
/-- the symbols without the iterator -/
theorem Sym.offI (S : Sym w news o dx l d f e ts fs) (N : News h₀ L h news) (hI : (I, oi) ∈ news) (hc : oi.cls = .type "tuple_iterator") : Sym w (off I news) o dx l d f e ts fs where
  inst := keep_off N hI hc S.inst nIR
  dict := let ⟨t1, t2, t3, t4, n, h⟩ := S.dict; ⟨t1, t2, t3, t4, n, keep_off N hI hc h nID⟩
  text := textPart_mono S.text (fun _ h q => keep_off N hI hc h (by dsimp only; rw [q]; exact nIL)) fun _ h q => keep_off N hI hc h (by dsimp only; rw [q]; exact nID)
  fun_ := funPart_mono S.fun_ (fun _ h q => keep_off N hI hc h (by dsimp only; rw [q]; exact nIL)) (fun _ h q => keep_off N hI hc h (by dsimp only; rw [q]; exact nID)) fun _ h q => keep_off N hI hc h (by rw [q]; exact nIT)
  lf := S.lf
  ddx := S.ddx
  edx := S.edx
  de := S.de
theorem text_cls (S : Sym w news o dx l d f e ts fs) : (∃ ob, (l, ob) ∈ news ∧ ob.cls = .type "list") ∧ ∃ ob, (d, ob) ∈ news ∧ ob.cls = .type "dict" :=
  let ⟨_, _, _, _, h1, _, h3, h4, _⟩ := S.text
  ⟨⟨_, h1, rfl⟩, _, h3, by obtain ⟨es, ep, hc, _⟩ := h4; exact hc.1⟩
theorem fun_cls (S : Sym w news o dx l d f e ts fs) : (∃ ob, (f, ob) ∈ news ∧ ob.cls = .type "list") ∧ ∃ ob, (e, ob) ∈ news ∧ ob.cls = .type "dict" :=
  let ⟨_, _, h1, _, h3, _⟩ := S.fun_
  ⟨⟨_, h1, rfl⟩, by obtain ⟨_, oe, es, ep, xs, hme, hce, _⟩ := h3; exact ⟨oe, hme, hce.1⟩⟩
theorem tupish_ne (S : Sym w news o dx l d f e ts fs) (N : News h₀ L h news) {p : Addr × Obj} (hp : p ∈ news) (hc : p.2.cls = .type "tuple_iterator" ∨ p.2.cls = .type "tuple") : p.1 ≠ l ∧ p.1 ≠ d ∧ p.1 ≠ f ∧ p.1 ≠ e := by
  obtain ⟨⟨o1, h1, c1⟩, o2, h2, c2⟩ := text_cls S
  obtain ⟨⟨o3, h3, c3⟩, o4, h4, c4⟩ := fun_cls S
  refine ⟨ne_cls N (b := p.1) (ob := p.2) hp h1 ?_, ne_cls N (b := p.1) (ob := p.2) hp h2 ?_, ne_cls N (b := p.1) (ob := p.2) hp h3 ?_, ne_cls N (b := p.1) (ob := p.2) hp h4 ?_⟩
  all_goals first | rw [c1] | rw [c2] | rw [c3] | rw [c4]
  all_goals rcases hc with q | q <;> rw [q]
  · exact nIL.symm
  · exact nTL
  · exact nID.symm
  · exact nTD
  · exact nIL.symm
  · exact nTL
  · exact nID.symm
  · exact nTD
end
section
variable {w : World} {h₀ h : Heap} {L : Addr} {news : List (Addr × Obj)} {o dx l d f e I : Addr} {oi od oe ot : Obj}
theorem sym_start {D1 : Addr} {t1 t2 t3 t4 : Tok} {n : Nat} (_ : News h₀ L h ((D1, ot) :: (e, oe) :: (f, listOf #[] 0) :: (d, od) :: (l, listOf #[] 0) :: (o, instObj 155 dx) :: (dx, symDict w l d f e t1 t2 t3 t4 n) :: news))
    (hd : od.IsDictOf (skind w) []) (lod : (d == sysModules) = false) (he : oe.IsDictOf (ikind w) []) (loe : (e == sysModules) = false) (h1 : l ≠ f) (h2 : d ≠ dx) (h3 : e ≠ dx) (h4 : d ≠ e) :
    Sym w ((D1, ot) :: (e, oe) :: (f, listOf #[] 0) :: (d, od) :: (l, listOf #[] 0) :: (o, instObj 155 dx) :: (dx, symDict w l d f e t1 t2 t3 t4 n) :: news) o dx l d f e [] [] where
  inst := .tail _ (.tail _ (.tail _ (.tail _ (.tail _ (.head _)))))
  dict := ⟨t1, t2, t3, t4, n, .tail _ (.tail _ (.tail _ (.tail _ (.tail _ (.tail _ (.head _))))))⟩
  text := ⟨[], 0, od, [], .tail _ (.tail _ (.tail _ (.tail _ (.head _)))), .nil, .tail _ (.tail _ (.tail _ (.head _))), hd, .nil, lod, .nil⟩
  fun_ := ⟨[], 0, .tail _ (.tail _ (.head _)), ⟨rfl, fun i ks q => by simp at q⟩, TupTab.ofEmpty (.tail _ (.head _)) loe he, .nil⟩
  lf := h1
  ddx := h2
  edx := h3
  de := h4
end
theorem symbols_spec (w mean mg mb) : PZ w mean mg mb 12 155 [] (fun _ _ => True) (fun news v news' => ∃ o dx l d f e ts fs, v = .ref o ∧ ts.length ≤ 100 ∧ fs.length ≤ 100 ∧ Sym w news' o dx l d f e ts fs) False := by
  unfold PZ; k_fill; intros; rename_i hpre hret hexc
  k_dflt (refine' call_cls ?k1 ?k2 ?k3 ?k4 ?k5 ?k6 ?_; (case k1 => k_asm); (case k2 => k_asm); (case k3 => k_in); (case k4 => k_is); (case k5 => k_is); (case k6 => k_is); k_whole; intro x' d' h' F' N' l1 l2; (try k_lt l1); (try k_lt2 l2); (try k_sweep); (walk_at "mine: enter"))
  k_steps
  unfold Mark
  rename Fr _ _ _ _ => lF
  k_here; (with_unfolding_all refine' For_invVF lF ?k1 ?k2 ?_; (case k1 => exact rfl); (case k2 => exact rfl))
  k_steps
  show wpAny _ _ (call (Value.ref 61) []) _ _ _
  k_dflt (refine' (fixed_atoms_spec w mean mg mb).calm ?kB ?kF ?kX ?kN ?kT ?kK ?kd ?ku trivial (fun v1 news1 h1 tk1 hP1 F1 N1 => ?_); (walk_at "mine: calm"))
  obtain ⟨D1, vs1, ys1, n1, e1, hA1, hl1, e2⟩ := hP1
  subst e1 e2
  dsimp only
  rename Fr _ _ _ _ => lF
  rename News _ _ _ _ => lN
  obtain ⟨l, d, f, e, S0⟩ : ∃ l d f e, Sym w _ _ _ l d f e [] [] := ⟨_, _, _, _, sym_start lN (by assumption) (by assumption) (by assumption) (by assumption) (by k_ne) (by k_ne) (by k_ne) (by k_ne)⟩
  (with_unfolding_all refine' tup_grow (vs := vs1) (nn := n1) (fun i led => ∃ ts, ts.length ≤ i ∧ Sym w led x' d' l d f e ts []) (by rfl) (.head _) lF lN ⟨[], Nat.le_refl _, S0⟩ ?_ ?_)
  · clear lF lN S0
    rintro i v h tk led own oi hi ⟨ts, hts, S⟩ hll hne hoi hic hcl F N R hR
    obtain ⟨y, ty, hv', _⟩ := strs_get hA1 hi
    subst hv'
    have hi29 : i < 29 := by
      have := (List.getElem?_eq_some_iff.mp hi).1
      omega
    have S1 := S.mono (news' := own ++ led) (fun p hp => List.mem_append_right _ hp)
    obtain ⟨t1, t2, t3, t4, n0, hN⟩ := sym_heads S1 N
    have S2 := S1.mono (news' := (x', instObj 155 d') :: (d', symDict w l d f e t1 t2 t3 t4 n0) :: (own ++ led)) fun p hp => .tail _ (.tail _ hp)
    have hN0 : True → News _ _ _ (own ++ led) := fun _ => N
    have hS0 : True → Sym w (own ++ led) x' d' l d f e ts [] := fun _ => S1
    have h1000 : ts.length ≤ 1000 := by omega
    clear N S S1
    try k_fold
    k_steps
    rename Fr _ _ _ _ => lF
    rename News _ _ _ _ => lN
    rename Sym _ _ _ _ _ _ _ _ _ _ => S3
    rename (∀ _ : Addr × Obj, _ → _ ≠ l → _ ≠ d → _) => keep
    have N3 := news_t (news_t lN)
    have kp : ∀ p ∈ own ++ led, p.2.cls = .type "tuple_iterator" ∨ p.2.cls = .type "tuple" → p ∈ _ := fun p hp hc => keep p (.tail _ (.tail _ hp)) (tupish_ne (hS0 trivial) (hN0 trivial) hp hc).1 (tupish_ne (hS0 trivial) (hN0 trivial) hp hc).2.1
    exact hR _ _ _ _ lF (fun z hz => if_neg hz) N3 (fun p hp => kp p (List.mem_append_left _ hp) (hcl p hp)) (kp _ (List.mem_append_right _ hll) (.inr rfl)) ⟨_, Nat.le_trans (addA_len _ _) (Nat.succ_le_succ hts), S3.offI N3 (kp _ (List.mem_append_left _ hoi) (.inl hic)) hic⟩
  · clear lF lN S0
    rintro m1 led h tk ⟨ts, hts, S⟩ hll F N
    rw [hl1] at hts
    obtain ⟨t1, t2, t3, t4, n0, hN⟩ := sym_heads S N
    have S2 := S.mono (news' := (x', instObj 155 d') :: (d', symDict w l d f e t1 t2 t3 t4 n0) :: led) fun p hp => .tail _ (.tail _ hp)
    clear N S
    try k_fold
    k_steps
    unfold Mark
    rename Fr _ _ _ _ => lF
    k_here; (with_unfolding_all refine' For_invVF lF ?k1 ?k2 ?_; (case k1 => exact rfl); (case k2 => exact rfl))
    k_steps
    show wpAny _ _ (call (Value.ref 68) []) _ _ _
    k_dflt (refine' (fixed_functors_spec w mean mg mb).calm ?kB ?kF ?kX ?kN ?kT ?kK ?kd ?ku trivial (fun v1 news1 h1 tk1 hP1 F1 N1 => ?_); (walk_at "mine: calm"))
    obtain ⟨D2, vs2, n2, e1, hA2, hl2, hD2, hs2⟩ := hP1
    subst e1
    dsimp only
    rename Fr _ _ _ _ => lF
    rename News _ _ _ _ => lN
    have S3 := S2.mono hs2
    (with_unfolding_all refine' tup_grow (vs := vs2) (nn := n2) (fun i led => ∃ ts fs, ts.length ≤ 29 + i ∧ fs.length ≤ i ∧ RowsIn led vs2 ∧ Sym w led x' d' l d f e ts fs) (by rfl) hD2 lF lN ⟨ts, [], hts, Nat.le_refl _, hA2, S3⟩ ?_ ?_)
    · clear lF lN S3 S2 hs2 hA2 hD2 hts
      rintro i v h tk led own oi hi ⟨ts, fs, hts, hfs, hrows, S⟩ hll hne hoi hic hcl F N R hR
      have hi32 : i < 32 := by
        have := (List.getElem?_eq_some_iff.mp hi).1
        omega
      obtain ⟨D3, y, ty, k, tk3, hv', hD3⟩ := hrows v (List.mem_of_getElem? hi)
      subst hv'
      have S1 := S.mono (news' := own ++ led) (fun p hp => List.mem_append_right _ hp)
      obtain ⟨t1, t2, t3, t4, n0, hN⟩ := sym_heads S1 N
      have hN2 := news_cons hN (.tail _ (.tail _ (List.mem_append_right _ hD3)))
      have S2 := S1.mono (news' := (D3, { cls := .type "tuple", data := .seq #[.str y ty, .int k tk3] }) :: (x', instObj 155 d') :: (d', symDict w l d f e t1 t2 t3 t4 n0) :: (own ++ led)) fun p hp => .tail _ (.tail _ (.tail _ hp))
      have hN0 : True → News _ _ _ (own ++ led) := fun _ => N
      have hS0 : True → Sym w (own ++ led) x' d' l d f e ts fs := fun _ => S1
      have h1000 : ts.length ≤ 1000 := by omega
      have h1001 : fs.length ≤ 1000 := by omega
      clear N S S1 hN
      try k_fold
      k_steps
      rename Fr _ _ _ _ => lF
      rename News _ _ _ _ => lN
      rename Sym _ _ _ _ _ _ _ _ _ _ => S3
      rename (∀ _ : Addr × Obj, _ → _ ≠ l → _ ≠ d → _) => keep
      have kp : ∀ p ∈ own ++ led, p.2.cls = .type "tuple_iterator" ∨ p.2.cls = .type "tuple" → p ∈ _ := fun p hp hc =>
        let ⟨q1, q2, q3, q4⟩ := tupish_ne (hS0 trivial) (hN0 trivial) hp hc
        keep p (.tail _ (.tail _ (.tail _ hp))) q1 q2 q3 q4
      refine hR _ _ _ _ lF (fun z hz => if_neg hz) lN (fun p hp => kp p (List.mem_append_left _ hp) (hcl p hp)) (kp _ (List.mem_append_right _ hll) (.inr rfl)) ⟨_, _, Nat.le_trans (addA_len _ _) (Nat.succ_le_succ hts), Nat.le_trans (addF_len _ _) (Nat.succ_le_succ hfs), fun v hv => ?_, S3.offI lN (kp _ (List.mem_append_left _ hoi) (.inl hic)) hic⟩
      obtain ⟨D, y, t, k, u, ev, hD⟩ := hrows v hv
      exact ⟨D, y, t, k, u, ev, mem_off (kp _ (List.mem_append_right _ hD) (.inr rfl)) (hne _ hD)⟩
    · clear lF lN S3 S2 hs2 hA2 hD2 hts
      rintro m2 led h tk ⟨ts, fs, hts, hfs, hrows, S⟩ hll F N
      rw [hl2] at hts hfs
      try k_fold
      k_steps
      walk_at "mine: endZs"
      (case kp => exact ⟨_, _, _, _, _, _, _, _, rfl, by omega, by omega, S⟩)
      (case ks => exact fun p hp => hp)
end
section
theorem lines_Z1 : True := by
  w_top off
  k_with_none
  (k_with "mine: start" => (unfold PS; k_fill; intros; rename_i hret hexc; refine wpAny_call ?_; k_dflt cell_enter))
  (k_with "mine: sub" => (first | exact fun _ h => h | exact fun _ h => List.mem_append_left _ h | (intro _ h; simp only [List.mem_append, List.mem_cons, h, true_or, or_true])))
  (k_with "mine: end" => ((first | refine endB (by assumption) (by k_asm) (by k_asm) (by walk_at "mine: sub") (resB ?_) | refine endI (by assumption) (by k_asm) (by k_asm) (by walk_at "mine: sub") (resI ?_) | refine endS (by assumption) (by k_asm) (by k_asm) (by walk_at "mine: sub") (resS ?_))))
  (k_with "mine: fill" => ((intro t' h' tk' F' N'); (try dsimp only); (try k_sweep); (try k_fold)))
  (k_with "exec While Compare cons nil" => (k_here; refine Mark.out ?_))
  (k_with "exec For Name Name cons nil" => (k_here; refine Mark.out ?_))
  (k_with "exec For Name Call cons nil" => (k_here; refine Mark.out ?_))
  (k_with "exec For Name List cons nil" => (k_here; refine Mark.out ?_))
  (k_with "binaryOp Add str str" => (k_here; (with_reducible show wpAny _ _ (binaryOp Operator.Add (Value.str _ _) (Value.str _ _)) _ _ _); (refine add_str ?_ (by first | (walk_at "mine: size") | fail)); intro _ _))
  (k_with "mine: same" => (intro z h2 h3; (simp only [List.forall_mem_cons, List.not_mem_nil, false_implies, implies_true, and_true, ne_eq] at h2); first | ((simp only [List.contains_cons, List.contains_nil, Bool.or_false, Bool.or_eq_false_iff, beq_eq_false_iff_ne, ne_eq] at h3); (simp [h2, h3, kstB]; done)) | (simp [h2, kstB]; done)))
  (k_with "call builtin:list.append" => (k_here; (with_reducible show wpAny _ _ (call (Value.builtin _) [Value.ref _, _]) _ _ _); k_dflt (refine append_K (by first | (k_asm) | fail) (by first | (k_asm) | fail) (by first | (k_upd) | fail) ?_ (by first | (walk_at "mine: size") | fail); k_whole); intro h' F' N'; (try simp only [List.push_toArray] at N'); (try k_sweep)))
  (k_with "InvEndN" => (refine Mark.out ?_))
  (k_with "KswEnd" => (refine Mark.out ?_))
  (k_with "call builtin:str.join" => (k_here; refine Mark.out ?_))
  (k_with "mine: sameN" => (intro z h1 h2 h3; (simp only [List.forall_mem_cons, List.not_mem_nil, false_implies, implies_true, and_true, ne_eq] at h2); first | ((simp only [List.contains_cons, List.contains_nil, Bool.or_false, Bool.or_eq_false_iff, beq_eq_false_iff_ne, ne_eq] at h3); (simp [h1, h2, h3, kstB]; done)) | (simp [h1, h2, kstB]; done)))
  (k_with "exec Raise some none" => (k_here; k_dflt (refine Raise_fault (by exact rfl) ?_)))
  (k_with "mine: fault" => (k_here; k_dflt (refine fault_call (by first | (k_asm) | fail) (by first | (k_asm) | fail) (by first | (k_asm) | fail) (by first | (k_asm) | fail) (by first | (k_asm) | fail) (by first | (first | exact rfl | assumption) | fail) (by first | (ktr_room) | fail) (by first | (ktr_units) | fail) ?_); (intro e' d' tt' h' tk' F' N' hne'); (refine ⟨_, _, _, rfl, by k_in, (N' _ (List.Mem.head _)).1, ?_⟩); (try dsimp only); (try k_sweep)))
  (k_with "mine: endX" => (refine endX (by assumption) (by k_asm) (by assumption) (by assumption) (by walk_at "mine: sub") ?_))
  (k_with "mine: endR" => ((first | refine endB (by assumption) (by k_asm) (by k_asm) (by walk_at "mine: sub") ?_ | refine endI (by assumption) (by k_asm) (by k_asm) (by walk_at "mine: sub") ?_ | refine endS (by assumption) (by k_asm) (by k_asm) (by walk_at "mine: sub") ?_)))
  (k_with "mine: size" => (rw [sizeLine_eq]; (first | omega | (simp only [Str.length_append, tx_length, len_item, List.length_cons, List.length_nil, List.length_append, List.size_toArray, Array.size_push]; omega))))
  (k_with "mine: filled" => ((intro t' h' tk' F' N'); (try dsimp only); (try k_sweep); (try k_fold)))
  trivial
/-! the round trips, in plain Lean -/
theorem str_tx (x : Str) : x = tx x.cps.toList := rfl
theorem tx_cps (l : List Nat) : (tx l).cps.toList = l := rfl
theorem tx_app (a b : List Nat) : tx a ++ tx b = tx (a ++ b) := by
  refine PySem.Str.ext' ?_
  rw [PySem.Str.cps_append]
  simp [tx]
theorem tx_inj {a b : List Nat} (h : tx a = tx b) : a = b := by
  have := congrArg (fun s : Str => s.cps.toList) h
  exact this
theorem codes_tx (l : List Nat) : KStt.codes (tx l) = l.map fun (c : Nat) => (c : Int) := rfl
theorem tx_size (x : Str) : x.cps.toList.length = x.length := Array.length_toList
theorem item_tx {l : List Nat} {p : Nat} {c : Nat} (h : l[p]? = some c) : Txt.item (tx l) (p : Int) = one c := by
  refine item_meets (by omega) ?_
  rw [Int.toNat_natCast, ← Array.getElem?_toList]
  exact h
theorem item0_tx (c : Nat) (l : List Nat) : Txt.item (tx (c :: l)) 0 = one c := item_tx (p := 0) rfl
theorem QT : Str.ofString "'" = one 39 := by decide +kernel
theorem S48 : Str.ofString "0" = one 48 := by decide +kernel
theorem S57 : Str.ofString "9" = one 57 := by decide +kernel
theorem S45 : Str.ofString "-" = one 45 := by decide +kernel
theorem S47 : Str.ofString "/" = one 47 := by decide +kernel
theorem S32 : Str.ofString " " = one 32 := by decide +kernel
theorem S10 : Str.ofString "\n" = one 10 := by decide +kernel
theorem S120 : Str.ofString "x" = one 120 := by decide +kernel
theorem SE : Str.ofString "" = tx [] := by decide +kernel
theorem one_tx (c : Nat) : one c = tx [c] := rfl
theorem one_inj {a b : Nat} (h : one a = one b) : a = b := by simpa [one] using h
theorem readC_app (a b : List Nat) : ∀ v, readC (a ++ b) v = (readC a v).bind (readC b) := by
  induction a with
  | nil => intro v; rfl
  | cons c r ih =>
    intro v
    rw [List.cons_append, readC, readC]
    cases figOf c with
    | none => rfl
    | some f =>
      dsimp only
      split
      · rfl
      · exact ih _
theorem figOf_fig : ∀ k, k < 16 → figOf (fig k) = some k := by decide
theorem readC_hexL {n : Nat} (h : n ≤ 1114111) : readC (hexL n) 0 = some n := by
  induction n using Nat.strongRecOn with
  | _ n ih =>
    rw [hexL]
    by_cases h16 : n < 16
    · rw [if_pos h16, readC, figOf_fig n h16]
      dsimp only
      rw [if_neg (by omega), readC]; simp
    · rw [if_neg h16, readC_app, ih (n / 16) (by omega) (by omega)]
      show readC [fig (n % 16)] (n / 16) = _
      rw [readC, figOf_fig _ (Nat.mod_lt _ (by decide))]
      dsimp only
      rw [if_neg (by omega), readC]
      congr 1; omega
theorem fig_ok : ∀ k, k < 16 → (48 ≤ fig k ∧ fig k ≤ 57 ∨ 97 ≤ fig k ∧ fig k ≤ 102) := by decide
theorem hexL_ok (n : Nat) : ∀ c ∈ hexL n, (48 ≤ c ∧ c ≤ 57 ∨ 97 ≤ c ∧ c ≤ 102) := by
  induction n using Nat.strongRecOn with
  | _ n ih =>
    rw [hexL]
    by_cases h16 : n < 16
    · rw [if_pos h16]
      intro c hc
      rw [List.mem_singleton.mp hc]; exact fig_ok n h16
    · rw [if_neg h16]
      intro c hc
      rcases List.mem_append.mp hc with h | h
      · exact ih (n / 16) (by omega) c h
      · rw [List.mem_singleton.mp h]; exact fig_ok _ (Nat.mod_lt _ (by decide))
theorem hexL_cons (n : Nat) : ∃ d ds, hexL n = d :: ds := by
  cases h : hexL n with
  | cons d ds => exact ⟨d, ds, rfl⟩
  | nil =>
    rw [hexL] at h
    split at h
    · cases h
    · have := congrArg List.length h
      simp at this
theorem takeW {a r : List Nat} (h : ∀ c ∈ a, c ≠ 92) : (a ++ 92 :: r).takeWhile (· != 92) = a := by
  induction a with
  | nil => rfl
  | cons c t ih =>
    have hc := h c (.head _)
    rw [List.cons_append, List.takeWhile_cons, if_pos (by simpa using hc), ih fun c hc => h c (.tail _ hc)]
theorem unesc_esc {n : Nat} (hn : n ≤ 1114111) (r : List Nat) : unesc (escS n ++ r) = (unesc r).map (n :: ·) := by
  unfold escS
  split
  · rename_i h
    rw [List.singleton_append, unesc, if_neg h.2.2.2]
  · rw [List.cons_append, List.cons_append, List.append_assoc, List.singleton_append]
    obtain ⟨d, ds, e⟩ := hexL_cons n
    have hw : (120 :: (hexL n ++ 92 :: r)).takeWhile (· != 92) = 120 :: d :: ds := by
      have := takeW (a := 120 :: hexL n) (r := r) (fun c hc => by
        rcases List.mem_cons.mp hc with h | h
        · omega
        · have := hexL_ok n c h; omega)
      rw [List.cons_append] at this
      rw [this, e]
    have hd : (120 :: (hexL n ++ 92 :: r)).drop ((120 :: d :: ds).length + 1) = r := by
      rw [e]
      have e2 : 120 :: (d :: ds ++ 92 :: r) = (120 :: d :: (ds ++ [92])) ++ r := by simp
      rw [e2, List.drop_left' (by simp)]
    have hr : readC (d :: ds) 0 = some n := by rw [← e]; exact readC_hexL hn
    rw [unesc, if_pos rfl, if_pos (by simp), hw]
    simp only [hr, hd]
theorem unesc_all {l : List Nat} (h : ∀ c ∈ l, c ≤ 1114111) : unesc (l.flatMap escS) = some l := by
  induction l with
  | nil => rw [List.flatMap_nil, unesc]
  | cons c r ih =>
    rw [List.flatMap_cons, unesc_esc (h c (.head _)), ih fun c hc => h c (.tail _ hc)]
    rfl
theorem alnum_39 (l : List Nat) : alnumName (tx (39 :: l)) = false := rfl
theorem alnum_33 {x : Str} (h : alnumName x = true) : ∀ c ∈ x.cps.toList, (48 ≤ c ∧ c ≤ 57) ∨ (65 ≤ c ∧ c ≤ 90) ∨ c = 95 ∨ (97 ≤ c ∧ c ≤ 122) := by
  intro c hc
  unfold alnumName at h
  have hm : (c : Int) ∈ KStt.codes x := List.mem_map.mpr ⟨c, hc, rfl⟩
  cases e : KStt.codes x with
  | nil => rw [e] at hm; cases hm
  | cons a r =>
    rw [e] at h hm
    simp only [Bool.and_eq_true] at h
    have := List.all_eq_true.mp h.2 _ hm
    unfold alnumI smallI capI digI at this
    simp at this
    omega
theorem alnum_first {x : Str} (h : alnumName x = true) : ∃ c r, x.cps.toList = c :: r ∧ 97 ≤ c ∧ c ≤ 122 := by
  unfold alnumName at h
  unfold KStt.codes at h
  cases e : x.cps.toList with
  | nil => rw [e] at h; cases h
  | cons a r =>
    rw [e] at h
    rw [List.map_cons] at h
    simp only [Bool.and_eq_true] at h
    have := h.1
    unfold smallI at this
    simp at this
    exact ⟨a, r, rfl, by omega, by omega⟩
theorem quoted_alnum {x : Str} (h : alnumName x = true) : quoted x = x := by unfold quoted; rw [if_pos h]
theorem quoted_else {x : Str} (h : alnumName x = false) : quoted x = tx (quotedL x.cps.toList) := by unfold quoted; rw [if_neg (by simp [h])]
theorem unq_quoted {x : Str} (hc : ∀ c ∈ x.cps.toList, c ≤ 1114111) : unq (quoted x) = some x := by
  by_cases ha : alnumName x = true
  · rw [quoted_alnum ha]
    unfold unq; rw [if_pos ha]
  · have ha' : alnumName x = false := by simpa using ha
    have hq := quoted_else ha'
    have hl : ((tx (quotedL x.cps.toList)).length : Int) = (x.cps.toList.flatMap escS).length + 2 := by
      rw [tx_length]; unfold quotedL
      rw [List.length_cons, List.length_append, List.length_singleton]; omega
    have hin : (innerOf (tx (quotedL x.cps.toList))).cps.toList = x.cps.toList.flatMap escS := by
      show (Txt.slice _ (some 1) (some _)).cps.toList = _
      rw [hl]
      have e1 : ((x.cps.toList.flatMap escS).length : Int) + 2 - 1 = (((x.cps.toList.flatMap escS).length + 1 : Nat) : Int) := by omega
      have hl2 : (tx (quotedL x.cps.toList)).length = (x.cps.toList.flatMap escS).length + 2 := by omega
      rw [e1]
      refine (slice_list (i := 1) (by omega) (by omega)).trans ?_
      rw [tx_cps]
      unfold quotedL
      simp
    have hn2 : ¬ ((tx (quotedL x.cps.toList)).length : Int) < 2 := by omega
    rw [hq]
    refine (unq_some (x := tx (quotedL x.cps.toList)) (l := x.cps.toList) (alnum_39 _) hn2 ?_ ?_ ?_).trans (if_neg ?_)
    rotate_right
    · show ¬ (quoted x != _) = true
      rw [hq]; simp
    · rw [QT]; unfold quotedL; rw [item0_tx]; simp
    · rw [hl, QT]
      have e1 : ((x.cps.toList.flatMap escS).length : Int) + 2 - 1 = (((x.cps.toList.flatMap escS).length + 1 : Nat) : Int) := by omega
      rw [e1]
      unfold quotedL
      rw [item_tx (c := 39) (by simp)]; simp
    · rw [hin]; exact unesc_all hc
theorem quoted_inj {x y : Str} (hx : ∀ c ∈ x.cps.toList, c ≤ 1114111) (hy : ∀ c ∈ y.cps.toList, c ≤ 1114111) (h : quoted x = quoted y) : x = y := by
  have h1 := unq_quoted hx
  rw [h, unq_quoted hy] at h1
  exact (Option.some.inj h1).symm
theorem escS_ok {n : Nat} : ∀ c ∈ escS n, 33 ≤ c ∧ c ≤ 126 := by
  intro c hc
  unfold escS at hc
  split at hc
  · rw [List.mem_singleton.mp hc]; omega
  · simp only [List.mem_cons, List.mem_append, List.not_mem_nil, or_false] at hc
    rcases hc with h | h | h | h
    · omega
    · omega
    · have := hexL_ok n c h; omega
    · omega
theorem quoted_ok (x : Str) : ∀ c ∈ (quoted x).cps.toList, 33 ≤ c ∧ c ≤ 126 := by
  intro c hc
  by_cases ha : alnumName x = true
  · rw [quoted_alnum ha] at hc
    have := alnum_33 ha c hc
    omega
  · rw [quoted_else (by simpa using ha), tx_cps] at hc
    unfold quotedL at hc
    simp only [List.mem_cons, List.mem_append, List.not_mem_nil, or_false, List.mem_flatMap] at hc
    rcases hc with h | ⟨a, _, h⟩ | h
    · omega
    · exact escS_ok c h
    · omega
theorem quoted_ne (x : Str) : (quoted x).cps.toList ≠ [] := by
  by_cases ha : alnumName x = true
  · rw [quoted_alnum ha]
    obtain ⟨c, r, e, _⟩ := alnum_first ha
    rw [e]; nofun
  · rw [quoted_else (by simpa using ha), tx_cps]
    unfold quotedL; nofun
/-- the first sign of a quoted name -/
theorem quoted_first (x : Str) : ∃ c r, (quoted x).cps.toList = c :: r ∧ (c = 39 ∨ (97 ≤ c ∧ c ≤ 122)) := by
  by_cases ha : alnumName x = true
  · rw [quoted_alnum ha]
    obtain ⟨c, r, e, h⟩ := alnum_first ha
    exact ⟨c, r, e, .inr h⟩
  · rw [quoted_else (by simpa using ha), tx_cps]
    exact ⟨39, _, rfl, .inl rfl⟩
/-- whatever word is read as a name is just that name's word -/
theorem unq_back {x y : Str} (h : unq x = some y) : quoted y = x := by
  unfold unq at h
  split at h
  · rename_i ha
    cases h; exact quoted_alnum ha
  · split at h
    · cases h
    · split at h
      · cases h
      · split at h
        · cases h
        · split at h
          · cases h
          · split at h
            · cases h
            · rename_i hq
              cases h
              simpa using hq
/-! numbers -/
theorem numL_nonneg {v : Int} (h : ¬ v < 0) : numL v = dec v.natAbs := by unfold numL; rw [if_neg h]
theorem numL_neg {v : Int} (h : v < 0) : numL v = 45 :: dec v.natAbs := by unfold numL; rw [if_pos h]
theorem dec_first (n : Nat) : ∃ c r, dec n = c :: r ∧ 48 ≤ c ∧ c ≤ 57 := by
  have h := dec_all n
  cases e : dec n with
  | nil => exact absurd e (dec_ne n)
  | cons c r => rw [e] at h; exact ⟨c, r, rfl, h c (.head _)⟩
theorem all_dig {l : List Nat} (h : AllDig l) : l.all isDig = true := by
  rw [List.all_eq_true]
  intro c hc
  have := h c hc
  unfold isDig; simp; omega
theorem tx_ne {c : Nat} {l : List Nat} : (tx (c :: l) == Str.ofString "") = false := by
  rw [SE]
  have : tx (c :: l) ≠ tx [] := fun h => nomatch tx_inj h
  simpa using this
theorem readN_dec (n : Nat) : readN (tx (dec n)) = some n := by
  obtain ⟨c, r, e, hc⟩ := dec_first n
  have hn : (tx (dec n) == Str.ofString "") = false := by rw [e]; exact tx_ne
  have hz : ¬ ((Txt.item (tx (dec n)) 0 == Str.ofString "0") = true ∧ (tx (dec n) != Str.ofString "0") = true) := by
    rintro ⟨h1, h2⟩
    by_cases h0 : n = 0
    · subst h0
      rw [dec_small (by decide), S48] at h2
      exact absurd h2 (by simp [one, tx])
    · obtain ⟨c', r', e', hc'⟩ := dec_head h0
      rw [e', item0_tx, S48] at h1
      have := one_inj (eq_of_beq h1)
      omega
  unfold readN
  rw [if_neg (by simp [hn]), if_neg hz, tx_cps, if_pos (all_dig (dec_all n)), dec_val]
theorem readN_minus (l : List Nat) : readN (tx (45 :: l)) = none := by
  unfold readN
  split
  · rfl
  · split
    · rfl
    · rw [tx_cps, if_neg (by simp [isDig])]
theorem readN_nought (l : List Nat) (h : l ≠ []) : readN (Str.ofString "0" ++ tx l) = none := by
  rw [S48, one_tx, tx_app]
  cases l with
  | nil => exact absurd rfl h
  | cons a r =>
    unfold readN
    split
    · rfl
    · rw [if_pos]
      refine ⟨by rw [List.singleton_append, item0_tx, S48]; simp, ?_⟩
      rw [S48, one_tx]
      have : tx ([48] ++ a :: r) ≠ tx [48] := fun z => by have := tx_inj z; cases this
      simpa using this
theorem readN_x (l : List Nat) : readN (tx l ++ Str.ofString "x") = none := by
  rw [S120, one_tx, tx_app]
  unfold readN
  split
  · rfl
  · split
    · rfl
    · rw [tx_cps, if_neg (by simp [isDig])]
theorem counted_num (v : Int) : countedV (tx (numL v)) = if 0 ≤ v then v else -1 := by
  unfold countedV
  by_cases h : v < 0
  · rw [numL_neg h, readN_minus, if_neg (by omega)]
  · rw [numL_nonneg h, readN_dec, if_pos (by omega)]
    dsimp only; omega
theorem counted_nought (v : Int) : countedV (Str.ofString "0" ++ tx (numL v)) = -1 := by
  unfold countedV
  rw [readN_nought]
  unfold numL
  split
  · nofun
  · exact dec_ne _
theorem counted_x (v : Int) : countedV (tx (numL v) ++ Str.ofString "x") = -1 := by
  unfold countedV
  rw [readN_x]
theorem numL_ok (v : Int) : ∀ c ∈ numL v, c = 45 ∨ (48 ≤ c ∧ c ≤ 57) := by
  intro c hc
  unfold numL at hc
  split at hc
  · rcases List.mem_cons.mp hc with h | h
    · exact .inl h
    · exact .inr (dec_all _ _ h)
  · exact .inr (dec_all _ _ hc)
theorem numL_ne (v : Int) : numL v ≠ [] := by
  unfold numL
  split
  · nofun
  · exact dec_ne _
theorem slice_from {l : List Nat} {i : Nat} (h : i ≤ l.length) : Txt.slice (tx l) (some (i : Int)) none = tx (l.drop i) := by
  rw [eq_of_beq (slice_closes_fromL (x := tx l) (i := (i : Int)) (b := ((tx l).length : Int)) (by omega) (by rw [tx_length]; omega) rfl)]
  rw [tx_cps, tx_length, Int.toNat_natCast, List.take_of_length_le (by rw [List.length_drop]; omega)]
  rfl
theorem slice_to {l : List Nat} {i : Nat} (h : i ≤ l.length) : Txt.slice (tx l) none (some (i : Int)) = tx (l.take i) := by
  rw [eq_of_beq (slice_closes_toL (x := tx l) (j := (i : Int)) (by omega) (by rw [tx_length]; omega))]
  rw [tx_cps, show ((i : Int) - 0).toNat = i by omega]
  rfl
theorem minus_rest (l : List Nat) : Txt.slice (tx (45 :: l)) (some 1) none = tx l := slice_from (i := 1) (by simp)
/-! functors -/
theorem rfind_mid {a b : List Nat} (hb : 47 ∉ b) : Txt.rfind (tx (a ++ 47 :: b)) (Str.ofString "/") = (a.length : Int) := by
  rw [S47]
  have at1 : ∀ i, StrLaws.At (tx (a ++ 47 :: b)) (one 47) (tx (a ++ 47 :: b)).length i ↔ (a ++ 47 :: b)[i]? = some 47 := fun i => StrLaws.subAt_one (tx (a ++ 47 :: b)) 47 i
  rcases rfind_whole (tx (a ++ 47 :: b)) (one 47) with ⟨_, h⟩ | ⟨i, e, h1, h2⟩
  · exact absurd ((at1 a.length).mpr (by simp)) (h a.length)
  · rw [e]
    congr 1
    have hi := (at1 i).mp h1
    rcases Nat.lt_trichotomy i a.length with q | q | q
    · exact absurd ((at1 a.length).mpr (by simp)) (h2 a.length q)
    · exact q
    · rw [List.getElem?_append_right (by omega), show i - a.length = (i - a.length - 1) + 1 by omega, List.getElem?_cons_succ] at hi
      exact absurd (List.mem_of_getElem? hi) hb
abbrev ftext (y : Str) (v : Int) : Str := quoted y ++ Str.ofString "/" ++ tx (numL v)
theorem ftext_tx (y : Str) (v : Int) : ftext y v = tx ((quoted y).cps.toList ++ 47 :: numL v) := by
  show quoted y ++ Str.ofString "/" ++ tx (numL v) = _
  rw [S47, one_tx, str_tx (quoted y), tx_app, tx_app, tx_cps, List.append_assoc]
  rfl
theorem ftext_rfind (y : Str) (v : Int) : Txt.rfind (ftext y v) (Str.ofString "/") = ((quoted y).cps.toList.length : Int) := by
  rw [ftext_tx, rfind_mid]
  intro h
  have := numL_ok v _ h
  omega
theorem ftext_left (y : Str) (v : Int) : Txt.slice (ftext y v) none (some (Txt.rfind (ftext y v) (Str.ofString "/"))) = quoted y := by
  rw [ftext_rfind, ftext_tx, slice_to (by simp), List.take_left]
  rfl
theorem ftext_right (y : Str) (v : Int) : Txt.slice (ftext y v) (some (Txt.rfind (ftext y v) (Str.ofString "/") + 1)) none = tx (numL v) := by
  rw [ftext_rfind, ftext_tx, show ((quoted y).cps.toList.length : Int) + 1 = (((quoted y).cps.toList.length + 1 : Nat) : Int) by omega, slice_from (by simp)]
  congr 1
  rw [List.drop_append, List.drop_eq_nil_of_le (by omega), show (quoted y).cps.toList.length + 1 - (quoted y).cps.toList.length = 1 by omega]
  rfl
theorem ftext_pos (y : Str) (v : Int) : ¬ Txt.rfind (ftext y v) (Str.ofString "/") < 1 := by
  rw [ftext_rfind]
  have := quoted_ne y
  have := List.length_pos_iff.mpr this
  omega
theorem ftext_ok (y : Str) (v : Int) : ∀ c ∈ (ftext y v).cps.toList, 33 ≤ c ∧ c ≤ 126 := by
  intro c hc
  rw [ftext_tx, tx_cps] at hc
  rcases List.mem_append.mp hc with h | h
  · exact quoted_ok y c h
  · rcases List.mem_cons.mp h with h | h
    · omega
    · have := numL_ok v c h; omega
/-! rows -/
def jn : List (List Nat) → List Nat
  | [] => []
  | [a] => a
  | a :: b :: r => a ++ 32 :: jn (b :: r)
theorem jn_cons2 (a b : List Nat) (r : List (List Nat)) : jn (a :: b :: r) = a ++ 32 :: jn (b :: r) := rfl
theorem join_jn : ∀ ps : List Str, (Str.join (one 32) ps).cps.toList = jn (ps.map (·.cps.toList))
  | [] => by simp [Str.join, jn, Str.empty]
  | [a] => rfl
  | a :: b :: r => by
    show (a ++ one 32 ++ Str.join (one 32) (b :: r)).cps.toList = _
    rw [Str.cps_append, Str.cps_append, Array.toList_append, Array.toList_append, join_jn (b :: r)]
    show _ = a.cps.toList ++ 32 :: jn (b.cps.toList :: r.map (·.cps.toList))
    rw [List.append_assoc]
    rfl
theorem cut_inj : ∀ {a b r s : List Nat}, 32 ∉ a → 32 ∉ b → a ++ 32 :: r = b ++ 32 :: s → a = b ∧ r = s
  | [], [], r, s, _, _, h => by simpa using h
  | [], c :: b, r, s, _, hb, h => by
    rw [List.nil_append, List.cons_append] at h
    exact absurd (List.cons.inj h).1 fun z => hb (z ▸ .head _)
  | c :: a, [], r, s, ha, _, h => by
    rw [List.nil_append, List.cons_append] at h
    exact absurd (List.cons.inj h).1.symm fun z => ha (z ▸ .head _)
  | c :: a, d :: b, r, s, ha, hb, h => by
    rw [List.cons_append, List.cons_append] at h
    obtain ⟨h1, h2⟩ := List.cons.inj h
    obtain ⟨e1, e2⟩ := cut_inj (fun z => ha (.tail _ z)) (fun z => hb (.tail _ z)) h2
    exact ⟨by rw [h1, e1], e2⟩
theorem jn_inj : ∀ {ps qs : List (List Nat)}, ps ≠ [] → qs ≠ [] → (∀ p ∈ ps, 32 ∉ p) → (∀ p ∈ qs, 32 ∉ p) → jn ps = jn qs → ps = qs
  | [], _, h, _, _, _, _ => absurd rfl h
  | _, [], _, h, _, _, _ => absurd rfl h
  | [a], [b], _, _, _, _, e => by rw [show a = b from e]
  | [a], b :: c :: r, _, _, hp, _, e => by
    rw [jn_cons2] at e
    have : 32 ∈ a := by rw [show a = _ from e]; simp
    exact absurd this (hp a (.head _))
  | a :: c :: r, [b], _, _, _, hq, e => by
    rw [jn_cons2] at e
    have : 32 ∈ b := by rw [show b = _ from e.symm]; simp
    exact absurd this (hq b (.head _))
  | a :: b :: r, c :: d :: s, _, _, hp, hq, e => by
    rw [jn_cons2, jn_cons2] at e
    obtain ⟨e1, e2⟩ := cut_inj (hp a (.head _)) (hq c (.head _)) e
    rw [e1, jn_inj (ps := b :: r) (qs := d :: s) nofun nofun (fun p h => hp p (.tail _ h)) (fun p h => hq p (.tail _ h)) e2]
theorem map_cps_inj : ∀ {a b : List Str}, a.map (·.cps.toList) = b.map (·.cps.toList) → a = b
  | [], [], _ => rfl
  | [], _ :: _, h => nomatch h
  | _ :: _, [], h => nomatch h
  | x :: a, y :: b, h => by
    rw [List.map_cons, List.map_cons] at h
    obtain ⟨h1, h2⟩ := List.cons.inj h
    rw [Str.ext' (Array.toList_inj.mp h1), map_cps_inj h2]
theorem parts_join {ps : List Str} (h0 : ps ≠ []) (h : ∀ p ∈ ps, 32 ∉ p.cps.toList) {x : Str} (hx : x.cps.toList = jn (ps.map (·.cps.toList))) : partsOf x = ps := by
  show Txt.split x (Str.ofString " ") = ps
  rw [S32]
  refine map_cps_inj (jn_inj ?_ ?_ ?_ ?_ ?_)
  · intro z
    have := split_pos x (one 32)
    rw [List.map_eq_nil_iff.mp z] at this
    exact absurd this (by simp)
  · simpa using h0
  · intro p hp
    obtain ⟨q, hq, e⟩ := List.mem_map.mp hp
    rw [← e]; exact StrLaws.split_free x 32 q hq
  · intro p hp
    obtain ⟨q, hq, e⟩ := List.mem_map.mp hp
    rw [← e]; exact h q hq
  · rw [← join_jn, ← hx]
    exact congrArg (fun s : Str => s.cps.toList) (StrLaws.join_split x (one 32))
theorem parts_row {ps : List Str} (h0 : ps ≠ []) (h : ∀ p ∈ ps, 32 ∉ p.cps.toList) : partsOf (Txt.join (Str.ofString " ") ps) = ps := by
  refine parts_join h0 h ?_
  rw [S32]
  show (Builtin.Str.glued (one 32) ps).cps.toList = _
  rw [StrLaws.glued_eq_join, join_jn]
theorem free33 {x : Str} (h : ∀ c ∈ x.cps.toList, 33 ≤ c ∧ c ≤ 126) : 32 ∉ x.cps.toList := fun z => by have := h 32 z; omega
theorem ne33 {x : Str} (h : x.cps.toList ≠ []) : x ≠ Str.ofString "" := fun z => h (by rw [z, SE]; rfl)
theorem num_ok33 (v : Int) : ∀ c ∈ (tx (numL v)).cps.toList, 33 ≤ c ∧ c ≤ 126 := fun c hc => by
  have := numL_ok v c hc; omega
theorem parted_row {a b c d : Str} (ha : ∀ k ∈ a.cps.toList, 33 ≤ k ∧ k ≤ 126) (hb : ∀ k ∈ b.cps.toList, 33 ≤ k ∧ k ≤ 126) (hc : ∀ k ∈ c.cps.toList, 33 ≤ k ∧ k ≤ 126) (hd : ∀ k ∈ d.cps.toList, 33 ≤ k ∧ k ≤ 126)
    (ha' : a.cps.toList ≠ []) (hb' : b.cps.toList ≠ []) (hc' : c.cps.toList ≠ []) (hd' : d.cps.toList ≠ []) : partedL (Txt.join (Str.ofString " ") [a, b, c, d]) = [a, b, c, d] := by
  have e : partsOf (Txt.join (Str.ofString " ") [a, b, c, d]) = [a, b, c, d] := by
    refine parts_row nofun fun p hp => ?_
    simp only [List.mem_cons, List.not_mem_nil, or_false] at hp
    rcases hp with h | h | h | h <;> rw [h]
    · exact free33 ha
    · exact free33 hb
    · exact free33 hc
    · exact free33 hd
  unfold partedL
  rw [e, if_neg]
  simp only [List.mem_cons, List.not_mem_nil, or_false, not_or]
  exact ⟨(ne33 ha').symm, (ne33 hb').symm, (ne33 hc').symm, (ne33 hd').symm⟩
theorem SE_cps : (Str.ofString "").cps.toList = [] := by decide +kernel
theorem SS_cps : (Str.ofString "  ").cps.toList = [32, 32] := by decide +kernel
theorem S1_cps : (Str.ofString " ").cps.toList = [32] := by decide +kernel
theorem parted_two {a b : Str} (ha : 32 ∉ a.cps.toList) (hb : 32 ∉ b.cps.toList) : partedL (a ++ Str.ofString "  " ++ b) = [] := by
  unfold partedL
  rw [if_pos]
  rw [parts_join (ps := [a, Str.ofString "", b]) nofun]
  · exact .tail _ (.head _)
  · intro p hp
    simp only [List.mem_cons, List.not_mem_nil, or_false] at hp
    rcases hp with h | h | h <;> rw [h]
    · exact ha
    · rw [SE_cps]; nofun
    · exact hb
  · rw [Str.cps_append, Str.cps_append, Array.toList_append, Array.toList_append, SS_cps]
    simp only [List.map_cons, List.map_nil, SE_cps, jn]
    simp
theorem parted_front {a : Str} (ha : 32 ∉ a.cps.toList) : partedL (Str.ofString " " ++ a) = [] := by
  unfold partedL
  rw [if_pos]
  rw [parts_join (ps := [Str.ofString "", a]) nofun]
  · exact .head _
  · intro p hp
    simp only [List.mem_cons, List.not_mem_nil, or_false] at hp
    rcases hp with h | h <;> rw [h]
    · rw [SE_cps]; nofun
    · exact ha
  · rw [Str.cps_append, Array.toList_append, S1_cps]
    simp only [List.map_cons, List.map_nil, SE_cps, jn]
    simp
theorem parted_back {a : Str} (ha : 32 ∉ a.cps.toList) : partedL (a ++ Str.ofString " ") = [] := by
  unfold partedL
  rw [if_pos]
  rw [parts_join (ps := [a, Str.ofString ""]) nofun]
  · exact .tail _ (.head _)
  · intro p hp
    simp only [List.mem_cons, List.not_mem_nil, or_false] at hp
    rcases hp with h | h <;> rw [h]
    · exact ha
    · rw [SE_cps]; nofun
  · rw [Str.cps_append, Array.toList_append, S1_cps]
    simp only [List.map_cons, List.map_nil, SE_cps, jn]
/-! the three written words -/
theorem w061 : (Str.ofString "'\\x061\\'").cps.toList = [39, 92, 120, 48, 54, 49, 92, 39] := by decide +kernel
theorem w20 : (Str.ofString "'\\x20\\'").cps.toList = [39, 92, 120, 50, 48, 92, 39] := by decide +kernel
theorem quoted_blank : quoted (Str.ofString " ") = Str.ofString "'\\x20\\'" := by
  rw [quoted_else (by decide +kernel), S1_cps, str_tx (Str.ofString "'\\x20\\'"), w20]
  congr 1
  unfold quotedL escS
  have e : hexL 32 = [50, 48] := by rw [hexL, hexL]; decide
  simp [e]
theorem unq_blank : unq (Str.ofString "'\\x20\\'") = some (Str.ofString " ") := by
  rw [← quoted_blank]
  exact unq_quoted (by rw [S1_cps]; simp)
theorem unq_061 : unq (Str.ofString "'\\x061\\'") = none := by
  cases h : unq (Str.ofString "'\\x061\\'") with
  | none => rfl
  | some y =>
    have hb := unq_back h
    have hi : (innerOf (Str.ofString "'\\x061\\'")).cps.toList = [92, 120, 48, 54, 49, 92] := by decide +kernel
    have hu : unesc [92, 120, 48, 54, 49, 92] = some [97] := by
      rw [unesc, if_pos rfl, if_pos (by decide)]
      have e1 : ([120, 48, 54, 49, 92] : List Nat).takeWhile (· != 92) = [120, 48, 54, 49] := by decide
      have e2 : readC [48, 54, 49] 0 = some 97 := by decide
      have e3 : ([120, 48, 54, 49, 92] : List Nat).drop (([120, 48, 54, 49] : List Nat).length + 1) = [] := by decide
      rw [e1]
      simp only [e2, e3, unesc]
      rfl
    have hs := unq_some (x := Str.ofString "'\\x061\\'") (l := [97]) (by decide +kernel) (by decide +kernel) (by decide +kernel) (by decide +kernel) (by rw [hi, hu])
    rw [hs] at h
    have hq : quoted (tx [97]) = tx [97] := quoted_alnum (by decide +kernel)
    rw [hq, if_pos (by decide +kernel)] at h
    cases h
theorem unq_empty : unq (Str.ofString "") = none := by
  unfold unq
  rw [if_neg (by decide +kernel), if_pos (by decide +kernel)]
end
section
theorem lines_X2 : True := by
  w_top off
  k_with_none
  (k_with "mine: start" => (unfold PS; k_fill; intros; rename_i hret hexc; refine wpAny_call ?_; k_dflt cell_enter))
  (k_with "mine: sub" => (first | exact fun _ h => h | exact fun _ h => List.mem_append_left _ h | (intro _ h; simp only [List.mem_append, List.mem_cons, h, true_or, or_true])))
  (k_with "mine: end" => ((first | refine endB (by assumption) (by k_asm) (by k_asm) (by walk_at "mine: sub") (resB ?_) | refine endI (by assumption) (by k_asm) (by k_asm) (by walk_at "mine: sub") (resI ?_) | refine endS (by assumption) (by k_asm) (by k_asm) (by walk_at "mine: sub") (resS ?_))))
  (k_with "mine: fill" => ((intro t' h' tk' F' N'); (try dsimp only); (try k_sweep); (try k_fold)))
  (k_with "exec While Compare cons nil" => (k_here; refine Mark.out ?_))
  (k_with "exec For Name Name cons nil" => (k_here; refine Mark.out ?_))
  (k_with "exec For Name Call cons nil" => (k_here; refine Mark.out ?_))
  (k_with "exec For Name List cons nil" => (k_here; refine Mark.out ?_))
  (k_with "binaryOp Add str str" => (k_here; (with_reducible show wpAny _ _ (binaryOp Operator.Add (Value.str _ _) (Value.str _ _)) _ _ _); (refine add_str ?_ (by first | (walk_at "mine: size") | fail)); intro _ _))
  (k_with "mine: same" => (intro z h2 h3; (simp only [List.forall_mem_cons, List.not_mem_nil, false_implies, implies_true, and_true, ne_eq] at h2); first | ((simp only [List.contains_cons, List.contains_nil, Bool.or_false, Bool.or_eq_false_iff, beq_eq_false_iff_ne, ne_eq] at h3); (simp [h2, h3, kstB]; done)) | (simp [h2, kstB]; done)))
  (k_with "call builtin:list.append" => (k_here; (with_reducible show wpAny _ _ (call (Value.builtin _) [Value.ref _, _]) _ _ _); k_dflt (refine append_K (by first | (k_asm) | fail) (by first | (k_asm) | fail) (by first | (k_upd) | fail) ?_ (by first | (walk_at "mine: size") | fail); k_whole); intro h' F' N'; (try simp only [List.push_toArray] at N'); (try k_sweep)))
  (k_with "InvEndN" => (refine Mark.out ?_))
  (k_with "KswEnd" => (refine Mark.out ?_))
  (k_with "call builtin:str.join" => (k_here; refine Mark.out ?_))
  (k_with "mine: sameN" => (intro z h1 h2 h3; (simp only [List.forall_mem_cons, List.not_mem_nil, false_implies, implies_true, and_true, ne_eq] at h2); first | ((simp only [List.contains_cons, List.contains_nil, Bool.or_false, Bool.or_eq_false_iff, beq_eq_false_iff_ne, ne_eq] at h3); (simp [h1, h2, h3, kstB]; done)) | (simp [h1, h2, kstB]; done)))
  (k_with "exec Raise some none" => (k_here; k_dflt (refine Raise_fault (by exact rfl) ?_)))
  (k_with "mine: fault" => (k_here; k_dflt (refine fault_call (by first | (k_asm) | fail) (by first | (k_asm) | fail) (by first | (k_asm) | fail) (by first | (k_asm) | fail) (by first | (k_asm) | fail) (by first | (first | exact rfl | assumption) | fail) (by first | (ktr_room) | fail) (by first | (ktr_units) | fail) ?_); (intro e' d' tt' h' tk' F' N' hne'); (refine ⟨_, _, _, rfl, by k_in, (N' _ (List.Mem.head _)).1, ?_⟩); (try dsimp only); (try k_sweep)))
  (k_with "mine: endX" => (refine endX (by assumption) (by k_asm) (by assumption) (by assumption) (by walk_at "mine: sub") ?_))
  (k_with "mine: endR" => ((first | refine endB (by assumption) (by k_asm) (by k_asm) (by walk_at "mine: sub") ?_ | refine endI (by assumption) (by k_asm) (by k_asm) (by walk_at "mine: sub") ?_ | refine endS (by assumption) (by k_asm) (by k_asm) (by walk_at "mine: sub") ?_)))
  (k_with "mine: size" => (rw [sizeLine_eq]; (first | omega | (simp only [Str.length_append, tx_length, len_item, List.length_cons, List.length_nil, List.length_append, List.size_toArray, Array.size_push]; omega))))
  (k_with "mine: filled" => ((intro t' h' tk' F' N'); (try dsimp only); (try k_sweep); (try k_fold)))
  (k_with "mine: startZ" => (unfold PZ; k_fill; intros; rename_i hpre hret hexc; refine wpAny_call ?_; k_dflt cell_enter))
  (k_with "mine: endXZ" => (refine endXZ (by assumption) (by k_asm) (by assumption) (by assumption) (by walk_at "mine: sub") ?_))
  (k_with "mine: endZ" => (refine endZ (by assumption) (by k_asm) (by k_asm) ?_))
  trivial
local macro_rules | `(tactic| ktr_units) => `(tactic| (have hcL9 := cLine_is; ((try simp only [units_under_make, units_in1, units_deeper, Around.mark_units, units_caller] at *); (try dsimp only [ktrTop] at *); omega)))
/-! opaque words -/
def IsQ (x q : Str) : Prop := q = quoted x
def IsN (v : Int) (f : Str) : Prop := f = tx (numL v)
def IsF (y : Str) (v : Int) (g : Str) : Prop := g = ftext y v
theorem isQ_len {x q : Str} (h : IsQ x q) (hl : x.length ≤ 100) (hc : ∀ c ∈ x.cps.toList, c ≤ 1114111) : q.length ≤ 1000 := by
  rw [h]
  unfold quoted
  split
  · omega
  · rw [tx_length]
    unfold quotedL
    have h1 := flat_len hc
    have h2 : x.cps.toList.length = x.length := Array.length_toList
    simp only [List.length_cons, List.length_append, List.length_nil]
    omega
theorem isQ_ok {x q : Str} (h : IsQ x q) : ∀ c ∈ q.cps.toList, 33 ≤ c ∧ c ≤ 126 := by rw [h]; exact quoted_ok x
theorem isQ_le {x q : Str} (h : IsQ x q) : ∀ c ∈ q.cps.toList, c ≤ 1114111 := fun c hc => by have := isQ_ok h c hc; omega
theorem isQ_unq {x q : Str} (h : IsQ x q) (hc : ∀ c ∈ x.cps.toList, c ≤ 1114111) : unq q = some x := by rw [h]; exact unq_quoted hc
theorem escS_pos (n : Nat) : 1 ≤ (escS n).length := by
  unfold escS
  split <;> simp
theorem flat_ge (l : List Nat) : l.length ≤ (l.flatMap escS).length := by
  induction l with
  | nil => exact Nat.le_refl _
  | cons a r ih =>
    rw [List.flatMap_cons, List.length_append, List.length_cons]
    have := escS_pos a
    omega
theorem quoted_ge (x : Str) : x.length ≤ (quoted x).length := by
  unfold quoted
  split
  · omega
  · rw [tx_length]
    unfold quotedL
    have h1 := flat_ge x.cps.toList
    have h2 : x.cps.toList.length = x.length := Array.length_toList
    simp only [List.length_cons, List.length_append, List.length_nil]
    omega
theorem unesc_le : ∀ (n : Nat) (l r : List Nat), l.length ≤ n → (∀ c ∈ l, c ≤ 1114111) → unesc l = some r → ∀ c ∈ r, c ≤ 1114111 := by
  intro n
  induction n with
  | zero =>
    intro l r hl hc h
    have : l = [] := List.eq_nil_of_length_eq_zero (by omega)
    subst this
    rw [unesc] at h
    cases h
    nofun
  | succ n ih =>
    intro l r hl hc h
    cases l with
    | nil => rw [unesc] at h; cases h; nofun
    | cons a t =>
      rw [List.length_cons] at hl
      rw [unesc] at h
      split at h
      · split at h
        · split at h
          · rename_i d ds hw
            split at h
            · rename_i v hv
              obtain ⟨r', h1, h2⟩ := Option.map_eq_some_iff.mp h
              subst h2
              intro c hc'
              rcases List.mem_cons.mp hc' with e | e
              · rw [e]; exact readC_le (Nat.zero_le _) hv
              · exact ih _ r' (by rw [List.length_drop]; omega) (fun c hc2 => hc c (.tail _ (List.mem_of_mem_drop hc2))) h1 c e
            · cases h
          · cases h
        · cases h
      · obtain ⟨r', h1, h2⟩ := Option.map_eq_some_iff.mp h
        subst h2
        intro c hc'
        rcases List.mem_cons.mp hc' with e | e
        · rw [e]; exact hc a (.head _)
        · exact ih t r' (by omega) (fun c hc2 => hc c (.tail _ hc2)) h1 c e
theorem unq_le {x y : Str} (hc : ∀ c ∈ x.cps.toList, c ≤ 1114111) (h : unq x = some y) : ∀ c ∈ y.cps.toList, c ≤ 1114111 := by
  unfold unq at h
  split at h
  · cases h; exact hc
  · split at h
    · cases h
    · split at h
      · cases h
      · split at h
        · cases h
        · split at h
          · cases h
          · rename_i l hl
            split at h
            · cases h
            · cases h
              exact unesc_le _ _ l (Nat.le_refl _) (fun c hc2 => hc c (slice_mem hc2)) hl
theorem countedV_no {x : Str} {v : Int} (h : IsN v x) : countedV x = if 0 ≤ v then v else -1 := by rw [h]; exact counted_num v
theorem isN_len {v : Int} {f : Str} (h : IsN v f) (hv : v.natAbs < 10 ^ 72) : f.length ≤ 73 := by rw [h]; exact numL_len hv
section
open PySem.Builtin.Str
variable {prog : Program} {w : World} {A : Around} {E : Value → Shared → Prop} {s : Shared} {Q : Value → Shared → Prop} {x y q q2 : Str} {t u : Tok}
theorem in_q {c : Nat} {z : Str} (hz : z = one c) (hc : c < 33) (h : IsQ x q) (k : Q (.bool false) s) : wpAny (model prog w) A (compareOp .In (.str z u) (.str q t)) Q E s := by
  refine PyProof.Rows.in_str ?_
  have e : occurrences q z 0 q.length 1 = [] := by
    rw [hz]
    rcases StrLaws.occ_head q (one c) 1 (Nat.le_refl 1) with ⟨h0, _⟩ | ⟨i, r, _, ha, _⟩
    · exact h0
    · have hi := (StrLaws.subAt_one q c i).mp ha
      have := isQ_ok h c (List.mem_of_getElem? hi)
      omega
  rw [e]
  exact k
theorem eq_q (h1 : IsQ y q2) (h2 : IsQ x q) (hx : ∀ c ∈ x.cps.toList, c ≤ 1114111) (hy : ∀ c ∈ y.cps.toList, c ≤ 1114111) (k : Q (.bool (x == y)) s) : wpAny (model prog w) A (compareOp .Eq (.str q2 t) (.str q u)) Q E s := by
  refine PyProof.Rows.eq_str ?_
  have e : (q2 == q) = (x == y) := by
    rw [Bool.eq_iff_iff, beq_iff_eq, beq_iff_eq]
    constructor
    · intro h; rw [h1, h2] at h; exact (quoted_inj hy hx h).symm
    · intro h; rw [h1, h2, h]
  rw [e]; exact k
theorem ne_q (h1 : IsQ y q) (h2 : quoted y = x) (k : Q (.bool false) s) : wpAny (model prog w) A (compareOp .NotEq (.str q t) (.str x u)) Q E s := by
  refine PyProof.Rows.ne_str ?_
  have e : (q != x) = false := by rw [h1, h2]; simp
  rw [e]; exact k
theorem ne_bool_self {a b : Bool} (h : a = b) (k : Q (.bool false) s) : wpAny (model prog w) A (compareOp .NotEq (.bool a) (.bool b)) Q E s := by
  refine PyProof.Rows.ne_bool ?_
  subst h
  simpa using k
end
section
variable {w : World} {mean : ExcName → Option Value} {mg mb : Str → Option Value} {news : List (Addr × Obj)}
    {dp un : Nat} {gd : Option (List Code)} {cn : Str} {cs : Scope} {a : Addr} {ccd : Value} {cl : List (Str × Addr)} {outer : List Env} {A₀ : Around} {base h₀ : Heap} {L : Addr} {m : Str → Option Value} {s : Shared} {Q E : Value → Shared → Prop}
section
variable (B : Below A₀ base outer h₀) (F : Fr h₀ L s.heap m) (K : (hd.heap_1 w.params).In h₀) (N : News h₀ L s.heap news) (T : Top vw (looseW vw [Str.ofString "LinkFault"]) mean mg mb h₀) (hk : cs.kind = .function)
include B F K N T hk
theorem symbols_call (hdp : dp + 12 < recursionLimit) (hu : un + 8 * 12 < cLine)
    (hret : ∀ o dx l d f e ts fs news' h' tk', ts.length ≤ 100 → fs.length ≤ 100 → Sym w news' o dx l d f e ts fs → Fr h₀ L h' m → News h₀ L h' news' → Q (.ref o) { s with heap := h', toks := tk' }) :
    wpAny (model PySem.Challenge.rw_ok0015_01.row.prog w) (ktrTop dp un gd cn cs L a ccd cl outer) (call (.ref 155) []) Q E s :=
  (symbols_spec w mean mg mb).calm B F K N T hk hdp hu trivial fun v news' h' tk' ⟨o, dx, l, d, f, e, ts, fs, e1, q1, q2, S⟩ F2 N2 => by
    rw [e1]
    exact hret o dx l d f e ts fs news' h' tk' q1 q2 S F2 N2
theorem name_of_call {l : Addr} {p : Int} {t : Tok} (hdp : dp + 3 < recursionLimit) (hu : un + 8 * 3 < cLine) (ha : 0 ≤ p) (hpre : IntList l h₀ news)
    (hret : ∀ x t' h' tk', x.length ≤ 100 → (∀ c ∈ x.cps.toList, c ≤ 1114111) → Fr h₀ L h' m → News h₀ L h' news → Q (.str x t') { s with heap := h', toks := tk' }) :
    wpAny (model PySem.Challenge.rw_ok0015_01.row.prog w) (ktrTop dp un gd cn cs L a ccd cl outer) (call (.ref 285) [.ref l, .int p t]) Q E s :=
  (law_name_spec w mean mg mb l p t ha).calm B F K N T hk hdp hu hpre fun v news' h' tk' ⟨e0, x, t', e1, q1, q2⟩ F2 N2 => by
    rw [e1]
    rw [e0] at N2
    exact hret x t' h' tk' (by omega) q2 F2 N2
end
section
variable (B : Below A₀ h₀ [] h₀) (F : Fr h₀ L s.heap m) (K : (hd.heap_1 w.params).In h₀) (N : News h₀ L s.heap news) (T : Top vw (looseW vw [Str.ofString "LinkFault"]) mean mg mb h₀) (hk : cs.kind = .function)
include B F K N T hk
abbrev pairObj (y z : Str) (t u : Tok) : Obj := { cls := .type "tuple", data := .seq #[.str y t, .str z u] }
theorem read_call {x : Str} {t : Tok} (hdp : dp + 7 < recursionLimit) (hu : un + 8 * 7 < cLine) (hv : x.length ≤ 50000) (hc : ∀ c ∈ x.cps.toList, c ≤ 1114111)
    (hret : ∀ D t u h' tk', Fr h₀ L h' m → News h₀ L h' ((D, pairObj (readV x).1 (readV x).2 t u) :: news) → (∀ p ∈ news, p.1 ≠ D) → Q (.ref D) { s with heap := h', toks := tk' }) :
    wpAny (model PySem.Challenge.rw_ok0015_01.row.prog w) (ktrTop dp un gd cn cs L a ccd [] []) (call (.ref 292) [.str x t]) Q E s :=
  (law_read_spec w mean mg mb x t hv hc) news dp un gd cn cs a ccd A₀ h₀ L m s Q E B F K N T hk hdp hu trivial fun v news' h' tk' ⟨D, t, u, e1, e2, hne⟩ F2 N2 => by
    rw [e1]
    rw [e2] at N2
    exact hret D t u h' tk' F2 N2 hne
theorem counted_call {x : Str} {t : Tok} (hdp : dp + 4 < recursionLimit) (hu : un + 8 * 4 < cLine) (hv : x.length ≤ 1000)
    (hret : ∀ t' h' tk', Fr h₀ L h' m → News h₀ L h' news → Q (.int (countedV x) t') { s with heap := h', toks := tk' }) :
    wpAny (model PySem.Challenge.rw_ok0015_01.row.prog w) (ktrTop dp un gd cn cs L a ccd [] []) (call (.ref 299) [.str x t]) Q E s :=
  (law_counted_spec w mean mg mb x t hv) news dp un gd cn cs a ccd A₀ h₀ L m s Q E B F K N T hk hdp hu trivial fun v news' h' tk' ⟨e0, t', e1⟩ F2 N2 => by
    rw [e1]
    rw [e0] at N2
    exact hret t' h' tk' F2 N2
theorem parted_call {x : Str} {t : Tok} (hdp : dp + 4 < recursionLimit) (hu : un + 8 * 4 < cLine) (hv : x.length ≤ 1000000)
    (hret : ∀ l vs n h' tk', StrsAre vs (partedL x) → Fr h₀ L h' m → News h₀ L h' ((l, listOf vs.toArray n) :: news) → (∀ p ∈ news, p.1 ≠ l) → Q (.ref l) { s with heap := h', toks := tk' }) :
    wpAny (model PySem.Challenge.rw_ok0015_01.row.prog w) (ktrTop dp un gd cn cs L a ccd [] []) (call (.ref 306) [.str x t]) Q E s :=
  (law_parted_spec w mean mg mb x t hv) news dp un gd cn cs a ccd A₀ h₀ L m s Q E B F K N T hk hdp hu trivial fun v news' h' tk' ⟨l, vs, n, e1, hA, e2, hne⟩ F2 N2 => by
    rw [e1]
    rw [e2] at N2
    exact hret l vs n h' tk' hA F2 N2 hne
theorem quotedQ_call {x : Str} {t : Tok} (hdp : dp + 5 < recursionLimit) (hu : un + 8 * 5 < cLine) (hl : x.length ≤ 100) (hc : ∀ c ∈ x.cps.toList, c ≤ 1114111)
    (hret : ∀ q t' h' tk', IsQ x q → q.length ≤ 1000 → Fr h₀ L h' m → News h₀ L h' news → Q (.str q t') { s with heap := h', toks := tk' }) :
    wpAny (model PySem.Challenge.rw_ok0015_01.row.prog w) (ktrTop dp un gd cn cs L a ccd [] []) (call (.ref 215) [.str x t]) Q E s :=
  (quoted_name_spec w mean mg mb x t (by omega) hc).ok B F K N T hk hdp hu fun t' h' tk' F2 N2 => hret _ t' h' tk' rfl (isQ_len rfl hl hc) F2 N2
theorem readQ_call {x q : Str} {t : Tok} (hdp : dp + 7 < recursionLimit) (hu : un + 8 * 7 < cLine) (hq : IsQ x q) (hl : q.length ≤ 1000) (hc : ∀ c ∈ x.cps.toList, c ≤ 1114111)
    (hret : ∀ D t u h' tk', Fr h₀ L h' m → News h₀ L h' ((D, pairObj (Str.ofString "name") x t u) :: news) → (∀ p ∈ news, p.1 ≠ D) → Q (.ref D) { s with heap := h', toks := tk' }) :
    wpAny (model PySem.Challenge.rw_ok0015_01.row.prog w) (ktrTop dp un gd cn cs L a ccd [] []) (call (.ref 292) [.str q t]) Q E s :=
  read_call B F K N T hk hdp hu (by omega) (isQ_le hq) fun D t u h' tk' F2 N2 hne => by
    rw [read_some (isQ_unq hq hc)] at N2
    exact hret D t u h' tk' F2 N2 hne
theorem readF_call {x : Str} {t : Tok} (hdp : dp + 7 < recursionLimit) (hu : un + 8 * 7 < cLine) (hn : unq x = none) (hl : x.length ≤ 1000) (hc : ∀ c ∈ x.cps.toList, c ≤ 1114111)
    (hret : ∀ D t u h' tk', Fr h₀ L h' m → News h₀ L h' ((D, pairObj (Str.ofString "fault") (Str.ofString "") t u) :: news) → (∀ p ∈ news, p.1 ≠ D) → Q (.ref D) { s with heap := h', toks := tk' }) :
    wpAny (model PySem.Challenge.rw_ok0015_01.row.prog w) (ktrTop dp un gd cn cs L a ccd [] []) (call (.ref 292) [.str x t]) Q E s :=
  read_call B F K N T hk hdp hu (by omega) hc fun D t u h' tk' F2 N2 hne => by
    rw [read_none hn] at N2
    exact hret D t u h' tk' F2 N2 hne
theorem readS_call {x y : Str} {t : Tok} (hdp : dp + 7 < recursionLimit) (hu : un + 8 * 7 < cLine) (hn : unq x = some y) (hl : x.length ≤ 1000) (hc : ∀ c ∈ x.cps.toList, c ≤ 1114111)
    (hret : ∀ D t u h' tk', Fr h₀ L h' m → News h₀ L h' ((D, pairObj (Str.ofString "name") y t u) :: news) → (∀ p ∈ news, p.1 ≠ D) → Q (.ref D) { s with heap := h', toks := tk' }) :
    wpAny (model PySem.Challenge.rw_ok0015_01.row.prog w) (ktrTop dp un gd cn cs L a ccd [] []) (call (.ref 292) [.str x t]) Q E s :=
  read_call B F K N T hk hdp hu (by omega) hc fun D t u h' tk' F2 N2 hne => by
    rw [read_some hn] at N2
    exact hret D t u h' tk' F2 N2 hne
/-- any word: a name, or a fault -/
theorem read2_call {x : Str} {t : Tok} (hdp : dp + 7 < recursionLimit) (hu : un + 8 * 7 < cLine) (hl : x.length ≤ 100) (hc : ∀ c ∈ x.cps.toList, c ≤ 1114111)
    (hname : ∀ y D t u h' tk', y.length ≤ 100 → (∀ c ∈ y.cps.toList, c ≤ 1114111) → quoted y = x → Fr h₀ L h' m → News h₀ L h' ((D, pairObj (Str.ofString "name") y t u) :: news) → (∀ p ∈ news, p.1 ≠ D) → Q (.ref D) { s with heap := h', toks := tk' })
    (hfault : ∀ D t u h' tk', Fr h₀ L h' m → News h₀ L h' ((D, pairObj (Str.ofString "fault") (Str.ofString "") t u) :: news) → (∀ p ∈ news, p.1 ≠ D) → Q (.ref D) { s with heap := h', toks := tk' }) :
    wpAny (model PySem.Challenge.rw_ok0015_01.row.prog w) (ktrTop dp un gd cn cs L a ccd [] []) (call (.ref 292) [.str x t]) Q E s := by
  cases hn : unq x with
  | none => exact readF_call B F K N T hk hdp hu hn (by omega) hc hfault
  | some y =>
    have hq := unq_back hn
    have hge := quoted_ge y
    rw [hq] at hge
    exact readS_call B F K N T hk hdp hu hn (by omega) hc fun D t u h' tk' F2 N2 hne => hname y D t u h' tk' (by omega) (unq_le hc hn) hq F2 N2 hne
theorem counted_neg_call {x : Str} {t : Tok} (hdp : dp + 4 < recursionLimit) (hu : un + 8 * 4 < cLine) (hn : countedV x = -1) (hv : x.length ≤ 1000)
    (hret : ∀ t' h' tk', Fr h₀ L h' m → News h₀ L h' news → Q (.int (-1) t') { s with heap := h', toks := tk' }) :
    wpAny (model PySem.Challenge.rw_ok0015_01.row.prog w) (ktrTop dp un gd cn cs L a ccd [] []) (call (.ref 299) [.str x t]) Q E s :=
  counted_call B F K N T hk hdp hu hv fun t' h' tk' F2 N2 => by rw [hn]; exact hret t' h' tk' F2 N2
theorem parted_nil_call {x : Str} {t : Tok} (hdp : dp + 4 < recursionLimit) (hu : un + 8 * 4 < cLine) (hn : partedL x = []) (hv : x.length ≤ 1000000)
    (hret : ∀ l n h' tk', Fr h₀ L h' m → News h₀ L h' ((l, listOf #[] n) :: news) → (∀ p ∈ news, p.1 ≠ l) → Q (.ref l) { s with heap := h', toks := tk' }) :
    wpAny (model PySem.Challenge.rw_ok0015_01.row.prog w) (ktrTop dp un gd cn cs L a ccd [] []) (call (.ref 306) [.str x t]) Q E s :=
  parted_call B F K N T hk hdp hu hv fun l vs n h' tk' hA F2 N2 hne => by
    rw [hn] at hA
    cases hA
    exact hret l n h' tk' F2 N2 hne
theorem parted_four_call {x a1 a2 a3 a4 : Str} {t : Tok} (hdp : dp + 4 < recursionLimit) (hu : un + 8 * 4 < cLine) (hn : partedL x = [a1, a2, a3, a4]) (hv : x.length ≤ 1000000)
    (hret : ∀ l n t1 t2 t3 t4 h' tk', Fr h₀ L h' m → News h₀ L h' ((l, listOf #[.str a1 t1, .str a2 t2, .str a3 t3, .str a4 t4] n) :: news) → (∀ p ∈ news, p.1 ≠ l) → Q (.ref l) { s with heap := h', toks := tk' }) :
    wpAny (model PySem.Challenge.rw_ok0015_01.row.prog w) (ktrTop dp un gd cn cs L a ccd [] []) (call (.ref 306) [.str x t]) Q E s :=
  parted_call B F K N T hk hdp hu hv fun l vs n h' tk' hA F2 N2 hne => by
    rw [hn] at hA
    cases hA with
    | cons _ t1 hA => cases hA with
      | cons _ t2 hA => cases hA with
        | cons _ t3 hA => cases hA with
          | cons _ t4 hA =>
            cases hA
            exact hret l n t1 t2 t3 t4 h' tk' F2 N2 hne
end
end
section
open PySem.Spec
variable {prog : Program} {w : World} {A : Around} {E : Value → Shared → Prop} {s : Shared} {h₀ : Heap} {L : Addr} {news : List (Addr × Obj)} {Q : Value → Shared → Prop} {D D' : Addr}
def CpOk (x : Str) : Prop := ∀ c ∈ x.cps.toList, c ≤ 1114111
theorem strOk_of {x : Str} (h : CpOk x) : PyData.strOk x = true := by
  unfold PyData.strOk
  rw [Array.all_eq_true']
  intro c hc
  have := h c (Array.mem_toList_iff.mpr hc)
  simp; omega
theorem ne_strs2 {a b : Str} {t u t' u' : Tok} (N : News h₀ L s.heap news) (h1 : (D, pairObj a b t u) ∈ news) (h2 : (D', pairObj a b t' u') ∈ news) (ca : CpOk a) (cb : CpOk b) (hu : A.units + 64 < cLine) (k : Q (.bool false) s) :
    wpAny (model prog w) A (compareOp .NotEq (.ref D) (.ref D')) Q E s := by
  refine ne_dataH (reads_tuple_at (News.get N h1) rfl rfl (.cons (.str _ _) (.cons (.str _ _) .nil))) (reads_tuple_at (News.get N h2) rfl rfl (.cons (.str _ _) (.cons (.str _ _) .nil))) ?_ ?_ hu ?_
  · simp [SeqAt.shaped, PyData.canLay0, PyData.canLayAll0, PyData.depth, PyData.depthAll, strOk_of ca, strOk_of cb]
  · simp [SeqAt.shaped, PyData.canLay0, PyData.canLayAll0, PyData.depth, PyData.depthAll, strOk_of ca, strOk_of cb]
  · simpa [PyData.eqv, PyData.eqvAll] using k
theorem ne_ints2 {a b : Int} {t u t' u' : Tok} (N : News h₀ L s.heap news) (h1 : (D, tup2 a b t u) ∈ news) (h2 : (D', tup2 a b t' u') ∈ news) (hu : A.units + 64 < cLine) (k : Q (.bool false) s) :
    wpAny (model prog w) A (compareOp .NotEq (.ref D) (.ref D')) Q E s := by
  refine ne_dataH (reads_tuple_at (News.get N h1) rfl rfl (.cons (.int _ _) (.cons (.int _ _) .nil))) (reads_tuple_at (News.get N h2) rfl rfl (.cons (.int _ _) (.cons (.int _ _) .nil))) ?_ ?_ hu ?_
  · simp [SeqAt.shaped, PyData.canLay0, PyData.canLayAll0, PyData.depth, PyData.depthAll]
  · simp [SeqAt.shaped, PyData.canLay0, PyData.canLayAll0, PyData.depth, PyData.depthAll]
  · simpa [PyData.eqv, PyData.eqvAll] using k
theorem ne_strs4 {a b c d : Str} {n n' : Nat} {t1 t2 t3 t4 u1 u2 u3 u4 : Tok} (N : News h₀ L s.heap news) (h1 : (D, listOf #[.str a t1, .str b t2, .str c t3, .str d t4] n) ∈ news) (h2 : (D', listOf #[.str a u1, .str b u2, .str c u3, .str d u4] n') ∈ news) (ca : CpOk a) (cb : CpOk b) (cc : CpOk c) (cd : CpOk d) (hu : A.units + 64 < cLine) (k : Q (.bool false) s) :
    wpAny (model prog w) A (compareOp .NotEq (.ref D) (.ref D')) Q E s := by
  refine ne_dataH (reads_list_at (News.get N h1) rfl rfl (.cons (.str _ _) (.cons (.str _ _) (.cons (.str _ _) (.cons (.str _ _) .nil))))) (reads_list_at (News.get N h2) rfl rfl (.cons (.str _ _) (.cons (.str _ _) (.cons (.str _ _) (.cons (.str _ _) .nil))))) ?_ ?_ hu ?_
  · simp [SeqAt.shaped, PyData.canLay0, PyData.canLayAll0, PyData.depth, PyData.depthAll, strOk_of ca, strOk_of cb, strOk_of cc, strOk_of cd]
  · simp [SeqAt.shaped, PyData.canLay0, PyData.canLayAll0, PyData.depth, PyData.depthAll, strOk_of ca, strOk_of cb, strOk_of cc, strOk_of cd]
  · simpa [PyData.eqv, PyData.eqvAll] using k
theorem eq_nil {n n' : Nat} (N : News h₀ L s.heap news) (h1 : (D, listOf #[] n) ∈ news) (h2 : (D', listOf #[] n') ∈ news) (hu : A.units + 64 < cLine) (k : Q (.bool true) s) :
    wpAny (model prog w) A (compareOp .Eq (.ref D) (.ref D')) Q E s := by
  refine eq_dataH (reads_list_at (News.get N h1) rfl rfl .nil) (reads_list_at (News.get N h2) rfl rfl .nil) ?_ ?_ hu ?_
  · simp [SeqAt.shaped, PyData.canLay0, PyData.canLayAll0, PyData.depth, PyData.depthAll]
  · simp [SeqAt.shaped, PyData.canLay0, PyData.canLayAll0, PyData.depth, PyData.depthAll]
  · simpa [PyData.eqv, PyData.eqvAll] using k
end
theorem cp_name : CpOk (Str.ofString "name") := by unfold CpOk; decide +kernel
theorem cp_blank : CpOk (Str.ofString " ") := by unfold CpOk; decide +kernel
def MENU : List Str := [Str.ofString "'", Str.ofString "\\", Str.ofString "x", Str.ofString "61", Str.ofString "a", Str.ofString "\\x061\\", Str.ofString "\\x20\\", Str.ofString "b7", Str.ofString "0", Str.ofString "\\xe9\\", Str.ofString "+", Str.ofString "A"]
theorem menu_ok : ∀ k, k < 12 → (MENU.getD k Str.empty).length ≤ 6 ∧ ∀ c ∈ (MENU.getD k Str.empty).cps.toList, c ≤ 1114111 := by decide +kernel
theorem menu_lt {k : Nat} (h : k < 12) : ((k : Nat) : Int) < ((MENU.length : Nat) : Int) := Int.ofNat_lt.mpr h
theorem fit_12 {k : Nat} (h : k < 12) : ((k : Nat) : Int) < 2 ^ 63 := by omega
theorem menu_push {x : Str} {i k : Nat} (hk : k < 12) (h : x.length ≤ 6 * i ∧ ∀ q ∈ x.cps.toList, q ≤ 1114111) : (x ++ MENU.getD ((k : Nat) : Int).toNat Str.empty).length ≤ 6 * (i + 1) ∧ ∀ q ∈ (x ++ MENU.getD ((k : Nat) : Int).toNat Str.empty).cps.toList, q ≤ 1114111 := by
  obtain ⟨h1, h2⟩ := menu_ok k hk
  rw [Int.toNat_natCast]
  refine ⟨by rw [Str.length_append]; omega, fun q hq => ?_⟩
  rw [Str.cps_append, Array.toList_append] at hq
  exact (List.mem_append.mp hq).elim (h.2 q) (h2 q)
theorem menu_size {x : Str} {k : Nat} (hk : k < 12) (h : x.length ≤ 100) : x.length + (MENU.getD ((k : Nat) : Int).toNat Str.empty).length ≤ sizeLine := by
  have := (menu_ok k hk).1
  rw [sizeLine_eq, Int.toNat_natCast]; omega
theorem intlist_sub {l : Addr} {h₀ : Heap} {news news' : List (Addr × Obj)} (x : IntList l h₀ news) (hs : ∀ p ∈ news, p ∈ news') : IntList l h₀ news' :=
  let ⟨vs, ns, hi, hn, hl⟩ := x
  ⟨vs, ns, hi, hn, hl.elim .inl fun ⟨n, z⟩ => .inr ⟨n, hs _ z⟩⟩
theorem QL : (Str.ofString "'").length = 1 := by decide +kernel
theorem quote_ok {x : Str} (h : x.length ≤ 60) (hc : ∀ q ∈ x.cps.toList, q ≤ 1114111) : (Str.ofString "'" ++ x ++ Str.ofString "'").length ≤ 100 ∧ ∀ q ∈ (Str.ofString "'" ++ x ++ Str.ofString "'").cps.toList, q ≤ 1114111 := by
  refine ⟨by rw [Str.length_append, Str.length_append, QL]; omega, fun q hq => ?_⟩
  rw [Str.cps_append, Str.cps_append, Array.toList_append, Array.toList_append, QT] at hq
  rcases List.mem_append.mp hq with h1 | h1
  · rcases List.mem_append.mp h1 with h2 | h2
    · have : q ∈ [39] := h2
      rw [List.mem_singleton.mp this]; decide
    · exact hc q h2
  · have : q ∈ [39] := h1
    rw [List.mem_singleton.mp this]; decide
theorem four_lists {h₀ h : Heap} {L : Addr} {led : List (Addr × Obj)} {s a b c : Addr} {v : Value} (_ : News h₀ L h led) (hv : v ∈ [Value.ref s, Value.ref a, Value.ref b, Value.ref c]) (hs : IntList s h₀ led) (ha : IntList a h₀ led) (hb : IntList b h₀ led) (hc : IntList c h₀ led) : ∃ l0, v = .ref l0 ∧ IntList l0 h₀ led := by
  simp only [List.mem_cons, List.not_mem_nil, or_false] at hv
  rcases hv with e | e | e | e
  · exact ⟨s, e, hs⟩
  · exact ⟨a, e, ha⟩
  · exact ⟨b, e, hb⟩
  · exact ⟨c, e, hc⟩
theorem two_texts {a b : Str} {t u : Tok} {v : Value} (hv : v ∈ [Value.str a t, Value.str b u]) (ha : a.length ≤ 100 ∧ ∀ c ∈ a.cps.toList, c ≤ 1114111) (hb : b.length ≤ 100 ∧ ∀ c ∈ b.cps.toList, c ≤ 1114111) : ∃ y w, v = .str y w ∧ y.length ≤ 100 ∧ ∀ c ∈ y.cps.toList, c ≤ 1114111 := by
  simp only [List.mem_cons, List.not_mem_nil, or_false] at hv
  rcases hv with e | e
  · exact ⟨a, t, e, ha⟩
  · exact ⟨b, u, e, hb⟩
theorem add_front {x : Str} (h : x.length ≤ 60) : (Str.ofString "'").length + x.length ≤ sizeLine := by rw [sizeLine_eq, QL]; omega
theorem add_back {x : Str} (h : x.length ≤ 60) : (Str.ofString "'" ++ x).length + (Str.ofString "'").length ≤ sizeLine := by rw [sizeLine_eq, Str.length_append, QL]; omega
theorem il_mem {l : Addr} {h₀ : Heap} {led : List (Addr × Obj)} {vs : List Value} {ns : List Int} {n : Nat} (hm : (l, listOf vs.toArray n) ∈ led) (hi : IntsAre vs ns) (hn : ns.length ≤ 1000) : IntList l h₀ led := ⟨vs, ns, hi, hn, .inr ⟨n, hm⟩⟩
theorem il_base {l : Addr} {h₀ : Heap} {led : List (Addr × Obj)} {vs : List Value} {ns : List Int} (hm : h₀.IsList l vs.toArray) (hi : IntsAre vs ns) (hn : ns.length ≤ 1000) : IntList l h₀ led := ⟨vs, ns, hi, hn, .inl hm⟩
theorem gen_led {h₀ h : Heap} {L : Addr} {A B : List (Addr × Obj)} (N : News h₀ L h (A ++ B)) : ∃ led, News h₀ L h led ∧ (∀ p ∈ A, p ∈ led) ∧ ∀ p ∈ B, p ∈ led := ⟨_, N, fun _ h => List.mem_append_left _ h, fun _ h => List.mem_append_right _ h⟩
end
section
theorem lines_X4 : True := by
  w_top off
  k_with_none
  (k_with "mine: start" => (unfold PS; k_fill; intros; rename_i hret hexc; refine wpAny_call ?_; k_dflt cell_enter))
  (k_with "mine: sub" => (first | exact fun _ h => h | exact fun _ h => List.mem_append_left _ h | (intro _ h; simp only [List.mem_append, List.mem_cons, h, true_or, or_true])))
  (k_with "mine: end" => ((first | refine endB (by assumption) (by k_asm) (by k_asm) (by walk_at "mine: sub") (resB ?_) | refine endI (by assumption) (by k_asm) (by k_asm) (by walk_at "mine: sub") (resI ?_) | refine endS (by assumption) (by k_asm) (by k_asm) (by walk_at "mine: sub") (resS ?_))))
  (k_with "mine: fill" => ((intro t' h' tk' F' N'); (try dsimp only); (try k_sweep); (try k_fold)))
  (k_with "exec While Compare cons nil" => (k_here; refine Mark.out ?_))
  (k_with "exec For Name Name cons nil" => (k_here; refine Mark.out ?_))
  (k_with "exec For Name Call cons nil" => (k_here; refine Mark.out ?_))
  (k_with "exec For Name List cons nil" => (k_here; refine Mark.out ?_))
  (k_with "binaryOp Add str str" => (k_here; (with_reducible show wpAny _ _ (binaryOp Operator.Add (Value.str _ _) (Value.str _ _)) _ _ _); (refine add_str ?_ (by first | (walk_at "mine: size") | fail)); intro _ _))
  (k_with "mine: same" => (intro z h2 h3; (simp only [List.forall_mem_cons, List.not_mem_nil, false_implies, implies_true, and_true, ne_eq] at h2); first | ((simp only [List.contains_cons, List.contains_nil, Bool.or_false, Bool.or_eq_false_iff, beq_eq_false_iff_ne, ne_eq] at h3); (simp [h2, h3, kstB]; done)) | (simp [h2, kstB]; done)))
  (k_with "call builtin:list.append" => (k_here; (with_reducible show wpAny _ _ (call (Value.builtin _) [Value.ref _, _]) _ _ _); k_dflt (refine append_K (by first | (k_asm) | fail) (by first | (k_asm) | fail) (by first | (k_upd) | fail) ?_ (by first | (walk_at "mine: size") | fail); k_whole); intro h' F' N'; (try simp only [List.push_toArray] at N'); (try k_sweep)))
  (k_with "InvEndN" => (refine Mark.out ?_))
  (k_with "KswEnd" => (refine Mark.out ?_))
  (k_with "call builtin:str.join" => (k_here; refine Mark.out ?_))
  (k_with "mine: sameN" => (intro z h1 h2 h3; (simp only [List.forall_mem_cons, List.not_mem_nil, false_implies, implies_true, and_true, ne_eq] at h2); first | ((simp only [List.contains_cons, List.contains_nil, Bool.or_false, Bool.or_eq_false_iff, beq_eq_false_iff_ne, ne_eq] at h3); (simp [h1, h2, h3, kstB]; done)) | (simp [h1, h2, kstB]; done)))
  (k_with "exec Raise some none" => (k_here; k_dflt (refine Raise_fault (by exact rfl) ?_)))
  (k_with "mine: fault" => (k_here; k_dflt (refine fault_call (by first | (k_asm) | fail) (by first | (k_asm) | fail) (by first | (k_asm) | fail) (by first | (k_asm) | fail) (by first | (k_asm) | fail) (by first | (first | exact rfl | assumption) | fail) (by first | (ktr_room) | fail) (by first | (ktr_units) | fail) ?_); (intro e' d' tt' h' tk' F' N' hne'); (refine ⟨_, _, _, rfl, by k_in, (N' _ (List.Mem.head _)).1, ?_⟩); (try dsimp only); (try k_sweep)))
  (k_with "mine: endX" => (refine endX (by assumption) (by k_asm) (by assumption) (by assumption) (by walk_at "mine: sub") ?_))
  (k_with "mine: endR" => ((first | refine endB (by assumption) (by k_asm) (by k_asm) (by walk_at "mine: sub") ?_ | refine endI (by assumption) (by k_asm) (by k_asm) (by walk_at "mine: sub") ?_ | refine endS (by assumption) (by k_asm) (by k_asm) (by walk_at "mine: sub") ?_)))
  (k_with "mine: size" => (rw [sizeLine_eq]; (first | omega | (simp only [Str.length_append, tx_length, len_item, List.length_cons, List.length_nil, List.length_append, List.size_toArray, Array.size_push]; omega))))
  (k_with "mine: filled" => ((intro t' h' tk' F' N'); (try dsimp only); (try k_sweep); (try k_fold)))
  (k_with "mine: startZ" => (unfold PZ; k_fill; intros; rename_i hpre hret hexc; refine wpAny_call ?_; k_dflt cell_enter))
  (k_with "mine: endXZ" => (refine endXZ (by assumption) (by k_asm) (by assumption) (by assumption) (by walk_at "mine: sub") ?_))
  (k_with "mine: endZ" => (refine endZ (by assumption) (by k_asm) (by k_asm) ?_))
  trivial
theorem not_lt0 {c : Nat} (h : 48 ≤ c) : ¬ (one c).cps.toList < (Str.ofString "0").cps.toList := by
  have e1 : (Str.ofString "0").cps.toList = [48] := by decide +kernel
  rw [e1]
  show ¬ [c] < [48]
  simp [List.cons_lt_cons_iff]; omega
theorem not_gt9 {c : Nat} (h : c ≤ 57) : ¬ (Str.ofString "9").cps.toList < (one c).cps.toList := by
  have e1 : (Str.ofString "9").cps.toList = [57] := by decide +kernel
  rw [e1]
  show ¬ [57] < [c]
  simp [List.cons_lt_cons_iff]; omega
theorem lt0 {c : Nat} (h : c < 48) : (one c).cps.toList < (Str.ofString "0").cps.toList := by
  have e1 : (Str.ofString "0").cps.toList = [48] := by decide +kernel
  rw [e1]
  show [c] < [48]
  simp [List.cons_lt_cons_iff]; omega
theorem gt9 {c : Nat} (h : 57 < c) : (Str.ofString "9").cps.toList < (one c).cps.toList := by
  have e1 : (Str.ofString "9").cps.toList = [57] := by decide +kernel
  rw [e1]
  show [57] < [c]
  simp [List.cons_lt_cons_iff]; omega
theorem isQ_item {x q : Str} (h : IsQ x q) : ∃ c, Txt.item q 0 = one c ∧ (c = 39 ∨ (97 ≤ c ∧ c ≤ 122)) ∧ 1 ≤ q.length := by
  obtain ⟨c, r, e, hc⟩ := quoted_first x
  refine ⟨c, ?_, hc, ?_⟩
  · rw [h, str_tx (quoted x), e, item0_tx]
  · rw [h, str_tx (quoted x), e, tx_length, List.length_cons]; omega
theorem isF_len {y g : Str} {v : Int} (h : IsF y v g) (hl : y.length ≤ 100) (hc : ∀ c ∈ y.cps.toList, c ≤ 1114111) (hv : v.natAbs < 10 ^ 72) : g.length ≤ 1100 := by
  rw [h]
  show (quoted y ++ Str.ofString "/" ++ tx (numL v)).length ≤ 1100
  rw [Str.length_append, Str.length_append]
  have h1 := isQ_len (x := y) rfl hl hc
  have h2 := numL_len hv
  have h3 : (Str.ofString "/").length = 1 := by decide +kernel
  omega
def AtomAt (ts : List Str) (k : Nat) (x : Str) : Prop := k < ts.length ∧ ts.getD k Str.empty = x ∧ addA ts x = ts ∧ ts.idxOf x = k
theorem atomAt_add (ts : List Str) (x : Str) : AtomAt (addA ts x) ((addA ts x).idxOf x) x := by
  have hm : x ∈ addA ts x := by
    unfold addA
    split
    · assumption
    · simp
  have hk := List.idxOf_lt_length_of_mem hm
  refine ⟨hk, ?_, ?_, rfl⟩
  · rw [List.getD_eq_getElem?_getD, List.getElem?_eq_getElem hk, List.getElem_idxOf hk]; rfl
  · generalize addA ts x = a at hm
    unfold addA
    rw [if_pos hm]
def FunAt (fs : List (List Int)) (j : Nat) (key : List Int) : Prop := fs[j]? = some key ∧ addF fs key = fs ∧ fs.idxOf key = j
theorem funAt_add (fs : List (List Int)) (key : List Int) : FunAt (addF fs key) ((addF fs key).idxOf key) key := by
  have hm : key ∈ addF fs key := by
    unfold addF
    split
    · assumption
    · simp
  have hk := List.idxOf_lt_length_of_mem hm
  refine ⟨?_, ?_, rfl⟩
  · rw [List.getElem?_eq_getElem hk, List.getElem_idxOf hk]
  · generalize addF fs key = a at hm
    unfold addF
    rw [if_pos hm]
section
variable {w : World} {mean : ExcName → Option Value} {mg mb : Str → Option Value} {news : List (Addr × Obj)}
    {dp un : Nat} {gd : Option (List Code)} {cn : Str} {cs : Scope} {a : Addr} {ccd : Value} {cl : List (Str × Addr)} {outer : List Env} {A₀ : Around} {base h₀ : Heap} {L : Addr} {m : Str → Option Value} {s : Shared} {Q E : Value → Shared → Prop}
    {o dx l d f e : Addr} {ts : List Str} {fs : List (List Int)}
variable (B : Below A₀ base outer h₀) (F : Fr h₀ L s.heap m) (K : (hd.heap_1 w.params).In h₀) (N : News h₀ L s.heap news) (T : Top vw (looseW vw [Str.ofString "LinkFault"]) mean mg mb h₀) (hk : cs.kind = .function)
include B F K N T hk
theorem const_int_call {D : Addr} {v : Int} {t u : Tok} {sv : Value} (hdp : dp + 4 < recursionLimit) (hu : un + 8 * 4 < cLine) (hv : v.natAbs < 10 ^ 72) (hD : (D, { cls := .type "tuple", data := .seq #[.int 5 t, .int v u] }) ∈ news)
    (hret : ∀ f t' h' tk', IsN v f → f.length ≤ 73 → Fr h₀ L h' m → News h₀ L h' news → Q (.str f t') { s with heap := h', toks := tk' }) :
    wpAny (model PySem.Challenge.rw_ok0015_01.row.prog w) (ktrTop dp un gd cn cs L a ccd cl outer) (call (.ref 236) [sv, .ref D]) Q E s :=
  (constant_int_spec w mean mg mb sv D v t u hv).calm B F K N T hk hdp hu hD fun r news' h' tk' ⟨e0, t', e1⟩ F2 N2 => by
    rw [e1]
    rw [e0] at N2
    exact hret _ t' h' tk' rfl (numL_len hv) F2 N2
theorem read_int_call {v : Int} {f : Str} {t : Tok} {sv : Value} (hdp : dp + 5 < recursionLimit) (hu : un + 8 * 5 < cLine) (hf : IsN v f) (hv : v.natAbs < 10 ^ 72)
    (hret : ∀ D t u h' tk', Fr h₀ L h' m → News h₀ L h' ((D, tup2 5 v t u) :: news) → Q (.ref D) { s with heap := h', toks := tk' }) :
    wpAny (model PySem.Challenge.rw_ok0015_01.row.prog w) (ktrTop dp un gd cn cs L a ccd cl outer) (call (.ref 264) [sv, .str f t]) Q E s := by
  have hl := isN_len hf hv
  obtain ⟨c, r, ed, hc1, hc2⟩ := dec_first v.natAbs
  by_cases h : v < 0
  · have ef : f = tx (45 :: dec v.natAbs) := by rw [hf, numL_neg h]
    have e0 : Txt.item f 0 = one 45 := by rw [ef, item0_tx]
    refine (read_minus_spec w mean mg mb sv f v.natAbs t ?_ ?_ ?_ ?_ ?_ ?_).calm B F K N T hk hdp hu trivial fun r news' h' tk' ⟨D, t, u, e1, e2⟩ F2 N2 => ?_
    · rw [ef, minus_rest, readN_dec]
    · omega
    · rw [ef, tx_length, List.length_cons]; omega
    · omega
    · rw [e0, S45]; simp
    · rw [e0]; exact lt0 (by decide)
    · rw [e1]
      rw [e2, show -((v.natAbs : Nat) : Int) = v by omega] at N2
      exact hret D t u h' tk' F2 N2
  · have ef : f = tx (dec v.natAbs) := by rw [hf, numL_nonneg h]
    have e0 : Txt.item f 0 = one c := by rw [ef, ed, item0_tx]
    refine (read_number_spec w mean mg mb sv f v.natAbs t ?_ ?_ ?_ ?_ ?_).calm B F K N T hk hdp hu trivial fun r news' h' tk' ⟨D, t, u, e1, e2⟩ F2 N2 => ?_
    · rw [ef, readN_dec]
    · rw [ef, ed, tx_length, List.length_cons]; omega
    · omega
    · rw [e0]; exact not_lt0 hc1
    · rw [e0]; exact not_gt9 hc2
    · rw [e1]
      rw [e2, show ((v.natAbs : Nat) : Int) = v by omega] at N2
      exact hret D t u h' tk' F2 N2
theorem atom2_call {x : Str} {t : Tok} (hdp : dp + 3 < recursionLimit) (hu : un + 8 * 3 < cLine) (S : Sym w news o dx l d f e ts fs) (hts : ts.length ≤ 100)
    (hret : ∀ ts' k t' news' t1 t2 t3 t4 n h' tk', ts'.length ≤ 1000 → AtomAt ts' k x → Sym w ((o, instObj 155 dx) :: (dx, symDict w l d f e t1 t2 t3 t4 n) :: news') o dx l d f e ts' fs → Fr h₀ L h' m → News h₀ L h' ((o, instObj 155 dx) :: (dx, symDict w l d f e t1 t2 t3 t4 n) :: news') → Q (.int (k : Int) t') { s with heap := h', toks := tk' }) :
    wpAny (model PySem.Challenge.rw_ok0015_01.row.prog w) (ktrTop dp un gd cn cs L a ccd cl outer) (call (.ref 89) [.ref o, .str x t]) Q E s :=
  atom_call B F K N T hk hdp hu S (by omega) fun t' news' t1 t2 t3 t4 n h' tk' S' _ F2 N2 => hret _ _ t' news' t1 t2 t3 t4 n h' tk' (by have := addA_len ts x; omega) (atomAt_add ts x) (sym_up N2 S') F2 N2
theorem functor2_call {k : Nat} {b : Int} {t u : Tok} (hdp : dp + 3 < recursionLimit) (hu : un + 8 * 3 < cLine) (S : Sym w news o dx l d f e ts fs) (hfs : fs.length ≤ 100)
    (hret : ∀ fs' j t' news' t1 t2 t3 t4 n h' tk', fs'.length ≤ 1000 → FunAt fs' j [(k : Int), b] → Sym w ((o, instObj 155 dx) :: (dx, symDict w l d f e t1 t2 t3 t4 n) :: news') o dx l d f e ts fs' → Fr h₀ L h' m → News h₀ L h' ((o, instObj 155 dx) :: (dx, symDict w l d f e t1 t2 t3 t4 n) :: news') → Q (.int (j : Int) t') { s with heap := h', toks := tk' }) :
    wpAny (model PySem.Challenge.rw_ok0015_01.row.prog w) (ktrTop dp un gd cn cs L a ccd cl outer) (call (.ref 103) [.ref o, .int (k : Int) t, .int b u]) Q E s :=
  functor_call B F K N T hk hdp hu S (by omega) fun t' news' t1 t2 t3 t4 n h' tk' S' _ F2 N2 => hret _ _ t' news' t1 t2 t3 t4 n h' tk' (by have := addF_len fs [(k : Int), b]; omega) (funAt_add fs _) (sym_up N2 S') F2 N2
theorem const_con_call {D : Addr} {k : Nat} {x : Str} {t u : Tok} (hdp : dp + 6 < recursionLimit) (hu : un + 8 * 6 < cLine) (S : Sym w news o dx l d f e ts fs) (hat : AtomAt ts k x) (hts : ts.length ≤ 1000) (hl : x.length ≤ 100) (hc : ∀ c ∈ x.cps.toList, c ≤ 1114111) (hD : (D, { cls := .type "tuple", data := .seq #[.int 4 t, .int (k : Int) u] }) ∈ news)
    (hret : ∀ q t' h' tk', IsQ x q → q.length ≤ 1000 → Fr h₀ L h' m → News h₀ L h' news → Q (.str q t') { s with heap := h', toks := tk' }) :
    wpAny (model PySem.Challenge.rw_ok0015_01.row.prog w) (ktrTop dp un gd cn cs L a ccd cl outer) (call (.ref 236) [.ref o, .ref D]) Q E s := by
  obtain ⟨h1, h2, _, _⟩ := hat
  refine (constant_con_spec w mean mg mb o dx l d f e ts fs D k t u h1 hts (by rw [h2]; omega) (by rw [h2]; exact hc)).calm B F K N T hk hdp hu ⟨S, hD⟩ fun r news' h' tk' ⟨e0, t', e1⟩ F2 N2 => ?_
  rw [e1, h2]
  rw [e0] at N2
  exact hret _ t' h' tk' rfl (isQ_len rfl hl hc) F2 N2
theorem read_con_call {k : Nat} {x q : Str} {t : Tok} (hdp : dp + 8 < recursionLimit) (hu : un + 8 * 8 < cLine) (S : Sym w news o dx l d f e ts fs) (hat : AtomAt ts k x) (hts : ts.length ≤ 1000) (hq : IsQ x q) (hql : q.length ≤ 1000) (hc : ∀ c ∈ x.cps.toList, c ≤ 1114111)
    (hret : ∀ D t u news₁ t1 t2 t3 t4 n h' tk', Sym w ((D, tup2 4 (k : Int) t u) :: (o, instObj 155 dx) :: (dx, symDict w l d f e t1 t2 t3 t4 n) :: news₁) o dx l d f e ts fs → Fr h₀ L h' m → News h₀ L h' ((D, tup2 4 (k : Int) t u) :: (o, instObj 155 dx) :: (dx, symDict w l d f e t1 t2 t3 t4 n) :: news₁) → Q (.ref D) { s with heap := h', toks := tk' }) :
    wpAny (model PySem.Challenge.rw_ok0015_01.row.prog w) (ktrTop dp un gd cn cs L a ccd cl outer) (call (.ref 264) [.ref o, .str q t]) Q E s := by
  obtain ⟨_, _, h3, h4⟩ := hat
  obtain ⟨c, e0, hc0, hl1⟩ := isQ_item hq
  refine (read_name_spec w mean mg mb o dx l d f e ts fs q x t (isQ_unq hq hc) hts hl1 (by omega) (isQ_le hq) ?_ ?_).calm B F K N T hk hdp hu S fun r news' h' tk' ⟨D, t, u, news₁, e1, e2, S'⟩ F2 N2 => ?_
  · rw [e0, S45]
    have : one c ≠ one 45 := fun z => by have := one_inj z; omega
    simpa using this
  · rw [e0]
    rcases hc0 with z | z
    · exact .inl (lt0 (by omega))
    · exact .inr (gt9 (by omega))
  · rw [h3, h4] at e2
    rw [h3] at S'
    rw [e1]
    rw [e2] at N2
    obtain ⟨t1, t2, t3, t4, n, N3⟩ := sym_heads S' (news_t N2)
    refine hret D t u news₁ t1 t2 t3 t4 n h' tk' (S'.mono fun p hp => .tail _ (.tail _ (.tail _ hp))) F2 fun p hp => ?_
    rcases List.mem_cons.mp hp with z | z
    · rw [z]; exact N2 _ (.head _)
    · exact N3 p z
theorem ftext_call {j k : Nat} {b : Int} {x : Str} {u : Tok} (hdp : dp + 6 < recursionLimit) (hu : un + 8 * 6 < cLine) (S : Sym w news o dx l d f e ts fs) (hat : AtomAt ts k x) (hts : ts.length ≤ 1000) (hfn : FunAt fs j [(k : Int), b]) (hfs : fs.length ≤ 1000) (hl : x.length ≤ 100) (hc : ∀ c ∈ x.cps.toList, c ≤ 1114111) (hb : b.natAbs < 10 ^ 72)
    (hret : ∀ g t' h' tk', IsF x b g → g.length ≤ 1100 → Fr h₀ L h' m → News h₀ L h' news → Q (.str g t') { s with heap := h', toks := tk' }) :
    wpAny (model PySem.Challenge.rw_ok0015_01.row.prog w) (ktrTop dp un gd cn cs L a ccd cl outer) (call (.ref 243) [.ref o, .int (j : Int) u]) Q E s := by
  obtain ⟨h1, h2, _, _⟩ := hat
  refine (functor_text_spec w mean mg mb o dx l d f e ts fs j k b u hfn.1 hfs h1 hts (by rw [h2]; omega) (by rw [h2]; exact hc) hb).calm B F K N T hk hdp hu S fun r news' h' tk' ⟨e0, t', e1⟩ F2 N2 => ?_
  rw [e1, h2]
  rw [e0] at N2
  exact hret _ t' h' tk' rfl (isF_len rfl hl hc hb) F2 N2
theorem read_fun_call {j k : Nat} {b : Int} {x g : Str} {t : Tok} (hdp : dp + 8 < recursionLimit) (hu : un + 8 * 8 < cLine) (S : Sym w news o dx l d f e ts fs) (hat : AtomAt ts k x) (hts : ts.length ≤ 1000) (hfn : FunAt fs j [(k : Int), b]) (hfs : fs.length ≤ 1000) (hg : IsF x b g) (hgl : g.length ≤ 1100) (hl : x.length ≤ 100) (hc : ∀ c ∈ x.cps.toList, c ≤ 1114111) (hb0 : 0 ≤ b) (hb : b.natAbs < 10 ^ 72)
    (hret : ∀ u news' t1 t2 t3 t4 n h' tk', Sym w ((o, instObj 155 dx) :: (dx, symDict w l d f e t1 t2 t3 t4 n) :: news') o dx l d f e ts fs → Fr h₀ L h' m → News h₀ L h' ((o, instObj 155 dx) :: (dx, symDict w l d f e t1 t2 t3 t4 n) :: news') → Q (.int (j : Int) u) { s with heap := h', toks := tk' }) :
    wpAny (model PySem.Challenge.rw_ok0015_01.row.prog w) (ktrTop dp un gd cn cs L a ccd cl outer) (call (.ref 271) [.ref o, .str g t]) Q E s := by
  obtain ⟨_, _, h3, h4⟩ := hat
  obtain ⟨_, h5, h6⟩ := hfn
  have e0 : g = ftext x b := hg
  have eb : ((b.natAbs : Nat) : Int) = b := by omega
  refine (read_functor_spec w mean mg mb o dx l d f e ts fs g x b.natAbs t ?_ ?_ ?_ hts hfs ?_ ?_ ?_ ?_).calm B F K N T hk hdp hu S fun r news' h' tk' ⟨u, e1, S'⟩ F2 N2 => ?_
  · rw [e0]; exact ftext_pos x b
  · rw [e0, ftext_left]; exact unq_quoted hc
  · rw [e0, ftext_right, numL_nonneg (by omega), readN_dec]
  · omega
  · rw [e0, ftext_left]; exact isQ_le rfl
  · rw [e0, ftext_left]
    have := isQ_len (x := x) rfl hl hc
    omega
  · rw [e0, ftext_right]
    have := numL_len hb
    omega
  · rw [h3, h4, eb, h5] at S'
    rw [h3, h4, eb, h5, h6] at e1
    rw [e1]
    obtain ⟨t1, t2, t3, t4, n, N3⟩ := sym_heads S' N2
    exact hret u news' t1 t2 t3 t4 n h' tk' (sym_up N3 S') F2 N3
end
/-! cuts -/
section
variable {prog : Program} {w : World} {A : Around} {E : Value → Shared → Prop} {s : Shared} {h₀ : Heap} {L : Addr} {m : Str → Option Value} {news : List (Addr × Obj)} {env : Env}
def IfP (x : Str) (b : Nat) (s : Shared) (h₀ : Heap) (L : Addr) (m : Str → Option Value) (news : List (Addr × Obj)) (fl : Flow) (s' : Shared) : Prop :=
  fl = .next ∧ ∃ (v : Int) (t : Tok) (h : Heap) (tk : Nat), v.natAbs < b ∧ s' = { s with heap := h, toks := tk } ∧ Fr h₀ L h (fun y => if y = x then some (.int v t) else m y) ∧ News h₀ L h news
theorem IfP.intro {x : Str} {b : Nat} {v : Int} {t : Tok} {h : Heap} {tk : Nat} (hv : v.natAbs < b) (F : Fr h₀ L h (fun y => if y = x then some (.int v t) else m y)) (N : News h₀ L h news) : IfP x b s h₀ L m news .next { s with heap := h, toks := tk } := ⟨rfl, v, t, h, tk, hv, rfl, F, N⟩
def ValP (P : Int → Prop) (s : Shared) (h₀ : Heap) (L : Addr) (m : Str → Option Value) (news : List (Addr × Obj)) (r : Value) (s' : Shared) : Prop :=
  ∃ (v : Int) (t : Tok) (h : Heap) (tk : Nat), P v ∧ r = .int v t ∧ s' = { s with heap := h, toks := tk } ∧ Fr h₀ L h m ∧ News h₀ L h news
theorem ValP.intro {P : Int → Prop} {v : Int} {t : Tok} {h : Heap} {tk : Nat} (hv : P v) (F : Fr h₀ L h m) (N : News h₀ L h news) : ValP P s h₀ L m news (.int v t) { s with heap := h, toks := tk } := ⟨v, t, h, tk, hv, rfl, rfl, F, N⟩
theorem cut_if {x : Str} {st : Stmt} {Q : Flow → Shared → Prop} (b : Nat) (_ : Fr h₀ L s.heap m) (_ : News h₀ L s.heap news)
    (h : wpAny (model prog w) A (exec st env) (IfP x b s h₀ L m news) E s)
    (k : ∀ (v : Int) (t : Tok) (h : Heap) (tk : Nat), v.natAbs < b → Fr h₀ L h (fun y => if y = x then some (.int v t) else m y) → News h₀ L h news → Q .next { s with heap := h, toks := tk }) : wpAny (model prog w) A (exec st env) Q E s :=
  wpAny_mono h (by rintro fl s' ⟨rfl, v, t, h, tk, hb, rfl, F', N'⟩; exact k v t h tk hb F' N') fun _ _ x => x
theorem cut_val {ex : Expr} {Q : Value → Shared → Prop} (P : Int → Prop) (_ : Fr h₀ L s.heap m) (_ : News h₀ L s.heap news)
    (h : wpAny (model prog w) A (eval ex env) (ValP P s h₀ L m news) E s)
    (k : ∀ (v : Int) (t : Tok) (h : Heap) (tk : Nat), P v → Fr h₀ L h m → News h₀ L h news → Q (.int v t) { s with heap := h, toks := tk }) : wpAny (model prog w) A (eval ex env) Q E s :=
  wpAny_mono h (by rintro r s' ⟨v, t, h, tk, hb, rfl, rfl, F', N'⟩; exact k v t h tk hb F' N') fun _ _ x => x
theorem ne_int_self {a b : Int} {t u : Tok} {Q : Value → Shared → Prop} (h : a = b) (k : Q (.bool false) s) : wpAny (model prog w) A (compareOp .NotEq (.int a t) (.int b u)) Q E s := by
  refine PyProof.Rows.ne_int ?_
  subst h
  simpa using k
end
theorem gen1 {h₀ h : Heap} {L : Addr} {A : List (Addr × Obj)} (N : News h₀ L h A) : ∃ led, News h₀ L h led ∧ ∀ p ∈ A, p ∈ led := ⟨_, N, fun _ h => h⟩
theorem counted_n {v : Int} {f : Str} (h : IsN v f) : countedV (Str.ofString "0" ++ f) = -1 := by rw [h]; exact counted_nought v
theorem counted_y {v : Int} {f : Str} (h : IsN v f) : countedV (f ++ Str.ofString "x") = -1 := by rw [h]; exact counted_x v
theorem len_n {f : Str} (h : f.length ≤ 73) : (Str.ofString "0" ++ f).length ≤ 1000 := by
  have h3 : (Str.ofString "0").length = 1 := by decide +kernel
  rw [Str.length_append]; omega
theorem len_y {f : Str} (h : f.length ≤ 73) : (f ++ Str.ofString "x").length ≤ 1000 := by
  have h3 : (Str.ofString "x").length = 1 := by decide +kernel
  rw [Str.length_append]; omega
theorem isN_ok {v : Int} {f : Str} (h : IsN v f) : ∀ c ∈ f.cps.toList, 33 ≤ c ∧ c ≤ 126 := by rw [h]; exact num_ok33 v
theorem isF_ok {y g : Str} {v : Int} (h : IsF y v g) : ∀ c ∈ g.cps.toList, 33 ≤ c ∧ c ≤ 126 := by
  have e : g = ftext y v := h
  rw [e]; exact ftext_ok y v
theorem ok_cp {f : Str} (h : ∀ c ∈ f.cps.toList, 33 ≤ c ∧ c ≤ 126) : CpOk f := fun c hc => by have := h c hc; omega
theorem row_parts {x y q f q2 g : Str} {v b : Int} (h1 : IsQ x q) (h2 : IsN v f) (h3 : IsQ y q2) (h4 : IsF x b g) : partedL (Txt.join (Str.ofString " ") [q, f, q2, g]) = [q, f, q2, g] := by
  refine parted_row (isQ_ok h1) (isN_ok h2) (isQ_ok h3) (isF_ok h4) ?_ ?_ ?_ ?_
  · rw [h1]; exact quoted_ne x
  · rw [h2]; exact numL_ne v
  · rw [h3]; exact quoted_ne y
  · have e : g = ftext x b := h4
    rw [e, ftext_tx, tx_cps]; simp
theorem row_len {q f q2 g : Str} (h1 : q.length ≤ 1000) (h2 : f.length ≤ 73) (h3 : q2.length ≤ 1000) (h4 : g.length ≤ 1100) : (Txt.join (Str.ofString " ") [q, f, q2, g]).length ≤ 1000000 := by
  have h := StrLaws.join_length_le (Str.ofString " ") [q, f, q2, g]
  have hb : (Str.ofString " ").length = 1 := by decide +kernel
  rw [hb] at h
  simp only [List.map_cons, List.map_nil, List.sum_cons, List.sum_nil, List.length_cons, List.length_nil] at h
  show (Builtin.Str.glued (Str.ofString " ") [q, f, q2, g]).length ≤ _
  rw [StrLaws.glued_eq_join]
  omega
theorem part_a {x q f : Str} {v : Int} (h1 : IsQ x q) (h2 : IsN v f) : partedL (q ++ Str.ofString "  " ++ f) = [] := parted_two (free33 (isQ_ok h1)) (free33 (isN_ok h2))
theorem part_b {x q : Str} (h1 : IsQ x q) : partedL (Str.ofString " " ++ q) = [] := parted_front (free33 (isQ_ok h1))
theorem part_c {x q : Str} (h1 : IsQ x q) : partedL (q ++ Str.ofString " ") = [] := parted_back (free33 (isQ_ok h1))
theorem LB2 : (Str.ofString "  ").length = 2 := by decide +kernel
theorem LB1 : (Str.ofString " ").length = 1 := by decide +kernel
theorem ten70 : (10 : Int) ^ Int.toNat 70 = ((10 ^ 70 : Nat) : Int) := by decide +kernel
theorem mod70 (x : Int) : 0 ≤ x.fmod (10 ^ Int.toNat 70) ∧ (x.fmod (10 ^ Int.toNat 70)).natAbs < 10 ^ 70 := by
  rw [ten70]
  have h1 := Int.fmod_nonneg_of_pos x (show (0 : Int) < ((10 ^ 70 : Nat) : Int) by decide +kernel)
  have h2 := Int.fmod_lt_of_pos x (show (0 : Int) < ((10 ^ 70 : Nat) : Int) by decide +kernel)
  generalize x.fmod ((10 ^ 70 : Nat) : Int) = y at h1 h2
  exact ⟨h1, by omega⟩
theorem up72 {v : Int} (h : v.natAbs < 10 ^ 70) : v.natAbs < 10 ^ 72 := Nat.lt_trans h (by decide)
theorem neg70 {v : Int} (h : v.natAbs < 10 ^ 70) : (-v).natAbs < 10 ^ 70 := by rw [Int.natAbs_neg]; exact h
theorem fr_same {h₀ h : Heap} {L : Addr} {m : Str → Option Value} {x : Str} {v : Value} (F : Fr h₀ L h m) (hm : m x = some v) : Fr h₀ L h (fun y => if y = x then some v else m y) := by
  have e : (fun y => if y = x then some v else m y) = m := by
    funext y
    by_cases h : y = x
    · rw [if_pos h, h, hm]
    · rw [if_neg h]
  rw [e]; exact F
section
variable {w : World} {mean : ExcName → Option Value} {mg mb : Str → Option Value} {news : List (Addr × Obj)}
    {dp un : Nat} {gd : Option (List Code)} {cn : Str} {cs : Scope} {a : Addr} {ccd : Value} {A₀ : Around} {h₀ : Heap} {L : Addr} {m : Str → Option Value} {s : Shared} {Q E : Value → Shared → Prop}
theorem counted2_call {v : Int} {f : Str} {t : Tok} (B : Below A₀ h₀ [] h₀) (F : Fr h₀ L s.heap m) (K : (hd.heap_1 w.params).In h₀) (N : News h₀ L s.heap news) (T : Top vw (looseW vw [Str.ofString "LinkFault"]) mean mg mb h₀) (hk : cs.kind = .function) (hdp : dp + 4 < recursionLimit) (hu : un + 8 * 4 < cLine) (hf : IsN v f) (hl : f.length ≤ 73)
    (hret : ∀ t' h' tk', Fr h₀ L h' m → News h₀ L h' news → Q (.int (if 0 ≤ v then v else -1) t') { s with heap := h', toks := tk' }) :
    wpAny (model PySem.Challenge.rw_ok0015_01.row.prog w) (ktrTop dp un gd cn cs L a ccd [] []) (call (.ref 299) [.str f t]) Q E s :=
  counted_call B F K N T hk hdp hu (by omega) fun t' h' tk' F2 N2 => by rw [countedV_no hf]; exact hret t' h' tk' F2 N2
end
theorem b13 (n : Nat) : 0 ≤ ((n : Int)).fmod 13 ∧ (((n : Int)).fmod 13).natAbs < 10 ^ 72 := by
  have h1 := Int.fmod_nonneg_of_pos (n : Int) (show (0 : Int) < 13 by decide)
  have h2 := Int.fmod_lt_of_pos (n : Int) (show (0 : Int) < 13 by decide)
  generalize (n : Int).fmod 13 = y at h1 h2
  exact ⟨h1, by omega⟩
end
section
theorem lines_X3 : True := by
  w_top off
  k_with_none
  (k_with "mine: start" => (unfold PS; k_fill; intros; rename_i hret hexc; refine wpAny_call ?_; k_dflt cell_enter))
  (k_with "mine: sub" => (first | exact fun _ h => h | exact fun _ h => List.mem_append_left _ h | (intro _ h; simp only [List.mem_append, List.mem_cons, h, true_or, or_true])))
  (k_with "mine: end" => ((first | refine endB (by assumption) (by k_asm) (by k_asm) (by walk_at "mine: sub") (resB ?_) | refine endI (by assumption) (by k_asm) (by k_asm) (by walk_at "mine: sub") (resI ?_) | refine endS (by assumption) (by k_asm) (by k_asm) (by walk_at "mine: sub") (resS ?_))))
  (k_with "mine: fill" => ((intro t' h' tk' F' N'); (try dsimp only); (try k_sweep); (try k_fold)))
  (k_with "exec While Compare cons nil" => (k_here; refine Mark.out ?_))
  (k_with "exec For Name Name cons nil" => (k_here; refine Mark.out ?_))
  (k_with "exec For Name Call cons nil" => (k_here; refine Mark.out ?_))
  (k_with "exec For Name List cons nil" => (k_here; refine Mark.out ?_))
  (k_with "binaryOp Add str str" => (k_here; (with_reducible show wpAny _ _ (binaryOp Operator.Add (Value.str _ _) (Value.str _ _)) _ _ _); (refine add_str ?_ (by first | (walk_at "mine: size") | fail)); intro _ _))
  (k_with "mine: same" => (intro z h2 h3; (simp only [List.forall_mem_cons, List.not_mem_nil, false_implies, implies_true, and_true, ne_eq] at h2); first | ((simp only [List.contains_cons, List.contains_nil, Bool.or_false, Bool.or_eq_false_iff, beq_eq_false_iff_ne, ne_eq] at h3); (simp [h2, h3, kstB]; done)) | (simp [h2, kstB]; done)))
  (k_with "call builtin:list.append" => (k_here; (with_reducible show wpAny _ _ (call (Value.builtin _) [Value.ref _, _]) _ _ _); k_dflt (refine append_K (by first | (k_asm) | fail) (by first | (k_asm) | fail) (by first | (k_upd) | fail) ?_ (by first | (walk_at "mine: size") | fail); k_whole); intro h' F' N'; (try simp only [List.push_toArray] at N'); (try k_sweep)))
  (k_with "InvEndN" => (refine Mark.out ?_))
  (k_with "KswEnd" => (refine Mark.out ?_))
  (k_with "call builtin:str.join" => (k_here; refine Mark.out ?_))
  (k_with "mine: sameN" => (intro z h1 h2 h3; (simp only [List.forall_mem_cons, List.not_mem_nil, false_implies, implies_true, and_true, ne_eq] at h2); first | ((simp only [List.contains_cons, List.contains_nil, Bool.or_false, Bool.or_eq_false_iff, beq_eq_false_iff_ne, ne_eq] at h3); (simp [h1, h2, h3, kstB]; done)) | (simp [h1, h2, kstB]; done)))
  (k_with "exec Raise some none" => (k_here; k_dflt (refine Raise_fault (by exact rfl) ?_)))
  (k_with "mine: fault" => (k_here; k_dflt (refine fault_call (by first | (k_asm) | fail) (by first | (k_asm) | fail) (by first | (k_asm) | fail) (by first | (k_asm) | fail) (by first | (k_asm) | fail) (by first | (first | exact rfl | assumption) | fail) (by first | (ktr_room) | fail) (by first | (ktr_units) | fail) ?_); (intro e' d' tt' h' tk' F' N' hne'); (refine ⟨_, _, _, rfl, by k_in, (N' _ (List.Mem.head _)).1, ?_⟩); (try dsimp only); (try k_sweep)))
  (k_with "mine: endX" => (refine endX (by assumption) (by k_asm) (by assumption) (by assumption) (by walk_at "mine: sub") ?_))
  (k_with "mine: endR" => ((first | refine endB (by assumption) (by k_asm) (by k_asm) (by walk_at "mine: sub") ?_ | refine endI (by assumption) (by k_asm) (by k_asm) (by walk_at "mine: sub") ?_ | refine endS (by assumption) (by k_asm) (by k_asm) (by walk_at "mine: sub") ?_)))
  (k_with "mine: size" => (rw [sizeLine_eq]; (first | omega | (simp only [Str.length_append, tx_length, len_item, List.length_cons, List.length_nil, List.length_append, List.size_toArray, Array.size_push]; omega))))
  (k_with "mine: filled" => ((intro t' h' tk' F' N'); (try dsimp only); (try k_sweep); (try k_fold)))
  (k_with "mine: startZ" => (unfold PZ; k_fill; intros; rename_i hpre hret hexc; refine wpAny_call ?_; k_dflt cell_enter))
  (k_with "mine: endXZ" => (refine endXZ (by assumption) (by k_asm) (by assumption) (by assumption) (by walk_at "mine: sub") ?_))
  (k_with "mine: endZ" => (refine endZ (by assumption) (by k_asm) (by k_asm) ?_))
  trivial
local macro_rules | `(tactic| ktr_units) => `(tactic| (have hcL9 := cLine_is; ((try simp only [units_under_make, units_in1, units_deeper, Around.mark_units, units_caller] at *); (try dsimp only [ktrTop] at *); omega)))
theorem lines_X3_1 : True := by
  (k_with "mine: next" => ((try dsimp only); (try k_sweep); (try k_fold)))
  (k_with "mine: intlist" => (first | with_reducible assumption | exact intlist_sub (by with_reducible assumption) (by walk_at "mine: sub") | exact ⟨_, _, by with_reducible assumption, by omega, .inl (by with_reducible assumption)⟩))
  (k_with "call ref" => (k_here; (with_reducible show wpAny _ _ (call (Value.ref 155) _ _) _ _ _); k_dflt (refine symbols_call (by first | (k_asm) | fail) (by first | (k_asm) | fail) (by first | (k_asm) | fail) (by first | (k_asm) | fail) (by first | (k_asm) | fail) (by first | (first | exact rfl | assumption) | fail) (by first | (ktr_room) | fail) (by first | (ktr_units) | fail) (fun o' dx' l' d' f' e' ts' fs' news' h' tk' hts' hfs' S' F' N' => ?_)); walk_at "mine: next"))
  (k_with "call ref cons nil" => (k_here; k_dflt (refine name_of_call (by first | (k_asm) | fail) (by first | (k_asm) | fail) (by first | (k_asm) | fail) (by first | (k_asm) | fail) (by first | (k_asm) | fail) (by first | (first | exact rfl | assumption) | fail) (by first | (ktr_room) | fail) (by first | (ktr_units) | fail) (by first | (decide) | fail) (by first | (walk_at "mine: intlist") | fail) (fun x' t' h' tk' hx1' hxc' F' N' => ?_)); walk_at "mine: next"))
  (k_with "call ref cons nil" => (k_here; k_dflt (refine quotedQ_call (by first | (k_asm) | fail) (by first | (k_asm) | fail) (by first | (k_asm) | fail) (by first | (k_asm) | fail) (by first | (k_asm) | fail) (by first | (first | exact rfl | assumption) | fail) (by first | (ktr_room) | fail) (by first | (ktr_units) | fail) (by first | (with_reducible assumption) | fail) (by first | (with_reducible assumption) | fail) (fun q' t' h' tk' hq' hq1' F' N' => ?_)); walk_at "mine: next"))
  (k_with "call ref cons nil" => (k_here; k_dflt (refine readQ_call (by first | (k_asm) | fail) (by first | (k_asm) | fail) (by first | (k_asm) | fail) (by first | (k_asm) | fail) (by first | (k_asm) | fail) (by first | (first | exact rfl | assumption) | fail) (by first | (ktr_room) | fail) (by first | (ktr_units) | fail) (by first | (with_reducible assumption) | fail) (by first | (with_reducible assumption) | fail) (by first | (with_reducible assumption) | fail) (fun D' t' u' h' tk' F' N' hne' => ?_)); walk_at "mine: next"))
  (k_with "compareOp In str str" => (k_here; (first | refine in_q S32 (by decide) (by with_reducible assumption) ?_ | refine in_q S10 (by decide) (by with_reducible assumption) ?_)))
  (k_with "compareOp Eq str str" => (k_here; (refine eq_q (by with_reducible assumption) (by with_reducible assumption) (by with_reducible assumption) (by with_reducible assumption) ?_)))
  (k_with "compareOp NotEq bool bool" => (k_here; (refine ne_bool_self rfl ?_)))
  (k_with "mine: cp" => (first | exact cp_name | exact cp_blank | with_reducible assumption | exact isQ_le (by with_reducible assumption) | (unfold CpOk; with_reducible assumption)))
  (k_with "compareOp NotEq ref ref" => (k_here; k_dflt (refine ne_strs2 (by first | (k_asm) | fail) (by first | (k_mem) | fail) (by first | (k_mem) | fail) (by first | (walk_at "mine: cp") | fail) (by first | (walk_at "mine: cp") | fail) (by first | (ke_room) | fail) ?_)))
  (k_with "call ref cons nil" => (k_here; k_dflt (refine piece_call (by first | (first | with_reducible assumption | decide | omega) | fail) (by first | (decide) | fail) (by first | (k_asm) | fail) (by first | (k_asm) | fail) (by first | (k_asm) | fail) (by first | (k_asm) | fail) (by first | (k_asm) | fail) (by first | (first | exact rfl | assumption) | fail) (by first | (ktr_room) | fail) (by first | (ktr_units) | fail) (by first | (walk_at "mine: intlist") | fail) ?_; (intro k' t' h' tk' hk' F' N')); walk_at "mine: next"))
  (k_with "call ref cons nil" => (k_here; k_dflt (refine read2_call (by first | (k_asm) | fail) (by first | (k_asm) | fail) (by first | (k_asm) | fail) (by first | (k_asm) | fail) (by first | (k_asm) | fail) (by first | (first | exact rfl | assumption) | fail) (by first | (ktr_room) | fail) (by first | (ktr_units) | fail) (by first | (with_reducible assumption) | fail) (by first | (with_reducible assumption) | fail) (fun y' D' t' u' h' tk' hy1' hyc' hyq' F' N' hne' => ?_) (fun D' t' u' h' tk' F' N' hne' => ?_)); (all_goals walk_at "mine: next")))
  (k_with "call ref cons nil" => (k_here; k_dflt (refine readQ_call (by first | (k_asm) | fail) (by first | (k_asm) | fail) (by first | (k_asm) | fail) (by first | (k_asm) | fail) (by first | (k_asm) | fail) (by first | (first | exact rfl | assumption) | fail) (by first | (ktr_room) | fail) (by first | (ktr_units) | fail) (by first | (with_reducible assumption) | fail) (by first | (with_reducible assumption) | fail) (by first | (with_reducible assumption) | fail) (fun D' t' u' h' tk' F' N' hne' => ?_)); walk_at "mine: next"))
  (k_with "subscriptTail" => (k_here; (refine KTb.item_list (ws := MENU) (News.isList (by k_asm) (.head _)) (by repeat (first | exact .nil | refine .cons _ _ ?_)) (Int.natCast_nonneg _) (menu_lt (by with_reducible assumption)) (fit_12 (by with_reducible assumption)) ?_); intro _ _))
  (k_with "inplaceOp Add str str" => (k_here; (with_reducible show wpAny _ _ (inplaceOp Operator.Add (Value.str _ _) (Value.str _ _)) _ _ _); (refine iadd_str ?_ (by first | (exact menu_size (by with_reducible assumption) (by with_reducible assumption)) | fail)); intro _ _))
  (k_with "compareOp NotEq str str" => (k_here; (refine ne_q (by with_reducible assumption) (by with_reducible assumption) ?_)))
  (k_with "binaryOp Add str str" => (k_here; (with_reducible show wpAny _ _ (binaryOp Operator.Add (Value.str _ _) (Value.str _ _)) _ _ _); (refine add_str ?_ (by first | (first | exact add_front (by with_reducible assumption) | exact add_back (by with_reducible assumption)) | fail)); intro _ _))
  trivial
local macro_rules | `(tactic| walk_at "pyIter ref") => `(tactic| (k_here; refine Mark.out ?_))
theorem lines_X3_2 : True := by
  (k_with "call ref cons nil" => (k_here; k_dflt (refine readF_call (by first | (k_asm) | fail) (by first | (k_asm) | fail) (by first | (k_asm) | fail) (by first | (k_asm) | fail) (by first | (k_asm) | fail) (by first | (first | exact rfl | assumption) | fail) (by first | (ktr_room) | fail) (by first | (ktr_units) | fail) (by first | (first | exact unq_061 | exact unq_empty) | fail) (by first | (decide +kernel) | fail) (by first | (decide +kernel) | fail) (fun D' t' u' h' tk' F' N' hne' => ?_)); walk_at "mine: next"))
  (k_with "call ref cons nil" => (k_here; k_dflt (refine readS_call (by first | (k_asm) | fail) (by first | (k_asm) | fail) (by first | (k_asm) | fail) (by first | (k_asm) | fail) (by first | (k_asm) | fail) (by first | (first | exact rfl | assumption) | fail) (by first | (ktr_room) | fail) (by first | (ktr_units) | fail) (by first | (exact unq_blank) | fail) (by first | (decide +kernel) | fail) (by first | (decide +kernel) | fail) (fun D' t' u' h' tk' F' N' hne' => ?_)); walk_at "mine: next"))
  (k_with "call ref cons nil" => (k_here; k_dflt (refine const_int_call (by first | (k_asm) | fail) (by first | (k_asm) | fail) (by first | (k_asm) | fail) (by first | (k_asm) | fail) (by first | (k_asm) | fail) (by first | (first | exact rfl | assumption) | fail) (by first | (ktr_room) | fail) (by first | (ktr_units) | fail) (by first | (with_reducible assumption) | fail) (by first | (k_mem) | fail) (fun f' t' h' tk' hf' hf1' F' N' => ?_)); walk_at "mine: next"))
  (k_with "call ref cons nil" => (k_here; k_dflt (refine read_int_call (by first | (k_asm) | fail) (by first | (k_asm) | fail) (by first | (k_asm) | fail) (by first | (k_asm) | fail) (by first | (k_asm) | fail) (by first | (first | exact rfl | assumption) | fail) (by first | (ktr_room) | fail) (by first | (ktr_units) | fail) (by first | (with_reducible assumption) | fail) (by first | (with_reducible assumption) | fail) (fun D' t' u' h' tk' F' N' => ?_)); walk_at "mine: next"))
  (k_with "eval IfExp" => (k_here; refine Mark.out ?_))
  (k_with "exec If" => (k_here; (with_reducible show wpAny _ _ (exec (Stmt.If (Expr.BoolOp BoolOp.And _ _) _ _ _) _) _ _ _); refine Mark.out ?_))
  (k_with "compareOp NotEq ref ref" => (k_here; k_dflt (refine ne_ints2 (by first | (k_asm) | fail) (by first | (k_mem) | fail) (by first | (k_mem) | fail) (by first | (ke_room) | fail) ?_)))
  (k_with "call ref cons nil" => (k_here; k_dflt (refine counted2_call (by first | (k_asm) | fail) (by first | (k_asm) | fail) (by first | (k_asm) | fail) (by first | (k_asm) | fail) (by first | (k_asm) | fail) (by first | (first | exact rfl | assumption) | fail) (by first | (ktr_room) | fail) (by first | (ktr_units) | fail) (by first | (with_reducible assumption) | fail) (by first | (with_reducible assumption) | fail) (fun t' h' tk' F' N' => ?_)); walk_at "mine: next"))
  (k_with "compareOp NotEq int int" => (k_here; (refine ne_int_self (by first | rfl | (symm; with_reducible assumption) | with_reducible assumption) ?_)))
  (k_with "call ref cons nil" => (k_here; k_dflt (refine counted_neg_call (by first | (k_asm) | fail) (by first | (k_asm) | fail) (by first | (k_asm) | fail) (by first | (k_asm) | fail) (by first | (k_asm) | fail) (by first | (first | exact rfl | assumption) | fail) (by first | (ktr_room) | fail) (by first | (ktr_units) | fail) (by first | (first | exact counted_n (by with_reducible assumption) | exact counted_y (by with_reducible assumption)) | fail) (by first | (first | exact len_n (by with_reducible assumption) | exact len_y (by with_reducible assumption)) | fail) (fun t' h' tk' F' N' => ?_)); walk_at "mine: next"))
  (k_with "mine: sym" => (first | with_reducible assumption | exact Sym.mono (by with_reducible assumption) (by walk_at "mine: sub")))
  (k_with "call ref cons nil" => (k_here; k_dflt (refine atom2_call (by first | (k_asm) | fail) (by first | (k_asm) | fail) (by first | (k_asm) | fail) (by first | (k_asm) | fail) (by first | (k_asm) | fail) (by first | (first | exact rfl | assumption) | fail) (by first | (ktr_room) | fail) (by first | (ktr_units) | fail) (by first | (walk_at "mine: sym") | fail) (by first | (with_reducible assumption) | fail) (fun ts' k' t' news' t1' t2' t3' t4' n' h' tk' hts' hat' S' F' N' => ?_)); walk_at "mine: next"))
  (k_with "call ref cons nil" => (k_here; k_dflt (refine functor2_call (by first | (k_asm) | fail) (by first | (k_asm) | fail) (by first | (k_asm) | fail) (by first | (k_asm) | fail) (by first | (k_asm) | fail) (by first | (first | exact rfl | assumption) | fail) (by first | (ktr_room) | fail) (by first | (ktr_units) | fail) (by first | (walk_at "mine: sym") | fail) (by first | (with_reducible assumption) | fail) (fun fs' j' t' news' t1' t2' t3' t4' n' h' tk' hfs' hfn' S' F' N' => ?_)); walk_at "mine: next"))
  (k_with "call ref cons nil" => (k_here; k_dflt (refine const_con_call (by first | (k_asm) | fail) (by first | (k_asm) | fail) (by first | (k_asm) | fail) (by first | (k_asm) | fail) (by first | (k_asm) | fail) (by first | (first | exact rfl | assumption) | fail) (by first | (ktr_room) | fail) (by first | (ktr_units) | fail) (by first | (walk_at "mine: sym") | fail) (by first | (with_reducible assumption) | fail) (by first | (with_reducible assumption) | fail) (by first | (with_reducible assumption) | fail) (by first | (with_reducible assumption) | fail) (by first | (k_mem) | fail) (fun q' t' h' tk' hq' hq1' F' N' => ?_)); walk_at "mine: next"))
  (k_with "call ref cons nil" => (k_here; k_dflt (refine read_con_call (by first | (k_asm) | fail) (by first | (k_asm) | fail) (by first | (k_asm) | fail) (by first | (k_asm) | fail) (by first | (k_asm) | fail) (by first | (first | exact rfl | assumption) | fail) (by first | (ktr_room) | fail) (by first | (ktr_units) | fail) (by first | (walk_at "mine: sym") | fail) (by first | (with_reducible assumption) | fail) (by first | (with_reducible assumption) | fail) (by first | (with_reducible assumption) | fail) (by first | (with_reducible assumption) | fail) (by first | (with_reducible assumption) | fail) (fun D' t' u' news' t1' t2' t3' t4' n' h' tk' S' F' N' => ?_)); walk_at "mine: next"))
  (k_with "call ref cons nil" => (k_here; k_dflt (refine ftext_call (by first | (k_asm) | fail) (by first | (k_asm) | fail) (by first | (k_asm) | fail) (by first | (k_asm) | fail) (by first | (k_asm) | fail) (by first | (first | exact rfl | assumption) | fail) (by first | (ktr_room) | fail) (by first | (ktr_units) | fail) (by first | (walk_at "mine: sym") | fail) (by first | (with_reducible assumption) | fail) (by first | (with_reducible assumption) | fail) (by first | (with_reducible assumption) | fail) (by first | (with_reducible assumption) | fail) (by first | (with_reducible assumption) | fail) (by first | (with_reducible assumption) | fail) (by first | (exact (b13 _).2) | fail) (fun g' t' h' tk' hg' hg1' F' N' => ?_)); walk_at "mine: next"))
  (k_with "call ref cons nil" => (k_here; k_dflt (refine read_fun_call (by first | (k_asm) | fail) (by first | (k_asm) | fail) (by first | (k_asm) | fail) (by first | (k_asm) | fail) (by first | (k_asm) | fail) (by first | (first | exact rfl | assumption) | fail) (by first | (ktr_room) | fail) (by first | (ktr_units) | fail) (by first | (walk_at "mine: sym") | fail) (by first | (with_reducible assumption) | fail) (by first | (with_reducible assumption) | fail) (by first | (with_reducible assumption) | fail) (by first | (with_reducible assumption) | fail) (by first | (with_reducible assumption) | fail) (by first | (with_reducible assumption) | fail) (by first | (with_reducible assumption) | fail) (by first | (with_reducible assumption) | fail) (by first | (exact (b13 _).1) | fail) (by first | (exact (b13 _).2) | fail) (fun u' news' t1' t2' t3' t4' n' h' tk' S' F' N' => ?_)); walk_at "mine: next"))
  (k_with "mine: cp2" => (first | exact isQ_le (by with_reducible assumption) | exact ok_cp (isN_ok (by with_reducible assumption)) | exact ok_cp (isF_ok (by with_reducible assumption))))
  (k_with "compareOp NotEq ref ref" => (k_here; k_dflt (refine ne_strs4 (by first | (k_asm) | fail) (by first | (k_mem) | fail) (by first | (k_mem) | fail) (by first | (walk_at "mine: cp2") | fail) (by first | (walk_at "mine: cp2") | fail) (by first | (walk_at "mine: cp2") | fail) (by first | (walk_at "mine: cp2") | fail) (by first | (ke_room) | fail) ?_)))
  (k_with "compareOp Eq ref ref" => (k_here; k_dflt (refine eq_nil (by first | (k_asm) | fail) (by first | (k_mem) | fail) (by first | (k_mem) | fail) (by first | (ke_room) | fail) ?_)))
  (k_with "call ref cons nil" => (k_here; (with_reducible show wpAny _ _ (call (Value.ref 306) [Value.str (Txt.join _ _) _] _) _ _ _); k_dflt (refine parted_four_call (by first | (k_asm) | fail) (by first | (k_asm) | fail) (by first | (k_asm) | fail) (by first | (k_asm) | fail) (by first | (k_asm) | fail) (by first | (first | exact rfl | assumption) | fail) (by first | (ktr_room) | fail) (by first | (ktr_units) | fail) (by first | (exact row_parts (by with_reducible assumption) (by with_reducible assumption) (by with_reducible assumption) (by with_reducible assumption)) | fail) (by first | (exact row_len (by with_reducible assumption) (by with_reducible assumption) (by with_reducible assumption) (by with_reducible assumption)) | fail) (fun l' n' t1' t2' t3' t4' h' tk' F' N' hne' => ?_)); walk_at "mine: next"))
  (k_with "call ref cons nil" => (k_here; (with_reducible show wpAny _ _ (call (Value.ref 306) [Value.str (_ ++ _ ++ _) _] _) _ _ _); k_dflt (refine parted_nil_call (by first | (k_asm) | fail) (by first | (k_asm) | fail) (by first | (k_asm) | fail) (by first | (k_asm) | fail) (by first | (k_asm) | fail) (by first | (first | exact rfl | assumption) | fail) (by first | (ktr_room) | fail) (by first | (ktr_units) | fail) (by first | (exact part_a (by with_reducible assumption) (by with_reducible assumption)) | fail) (by first | ((simp only [Str.length_append, LB1, LB2]; omega)) | fail) (fun l' n' h' tk' F' N' hne' => ?_)); walk_at "mine: next"))
  (k_with "call ref cons nil" => (k_here; (with_reducible show wpAny _ _ (call (Value.ref 306) [Value.str (Str.ofString " " ++ _) _] _) _ _ _); k_dflt (refine parted_nil_call (by first | (k_asm) | fail) (by first | (k_asm) | fail) (by first | (k_asm) | fail) (by first | (k_asm) | fail) (by first | (k_asm) | fail) (by first | (first | exact rfl | assumption) | fail) (by first | (ktr_room) | fail) (by first | (ktr_units) | fail) (by first | (exact part_b (by with_reducible assumption)) | fail) (by first | ((simp only [Str.length_append, LB1, LB2]; omega)) | fail) (fun l' n' h' tk' F' N' hne' => ?_)); walk_at "mine: next"))
  (k_with "call ref cons nil" => (k_here; (with_reducible show wpAny _ _ (call (Value.ref 306) [Value.str (_ ++ Str.ofString " ") _] _) _ _ _); k_dflt (refine parted_nil_call (by first | (k_asm) | fail) (by first | (k_asm) | fail) (by first | (k_asm) | fail) (by first | (k_asm) | fail) (by first | (k_asm) | fail) (by first | (first | exact rfl | assumption) | fail) (by first | (ktr_room) | fail) (by first | (ktr_units) | fail) (by first | (exact part_c (by with_reducible assumption)) | fail) (by first | ((simp only [Str.length_append, LB1, LB2]; omega)) | fail) (fun l' n' h' tk' F' N' hne' => ?_)); walk_at "mine: next"))
  trivial
theorem law_walk : PySem.Challenge.rw_ok0015_01.Holds := hd (by
  k_go0
  all_goals try k_fold
  k_steps
  unfold Mark
  rename Fr _ _ _ _ => lF
  k_here; (with_unfolding_all refine' For_invVF lF ?k1 ?k2 ?_; (case k1 => exact rfl); (case k2 => exact rfl))
  k_steps
  unfold Mark
  rename Fr _ _ _ _ => lF
  rename News _ _ _ _ => lN
  (with_unfolding_all refine' my_vals (σ := Unit) (fun c => _) (fun c => []) (fun c => True) [Str.ofString "free", Str.ofString "lap", Str.ofString "tried", Str.ofString "kind", Str.ofString "found"] (fun i c => True) () (by rfl) (fun _ => .head _) lF lN trivial (fun _ h => nomatch h) trivial ?_ ?_)
  · clear lF lN
    rintro ⟨⟩ i v u h tk own hi hoff hF hP F N
    clear hF hP
    obtain ⟨led, N2, hsL, hsO⟩ := gen_led N
    obtain ⟨l0, e0, hIL⟩ := four_lists N2 (List.mem_of_getElem? hi) (il_base (by assumption) (by assumption) (by omega)) (il_mem (hsL _ (by k_mem)) (by assumption) (by omega)) (il_mem (hsL _ (by k_mem)) (by assumption) (by omega)) (il_mem (hsL _ (by k_mem)) (by assumption) (by omega))
    clear N
    clear hi
    subst e0
    try k_fold
    k_steps
    unfold Mark
    rename Fr _ _ _ _ => lF
    k_here; (with_unfolding_all refine' For_invVF lF ?k1 ?k2 ?_; (case k1 => exact rfl); (case k2 => exact rfl))
    k_steps
    unfold Mark
    rename Fr _ _ _ _ => lF
    rename News _ _ _ _ => lN
    rename IsRange _ _ _ _ _ _ _ _ => hR
    rename _ < 10 => h10
    have h10' : _ < (10 : Nat) := h10
    (with_unfolding_all refine' my_range (n := _) (σ := Str × Tok) (fun c => _) (fun c => [(Str.ofString "free", .str c.1 c.2)]) (fun c => True) [] (fun i c => c.1.length ≤ 6 * i ∧ ∀ q ∈ c.1.cps.toList, q ≤ 1114111) (Str.ofString "", _) (by rfl) (by exact hR) (small1 (by omega)) (size1 _) lF lN trivial (List.forall_mem_cons.mpr ⟨by rfl, List.forall_mem_nil _⟩) ⟨(by decide +kernel : (Str.ofString "").length ≤ 6 * 0), (by decide +kernel : ∀ q ∈ (Str.ofString "").cps.toList, q ≤ 1114111)⟩ ?_ ?_)
    · clear lF lN
      rintro ⟨x, tx⟩ i t1 u h tk own2 hi hoff hF hP F N
      dsimp only at hP hF F N
      obtain ⟨led2, N2, hsL2, hsO2⟩ := gen_led N
      have hIL2 := intlist_sub hIL hsL2
      clear N hIL
      try k_fold
      have hx8 : x.length ≤ 100 := by omega
      k_steps
      unfold Mark
      rename Fr _ _ _ _ => lF
      rename News _ _ _ _ => lN
      refine kst_end (_, _) lF lN (fun p hp => List.mem_cons_of_mem _ (hsL2 p hp)) (fun p hp => List.mem_cons_of_mem _ (hsO2 p hp)) rfl trivial (List.forall_mem_cons.mpr ⟨by rfl, List.forall_mem_nil _⟩) ?_ (menu_push (by assumption) hP)
      walk_at "mine: sameN"
    · clear lF lN
      rintro ⟨x, tx⟩ u h tk hF hP F N
      dsimp only at hP hF F N
      have hx60 : x.length ≤ 60 := by omega
      have hxc := hP.2
      try k_fold
      k_steps
      unfold Mark
      rename Fr _ _ _ _ => lF
      k_here; (with_unfolding_all refine' For_invVF lF ?k1 ?k2 ?_; (case k1 => exact rfl); (case k2 => exact rfl))
      k_steps
      unfold Mark
      rename Fr _ _ _ _ => lF
      rename News _ _ _ _ => lN
      (with_unfolding_all refine' my_vals (σ := Unit) (fun c => _) (fun c => []) (fun c => True) [Str.ofString "kind", Str.ofString "found"] (fun i c => True) () (by rfl) (fun _ => .head _) lF lN trivial (fun _ h => nomatch h) trivial ?_ ?_)
      · clear lF lN
        rintro ⟨⟩ i v u h tk own3 hi hoff hF hP F N
        clear hF hP
        obtain ⟨led3, N2, hsL3, hsO3⟩ := gen_led N
        obtain ⟨y, ty, ev, hy1, hyc⟩ := two_texts (List.mem_of_getElem? hi) ⟨by omega, hxc⟩ (quote_ok hx60 hxc)
        clear N hi
        subst ev
        try k_fold
        k_steps
        all_goals
          unfold Mark
          refine wpAny_If ?_
          try k_fold
          k_steps
          unfold Mark
          rename Fr _ _ _ _ => lF
          rename News _ _ _ _ => lN
          refine kst_end () lF lN (fun p hp => List.mem_cons_of_mem _ (hsL3 p hp)) (fun p hp => List.mem_cons_of_mem _ (hsO3 p hp)) rfl trivial (fun _ h => nomatch h) ?_ trivial
          walk_at "mine: sameN"
      · clear lF lN
        rintro ⟨⟩ u h tk hF hP F N
        try k_fold
        k_steps
        unfold Mark
        rename Fr _ _ _ _ => lF
        rename News _ _ _ _ => lN
        refine kst_end () lF lN (fun p hp => List.mem_cons_of_mem _ (hsL p hp)) (fun p hp => List.mem_cons_of_mem _ (hsO p hp)) rfl trivial (fun _ h => nomatch h) ?_ trivial
        walk_at "mine: sameN"
  · clear lF lN
    rintro ⟨⟩ u h tk hF hP F N
    clear hF hP
    obtain ⟨led, N2, hsL⟩ := gen1 N
    rename Sym _ _ _ _ _ _ _ _ _ _ => hS
    have S1 := hS.mono (fun p hp => hsL p (by simp only [List.mem_cons, hp, or_true]))
    obtain ⟨t1, t2, t3, t4, n0, N3⟩ := sym_heads S1 N2
    have S2 := sym_up N3 S1
    clear N N2 hS S1 hsL
    try k_fold
    k_steps
    unfold Mark
    rename Fr _ _ _ _ => lF
    rename News _ _ _ _ => lN
    refine cut_val (fun v => v.natAbs < 10 ^ 70) lF lN ?_ (fun v1 tv1 hh1 tkk1 hb1 F1 N1 => ?_)
    · with_reducible refine IfExp_ ?_
      try k_fold
      k_steps
      · exact ValP.intro (mod70 _).2 (by k_asm) (by k_asm)
      · exact ValP.intro (by decide) (by k_asm) (by k_asm)
    · clear lF lN
      try k_fold
      k_steps
      unfold Mark
      rename Fr _ _ _ _ => lF
      rename News _ _ _ _ => lN
      refine cut_if (x := Str.ofString "number") (10 ^ 70) lF lN ?_ (fun v2 tv2 hh2 tkk2 hb2 F2 N2 => ?_)
      · refine wpAny_If ?_
        try k_fold
        k_steps
        · exact IfP.intro (neg70 hb1) (by k_asm) (by k_asm)
        · exact IfP.intro hb1 (fr_same (by k_asm) (by rfl)) (by k_asm)
        · exact IfP.intro hb1 (fr_same (by k_asm) (by rfl)) (by k_asm)
      · clear lF lN
        have hv72 := up72 hb2
        clear hb1 hb2
        try k_fold
        k_steps
        unfold Mark
        rename Fr _ _ _ _ => lF
        rename News _ _ _ _ => lN
        refine cut_val (fun v => v = if 0 ≤ v2 then v2 else -1) lF lN ?_ (fun v3 tv3 hh3 tkk3 hb3 F3 N3 => ?_)
        · with_reducible refine IfExp_ ?_
          try k_fold
          k_steps
          · exact ValP.intro (if_pos (by with_reducible assumption)).symm (by k_asm) (by k_asm)
          · exact ValP.intro (if_neg (by with_reducible assumption)).symm (by k_asm) (by k_asm)
        · clear lF lN
          try k_fold
          k_steps
          unfold Mark
          rename News _ _ _ _ => lN
          refine join_list (News.isList lN (.head _)) (.cons _ _ (.cons _ _ (.cons _ _ (.cons _ _ .nil)))) ?_ ?_
          · simp only [List.map_cons, List.map_nil, List.sum_cons, List.sum_nil, List.length_cons, List.length_nil, LB1]
            omega
          intro t' k
          try k_fold
          k_steps)
end
end Mine
theorem PySem.Challenge.cw_ok0015_01_holds : PySem.Challenge.rw_ok0015_01.Holds :=
  Mine.law_walk
