import PyProof.Rows.All
import Wide.All
import OpenK.AllK
import Wide.FinOn
import PySem.Challenge.RW_pq0965_01
open PySem PySem.W PyProof.Rows PySem.Calls
set_option Elab.async false
set_option maxRecDepth 100000
set_option maxHeartbeats 0
namespace Mine
open_top hd for PySem.Challenge.rw_pq0965_01
theorem top_off : True := by
  w_top off
  trivial
end Mine
local macro_rules | `(tactic| walk_at $s:str) => `(tactic| k_extra $s)
-- Spec
namespace Mine
/-! ## the plain law -/
def barred : List Int := [40, 41, 123, 37, 42, 34, 92, 93, 32]
def isAtom (k : Int) : Bool := decide (32 < k) && (decide (k < 127) && !(barred.contains k))
def codeAt (ks : List Int) (p : Nat) : Int := ks.getD p (-1)
inductive St where
  | blank
  | opn
  | beg
  | wit
def app (ns : List (List Int)) (k : Int) : List (List Int) := ns.dropLast ++ [ns.getLastD [] ++ [k]]
def readL : St → List (List Int) → List Int → Nat → Option (List (List Int)) × Nat
  | _, _, [], p => (none, p)
  | .blank, ns, k :: r, p => if k = 32 then readL .opn ns r (p + 1) else (none, p)
  | .opn, ns, k :: r, p => if k = 40 then readL .beg ns r (p + 1) else (none, p)
  | .beg, ns, k :: r, p => if isAtom k = true then readL .wit (ns ++ [[k]]) r (p + 1) else (none, p)
  | .wit, ns, k :: r, p => if isAtom k = true then readL .wit (app ns k) r (p + 1) else if k = 32 then readL .beg ns r (p + 1) else if k = 41 then (some ns, p + 1) else (none, p)
theorem drop_code {ks : List Int} {p : Nat} (h : p < ks.length) : ks.drop p = codeAt ks p :: ks.drop (p + 1) := by
  rw [List.drop_eq_getElem_cons h]
  unfold codeAt
  rw [List.getD_eq_getElem?_getD, List.getElem?_eq_getElem h]
  rfl
theorem drop_end {ks : List Int} {p : Nat} (h : ¬ p < ks.length) : ks.drop p = [] := List.drop_eq_nil_of_le (by omega)
theorem code_end {ks : List Int} {p : Nat} (h : ¬ p < ks.length) : codeAt ks p = -1 := by
  unfold codeAt
  rw [List.getD_eq_getElem?_getD, List.getElem?_eq_none (by omega)]
  rfl
theorem code_in {ks : List Int} {p : Nat} (h : p < ks.length) (hr : ∀ k ∈ ks, 0 ≤ k ∧ k < 256) : 0 ≤ codeAt ks p ∧ codeAt ks p < 256 := by
  unfold codeAt
  rw [List.getD_eq_getElem?_getD, List.getElem?_eq_getElem h]
  exact hr _ (List.getElem_mem h)
theorem code_getD {ks : List Int} {p : Nat} (h : p < ks.length) : ks.getD p 0 = codeAt ks p := by
  unfold codeAt
  rw [List.getD_eq_getElem?_getD, List.getD_eq_getElem?_getD, List.getElem?_eq_getElem h]
  rfl
theorem atom_neg : isAtom (-1) = false := by decide
theorem atom_32 : isAtom 32 = false := by decide
theorem atom_40 : isAtom 40 = false := by decide
theorem atom_41 : isAtom 41 = false := by decide
theorem atom_bounds {k : Int} (h : isAtom k = true) : 32 < k ∧ k < 127 := by
  unfold isAtom at h
  simp only [Bool.and_eq_true, decide_eq_true_eq] at h
  exact ⟨h.1, h.2.1⟩
/-- the run of a name's signs that stands at p -/
def run (ks : List Int) (p : Nat) : List Int := (ks.drop p).takeWhile isAtom
theorem run_yes {ks : List Int} {p : Nat} (h : isAtom (codeAt ks p) = true) : run ks p = codeAt ks p :: run ks (p + 1) ∧ p < ks.length := by
  by_cases hp : p < ks.length
  · refine ⟨?_, hp⟩
    unfold run
    rw [drop_code hp, List.takeWhile_cons, if_pos h]
  · rw [code_end hp, atom_neg] at h
    cases h
theorem run_no {ks : List Int} {p : Nat} (h : isAtom (codeAt ks p) = false) : run ks p = [] := by
  unfold run
  by_cases hp : p < ks.length
  · rw [drop_code hp, List.takeWhile_cons, if_neg (by rw [h]; exact Bool.false_ne_true)]
  · rw [drop_end hp]; rfl
theorem app_last (ns : List (List Int)) (x : List Int) (k : Int) : app (ns ++ [x]) k = ns ++ [x ++ [k]] := by
  unfold app
  rw [List.dropLast_concat]
  simp
theorem read_run (ks : List Int) : ∀ (n p : Nat) (ns : List (List Int)) (x : List Int), ks.length - p ≤ n →
    readL .wit (ns ++ [x]) (ks.drop p) p = readL .wit (ns ++ [x ++ run ks p]) (ks.drop (p + (run ks p).length)) (p + (run ks p).length)
  | 0, p, ns, x, h => by
    have hp : ¬ p < ks.length := by omega
    have : run ks p = [] := run_no (by rw [code_end hp]; exact atom_neg)
    rw [this]; simp
  | n + 1, p, ns, x, h => by
    cases hc : isAtom (codeAt ks p) with
    | false => rw [run_no hc]; simp
    | true =>
      obtain ⟨h1, hp⟩ := run_yes hc
      rw [h1, drop_code hp]
      have ih := read_run ks n (p + 1) ns (x ++ [codeAt ks p]) (by omega)
      conv => lhs; unfold readL
      rw [if_pos hc, app_last, ih, List.append_assoc, List.length_cons]
      rw [show p + 1 + (run ks (p + 1)).length = p + ((run ks (p + 1)).length + 1) from by omega]
      rfl
/-- a name at p -/
theorem read_name (ks : List Int) (p : Nat) (ns : List (List Int)) :
    readL .beg ns (ks.drop p) p = if run ks p = [] then (none, p) else readL .wit (ns ++ [run ks p]) (ks.drop (p + (run ks p).length)) (p + (run ks p).length) := by
  cases hc : isAtom (codeAt ks p) with
  | false =>
    rw [if_pos (run_no hc)]
    by_cases hp : p < ks.length
    · rw [drop_code hp]
      unfold readL
      rw [if_neg (by rw [hc]; exact Bool.false_ne_true)]
    · rw [drop_end hp]
      unfold readL
      rfl
  | true =>
    obtain ⟨h1, hp⟩ := run_yes hc
    have ih := read_run ks ks.length (p + 1) ns [codeAt ks p] (by omega)
    rw [if_neg (by rw [h1]; exact List.cons_ne_nil _ _), drop_code hp]
    conv => lhs; unfold readL
    rw [if_pos hc, ih, h1, List.length_cons, show p + 1 + (run ks (p + 1)).length = p + ((run ks (p + 1)).length + 1) from by omega]
    rfl
/-- the run ends at a sign that is none of a name's -/
theorem run_end (ks : List Int) : ∀ (n p : Nat), ks.length - p ≤ n → isAtom (codeAt ks (p + (run ks p).length)) = false
  | 0, p, h => by
    have hp : ¬ p < ks.length := by omega
    have h0 : run ks p = [] := run_no (by rw [code_end hp]; exact atom_neg)
    rw [h0]
    show isAtom (codeAt ks p) = false
    rw [code_end hp]; exact atom_neg
  | n + 1, p, h => by
    cases hc : isAtom (codeAt ks p) with
    | false => rw [run_no hc]; exact hc
    | true =>
      obtain ⟨h1, hp⟩ := run_yes hc
      have ih := run_end ks n (p + 1) (by omega)
      rw [h1, List.length_cons, show p + ((run ks (p + 1)).length + 1) = p + 1 + (run ks (p + 1)).length from by omega]
      exact ih
theorem read_blank (ks : List Int) (p : Nat) (ns : List (List Int)) :
    readL .blank ns (ks.drop p) p = if codeAt ks p = 32 then readL .opn ns (ks.drop (p + 1)) (p + 1) else (none, p) := by
  by_cases hp : p < ks.length
  · rw [drop_code hp]; rfl
  · rw [drop_end hp, code_end hp, if_neg (by decide)]; rfl
theorem read_opn (ks : List Int) (p : Nat) (ns : List (List Int)) :
    readL .opn ns (ks.drop p) p = if codeAt ks p = 40 then readL .beg ns (ks.drop (p + 1)) (p + 1) else (none, p) := by
  by_cases hp : p < ks.length
  · rw [drop_code hp]; rfl
  · rw [drop_end hp, code_end hp, if_neg (by decide)]; rfl
theorem read_beg (ks : List Int) (p : Nat) (ns : List (List Int)) :
    readL .beg ns (ks.drop p) p = if isAtom (codeAt ks p) = true then readL .wit (ns ++ [[codeAt ks p]]) (ks.drop (p + 1)) (p + 1) else (none, p) := by
  by_cases hp : p < ks.length
  · rw [drop_code hp]; rfl
  · rw [drop_end hp, code_end hp, if_neg (by rw [atom_neg]; exact Bool.false_ne_true)]; rfl
theorem read_wit (ks : List Int) (p : Nat) (ns : List (List Int)) :
    readL .wit ns (ks.drop p) p = if isAtom (codeAt ks p) = true then readL .wit (app ns (codeAt ks p)) (ks.drop (p + 1)) (p + 1) else if codeAt ks p = 32 then readL .beg ns (ks.drop (p + 1)) (p + 1) else if codeAt ks p = 41 then (some ns, p + 1) else (none, p) := by
  by_cases hp : p < ks.length
  · rw [drop_code hp]; rfl
  · rw [drop_end hp, code_end hp, if_neg (by rw [atom_neg]; exact Bool.false_ne_true), if_neg (by decide), if_neg (by decide)]; rfl
end Mine
-- B1
namespace Mine
/-! ## an int in bytes -/
section
variable {prog : Program} {w : World} {A : Around} {E : Value → Shared → Prop} {s : Shared} {b : Array UInt8} {t u : Tok} {k : Int}
theorem gives_in (h0 : 0 ≤ k) (h1 : k < 256) : Gives (Builtin.«bytes.__contains__» ⟨[.bytes b t, .int k u], []⟩) (.val (.bool (b.contains k.toNat.toUInt8))) := by
  refine .of_wp fun M A E s Q hq => ?_
  show wpAny M A (Builtin.Bytes.containsIn "bytes.__contains__" (.bytes b t) (.int k u) >>= fun r => _) _ E s
  refine wpAny_bind ?_
  unfold Builtin.Bytes.containsIn
  refine wpAny_bind (wpAny_attempt ?_)
  have e : asIndex (.int k u) = pure k := rfl
  rw [e]
  refine wpAny_pure ?_
  refine wpAny_bind (wpAny_of_eq KBy.buffer_eq ?_)
  dsimp only
  have e2 : (decide (k < 0) || decide (k ≥ 256)) = false := by
    rw [Bool.or_eq_false_iff]
    exact ⟨decide_eq_false (by omega), decide_eq_false (by omega)⟩
  simp only [e2, Bool.false_eq_true, if_false]
  exact wpAny_pure (wpAny_pure ⟨_, rfl, hq⟩)
theorem notIn_bytes {Q : Value → Shared → Prop} (h0 : 0 ≤ k) (h1 : k < 256) (h : Q (.bool (!(b.contains k.toNat.toUInt8))) s) : wpAny (model prog w) A (compareOp .NotIn (.int k u) (.bytes b t)) Q E s :=
  notIn_gives (typeIs_bytes s b t) FB.slot_bytes_contains FB.entry_bytes_contains (FB.args_bytes_contains_2 _ _) (gives_in h0 h1) h
end
end Mine
-- Pre
namespace Mine
/-- what a call made in a def's frame may be asked to show -/
abbrev Asks (r : Nat) (w : World) (mean : ExcName → Option Value) (mg mb : Str → Option Value) (f : Addr) (vs : List Value) (news : List (Addr × Obj))
    (C : ∀ (h₀ : Heap) (L : Addr) (m : Str → Option Value) (s : Shared) (Q E : Value → Shared → Prop), Prop) : Prop :=
  ∀ {dp un : Nat} {gd : Option (List Code)} {cn : Str} {cs : Scope} {a : Addr} {ccd : Value} {cl : List (Str × Addr)} {outer : List Env} {A₀ : Around} {base h₀ : Heap} {L : Addr} {m : Str → Option Value} {s : Shared} {Q E : Value → Shared → Prop},
    Below A₀ base outer h₀ → Fr h₀ L s.heap m → (hd.heap_39 w.params).In h₀ → News h₀ L s.heap news → Top hd.view_39 (looseW hd.view_39 [Str.ofString "PostError"]) mean mg mb h₀ → cs.kind = .function →
    dp + r < recursionLimit → un + 10 * r < cLine → C h₀ L m s Q E →
      wpAny (model PySem.Challenge.rw_pq0965_01.row.prog w) (ktrTop dp un gd cn cs L a ccd cl outer) (call (.ref f) vs) Q E s
/-- the dict of a cursor -/
abbrev curD (w : World) (data : Array UInt8) (k e : Int) (t1 t2 t3 : Tok) (u1 u2 u3 : Tok) : Obj :=
  dictOf [⟨PyData.keyHash w.params (Str.ofString "data"), .str (Str.ofString "data") u1, .bytes data t1⟩, ⟨PyData.keyHash w.params (Str.ofString "at"), .str (Str.ofString "at") u2, .int k t2⟩, ⟨PyData.keyHash w.params (Str.ofString "end"), .str (Str.ofString "end") u3, .int e t3⟩] 3
end Mine
local macro_rules | `(tactic| k_room) => `(tactic| ktr_room)
local macro_rules | `(tactic| k_units) => `(tactic| ktr_units)
theorem Mine.words1 : True := by
  k_with "mine enter" => (refine wpAny_call ?_; k_dflt (refine' code_def ?k1 ?k2 ?k3 ?k4 ?k5 ?kA ?kF ?kK ?k6 ?k7 ?k8 ?k9 ?kB ?_ ?c2 ?c3 ?c4 ?c5; (case kA => exact rfl); (case kF => exact rfl); (case kK => first | exact rfl | assumption); (case k1 => k_asm); (case k2 => k_asm); (case k3 => k_asm); (case k4 => k_asm); (case k5 => k_asm); (case k6 => k_is); (case k7 => k_is); (case k8 => ktr_room); (case k9 => first | exact BindsTo.of_eq rfl | exact binds_K (by k_in) rfl (by k_is) rfl rfl rfl); (case c5 => decide); (case kB => exact locs rfl); (case c2 => exact rfl); (case c3 => exact rfl); (case c4 => exact rfl); k_whole; intro g' L' h' FG' F' N' B' X' T'; (try dsimp only); (try k_lift B'); (try k_fold)))
  k_with "compareOp NotIn" => (k_here; (with_reducible show wpAny _ _ (compareOp CmpOp.NotIn (Value.int _ _) (Value.bytes _ _)) _ _ _); refine Mine.notIn_bytes (by omega) (by omega) ?_)
  trivial
-- C1
namespace Mine
theorem atom_val {k : Int} (h1 : 32 < k) (h2 : k < 127) : (!((#[40, 41, 123, 37, 42, 34, 92, 93, 32] : Array UInt8).contains k.toNat.toUInt8)) = isAtom k := by
  have e : ∃ n : Fin 128, k = (n.val : Int) := ⟨⟨k.toNat, by omega⟩, by show k = ((k.toNat : Nat) : Int); omega⟩
  obtain ⟨n, rfl⟩ := e
  revert n
  decide +kernel
theorem atom_hi {k : Int} (h2 : ¬ k < 127) : isAtom k = decide (k < 127) := by
  unfold isAtom
  rw [decide_eq_false h2]; simp
theorem atom_lo {k : Int} (h2 : ¬ 32 < k) : isAtom k = decide (32 < k) := by
  unfold isAtom
  rw [decide_eq_false h2]; simp
section
variable {w : World} {mean : ExcName → Option Value} {mg mb : Str → Option Value}
theorem atom_ok {k : Int} {t : Tok} {news : List (Addr × Obj)} :
    Asks 2 w mean mg mb 75 [.int k t] news (fun h₀ L m s Q E => ∀ (t : Tok) (h' : Heap) (tk' : Nat), Fr h₀ L h' m → News h₀ L h' news → Q (.bool (isAtom k)) { s with heap := h', toks := tk' }) := by
  intro dp un gd cn cs a ccd cl outer A₀ base h₀ L m s Q E B F X N T hk hdp hun hret
  walk_at "mine enter"
  k_steps
  · refine cb_retB hret ?e1 (by k_asm) (by k_asm)
    exact atom_val (by assumption) (by assumption)
  · refine cb_retB hret ?e2 (by k_asm) (by k_asm)
    exact (atom_hi (by assumption)).symm
  · refine cb_retB hret ?e3 (by k_asm) (by k_asm)
    exact (atom_lo (by assumption)).symm
variable {c d : Addr} {b : Array UInt8} {ks : List Int} (hks : KBw.bInts b = ks) {p : Nat} {e : Int} {t1 t2 t3 u1 u2 u3 : Tok} {news : List (Addr × Obj)} (hb : ks.length ≤ 64) (he : e = ks.length)
include hks hb he
theorem peek_ok (hc : (c, instObj 178 d) ∈ news) (hd : (d, curD w b p e t1 t2 t3 u1 u2 u3) ∈ news) :
    Asks 2 w mean mg mb 126 [.ref c] news (fun h₀ L m s Q E => ∀ (t : Tok) (h' : Heap) (tk' : Nat), Fr h₀ L h' m → News h₀ L h' news → Q (.int (codeAt ks p) t) { s with heap := h', toks := tk' }) := by
  intro dp un gd cn cs a ccd cl outer A₀ base h₀ L m s Q E B F X N T hk hdp hun hret
  have h0 : (0 : Int) ≤ (p : Int) := by omega
  walk_at "mine enter"
  k_steps
  · refine cb_retI hret ?e1 (by k_asm) (by k_asm)
    rw [show ((p : Int) + 0).toNat = p from by omega]
    exact code_getD (by omega)
  · refine cb_retI hret ?e2 (by k_asm) (by k_asm)
    exact (code_end (by omega)).symm
omit he hb in
theorem picked_one {x : UInt8} (h : p < ks.length) : ((KBy.picked b (some (p : Int)) (some ((p : Int) + ((#[x] : Array UInt8).size : Nat)))).toList == [x]) = decide (codeAt ks p = (x.toNat : Int)) := by
  have e1 := KBc.ints_picked hks (some (p : Int)) (some ((p : Int) + ((#[x] : Array UInt8).size : Nat)))
  generalize KBy.picked b (some (p : Int)) (some ((p : Int) + ((#[x] : Array UInt8).size : Nat))) = y at e1 ⊢
  have e2 : (some ((p : Int) + ((#[x] : Array UInt8).size : Nat))) = some (((p + 1 : Nat) : Int)) := by
    congr 1
  rw [e2] at e1
  simp only [Option.elim, clipAt_nat] at e1
  rw [show min p ks.length = p from by omega, show min (p + 1) ks.length - p = 1 from by omega, drop_code h, List.take_succ_cons, List.take_zero] at e1
  obtain ⟨l⟩ := y
  change l.map (fun c => (c.toNat : Int)) = [codeAt ks p] at e1
  show (l == [x]) = _
  obtain ⟨z, rfl, e3⟩ := List.map_eq_singleton_iff.mp e1
  rw [← e3, Bool.eq_iff_iff, beq_iff_eq, decide_eq_true_eq]
  constructor
  · intro q; cases q; rfl
  · intro q
    have : z.toNat = x.toNat := by omega
    rw [UInt8.toNat_inj.mp this]
theorem starts_ok {x : UInt8} {t : Tok} (hc : (c, instObj 178 d) ∈ news) (hd : (d, curD w b p e t1 t2 t3 u1 u2 u3) ∈ news) :
    Asks 2 w mean mg mb 140 [.ref c, .bytes #[x] t] news (fun h₀ L m s Q E => ∀ (t : Tok) (h' : Heap) (tk' : Nat), Fr h₀ L h' m → News h₀ L h' news → Q (.bool (decide (codeAt ks p = (x.toNat : Int)))) { s with heap := h', toks := tk' }) := by
  intro dp un gd cn cs a ccd cl outer A₀ base h₀ L m s Q E B F X N T hk hdp hun hret
  have h0 : (0 : Int) ≤ (p : Int) := by omega
  walk_at "mine enter"
  k_steps
  · refine cb_retB hret ?e1 (by k_asm) (by k_asm)
    refine picked_one hks ?_
    have e1 : ((#[x] : Array UInt8).size : Int) = 1 := rfl
    omega
  · refine cb_retB hret ?e2 (by k_asm) (by k_asm)
    have e1 : ((#[x] : Array UInt8).size : Int) = 1 := rfl
    have e2 : codeAt ks p = -1 := code_end (by omega)
    rw [decide_eq_false (by assumption), e2, decide_eq_false (by omega)]
end
end Mine
-- C3
theorem Mine.words2 : True := by
  k_with "call ref" => (k_here; (with_reducible show wpAny _ _ (call (Value.ref 126) _) _ _ _); k_dflt (refine' Mine.peek_ok ?zhks ?zhb ?zhe ?zhc ?zhd ?zB ?zF ?zX ?zN ?zT ?zk ?zdp ?zun ?_; (case zB => k_asm); (case zF => k_asm); (case zX => k_asm); (case zN => k_asm); (case zT => k_asm); (case zhc => k_mem); (case zhd => k_mem); (case zhks => assumption); (case zhb => assumption); (case zhe => assumption); (case zk => first | exact rfl | assumption); (case zdp => ktr_room); (case zun => ktr_units); intro t9 h9 tk9 F9 N9; (try dsimp only); (try k_fold)))
  k_with "call ref" => (k_here; (with_reducible show wpAny _ _ (call (Value.ref 140) _) _ _ _); k_dflt (refine' Mine.starts_ok ?zhks ?zhb ?zhe ?zhc ?zhd ?zB ?zF ?zX ?zN ?zT ?zk ?zdp ?zun ?_; (case zB => k_asm); (case zF => k_asm); (case zX => k_asm); (case zN => k_asm); (case zT => k_asm); (case zhc => k_mem); (case zhd => k_mem); (case zhks => assumption); (case zhb => assumption); (case zhe => assumption); (case zk => first | exact rfl | assumption); (case zdp => ktr_room); (case zun => ktr_units); intro t9 h9 tk9 F9 N9; (try dsimp only); (try k_fold)))
  trivial
theorem Mine.kupd_use {d : Addr} {o o' : Obj} {news : List (Addr × Obj)} {g : Obj → List (Addr × Obj)} (h : ∀ (t : Tok) (o' : Obj), Upd d o o' news (g o')) : Upd d o o' news (g o') := h 0 o'
local macro_rules | `(tactic| k_upd) => `(tactic| exact Mine.kupd_use (by assumption))
namespace Mine
section
variable {w : World} {mean : ExcName → Option Value} {mg mb : Str → Option Value}
variable {c d : Addr} {b : Array UInt8} {ks : List Int} (hks : KBw.bInts b = ks) {p : Nat} {e : Int} {t1 t2 t3 u1 u2 u3 : Tok} {news : List (Addr × Obj)} (hb : ks.length ≤ 64) (he : e = ks.length)
include hks hb he
theorem skip_ok {x : UInt8} {t : Tok} {g : Obj → List (Addr × Obj)} (hc : (c, instObj 178 d) ∈ news) (hd : (d, curD w b p e t1 t2 t3 u1 u2 u3) ∈ news) (hU : ∀ (t : Tok) (o' : Obj), Upd d (curD w b p e t1 t2 t3 u1 u2 u3) o' news (g o')) :
    Asks 4 w mean mg mb 147 [.ref c, .bytes #[x] t] news (fun h₀ L m s Q E =>
      (codeAt ks p = (x.toNat : Int) → ∀ (t : Tok) (h' : Heap) (tk' : Nat), Fr h₀ L h' m → News h₀ L h' (g (curD w b ((p + 1 : Nat) : Int) e t1 t t3 u1 u2 u3)) → Q (.bool true) { s with heap := h', toks := tk' }) ∧
      (codeAt ks p ≠ (x.toNat : Int) → ∀ (t : Tok) (h' : Heap) (tk' : Nat), Fr h₀ L h' m → News h₀ L h' news → Q (.bool false) { s with heap := h', toks := tk' })) := by
  intro dp un gd cn cs a ccd cl outer A₀ base h₀ L m s Q E B F X N T hk hdp hun hret
  have h0 : (0 : Int) ≤ (p : Int) := by omega
  walk_at "mine enter"
  k_steps
  · exact hret.1 (by assumption) _ _ _ (by k_asm) (by k_asm)
  · exact hret.2 (by assumption) 0 _ _ (by k_asm) (by k_asm)
theorem take_ok {g : Obj → List (Addr × Obj)} (hc : (c, instObj 178 d) ∈ news) (hd : (d, curD w b p e t1 t2 t3 u1 u2 u3) ∈ news) (hU : ∀ (t : Tok) (o' : Obj), Upd d (curD w b p e t1 t2 t3 u1 u2 u3) o' news (g o')) :
    Asks 4 w mean mg mb 133 [.ref c] news (fun h₀ L m s Q E =>
      (0 ≤ codeAt ks p → ∀ (t u : Tok) (h' : Heap) (tk' : Nat), Fr h₀ L h' m → News h₀ L h' (g (curD w b ((p + 1 : Nat) : Int) e t1 t t3 u1 u2 u3)) → Q (.int (codeAt ks p) u) { s with heap := h', toks := tk' }) ∧
      (¬ 0 ≤ codeAt ks p → ∀ (u : Tok) (h' : Heap) (tk' : Nat), Fr h₀ L h' m → News h₀ L h' news → Q (.int (codeAt ks p) u) { s with heap := h', toks := tk' })) := by
  intro dp un gd cn cs a ccd cl outer A₀ base h₀ L m s Q E B F X N T hk hdp hun hret
  have h0 : (0 : Int) ≤ (p : Int) := by omega
  walk_at "mine enter"
  k_steps
  · exact hret.1 (by assumption) _ _ _ _ (by k_asm) (by k_asm)
  · exact hret.2 (by assumption) _ _ _ (by k_asm) (by k_asm)
end
end Mine
-- Exc
namespace Mine
open Builtin Builtin.ObjectAttr Builtin.Getset_descriptor
abbrev excO (dd : Option Addr) (t : Addr) : Obj := { cls := .ref 59, dict := dd, data := .fields #[.ref t, .none, .none, .none, .bool false, .none] }
abbrev tupO (vs : List Value) : Obj := { cls := .type "tuple", data := .seq vs.toArray }
abbrev wireTail : List Value := [.ref 46, .type "Exception", .type "BaseException", .type "object"]
theorem wire_obj {w : World} {h : Heap} (X : (hd.heap_39 w.params).In h) : ∃ k0 k1 k2 k3 k5, h.get? 59 = some (excClassObj (Str.ofString "WireFault") (Str.ofString "WireFault") 59 58 [.ref 46] wireTail true [] [] false none none k0 k1 k2 k3 k5 "Exception.__new__") := by
  have := X 59 _ (by k_is)
  exact ⟨_, _, _, _, _, this⟩
section
variable {prog : Program} {w : World} {A : Around} {R : Result → Shared → Prop} {h : Heap} {g : Array GenState} {d : Drawn} {t : Nat} {os : OsState} {k0 k1 k2 k3 k5 : Option Value}
theorem wire_check {M : Model} {A : Around} {E : Value → Shared → Prop} {rest : List Value} {Q : Unit → Shared → Prop} (hC : h.get? 59 = some (excClassObj (Str.ofString "WireFault") (Str.ofString "WireFault") 59 58 [.ref 46] wireTail true [] [] false none none k0 k1 k2 k3 k5 "Exception.__new__"))
    (hq : Q () ⟨h, g, d, t, os⟩) : wpAny M A (checkBuiltinCall "Exception.__new__" ⟨.ref 59 :: rest, []⟩) Q E ⟨h, g, d, t, os⟩ := by
  have F := PySem.F.excBase_Exception
  have hcont : (Value.ref 59 :: wireTail).contains (.type "Exception") = true := by decide +kernel
  have hstar := F.noStar
  simp only [checkBuiltinCall, F.newKind, F.newSplit, F.newRow]
  repeat (first | refine wpAny_loadPart_at hC ?_ | (refine wpAny_isSubtype_exc hC ?_; rw [hcont]) | refine wpAny_staticBase_exc hC ?_ | refine wpAny_madeBy_exc hC ?_ | simp only [bne_self_eq_false, Bool.false_eq_true, if_false] | wp_step)
  exact hq
theorem wire_new {rest : List Value} (hC : h.get? 59 = some (excClassObj (Str.ofString "WireFault") (Str.ofString "WireFault") 59 58 [.ref 46] wireTail true [] [] false none none k0 k1 k2 k3 k5 "Exception.__new__"))
    (hq : R (.ok (.ret (.ref (h.objs.size + 1)))) ⟨(h.push (tupO rest)).push (excO none h.objs.size), g, d, t, os⟩) (hrest : rest.length ≤ sizeLine := by size_fits) :
    codeAny (model prog w) A (.builtin "Exception.__new__" ⟨.ref 59 :: rest, []⟩) R ⟨h, g, d, t, os⟩ := by
  have F := PySem.F.excBase_Exception
  have hends := F.ends
  have hcB : (Value.ref 59 :: wireTail).contains (.type "Exception") = true := by decide +kernel
  have hcA : (Value.ref 59 :: wireTail).contains (.type "AttributeError") = false := by decide +kernel
  have hcN : (Value.ref 59 :: wireTail).contains (.type "NameError") = false := by decide +kernel
  refine codeAny_builtinAt F.entry ?_
  unfold Builtin.«BaseException.__new__»
  refine PySem.wpAt_bind ?_
  show PySem.wpAt _ _ _ (stack >>= _) _ _ _
  refine PySem.wpAt_bind (PySem.wpAt_stack fun p below => PySem.wpAt_of_wpAny ?_)
  wp_walk
  refine PySem.wpAt_of_wpAny ?_
  rw [F.owner]
  repeat (first | with_reducible refine wpAny_madeHere_exc F.canon hC ?_ | with_reducible refine wpAny_loadPart_at hC ?_ | (with_reducible refine wpAny_isSubtype_exc hC ?_; first | rw [hcB] | rw [hcA] | rw [hcN]) | wp_step)
  show R _ _
  rw [Heap.size_push]
  exact hq
end
section
variable {w : World} {A : Around} {s : Shared} {h₀ : Heap} {L : Addr} {m : Str → Option Value} {news : List (Addr × Obj)} {R : Result → Shared → Prop}
theorem make_wire {rest : List Value} (F : Fr h₀ L s.heap m) (N : News h₀ L s.heap news) (X : (hd.heap_39 w.params).In s.heap)
    (h : ∀ e t h', Fr h₀ L h' m → News h₀ L h' ((e, excO none t) :: (t, tupO rest) :: news) → (∀ p ∈ news, p.1 < t) → t < e →
      codeAny (model PySem.Challenge.rw_pq0965_01.row.prog w) (A.under (.builtin "type.__call__" ⟨.ref 59 :: rest, []⟩)) (.call (.ref 36) ⟨.ref e :: rest, []⟩) (InitBack e R) { s with heap := h' }) (hrest : rest.length ≤ sizeLine := by size_fits) :
    codeAny (model PySem.Challenge.rw_pq0965_01.row.prog w) A (.call (.ref 59) ⟨rest, []⟩) R s := by
  obtain ⟨hh, g, d, t, os⟩ := s
  obtain ⟨k0, k1, k2, k3, k5, hC⟩ := wire_obj X
  have hN := (N.push F (tupO rest)).push (F.push _) (excO none hh.objs.size)
  rw [Heap.size_push] at hN
  have hq := h _ hh.objs.size _ ((F.push _).push _) hN (fun p hp => Heap.lt_size (N p hp).1) (Nat.lt_succ_self _)
  have hi : Looks (model PySem.Challenge.rw_pq0965_01.row.prog w) hh (typeLookup (.ref 59) "__init__") (some (.ref 36)) := looks_findIn X (by k_is)
  have hb : ∀ self, Looks (model PySem.Challenge.rw_pq0965_01.row.prog w) hh (bindSpecial (.ref 36) self) (.ref 36, [self]) := fun self => bind_fn X self (by k_is)
  have call : Looks (model PySem.Challenge.rw_pq0965_01.row.prog w) hh (specialOf (.ref 59) "__call__") (some (.builtin "type.__call__")) := looks_specialIn X (by k_is)
  have typ : Looks (model PySem.Challenge.rw_pq0965_01.row.prog w) hh (isInstance (.ref 59) (.type "type")) true := looks_instIn X (by k_is)
  have self : Looks (model PySem.Challenge.rw_pq0965_01.row.prog w) hh (isSubtype (.ref 59) (.ref 59)) true := looks_mroIn X (by k_is)
  have made : Looks (model PySem.Challenge.rw_pq0965_01.row.prog w) hh (Bind.madeBy (.ref 59)) (some "Exception.__new__") := by
    intro A Q E s k q
    obtain ⟨h', g', d', t', os'⟩ := s
    exact wpAny_madeBy_exc (k _ _ hC) q
  refine codeAny_of_tree ?_
  show wpAny _ _ (callAny (.ref 59) _) _ _ _
  refine nd_load hC ?_
  show wpAny _ _ (callAny.viaDunder (.ref 59) _) _ _ _
  unfold callAny.viaDunder
  refine wpAny_bind (call.at ?_)
  dsimp only
  rw [tc_bind]
  refine wpAny_bind (wpAny_pure (wpAny_bind (wpAny_pure ?_)))
  refine wpAny_pure (a := Fin.again (.call (.builtin "type.__call__") ⟨.ref 59 :: rest, []⟩)) (And.intro rfl ?_)
  refine codeAny_call_builtin_at (Code.quiet_builtin _ (by decide +kernel)) entry_typeCall (check_slot tc_kind tc_split typ (tc_args _ _ _) ?_)
  unfold Builtin.«type.__call__»
  have hm : Looks (model PySem.Challenge.rw_pq0965_01.row.prog w) hh (mroOf (.ref 59)) (.ref 59 :: wireTail) := ((Looks.ld (part := none) hC).andThen .now).andThen .now
  repeat (first | with_reducible refine wpAny_call ?_ | lk)
  refine codeAny_call_builtin_code (Code.quiet_builtin _ PySem.F.excBase_Exception.quiet) (wire_check hC ?_)
  refine wire_new hC ?_ hrest
  have k : ∀ b o, hh.get? b = some o → ((hh.push (tupO rest)).push (excO none hh.objs.size)).get? b = some o := fun b o e => Heap.get?_push_of_some _ (Heap.get?_push_of_some _ e)
  have hx : ((hh.push (tupO rest)).push (excO none hh.objs.size)).get? (hh.objs.size + 1) = some (excO none hh.objs.size) := by heap_get
  have t1 : Looks (model PySem.Challenge.rw_pq0965_01.row.prog w) ((hh.push (tupO rest)).push (excO none hh.objs.size)) (typeOf (.ref (hh.objs.size + 1))) (.ref 59) := (Looks.ld hx).andThen .now
  have s1 := self.keeps k
  have i1 := hi.keeps k
  have b1 := (hb (.ref (hh.objs.size + 1))).keeps k
  show wpAny _ _ _ _ _ _
  unfold isInstance callSpecial? specialOf
  repeat (first | with_reducible refine wpAny_call ?_ | lk)
  refine codeAny_mono hq fun r s' z => ?_
  rcases r with e | (v | _ | _ | _) <;> first | exact z | exact z.elim | skip
  obtain ⟨rfl, z⟩ := z
  exact wpAny_pure (wpAny_pure z)
end
end Mine
-- Exc2
namespace Mine
open Builtin Builtin.ObjectAttr Builtin.Getset_descriptor
section
variable {w : World} {A : Around} {s : Shared} {h₀ : Heap} {L : Addr} {m : Str → Option Value} {news : List (Addr × Obj)} {R : Result → Shared → Prop} {E : Value → Shared → Prop} {e t : Addr} {dd : Option Addr} {name : Str} {v : Value}
theorem exc_type (h : Heap) (he : h.get? e = some (excO dd t)) : Looks (model PySem.Challenge.rw_pq0965_01.row.prog w) h (typeOf (.ref e)) (.ref 59) := (Looks.ld he).andThen .now
theorem exc_osa {tk : Tok} (X : (hd.heap_39 w.params).In s.heap) (he : s.heap.get? e = some (excO dd t)) (hf : findIn (hd.heap_39 w.params) (.ref 59) name = some none)
    (h : wpAny (model PySem.Challenge.rw_pq0965_01.row.prog w) A.in1 (storeInOwnDict (.ref e) (.ref 59) (.str name tk) name v false)
      (fun fin s' => match fin with | .done f => R (.ok f) s' | .again c' => c'.quiet = true ∧ codeAny (model PySem.Challenge.rw_pq0965_01.row.prog w) A c' R s') (fun e s' => R (.error e) s') s) :
    codeAny (model PySem.Challenge.rw_pq0965_01.row.prog w) A (.call (.builtin "object.__setattr__") ⟨[.ref e, .str name tk, v], []⟩) R s := by
  have SF := PySem.F.store_object
  have T := exc_type (w := w) s.heap he
  have sub : Looks (model PySem.Challenge.rw_pq0965_01.row.prog w) s.heap (isInstance (.ref e) (.type "object")) true := T.andThen (looks_mroIn X (by k_is))
  obtain ⟨k0, k1, k2, k3, k5, hC⟩ := wire_obj X
  have hm : Looks (model PySem.Challenge.rw_pq0965_01.row.prog w) s.heap (mroOf (.ref 59)) (.ref 59 :: wireTail) := ((Looks.ld (part := none) hC).andThen .now).andThen .now
  refine codeAny_call_builtin SF.slot.plain SF.entry (@check_slot (model PySem.Challenge.rw_pq0965_01.row.prog w) _ _ s "object.__setattr__" "object" "__setattr__" (.ref e) [.str name tk, v] [] _ SF.kind SF.split sub (SF.args (.ref e) (.str name tk) v) ?_)
  rw [osa_eq, refuse_eq]
  refine wpAny_bind (wpAny_bind (T.here (wpAny_bind (hm.here ?_))))
  rw [refuseLoop_ref, refuseLoop_ref, PySem.F.store_Exception.passes]
  refine wpAny_pure (wpAny_bind (T.here (wpAny_bind ((looks_findIn X hf).here (wpAny_bind ?_)))))
  exact wpAny_pure h
theorem exc_set (X : (hd.heap_39 w.params).In s.heap) (he : s.heap.get? e = some (excO dd t)) {Q : Unit → Shared → Prop}
    (h : codeAny (model PySem.Challenge.rw_pq0965_01.row.prog w) A (.call (.builtin "object.__setattr__") ⟨[.ref e, .str name s.toks, v], []⟩) (fun r s' => match r with | .ok (.ret _) => Q () s' | .ok _ => False | .error e => E e s') { s with toks := s.toks + 1 }) :
    wpAny (model PySem.Challenge.rw_pq0965_01.row.prog w) A (setAttr (.ref e) name v) Q E s := by
  have T := exc_type (w := w) s.heap he
  refine wpAny_bind (wpAny_mkText (wpAny_bind (wpAny_bind (wpAny_bind (T _ _ _ _ (fun _ _ e => e) (looks_findIn X (by k_is : findIn (hd.heap_39 w.params) (.ref 59) "__setattr__" = some (some (.builtin "object.__setattr__"))) _ _ _ _ (fun _ _ e => e) (wpAny_holding ?_)))))))
  rw [PySem.F.store_object.slot.bind]
  refine wpAny_bind (wpAny_pure (wpAny_bind (wpAny_call (codeAny_mono h fun r s' z => ?_))))
  rcases r with e | (v | _ | _ | _) <;> first | exact z | exact wpAny_pure (wpAny_pure z)
/-- the first attribute of an exception makes its dict -/
theorem exc_set1 (F : Fr h₀ L s.heap m) (N : News h₀ L s.heap ((e, excO none t) :: news)) (X : (hd.heap_39 w.params).In s.heap) (hn : ∀ p ∈ news, p.1 ≠ e) (hf : findIn (hd.heap_39 w.params) (.ref 59) name = some none) {Q : Unit → Shared → Prop}
    (h : ∀ dx h' u, Fr h₀ L h' m → News h₀ L h' ((e, excO (some dx) t) :: (dx, dictOf [⟨PyData.keyHash w.params name, .str name u, v⟩] 1) :: news) → (∀ p ∈ news, p.1 < dx) → e < dx → Q () { s with heap := h', toks := u + 1 }) :
    wpAny (model PySem.Challenge.rw_pq0965_01.row.prog w) A (setAttr (.ref e) name v) Q E s := by
  have he := (N _ (.head _)).1
  refine exc_set X he (exc_osa (s := { s with toks := s.toks + 1 }) X he hf ?_)
  obtain ⟨k0, k1, k2, k3, k5, hC⟩ := wire_obj X
  obtain ⟨hh, g, d, tk, os⟩ := s
  have N1 := N.push F emptyDict
  have F1 := F.push emptyDict
  have elt : e < hh.objs.size := Heap.lt_size he
  obtain ⟨F2, N2⟩ := news_upd (pre := [(hh.objs.size, emptyDict)]) (f := fun o => { o with dict := some hh.objs.size }) (o' := excO (some hh.objs.size) t) F1 N1 (fun p hp => by rw [List.mem_singleton.mp hp]; exact Nat.ne_of_gt elt) hn rfl rfl
  obtain ⟨F3, N3⟩ := news_upd (pre := []) (d := hh.objs.size) (o := emptyDict) (post := (e, excO (some hh.objs.size) t) :: news) (f := Obj.putName name (PyData.keyHash w.params name) (.str name (tk + 1)) v) F2 N2 (fun p hp => nomatch hp) (fun p hp => by
    rcases List.mem_cons.mp hp with rfl | hp
    · exact Nat.ne_of_lt elt
    · exact Nat.ne_of_lt (Heap.lt_size (N _ (.tail _ hp)).1)) (o' := dictOf [⟨PyData.keyHash w.params name, .str name (tk + 1), v⟩] 1) rfl rfl
  have H1 := (N2 _ (.head _)).1
  have H3 := (N3 _ (.head _)).1
  have fin := h hh.objs.size _ (tk + 1) F3 (fun p hp => N3 p (by
    rcases List.mem_cons.mp hp with rfl | hp
    · exact .tail _ (.head _)
    · rcases List.mem_cons.mp hp with rfl | hp
      · exact .head _
      · exact .tail _ (.tail _ hp))) (fun p hp => Heap.lt_size (N _ (.tail _ hp)).1) elt
  unfold storeInOwnDict
  refine wpAny_bind (wpAny_pure ?_)
  show wpAny _ _ (ownDictForStores (.ref e) >>= _) _ _ _
  refine wpAny_bind ?_
  show wpAny _ _ (instanceDict e true) _ _ _
  unfold instanceDict classData
  refine wpAny_bind (wpAny_loadPart he ?_)
  dsimp only
  refine wpAny_bind (wpAny_bind (wpAny_load hC (wpAny_pure ?_)))
  dsimp only
  refine wpAny_bind (wpAny_alloc (wpAny_bind (wpAny_update (N1 _ (.tail _ (.head _))).1 ?_)))
  unfold dictMade
  refine wpAny_bind (wpAny_pure (wpAny_pure ?_))
  dsimp only
  unfold storeInDict
  refine wpAny_bind (wpAny_pure (wpAny_bind ?_))
  unfold nsSet
  refine wpAny_bind (wpAny_bind (wpAny_askSetting (wpAny_pure (wpAny_bind (wpAny_mkText (wpAny_bind (wpAny_loadPart H1 ?_)))))))
  dsimp only
  rw [aRefKeyMayBeTheName_at, show ((!(#[] : Array DictEntry).any fun x => x.key.isStr name) && (#[] : Array DictEntry).any fun x => x.refKey) = false from by simp, if_neg Bool.false_ne_true]
  refine wpAny_updatePart H1 ?_
  refine wpAny_bind (wpAny_lookBehind H3 (pastItsLine_dict (by rw [List.size_toArray, sizeLine_eq]; exact Nat.le_of_ble_eq_true rfl)) ?_)
  exact wpAny_pure fin
/-- a further attribute -/
theorem exc_set2 {dx : Addr} {es es' : List DictEntry} {n n' : Nat} (F : Fr h₀ L s.heap m) (N : News h₀ L s.heap ((e, excO (some dx) t) :: (dx, dictOf es n) :: news)) (X : (hd.heap_39 w.params).In s.heap) (hn : ∀ p ∈ news, p.1 ≠ dx) (hed : e ≠ dx) (hf : findIn (hd.heap_39 w.params) (.ref 59) name = some none)
    (hl : (getL name es).isSome = true) (hp : (putL name (PyData.keyHash w.params name) (.str name (s.toks + 1)) v es, putN name es n) = (es', n')) (hz : es'.length ≤ 1000) {Q : Unit → Shared → Prop}
    (h : ∀ h', Fr h₀ L h' m → News h₀ L h' ((e, excO (some dx) t) :: (dx, dictOf es' n') :: news) → Q () { s with heap := h', toks := s.toks + 2 }) :
    wpAny (model PySem.Challenge.rw_pq0965_01.row.prog w) A (setAttr (.ref e) name v) Q E s := by
  have he := (N _ (.head _)).1
  refine exc_set X he (exc_osa (s := { s with toks := s.toks + 1 }) X he hf ?_)
  obtain ⟨k0, k1, k2, k3, k5, hC⟩ := wire_obj X
  obtain ⟨hh, g, d, tk, os⟩ := s
  obtain ⟨e1, e2⟩ := Prod.mk.inj hp
  obtain ⟨F3, N3⟩ := news_upd (pre := [(e, excO (some dx) t)]) (d := dx) (o := dictOf es n) (post := news) (f := Obj.putName name (PyData.keyHash w.params name) (.str name (tk + 1)) v) F N (fun p hp => by rw [List.mem_singleton.mp hp]; exact hed) hn (o' := dictOf es' n') (by rw [putName_dict, e1, e2]) rfl
  have H1 := (N _ (.tail _ (.head _))).1
  have H3 := (N3 _ (.tail _ (.head _))).1
  have fin := h _ F3 N3
  unfold storeInOwnDict
  refine wpAny_bind (wpAny_pure ?_)
  show wpAny _ _ (ownDictForStores (.ref e) >>= _) _ _ _
  refine wpAny_bind ?_
  show wpAny _ _ (instanceDict e true) _ _ _
  unfold instanceDict classData
  refine wpAny_bind (wpAny_loadPart he ?_)
  dsimp only
  refine wpAny_bind (wpAny_bind (wpAny_load hC (wpAny_pure ?_)))
  dsimp only
  refine wpAny_pure ?_
  unfold storeInDict
  refine wpAny_bind (wpAny_pure (wpAny_bind ?_))
  unfold nsSet
  refine wpAny_bind (wpAny_bind (wpAny_askSetting (wpAny_pure (wpAny_bind (wpAny_mkText (wpAny_bind (wpAny_loadPart H1 ?_)))))))
  dsimp only
  have c : (!es.toArray.any (·.key.isStr name) && es.toArray.any (·.refKey)) = false := by
    rw [← Array.any_toList, ← Array.any_toList]
    unfold getL at hl
    split at hl
    · rename_i en he
      rw [List.any_eq_true.mpr ⟨en, List.mem_of_find?_eq_some he, List.find?_some he⟩]; rfl
    · split at hl
      · cases hl
      · rename_i z; rw [Bool.not_eq_true] at z
        show (_ && es.any _) = false
        rw [z, Bool.and_false]
  rw [aRefKeyMayBeTheName_at, c, if_neg Bool.false_ne_true]
  refine wpAny_updatePart H1 ?_
  refine wpAny_bind (wpAny_lookBehind H3 (pastItsLine_dict (by rw [List.size_toArray, sizeLine_eq]; omega)) ?_)
  exact wpAny_pure fin
/-- BaseException.__init__ of an exception -/
theorem exc_check {M : Model} {h : Heap} {g : Array GenState} {d : Drawn} {tk : Nat} {os : OsState} {k0 k1 k2 k3 k5 : Option Value} {oe : Obj} {v : Value} {Q : Unit → Shared → Prop}
    (hC : h.get? 59 = some (excClassObj (Str.ofString "WireFault") (Str.ofString "WireFault") 59 58 [.ref 46] wireTail true [] [] false none none k0 k1 k2 k3 k5 "Exception.__new__")) (he : h.get? e = some oe) (hcls : oe.cls = .ref 59) (hq : Q () ⟨h, g, d, tk, os⟩) :
    wpAny M A (checkBuiltinCall "Exception.__init__" ⟨[.ref e, v], []⟩) Q E ⟨h, g, d, tk, os⟩ := by
  have FE := PySem.F.excBase_Exception
  have hcB : (Value.ref 59 :: wireTail).contains (.type "Exception") = true := by decide +kernel
  have hshort := FE.noStar
  simp only [checkBuiltinCall, FE.initKind, FE.initSplit, FE.initRow]
  repeat (first | (with_reducible refine wpAny_loadPart_at he ?_; rw [hcls]) | with_reducible refine wpAny_loadPart_at hC ?_ | (with_reducible refine wpAny_isSubtype_exc hC ?_; rw [hcB]) | wp_step)
  exact hq
theorem exc_init {v : Value} (F : Fr h₀ L s.heap m) (N : News h₀ L s.heap ((e, excO dd t) :: news)) (X : (hd.heap_39 w.params).In s.heap) (hn : ∀ p ∈ news, p.1 ≠ e) {Q : Value → Shared → Prop}
    (h : ∀ t' h', Fr h₀ L h' m → News h₀ L h' ((e, excO dd t') :: (t', tupO [v]) :: news) → (∀ p ∈ news, p.1 < t') → e < t' → Q .none { s with heap := h' }) :
    wpAny (model PySem.Challenge.rw_pq0965_01.row.prog w) A (call (.builtin "Exception.__init__") [.ref e, v]) Q E s := by
  have FE := PySem.F.excBase_Exception
  have he := (N _ (.head _)).1
  obtain ⟨k0, k1, k2, k3, k5, hC⟩ := wire_obj X
  refine wpAny_call (codeAny_call_builtin FE.init.plain FE.initEntry (exc_check hC he rfl ?_))
  have elt : e < s.heap.objs.size := Heap.lt_size he
  have N1 := N.push F (tupO [v])
  have F1 := F.push (tupO [v])
  obtain ⟨F2, N2⟩ := news_upd (pre := [(s.heap.objs.size, tupO [v])]) (f := Obj.mapFields (·.setIfInBounds 0 (Value.ref s.heap.objs.size))) (o' := excO dd s.heap.objs.size) F1 N1 (fun p hp => by rw [List.mem_singleton.mp hp]; exact Nat.ne_of_gt elt) hn rfl rfl
  have fin := h s.heap.objs.size _ F2 (fun p hp => N2 p (by
    rcases List.mem_cons.mp hp with rfl | hp
    · exact .tail _ (.head _)
    · rcases List.mem_cons.mp hp with rfl | hp
      · exact .head _
      · exact .tail _ (.tail _ hp))) (fun p hp => Heap.lt_size (N _ (.tail _ hp)).1) elt
  unfold Builtin.«BaseException.__init__»
  dsimp only
  refine wpAny_bind ?_
  show wpAny _ _ (newTuple [v]) _ _ _
  refine wpAny_newObj_type ?_ (by size_fits)
  refine wpAny_bind ?_
  repeat (first | with_reducible refine wpAny_field (N1 _ (.tail _ (.head _))).1 rfl rfl ?_ | with_reducible refine wpAny_setField (N1 _ (.tail _ (.head _))).1 rfl (by decide) ?_ | wp_step)
  exact fin
end
end Mine
-- Exc3
local macro_rules | `(tactic| k_all) => `(tactic| assumption)
theorem Mine.ne_of_lts {d : Addr} {news : List (Addr × Obj)} (h : ∀ p ∈ news, p.1 < d) : ∀ p ∈ news, p.1 ≠ d := fun p hp => Nat.ne_of_lt (h p hp)
theorem Mine.meta_exc : typeOf (.type "Exception") = pure (.type "type") := by kernel_rfl
theorem Mine.words3 : True := by
  k_with "getMethod type:Exception" => (k_here; refine' method_type ?zF ?zX ?zm (by decide +kernel) ?ze ?zh ?_; (case zF => k_asm); (case zX => k_asm); (case zm => exact Mine.meta_exc); (case ze => k_dflt k_is); (case zh => k_handed))
  k_with "call builtin:Exception.__init__" => (k_here; k_dflt (refine' Mine.exc_init ?zF ?zN ?zX ?zn ?_; (case zF => k_asm); (case zN => k_asm); (case zX => k_in); (case zn => k_all); intro t9 h9 F9 N9 l1 l2; k_lt2 l2))
  k_with "setAttr ref" => (k_here; k_dflt (refine' Mine.exc_set2 ?zF ?zN ?zX ?zn ?zed ?zf ?zl ?zpp ?zz ?_; (case zF => k_asm); (case zN => k_asm); (case zX => k_in); (case zn => exact Mine.ne_of_lts (by assumption)); (case zed => k_ne); (case zf => k_is); (case zl => k_get); (case zpp => k_put); (case zz => exact Nat.le_of_ble_eq_true rfl); intro h9 F9 N9))
  k_with "setAttr ref" => (k_here; k_dflt (refine' Mine.exc_set1 ?zF ?zN ?zX ?zn ?zf ?_; (case zF => k_asm); (case zN => k_asm); (case zX => k_in); (case zn => k_all); (case zf => k_is); intro d9 h9 u9 F9 N9 l1 l2; k_lt2 l2))
  k_with "mine enterC" => (k_dflt (refine' code_def ?k1 ?k2 ?k3 ?k4 ?k5 ?kA ?kF ?kK ?k6 ?k7 ?k8 ?k9 ?kB ?_ ?c2 ?c3 ?c4 ?c5; (case kA => exact rfl); (case kF => exact rfl); (case kK => first | exact rfl | assumption); (case k1 => k_asm); (case k2 => k_asm); (case k3 => k_asm); (case k4 => k_asm); (case k5 => k_asm); (case k6 => k_is); (case k7 => k_is); (case k8 => ktr_room); (case k9 => first | exact BindsTo.of_eq rfl | exact binds_K (by k_in) rfl (by k_is) rfl rfl rfl); (case c5 => decide); (case kB => exact locs rfl); (case c2 => exact rfl); (case c3 => exact rfl); (case c4 => exact rfl); k_whole; intro g' L' h' FG' F' N' B' X' T'; (try dsimp only); (try k_lift B'); (try k_fold)))
  trivial
namespace Mine
abbrev excD (w : World) (x : Str) (k : Int) (t1 t2 u1 u2 : Tok) : Obj :=
  dictOf [⟨PyData.keyHash w.params (Str.ofString "what"), .str (Str.ofString "what") u1, .str x t1⟩, ⟨PyData.keyHash w.params (Str.ofString "at"), .str (Str.ofString "at") u2, .int k t2⟩] 2
theorem drop4 {α : Type} {a b c d : α} {l : List α} : ∀ p ∈ a :: b :: l, p ∈ a :: b :: c :: d :: l := fun p hp => by
  rcases List.mem_cons.mp hp with rfl | hp
  · exact .head _
  · rcases List.mem_cons.mp hp with rfl | hp
    · exact .tail _ (.head _)
    · exact .tail _ (.tail _ (.tail _ (.tail _ hp)))
section
variable {w : World} {mean : ExcName → Option Value} {mg mb : Str → Option Value}
theorem wire_ok {x : Str} {k : Int} {t1 t2 : Tok} {news : List (Addr × Obj)} :
    Asks 4 w mean mg mb 59 [.str x t1, .int k t2] news (fun h₀ L m s Q E => ∀ (e dx t : Addr) (u1 u2 : Tok) (h' : Heap) (tk' : Nat), Fr h₀ L h' m → News h₀ L h' ((e, excO (some dx) t) :: (dx, excD w x k t1 t2 u1 u2) :: news) → (∀ p ∈ news, p.1 < e) → e < dx → Q (.ref e) { s with heap := h', toks := tk' }) := by
  intro dp un gd cn cs a ccd cl outer A₀ base h₀ L m s Q E B F X N T hk hdp hun hret
  refine wpAny_call (make_wire F N (by k_in) fun e t h' F' N' l1 l2 => ?_)
  have l3 : ∀ p ∈ news, p.1 < e := fun p hp => Nat.lt_trans (l1 p hp) l2
  have l4 := ne_of_lts l3
  clear N F
  replace l2 : @LT.lt Nat _ t e := l2
  walk_at "mine enterC"
  k_steps
  exact hret e _ _ _ _ _ _ (by k_asm) (cb_drop (by assumption) drop4) l3 (by assumption)
end
end Mine
-- Fly
namespace Mine
/-- an exception with a dict in flight above B; its newest station bears fl -/
def FlyD (B : Heap) (l : List Env) (e dx : Addr) (fl : Value) (h : Heap) : Prop :=
  B.StaysIn h ∧ B.get? e = none ∧ h.FunFrames B l ∧ ∃ oe vs T oT ts, h.get? e = some oe ∧ (oe.cls = .ref 59 ∧ oe.dict = some dx) ∧ oe.data = .fields vs ∧ vs[1]? = some (.ref T) ∧ B.get? T = none ∧ T ≠ e ∧ h.get? T = some oT ∧ oT.data = .fields ts ∧ ts[3]? = some fl
theorem map_fields {o : Obj} {vs : Array Value} (hd : o.data = .fields vs) (f : Array Value → Array Value) : Obj.mapFields f o = { o with data := .fields (f vs) } := by
  obtain ⟨c, d, dt, sl⟩ := o
  dsimp only at hd
  subst hd
  rfl
section
variable {M : Model} {A : Around} {E : Value → Shared → Prop} {s : Shared} {B : Heap} {env : Env} {outer l : List Env} {L e dx : Addr} {Q : Unit → Shared → Prop}
theorem upd_slots {h : Heap} {a : Addr} {o : Obj} {vs : Array Value} {f : Array Value → Array Value} (ho : h.get? a = some o) (hd : o.data = .fields vs) : h.UpToSlots (h.update a (Obj.mapFields f)) := fun b x hb hn => by
  refine ⟨x.slots, ?_⟩
  rw [Heap.get?_update_other _ _ (fun q => ?_)]
  · exact hb
  · subst q
    rw [ho] at hb
    cases hb
    exact hn _ hd
theorem fun_upto {h h' : Heap} (k : h.UpToSlots h') (hl : h.FunFrames B l) : h'.FunFrames B l := hl.of_keeps fun b o hb hn => let ⟨sl, e⟩ := k b o hb hn; ⟨_, e, rfl⟩
/-- a station is laid -/
theorem station {oe : Obj} {vs : Array Value} {head : Value} {hadNext : Bool} (hfr : A.frames = some (env :: outer)) (hl : s.heap.FunFrames B (env :: outer)) (hf : env.frame = some L) (hB : B.StaysIn s.heap) (hen : B.get? e = none)
    (he : s.heap.get? e = some oe) (hc : oe.cls = .ref 59 ∧ oe.dict = some dx) (hd : oe.data = .fields vs) (hz : 1 < vs.size)
    (h : ∀ h', FlyD B (env :: outer) e dx (rawInt L) h' → s.heap.UpToSlots h' → Q () { s with heap := h' }) :
    wpAny M A (do let a ← frameOf env; let pl ← entryPlaceOf L hadNext; let b ← EntryCells.newEntry head a .none (rawInt L) .none pl; setField (.ref e) 1 b) Q E s := by
  have notFrame : e ∉ (env :: outer).filterMap (·.frame) := fun hm => by
    obtain ⟨_, o, ho, hn⟩ := hl.mem hm
    rw [he] at ho
    cases ho
    exact hn vs hd
  refine wpAny_bind (wpAny_frameOf_fun hfr hl hf fun h₁ hs₁ => wpAny_bind (wpAny_entryPlaceOf fun pl hpl => ?_))
  unfold EntryCells.newEntry newFields
  refine wpAny_bind (wpAny_newObj_type ?_ (hpl.sizeOk5 _ _ _ _ _))
  have e₁ : h₁.get? e = some oe := (hs₁.2.1 e notFrame).trans he
  have b₁ : B.StaysIn h₁ := fun b o hb => (hs₁.2.1 b fun hm => by rw [(hl.mem hm).1] at hb; cases hb).trans (hB b o hb)
  have u₁ : s.heap.UpToSlots h₁ := fun b o hb _ => hs₁.2.2 b o hb
  generalize hT : ({ cls := .type "traceback", data := .fields ([head, .ref L, .none, rawInt L, .none] ++ (if pl.isEmpty then List.replicate 6 Value.none else pl)).toArray } : Obj) = oT
  have hTd : oT.data = .fields ([head, .ref L, .none, rawInt L, .none] ++ (if pl.isEmpty then List.replicate 6 Value.none else pl)).toArray := by rw [← hT]
  have hTf : oT.isFreed = false := by rw [← hT]; rfl
  have e₂ := Heap.get?_push_of_some oT e₁
  have T₂ : (h₁.push oT).get? h₁.objs.size = some oT := Heap.get?_push_size _ hTf
  have ne : h₁.objs.size ≠ e := Nat.ne_of_gt (Heap.lt_size e₁)
  refine wpAny_setField e₂ hd hz (h _ ?_ ?_)
  · refine ⟨fun b o hb => ?_, hen, fun_upto ?_ hl, _, _, h₁.objs.size, oT, _, (Heap.get?_update_self _ e₂ (by rw [map_fields hd]; rfl)).trans (congrArg some (map_fields hd _)), hc, rfl, by simp [hz], b₁.fresh, ne, (Heap.get?_update_other _ _ (Ne.symm ne)).trans T₂, hTd, by first | (simp; done) | (rcases hpl with rfl | ⟨_, _, _, _, _, _, _, rfl⟩ <;> simp)⟩
    · rw [Heap.get?_update_other _ _ (fun q => by rw [← q, hen] at hb; cases hb)]
      exact Heap.get?_push_of_some _ (b₁ b o hb)
    · exact (u₁.trans (Heap.UpToSlots.of_keeps fun b o hb => Heap.get?_push_of_some _ hb)).trans (upd_slots e₂ hd)
  · exact (u₁.trans (Heap.UpToSlots.of_keeps fun b o hb => Heap.get?_push_of_some _ hb)).trans (upd_slots e₂ hd)
/-- the newest station's frame is struck -/
theorem flight {fl : Value} (hx : FlyD B l e dx fl s.heap) (h : ∀ h', FlyD B l e dx .none h' → s.heap.UpToSlots h' → Q () { s with heap := h' }) : wpAny M A (setFlight (.ref e) none) Q E s := by
  obtain ⟨f1, f2, f3, oe, vs, T, oT, ts, he, hc, hd, h1, hnT, hTe, hT, hdT, h3⟩ := hx
  have hz : 3 < ts.size := (Array.getElem?_eq_some_iff.mp h3).1
  unfold setFlight
  refine wpAny_bind (wpAny_field he hd h1 ?_)
  rw [if_pos (show (Value.ref T != Value.none) = true from by simp)]
  refine wpAny_setField hT hdT hz (h _ ⟨fun b o hb => ?_, f2, fun_upto (upd_slots hT hdT) f3, oe, vs, T, _, _, ?_, hc, hd, h1, hnT, hTe, (Heap.get?_update_self _ hT (by rw [map_fields hdT]; rfl)).trans (congrArg some (map_fields hdT _)), rfl, by simp [hz]⟩ (upd_slots hT hdT))
  · rw [Heap.get?_update_other _ _ (fun q => by rw [← q, hnT] at hb; cases hb)]
    exact f1 b o hb
  · rw [Heap.get?_update_other _ _ hTe]
    exact he
/-- a frame notes an exception that has come from a call of its own -/
theorem noted (hfr : A.frames = some (env :: outer)) (hf : env.frame = some L) (hx : FlyD B (env :: outer) e dx .none s.heap) (h : ∀ h', FlyD B (env :: outer) e dx (rawInt L) h' → s.heap.UpToSlots h' → Q () { s with heap := h' }) :
    wpAny M A (noteFrame (.ref e) env) Q E s := by
  obtain ⟨f1, f2, f3, oe, vs, T, oT, ts, he, hc, hd, h1, hnT, hTe, hT, hdT, h3⟩ := hx
  unfold noteFrame
  simp only [hf]
  refine wpAny_bind (wpAny_field he hd h1 ?_)
  rw [if_pos (show (Value.ref T != Value.none) = true from by simp)]
  refine wpAny_bind (wpAny_field hT hdT h3 ?_)
  rw [if_neg (show ¬ ((Value.none == rawInt L) = true) from by simp [rawInt])]
  refine wpAny_bind (wpAny_setField hT hdT (Array.getElem?_eq_some_iff.mp h3).1 ?_)
  have k := upd_slots (f := (·.setIfInBounds 3 Value.none)) hT hdT
  refine station hfr (fun_upto k f3) hf (fun b o hb => ?_) f2 ((Heap.get?_update_other _ _ hTe).trans he) hc hd (Array.getElem?_eq_some_iff.mp h1).1 fun h' x u => h h' x (k.trans u)
  show (s.heap.update T _).get? b = _
  rw [Heap.get?_update_other _ _ (fun q => by rw [← q, hnT] at hb; cases hb)]
  exact f1 b o hb
/-- a new exception leaves the frame that made it -/
theorem leaves_new {t : Addr} (hfr : A.frames = some (env :: outer)) (hl : s.heap.FunFrames B (env :: outer)) (hf : env.frame = some L) (hB : B.StaysIn s.heap) (hen : B.get? e = none)
    (he : s.heap.get? e = some (excO (some dx) t)) (h : ∀ h', FlyD B outer e dx .none h' → s.heap.UpToSlots h' → Q () { s with heap := h' }) : wpAny M A (leaving env (.ref e)) Q E s := by
  unfold leaving noteFrame
  simp only [hf]
  refine wpAny_bind (wpAny_bind (wpAny_field (x := .none) he rfl rfl ?_))
  rw [if_neg (by decide)]
  refine station hfr hl hf hB hen he ⟨rfl, rfl⟩ rfl (show 1 < 6 by decide) fun h₁ x u => flight x fun h₂ x₂ u₂ => ?_
  obtain ⟨k1, k2, ⟨_, _, k3⟩, k4⟩ := x₂
  exact h h₂ ⟨k1, k2, k3, k4⟩ (u.trans u₂)
theorem leaves_on (hfr : A.frames = some (env :: outer)) (hf : env.frame = some L) (hx : FlyD B (env :: outer) e dx .none s.heap) (h : ∀ h', FlyD B outer e dx .none h' → s.heap.UpToSlots h' → Q () { s with heap := h' }) : wpAny M A (leaving env (.ref e)) Q E s := by
  unfold leaving
  refine wpAny_bind (noted hfr hf hx fun h₁ x u => flight x fun h₂ x₂ u₂ => ?_)
  obtain ⟨k1, k2, ⟨_, _, k3⟩, k4⟩ := x₂
  exact h h₂ ⟨k1, k2, k3, k4⟩ (u.trans u₂)
end
end Mine
-- Fly2
namespace Mine
def WireFly (w : World) (base : Heap) (l : List Env) (e : Addr) (k : Int) (h : Heap) : Prop :=
  ∃ B dx x t1 t2 u1 u2, base.StaysIn B ∧ B.get? dx = some (excD w x k t1 t2 u1 u2) ∧ FlyD B l e dx .none h
section
variable {w : World} {M : Model} {A : Around} {E : Value → Shared → Prop} {s' : Shared} {base g g₂ : Heap} {outer : List Env} {L a e dx t : Addr} {m : Str → Option Value} {name : Str} {scope : Scope} {cd : Value} {Q : Unit → Shared → Prop} {news : List (Addr × Obj)} {x : Str} {k : Int} {t1 t2 u1 u2 : Tok}
theorem leave_wire_new (K : Below A base outer g) (F : Fr g L s'.heap m) (N : News g L s'.heap ((e, excO (some dx) t) :: (dx, excD w x k t1 t2 u1 u2) :: news)) (hed : e ≠ dx)
    (hQ : ∀ h', WireFly w base outer e k h' → g.UpToSlots h' → Q () { s' with heap := h' }) (hk : scope.kind = .function := by rfl) :
    wpAny M (A.deeper (envOf name scope L a cd)) (leaving (envOf name scope L a cd) (.ref e)) Q E s' := by
  have K' := K.push (name := name) (a := a) (cd := cd) F hk
  have Ne := N _ (.head _)
  have Nd := N _ (.tail _ (.head _))
  have off : ∀ {b : Addr} {o : Obj}, (b, o) ∈ ((e, excO (some dx) t) :: (dx, excD w x k t1 t2 u1 u2) :: news) → b ∉ (envOf name scope L a cd :: outer).filterMap (·.frame) := fun {b o} hb hm => by
    obtain ⟨env, he, hf⟩ := List.mem_filterMap.mp hm
    rcases List.mem_cons.mp he with rfl | he
    · exact (N _ hb).2.1 (Option.some.inj hf).symm
    · obtain ⟨o', ho, _⟩ := (K.frames.mem (List.mem_filterMap.mpr ⟨env, he, hf⟩)).2
      rw [(N _ hb).2.2] at ho
      cases ho
  have bne : base.get? e = none := fresh_of_stays K.stays Ne.2.2
  refine leaves_new (B := hideAll s'.heap (e :: (envOf name scope L a cd :: outer).filterMap (·.frame))) (dx := dx) (t := t) K'.stack (funFrames_hide K'.frames fun env he b hb => .tail _ (List.mem_filterMap.mpr ⟨env, he, hb⟩)) rfl (fun b o q => of_hideAll _ q) (hideAll_none _ (.head _)) Ne.1 fun h' hx hu => ?_
  refine hQ h' ⟨_, dx, x, t1, t2, u1, u2, fun b o q => ?_, ?_, hx⟩ ((Heap.UpToSlots.of_keeps F.keep).trans hu)
  · refine hideAll_get _ (K'.stays b o q) fun hm => ?_
    rcases List.mem_cons.mp hm with rfl | hm
    · rw [bne] at q; cases q
    · rw [(K'.frames.mem hm).1] at q; cases q
  · refine hideAll_get _ Nd.1 fun hm => ?_
    rcases List.mem_cons.mp hm with q | hm
    · exact hed q.symm
    · exact off (.tail _ (.head _)) hm
theorem leave_wire_on (K : Below A base outer g) (F : Fr g L g₂ m) (R : WireFly w base (envOf name scope L a cd :: outer) e k s'.heap) (hsm : g₂.UpToSlots s'.heap)
    (hQ : ∀ h', WireFly w base outer e k h' → g.UpToSlots h' → Q () { s' with heap := h' }) :
    wpAny M (A.deeper (envOf name scope L a cd)) (leaving (envOf name scope L a cd) (.ref e)) Q E s' := by
  obtain ⟨B, dx, x, t1, t2, u1, u2, hB, hd, hx⟩ := R
  exact leaves_on (Around.frames_deeper K.stack) rfl hx fun h' x1 x2 => hQ h' ⟨B, dx, x, t1, t2, u1, u2, hB, hd, x1⟩ ((Heap.UpToSlots.of_keeps F.keep).trans (hsm.trans x2))
end
section
variable {w : World} {A : Around} {E : Value → Shared → Prop} {s : Shared} {env : Env} {x : PySem.Expr} {pos : Pos} {Q : Flow → Shared → Prop}
/-- a WireFault was made, and E takes it -/
def WireMade (w : World) (E : Value → Shared → Prop) (v : Value) (s₁ : Shared) : Prop := ∃ e dx t, v = .ref e ∧ (hd.heap_39 w.params).In s₁.heap ∧ s₁.heap.get? e = some (excO (some dx) t) ∧ E (.ref e) s₁
theorem wireMade_of {h₀ : Heap} {L e dx t : Addr} {m : Str → Option Value} {news : List (Addr × Obj)} (F : Fr h₀ L s.heap m) (X : (hd.heap_39 w.params).In h₀) (N : News h₀ L s.heap ((e, excO (some dx) t) :: news)) (h : E (.ref e) s) : WireMade w E (.ref e) s :=
  ⟨e, dx, t, rfl, X.keeps F.keep, (N _ (.head _)).1, h⟩
/-- raise of a made WireFault -/
theorem raise_wire (hh : A.handled = none)
    (h : wpAny (model PySem.Challenge.rw_pq0965_01.row.prog w) A (eval x env) (WireMade w E) E s) :
    wpAny (model PySem.Challenge.rw_pq0965_01.row.prog w) A (exec (.Raise (some x) none pos) env) Q E s := by
  rw [arm_exec_Raise]
  refine wpAny_bind (wpAny_standAt ?_)
  show wpAny _ _ (raiseStmt env _ none) _ _ _
  unfold raiseStmt
  dsimp only
  refine wpAny_bind (wpAny_bind (wpAny_mono h (fun v s₁ h₁ => wpAny_bind (wpAny_standAt (wpAny_pure ?_))) fun _ _ y => y))
  obtain ⟨e, dx, t, rfl, X, he, hE⟩ := h₁
  obtain ⟨k0, k1, k2, k3, k5, hC⟩ := wire_obj X
  have hcB : (Value.ref 59 :: wireTail).contains (.type "BaseException") = true := by decide +kernel
  obtain ⟨hp, g, d, tk, os⟩ := s₁
  repeat (first | with_reducible refine wpAny_loadPart_at he ?_ | with_reducible refine wpAny_loadPart_at hC ?_ | (with_reducible refine wpAny_isSubtype_exc hC ?_; rw [hcB]) | wp_step)
  exact wpAny_raiseNew_none hh hE
end
end Mine
-- Need
namespace Mine
abbrev AsksE (r : Nat) (w : World) (mean : ExcName → Option Value) (mg mb : Str → Option Value) (f : Addr) (vs : List Value) (news : List (Addr × Obj))
    (C : ∀ (h₀ : Heap) (L : Addr) (m : Str → Option Value) (s : Shared) (Q E : Value → Shared → Prop) (base : Heap) (l : List Env), Prop) : Prop :=
  ∀ {dp un : Nat} {gd : Option (List Code)} {cn : Str} {cs : Scope} {a : Addr} {ccd : Value} {cl : List (Str × Addr)} {outer : List Env} {A₀ : Around} {base h₀ : Heap} {L : Addr} {m : Str → Option Value} {s : Shared} {Q E : Value → Shared → Prop},
    Below A₀ base outer h₀ → Fr h₀ L s.heap m → (hd.heap_39 w.params).In h₀ → News h₀ L s.heap news → Top hd.view_39 (looseW hd.view_39 [Str.ofString "PostError"]) mean mg mb h₀ → cs.kind = .function →
    dp + r < recursionLimit → un + 10 * r < cLine → C h₀ L m s Q E base (envX cn cs L a ccd cl :: outer) →
      wpAny (model PySem.Challenge.rw_pq0965_01.row.prog w) (ktrTop dp un gd cn cs L a ccd cl outer) (call (.ref f) vs) Q E s
/-- what a call that raises a WireFault leaves to its caller -/
abbrev FliesOut (w : World) (k : Int) (h₀ : Heap) (L : Addr) (m : Str → Option Value) (s : Shared) (E : Value → Shared → Prop) (base : Heap) (l : List Env) : Prop :=
  ∀ (e : Addr) (g h' : Heap) (tk' : Nat), Fr h₀ L g m → g.UpToSlots h' → WireFly w base l e k h' → E (.ref e) { s with heap := h', toks := tk' }
end Mine
theorem Mine.words4 : True := by
  k_with "exec Raise some none" => (k_here; k_dflt (refine' Mine.raise_wire ?zh ?_; (case zh => rfl)))
  k_with "call ref" => (k_here; (with_reducible show wpAny _ _ (call (Value.ref 59) _) _ _ _); k_dflt (refine' Mine.wire_ok ?zB ?zF ?zX ?zN ?zT ?zk ?zdp ?zun ?_; (case zB => k_asm); (case zF => k_asm); (case zX => k_asm); (case zN => k_asm); (case zT => k_asm); (case zk => first | exact rfl | assumption); (case zdp => ktr_room); (case zun => ktr_units); intro e9 d9 t9 u9 v9 h9 tk9 F9 N9 l8 l9; (try dsimp only)))
  k_with "call ref" => (k_here; (with_reducible show wpAny _ _ (call (Value.ref 147) _) _ _ _); k_dflt (refine' Mine.skip_ok ?zhks ?zhb ?zhe ?zhc ?zhd ?zhU ?zB ?zF ?zX ?zN ?zT ?zk ?zdp ?zun ?_; (case zB => k_asm); (case zF => k_asm); (case zX => k_asm); (case zN => k_asm); (case zT => k_asm); (case zhc => k_mem); (case zhd => k_mem); (case zhks => assumption); (case zhb => assumption); (case zhe => assumption); (case zhU => intro _ _; k_upd); (case zk => first | exact rfl | assumption); (case zdp => ktr_room); (case zun => ktr_units); refine ⟨fun q9 t9 h9 tk9 F9 N9 => ?_, fun q9 t9 h9 tk9 F9 N9 => ?_⟩ <;> (try dsimp only) <;> (try k_fold)))
  k_with "WireMade" => (refine' Mine.wireMade_of ?zF ?zX ?zN ?_; (case zF => k_asm); (case zX => k_asm); (case zN => k_asm))
  k_with "leaving ref" => (k_here; k_dflt (first
      | (refine' Mine.leave_wire_new ?zK ?zF ?zN ?zn ?_; (case zK => assumption); (case zF => k_asm); (case zN => k_asm); (case zn => exact Nat.ne_of_lt (by assumption)); intro h9 x9 u9; (try dsimp only))
      | (refine' Mine.leave_wire_on ?zK ?zF ?zR ?zu ?_; (case zR => assumption); (case zK => assumption); (case zu => assumption); (case zF => assumption); intro h9 x9 u9; (try dsimp only))))
  trivial
namespace Mine
section
variable {w : World} {mean : ExcName → Option Value} {mg mb : Str → Option Value}
variable {c d : Addr} {b : Array UInt8} {ks : List Int} (hks : KBw.bInts b = ks) {p : Nat} {e : Int} {t1 t2 t3 u1 u2 u3 : Tok} {news : List (Addr × Obj)} (hb : ks.length ≤ 64) (he : e = ks.length)
include hks hb he
theorem need_ok {x : UInt8} {t : Tok} (hcd : @Ne Nat c d) (hr : ∀ q ∈ news, q.1 ≠ d) :
    AsksE 6 w mean mg mb 68 [.ref c, .bytes #[x] t] ((c, instObj 178 d) :: (d, curD w b p e t1 t2 t3 u1 u2 u3) :: news) (fun h₀ L m s Q E base l =>
      (codeAt ks p = (x.toNat : Int) → ∀ (t : Tok) (h' : Heap) (tk' : Nat), Fr h₀ L h' m → News h₀ L h' ((c, instObj 178 d) :: (d, curD w b ((p + 1 : Nat) : Int) e t1 t t3 u1 u2 u3) :: news) → Q .none { s with heap := h', toks := tk' }) ∧
      (codeAt ks p ≠ (x.toNat : Int) → FliesOut w p h₀ L m s E base l)) := by
  intro dp un gd cn cs a ccd cl outer A₀ base h₀ L m s Q E B F X N T hk hdp hun hret
  have h0 : (0 : Int) ≤ (p : Int) := by omega
  walk_at "mine enter"
  k_steps
  · exact hret.1 (by assumption) _ _ _ (by k_asm) (by k_asm)
  · exact hret.2 (by assumption) _ _ _ _ (by assumption) (by assumption) (by assumption)
end
end Mine
-- W1
namespace Mine
/-- a while's end -/
def Past {σ : Type} (h₀ : Heap) (L : Addr) (m : Str → Option Value) (s : Shared) (Led : σ → List (Addr × Obj)) (D : σ → Prop) (s₂ : Shared) : Prop :=
  ∃ (c : σ) (h : Heap) (tk : Nat), s₂ = { s with heap := h, toks := tk } ∧ Fr h₀ L h m ∧ News h₀ L h (Led c) ∧ D c
/-- a while's turn's end -/
def Turned {σ : Type} (h₀ : Heap) (L : Addr) (m : Str → Option Value) (s : Shared) (Led : σ → List (Addr × Obj)) (I : σ → Prop) (μ : σ → Nat) (n : Nat) (f : Flow) (s₂ : Shared) : Prop :=
  f = .next ∧ ∃ (c : σ) (h : Heap) (tk : Nat), s₂ = { s with heap := h, toks := tk } ∧ Fr h₀ L h m ∧ News h₀ L h (Led c) ∧ I c ∧ μ c < n
section
variable {prog : Program} {w : World} {A : Around} {E : Value → Shared → Prop} {Q : Flow → Shared → Prop} {s : Shared} {env : Env} {h₀ : Heap} {L : Addr}
theorem past {σ : Type} {m : Str → Option Value} {Led : σ → List (Addr × Obj)} {D : σ → Prop} {h : Heap} {tk : Nat} (c : σ) (F : Fr h₀ L h m) (N : News h₀ L h (Led c)) (hD : D c) : Past h₀ L m s Led D { s with heap := h, toks := tk } :=
  ⟨c, h, tk, rfl, F, N, hD⟩
theorem turned {σ : Type} {m : Str → Option Value} {Led : σ → List (Addr × Obj)} {I : σ → Prop} {μ : σ → Nat} {n : Nat} {h : Heap} {tk : Nat} (c : σ) (F : Fr h₀ L h m) (N : News h₀ L h (Led c)) (hI : I c) (hm : μ c < n) : Turned h₀ L m s Led I μ n .next { s with heap := h, toks := tk } :=
  ⟨rfl, c, h, tk, rfl, F, N, hI, hm⟩
theorem while_cut {σ : Type} {test : Expr} {body : List Stmt} {pos : Pos} {m : Str → Option Value} (Led : σ → List (Addr × Obj)) (I D : σ → Prop) (μ : σ → Nat) (c₀ : σ)
    (F : Fr h₀ L s.heap m) (N : News h₀ L s.heap (Led c₀)) (hI : I c₀)
    (turn : ∀ c h tk, Fr h₀ L h m → News h₀ L h (Led c) → I c →
      wpAny (model prog w) A (isTrue test env (eval test env)) (fun b s₂ =>
        if b = true then wpAny (model prog w) A (execs body env) (Turned h₀ L m s Led I μ (μ c)) E s₂ else Past h₀ L m s Led D s₂) E { s with heap := h, toks := tk })
    (after : ∀ c h tk, Fr h₀ L h m → News h₀ L h (Led c) → D c → Q .next { s with heap := h, toks := tk })
    (hE : PassesOwn (model prog w) A env E) :
    wpAny (model prog w) A (exec (.While test body [] pos) env) Q E s := by
  refine While_inv2 (fun n m₁ nx => m₁ = m ∧ ∃ c, nx = Led c ∧ n = μ c ∧ I c) F N ⟨rfl, c₀, rfl, rfl, hI⟩ ?_ hE
  rintro n m₁ nx h tk F₁ N₁ ⟨rfl, c, rfl, rfl, hc⟩
  refine wpAny_mono (turn c h tk F₁ N₁ hc) (fun b s₂ p => ?_) fun _ _ x => x
  cases b with
  | false =>
    simp only [Bool.false_eq_true, if_false] at p ⊢
    obtain ⟨c', h', tk', rfl, F', N', hD⟩ := p
    exact after c' h' tk' F' N' hD
  | true =>
    simp only [if_true] at p ⊢
    refine wpAny_mono p (fun f s₃ q => ?_) fun _ _ x => x
    obtain ⟨rfl, c', h', tk', rfl, F', N', hI', hm⟩ := q
    exact ⟨h', tk', m₁, Led c', μ c', rfl, F', N', hm, rfl, c', rfl, rfl, hI'⟩
end
end Mine
-- Need2
namespace Mine
def chrS (k : Int) : Str := ⟨#[k.toNat]⟩
theorem code_ne {ks : List Int} {p : Nat} {x : Int} (h : ∀ k ∈ ks, k ≠ x) (hx : x ≠ -1) : (codeAt ks p == x) = false := by
  rw [beq_eq_false_iff_ne]
  by_cases hp : p < ks.length
  · unfold codeAt
    rw [List.getD_eq_getElem?_getD, List.getElem?_eq_getElem hp]
    exact h _ (List.getElem_mem hp)
  · rw [code_end hp]
    exact Ne.symm hx
section
variable {prog : Program} {w : World} {A : Around} {E : Value → Shared → Prop} {s : Shared}
theorem chr_atom {k : Int} {t : Tok} {Q : Value → Shared → Prop} (hk : isAtom k = true) (h : Q (.str (chrS k) s.toks) { s with toks := s.toks + 1 }) :
    wpAny (model prog w) A (call (.builtin "chr") [.int k t]) Q E s :=
  chr_of_range (by have := atom_bounds hk; omega) (by have := atom_bounds hk; omega) h
end
section
variable {w : World} {mean : ExcName → Option Value} {mg mb : Str → Option Value}
variable {c d : Addr} {b : Array UInt8} {ks : List Int} (hks : KBw.bInts b = ks) {p : Nat} {e : Int} {t1 t2 t3 u1 u2 u3 : Tok} {news : List (Addr × Obj)} (hb : ks.length ≤ 64) (he : e = ks.length)
include hks hb he
theorem take_yes {g : Obj → List (Addr × Obj)} (hat : isAtom (codeAt ks p) = true) (hc : (c, instObj 178 d) ∈ news) (hd : (d, curD w b p e t1 t2 t3 u1 u2 u3) ∈ news) (hU : ∀ (t : Tok) (o' : Obj), Upd d (curD w b p e t1 t2 t3 u1 u2 u3) o' news (g o')) :
    Asks 4 w mean mg mb 133 [.ref c] news (fun h₀ L m s Q E =>
      ∀ (t u : Tok) (h' : Heap) (tk' : Nat), Fr h₀ L h' m → News h₀ L h' (g (curD w b ((p + 1 : Nat) : Int) e t1 t t3 u1 u2 u3)) → Q (.int (codeAt ks p) u) { s with heap := h', toks := tk' }) := by
  intro dp un gd cn cs a ccd cl outer A₀ base h₀ L m s Q E B F X N T hk hdp hun hret
  have hpos := atom_bounds hat
  exact take_ok hks hb he hc hd hU B F X N T hk hdp hun ⟨fun _ => hret, fun q => absurd q (by omega)⟩
end
end Mine
theorem Mine.words5 : True := by
  k_with "call builtin:chr" => (k_here; refine Mine.chr_atom (by assumption) ?_)
  k_with "call ref" => (k_here; (with_reducible show wpAny _ _ (call (Value.ref 75) _) _ _ _); k_dflt (refine' Mine.atom_ok ?zB ?zF ?zX ?zN ?zT ?zk ?zdp ?zun ?_; (case zB => k_asm); (case zF => k_asm); (case zX => k_asm); (case zN => k_asm); (case zT => k_asm); (case zk => first | exact rfl | assumption); (case zdp => ktr_room); (case zun => ktr_units); intro t9 h9 tk9 F9 N9; (try dsimp only); (try k_fold)))
  k_with "call ref" => (k_here; (with_reducible show wpAny _ _ (call (Value.ref 133) _) _ _ _); k_dflt (refine' Mine.take_yes ?zhks ?zhb ?zhe ?zat ?zhc ?zhd ?zhU ?zB ?zF ?zX ?zN ?zT ?zk ?zdp ?zun ?_; (case zB => k_asm); (case zF => k_asm); (case zX => k_asm); (case zN => k_asm); (case zT => k_asm); (case zhc => k_mem); (case zhd => k_mem); (case zat => assumption); (case zhks => assumption); (case zhb => assumption); (case zhe => assumption); (case zhU => intro _ _; k_upd); (case zk => first | exact rfl | assumption); (case zdp => ktr_room); (case zun => ktr_units); intro t9 u9 h9 tk9 F9 N9; (try dsimp only); (try k_fold)))
  trivial
-- E1
namespace Mine
open PySem.Spec PySem.SeqAt
abbrev tupOf (vs : List Value) (n : Nat) : Obj := { cls := .type "tuple", data := .seq vs.toArray n }
theorem all_same {α : Type} [DecidableEq α] [BEq α] [LawfulBEq α] (d : α) : ∀ (xs ys : List α), ((List.range (min xs.length ys.length)).all (fun j => xs.getD j d == ys.getD j d) && xs.length == ys.length) = decide (xs = ys)
  | [], [] => by simp
  | [], _ :: _ => by simp
  | _ :: _, [] => by simp
  | x :: xs, y :: ys => by
    have ih := all_same d xs ys
    rw [List.length_cons, List.length_cons, Nat.succ_min_succ, List.range_succ_eq_map, List.all_cons, List.all_map]
    show ((x == y && (List.range (min xs.length ys.length)).all (fun j => xs.getD j d == ys.getD j d)) && (xs.length + 1 == ys.length + 1)) = _
    have e1 : (xs.length + 1 == ys.length + 1) = (xs.length == ys.length) := by
      rw [Bool.eq_iff_iff, beq_iff_eq, beq_iff_eq]; omega
    rw [e1, Bool.and_assoc, ih, Bool.eq_iff_iff]
    simp
section
variable {prog : Program} {w : World} {A : Around} {E : Value → Shared → Prop} {s : Shared} {h₀ : Heap} {L a b : Addr} {news : List (Addr × Obj)} {l l' : List (Str × Tok)} {na nb : Nat} {Q : Value → Shared → Prop}
theorem isList_of {vs : List Value} (N : News h₀ L s.heap news) (hm : (a, W.listOf vs.toArray na) ∈ news) : s.heap.IsList a vs.toArray := ⟨_, (N _ hm).1, rfl, na, rfl⟩
theorem isTuple_of {vs : List Value} (N : News h₀ L s.heap news) (hm : (a, tupOf vs na) ∈ news) : s.heap.IsTuple a vs.toArray := ⟨_, (N _ hm).1, rfl, na, rfl⟩
theorem strs_at {j : Nat} (h1 : j < (strValues l).toArray.size) : ∃ t, (strValues l).toArray[j] = .str ((l.map (·.1)).getD j ⟨#[]⟩) t := by
  have h : j < l.length := by simpa [strValues] using h1
  refine ⟨l[j].2, ?_⟩
  simp [strValues, List.getD_eq_getElem?_getD, h]
theorem eq_tuples (N : News h₀ L s.heap news) (ha : (a, tupOf (strValues l) na) ∈ news) (hb : (b, tupOf (strValues l') nb) ∈ news) (hu : A.units < cLine)
    (h : Q (.bool (decide (l.map (·.1) = l'.map (·.1)))) s) : wpAny (model prog w) A (compareOp .Eq (.ref a) (.ref b)) Q E s := by
  refine eq_tupleAt (e := fun j => (l.map (·.1)).getD j ⟨#[]⟩ == (l'.map (·.1)).getD j ⟨#[]⟩) (isTuple_of N ha) (isTuple_of N hb) hu (fun j h1 h2 => ?_) ?_
  · obtain ⟨t, e1⟩ := strs_at h1
    obtain ⟨u, e2⟩ := strs_at h2
    rw [e1, e2]
    exact (eqGives_str _ _ t u).at _ _
  · have e := all_same (⟨#[]⟩ : Str) (l.map (·.1)) (l'.map (·.1))
    rw [List.length_map, List.length_map] at e
    have e1 : (strValues l).toArray.size = l.length := by simp [strValues]
    have e2 : (strValues l').toArray.size = l'.length := by simp [strValues]
    rw [e1, e2, e]
    exact h
theorem eq_nil (N : News h₀ L s.heap news) (ha : (a, W.listOf (strValues l).toArray na) ∈ news) (hb : (b, W.listOf #[] nb) ∈ news) (hu : A.units < cLine)
    (h : Q (.bool (decide (l.map (·.1) = []))) s) : wpAny (model prog w) A (compareOp .Eq (.ref a) (.ref b)) Q E s := by
  cases l with
  | nil => exact eq_listAt (e := fun _ => true) (isList_of N ha) (isList_of (vs := []) N hb) rfl hu (fun j h1 _ => absurd h1 (Nat.not_lt_zero _)) h
  | cons p r => exact eq_list_lengthsAt (isList_of N ha) (isList_of (vs := []) N hb) rfl hu h
/-- a text of the codes -/
def txt (xs : List Int) : Str := ⟨(xs.map Int.toNat).toArray⟩
theorem txt_snoc (xs : List Int) (k : Int) : txt xs ++ chrS k = txt (xs ++ [k]) := by
  refine Str.ext' ?_
  rw [Str.cps_append]
  simp [txt, chrS]
theorem chrS_txt (k : Int) : chrS k = txt [k] := rfl
theorem join_go : ∀ (xs : List Int) (k : Int), Str.join ⟨#[]⟩ ((k :: xs).map chrS) = txt (k :: xs)
  | [], k => rfl
  | x :: xs, k => by
    have ih := join_go xs x
    show chrS k ++ ⟨#[]⟩ ++ Str.join ⟨#[]⟩ ((x :: xs).map chrS) = _
    rw [ih]
    refine Str.ext' ?_
    rw [Str.cps_append, Str.cps_append]
    simp [txt, chrS]
theorem join_chars (xs : List Int) : Txt.join ⟨#[]⟩ (xs.map chrS) = txt xs := by
  refine (StrLaws.glued_eq_join _ _).trans ?_
  cases xs with
  | nil => rfl
  | cons k xs => exact join_go xs k
theorem len_chars (xs : List Int) : ((xs.map chrS).map (·.length)).sum = xs.length := by
  induction xs with
  | nil => rfl
  | cons k xs ih => rw [List.map_cons, List.map_cons, List.sum_cons, ih, List.length_cons]; show 1 + _ = _; omega
theorem join_names {x : Str} {t : Tok} {xs : List Int} (N : News h₀ L s.heap news) (ha : (a, W.listOf (strValues l).toArray na) ∈ news) (hx : x = ⟨#[]⟩) (hl : l.map (·.1) = xs.map chrS) (hz : xs.length ≤ 64)
    (h : ∀ t' k, Q (.str (txt xs) t') { s with toks := k }) : wpAny (model prog w) A (call (.builtin "str.join") [.str x t, .ref a]) Q E s := by
  subst hx
  refine SC.join (isList_of N ha) hl (joinOk_of_weight (by rw [len_chars, List.length_map]; omega) (by decide)) fun t' k => ?_
  rw [join_chars xs]
  exact h t' k
theorem strValues_snoc (x : Str) (t : Tok) : (strValues l).toArray.push (.str x t) = (strValues (l ++ [(x, t)])).toArray := by
  simp [strValues]
theorem strValues_len : (strValues l).length = l.length := by simp [strValues]
theorem run_len (ks : List Int) (p : Nat) : (run ks p).length ≤ ks.length - p := by
  unfold run
  refine Nat.le_trans (List.Sublist.length_le (List.takeWhile_sublist _)) ?_
  rw [List.length_drop]
  exact Nat.le_refl _
theorem run_snoc {ks : List Int} {p : Nat} {xs : List Int} (h : run ks p = xs ++ run ks (p + xs.length)) (ha : isAtom (codeAt ks (p + xs.length)) = true) :
    run ks p = (xs ++ [codeAt ks (p + xs.length)]) ++ run ks (p + (xs ++ [codeAt ks (p + xs.length)]).length) := by
  obtain ⟨e, _⟩ := run_yes ha
  rw [e] at h
  rw [h, List.length_append, List.append_assoc]
  rfl
theorem run_stop {ks : List Int} {p : Nat} {xs : List Int} (h : run ks p = xs ++ run ks (p + xs.length)) (ha : isAtom (codeAt ks (p + xs.length)) = false) : run ks p = xs := by
  rw [run_no ha, List.append_nil] at h
  exact h
end
end Mine
-- TN
theorem Mine.words6 : True := by
  k_with "compareOp Eq ref ref" => (k_here; (with_reducible show wpAny _ _ (compareOp CmpOp.Eq (Value.ref _) (Value.ref _)) _ _ _); k_dflt (refine' Mine.eq_nil ?zN ?za ?zb ?zu ?_; (case zN => k_asm); (case za => k_mem); (case zb => k_mem); (case zu => ktr_units)))
  k_with "call builtin:str.join" => (k_here; k_dflt (refine' Mine.join_names ?zN ?za ?zx ?zl ?zz ?_; (case zN => k_asm); (case za => k_mem); (case zx => rfl); (case zl => assumption); (case zz => assumption); intro _ _))
  trivial
namespace Mine
theorem drop2 {α : Type} {a b : α} {l : List α} : ∀ p ∈ l, p ∈ a :: b :: l := fun p hp => .tail _ (.tail _ hp)
abbrev NSt := List Int × Tok × Nat × List (Str × Tok)
abbrev nLed (w : World) (b : Array UInt8) (c d lS : Addr) (p : Nat) (e : Int) (t1 t3 u1 u2 u3 : Tok) (news : List (Addr × Obj)) (z : NSt) : List (Addr × Obj) :=
  (lS, W.listOf (strValues z.2.2.2).toArray z.2.2.1) :: (c, instObj 178 d) :: (d, curD w b ((p + z.1.length : Nat) : Int) e t1 z.2.1 t3 u1 u2 u3) :: news
section
variable {w : World} {mean : ExcName → Option Value} {mg mb : Str → Option Value}
variable {c d : Addr} {b : Array UInt8} {ks : List Int} (hks : KBw.bInts b = ks) {p : Nat} {e : Int} {t1 t2 t3 u1 u2 u3 : Tok} {news : List (Addr × Obj)} (hb : ks.length ≤ 64) (he : e = ks.length)
include hks hb he
theorem name_ok (hq : ∀ k ∈ ks, k ≠ 34) (hcd : @Ne Nat c d) (hr : ∀ q ∈ news, q.1 ≠ d) :
    AsksE 8 w mean mg mb 89 [.ref c] ((c, instObj 178 d) :: (d, curD w b p e t1 t2 t3 u1 u2 u3) :: news) (fun h₀ L m s Q E base l =>
      (run ks p ≠ [] → ∀ (t u : Tok) (h' : Heap) (tk' : Nat), Fr h₀ L h' m → News h₀ L h' ((c, instObj 178 d) :: (d, curD w b ((p + (run ks p).length : Nat) : Int) e t1 t t3 u1 u2 u3) :: news) → Q (.str (txt (run ks p)) u) { s with heap := h', toks := tk' }) ∧
      (run ks p = [] → FliesOut w p h₀ L m s E base l)) := by
  intro dp un gd cn cs a ccd cl outer A₀ base h₀ L m s Q E B F X N T hk hdp hun hret
  have h0 : (0 : Int) ≤ (p : Int) := by omega
  have h34 : (codeAt ks p == 34) = false := code_ne hq (by decide)
  have hrl := run_len ks p
  walk_at "mine enter"
  k_with "exec While Call cons nil" => (k_here; (rename Fr _ _ _ _ => FX); (rename News _ _ _ _ => NX); (rename_i lS _ lS1 _); (refine' while_cut (nLed w b c d lS p e t1 t3 u1 u2 u3 news) (fun z => z.2.2.2.map (·.1) = z.1.map chrS ∧ run ks p = z.1 ++ run ks (p + z.1.length)) (fun z => z.2.2.2.map (·.1) = z.1.map chrS ∧ run ks p = z.1) (fun z => ks.length - (p + z.1.length)) ([], t2, 0, []) FX NX ⟨rfl, by simp⟩ ?turn ?after ?hE); (case hE => passes_own); (clear FX NX); (case' turn => ((rintro ⟨xs, t, nn, l⟩ h tk F₁ N₁ ⟨hl, hrun⟩; dsimp only [nLed] at *); (have hll : l.length = xs.length := by simpa using congrArg List.length hl); (have hrr := congrArg List.length hrun); (rw [List.length_append] at hrr); (have hsv : (strValues l).length ≤ 64 := by rw [strValues_len]; omega))); (case' after => ((rintro ⟨xs, t, nn, l⟩ h tk F₁ N₁ ⟨hl, hrun⟩; dsimp only [nLed] at *); (have hrr := congrArg List.length hrun); (have hzz : xs.length ≤ 64 := by omega))))
  k_steps
  · have hx : xs = [] := by
      rename List.map _ l = [] => hq0
      rw [hq0] at hl
      simpa using hl.symm
    subst hx
    exact hret.2 hrun _ _ _ _ (by assumption) (by assumption) (by assumption)
  · have hx : run ks p ≠ [] := fun q => by
      rename ¬ List.map _ l = [] => hq0
      rw [q] at hrun
      subst hrun
      exact hq0 hl
    subst hrun
    exact hret.1 hx _ _ _ _ (by assumption) (cb_drop (by assumption) drop2)
  · rename isAtom _ = true => hat
    refine' turned (xs ++ [codeAt ks (p + xs.length)], _, _, l ++ [(chrS (codeAt ks (p + xs.length)), _)]) (by assumption) ?zN ?zI ?zm
    case zN =>
      rename News _ _ _ _ => NE
      rw [strValues_snoc] at NE
      dsimp only [nLed]
      rw [show (xs ++ [codeAt ks (p + xs.length)]).length = xs.length + 1 from by simp]
      exact NE
    case zI =>
      refine ⟨?_, run_snoc hrun hat⟩
      dsimp only
      rw [List.map_append, List.map_append, hl]
      rfl
    case zm =>
      dsimp only
      have hp := (run_yes hat).2
      rw [show (xs ++ [codeAt ks (p + xs.length)]).length = xs.length + 1 from by simp]
      omega
  · exact past (xs, t, nn, l) (by assumption) (by assumption) ⟨hl, run_stop hrun (by assumption)⟩
end
end Mine
-- TNS
theorem Mine.all_ne_cons {a d : Addr} {o : Obj} {news : List (Addr × Obj)} (h1 : @Ne Nat a d) (h2 : ∀ q ∈ news, q.1 ≠ d) : ∀ q ∈ (a, o) :: news, q.1 ≠ d := fun q hq => by
  rcases List.mem_cons.mp hq with rfl | hq
  · exact h1
  · exact h2 q hq
theorem Mine.tup_strs {prog : Program} {w : World} {A : Around} {E : Value → Shared → Prop} {s : Shared} {h₀ : Heap} {L a : Addr} {m : Str → Option Value} {news : List (Addr × Obj)} {l : List (Str × Tok)} {na : Nat} {Q : Value → Shared → Prop} (F : Fr h₀ L s.heap m) (N : News h₀ L s.heap news) (hm : (a, W.listOf (strValues l).toArray na) ∈ news) (hz : l.length ≤ 64)
    (h : ∀ D h', Fr h₀ L h' m → News h₀ L h' ((D, Mine.tupOf (strValues l) 0) :: news) → (∀ p ∈ news, p.1 < D) → Q (.ref D) { s with heap := h' }) : wpAny (model prog w) A (call (.type "tuple") [.ref a]) Q E s :=
  kde_tupleOf (zs := strValues l) F N (Mine.isList_of N hm) (by rw [List.size_toArray, Mine.strValues_len]; omega) rfl h
theorem Mine.words7 : True := by
  k_with "call type:tuple" => (k_here; (with_reducible show wpAny _ _ (call (Value.type _) [Value.ref _]) _ _ _); k_dflt (refine' Mine.tup_strs ?zF ?zN ?zm ?zz ?_; (case zF => k_asm); (case zN => k_asm); (case zm => k_mem); (case zz => assumption); intro D9 h9 F9 N9 l9))
  k_with "call ref" => (k_here; (with_reducible show wpAny _ _ (call (Value.ref 68) _) _ _ _); k_dflt (refine' Mine.need_ok ?zhks ?zhb ?zhe ?zcd ?zr ?zB ?zF ?zX ?zN ?zT ?zk ?zdp ?zun ?_; (case zB => k_asm); (case zF => k_asm); (case zX => k_asm); (case zN => k_asm); (case zT => k_asm); (case zcd => assumption); (case zr => first | assumption | exact Mine.all_ne_cons (by k_ne) (by assumption)); (case zhks => assumption); (case zhb => assumption); (case zhe => assumption); (case zk => first | exact rfl | assumption); (case zdp => ktr_room); (case zun => ktr_units); refine ⟨fun q9 t9 h9 tk9 F9 N9 => ?_, fun q9 e9 g9 h9 tk9 F9 v9 x9 => ?_⟩ <;> (try dsimp only) <;> (try k_fold)))
  k_with "call ref" => (k_here; (with_reducible show wpAny _ _ (call (Value.ref 89) _) _ _ _); k_dflt (refine' Mine.name_ok ?zhks ?zhb ?zhe ?zhq ?zcd ?zr ?zB ?zF ?zX ?zN ?zT ?zk ?zdp ?zun ?_; (case zB => k_asm); (case zF => k_asm); (case zX => k_asm); (case zN => k_asm); (case zT => k_asm); (case zhq => assumption); (case zcd => assumption); (case zr => first | assumption | exact Mine.all_ne_cons (by k_ne) (by assumption)); (case zhks => assumption); (case zhb => assumption); (case zhe => assumption); (case zk => first | exact rfl | assumption); (case zdp => ktr_room); (case zun => ktr_units); refine ⟨fun q9 t9 w9 h9 tk9 F9 N9 => ?_, fun q9 e9 g9 h9 tk9 F9 v9 x9 => ?_⟩ <;> (try dsimp only) <;> (try k_fold)))
  trivial
namespace Mine
abbrev i32 : Int := ((32 : UInt8).toNat : Int)
abbrev i40 : Int := ((40 : UInt8).toNat : Int)
abbrev i41 : Int := ((41 : UInt8).toNat : Int)
section
variable {ks : List Int} {p q : Nat} {ns : List (List Int)}
theorem rd_no0 (h : codeAt ks p ≠ i32) : readL .blank [] (ks.drop p) p = (none, p) := by
  rw [read_blank, if_neg (show codeAt ks p ≠ 32 from h)]
theorem rd_no1 (h : codeAt ks p = i32) (h1 : codeAt ks (p + 1) ≠ i40) : readL .blank [] (ks.drop p) p = (none, p + 1) := by
  rw [read_blank, if_pos (show codeAt ks p = 32 from h), read_opn, if_neg (show codeAt ks (p + 1) ≠ 40 from h1)]
theorem rd_no2 (h : codeAt ks p = i32) (h1 : codeAt ks (p + 1) = i40) (h2 : run ks (p + 1 + 1) = []) : readL .blank [] (ks.drop p) p = (none, p + 1 + 1) := by
  rw [read_blank, if_pos (show codeAt ks p = 32 from h), read_opn, if_pos (show codeAt ks (p + 1) = 40 from h1), read_name, if_pos h2]
theorem rd_yes (h : codeAt ks p = i32) (h1 : codeAt ks (p + 1) = i40) (h2 : run ks (p + 1 + 1) ≠ []) :
    readL .blank [] (ks.drop p) p = readL .wit [run ks (p + 1 + 1)] (ks.drop (p + 1 + 1 + (run ks (p + 1 + 1)).length)) (p + 1 + 1 + (run ks (p + 1 + 1)).length) := by
  rw [read_blank, if_pos (show codeAt ks p = 32 from h), read_opn, if_pos (show codeAt ks (p + 1) = 40 from h1), read_name, if_neg h2, List.nil_append]
theorem rd_more_no (ha : isAtom (codeAt ks q) = false) (h : codeAt ks q = i32) (h2 : run ks (q + 1) = []) : readL .wit ns (ks.drop q) q = (none, q + 1) := by
  rw [read_wit, if_neg (by rw [ha]; exact Bool.false_ne_true), if_pos (show codeAt ks q = 32 from h), read_name, if_pos h2]
theorem rd_more (ha : isAtom (codeAt ks q) = false) (h : codeAt ks q = i32) (h2 : run ks (q + 1) ≠ []) :
    readL .wit ns (ks.drop q) q = readL .wit (ns ++ [run ks (q + 1)]) (ks.drop (q + 1 + (run ks (q + 1)).length)) (q + 1 + (run ks (q + 1)).length) := by
  rw [read_wit, if_neg (by rw [ha]; exact Bool.false_ne_true), if_pos (show codeAt ks q = 32 from h), read_name, if_neg h2]
theorem rd_end (ha : isAtom (codeAt ks q) = false) (h : codeAt ks q ≠ i32) (h2 : codeAt ks q = i41) : readL .wit ns (ks.drop q) q = (some ns, q + 1) := by
  rw [read_wit, if_neg (by rw [ha]; exact Bool.false_ne_true), if_neg (show codeAt ks q ≠ 32 from h), if_pos (show codeAt ks q = 41 from h2)]
theorem rd_end_no (ha : isAtom (codeAt ks q) = false) (h : codeAt ks q ≠ i32) (h2 : codeAt ks q ≠ i41) : readL .wit ns (ks.drop q) q = (none, q) := by
  rw [read_wit, if_neg (by rw [ha]; exact Bool.false_ne_true), if_neg (show codeAt ks q ≠ 32 from h), if_neg (show codeAt ks q ≠ 41 from h2)]
theorem run_fits (h2 : run ks q ≠ []) : q + (run ks q).length ≤ ks.length ∧ 1 ≤ (run ks q).length := by
  have := run_len ks q
  have h3 : 1 ≤ (run ks q).length := List.length_pos_iff.mpr h2
  omega
end
abbrev TSt := List (List Int) × Nat × Tok × Nat × List (Str × Tok)
abbrev tLed (w : World) (b : Array UInt8) (c d lF : Addr) (e : Int) (t1 t3 u1 u2 u3 : Tok) (news : List (Addr × Obj)) (z : TSt) : List (Addr × Obj) :=
  (c, instObj 178 d) :: (d, curD w b ((z.2.1 : Nat) : Int) e t1 z.2.2.1 t3 u1 u2 u3) :: (lF, W.listOf (strValues z.2.2.2.2).toArray z.2.2.2.1) :: news
structure TInv (ks : List Int) (p : Nat) (z : TSt) : Prop where
  txts : z.2.2.2.2.map (·.1) = z.1.map txt
  reads : readL .blank [] (ks.drop p) p = readL .wit z.1 (ks.drop z.2.1) z.2.1
  stop : isAtom (codeAt ks z.2.1) = false
  inn : z.2.1 ≤ ks.length
  few : z.1.length ≤ z.2.1
theorem drop3 {α : Type} {a b c d : α} {l : List α} : ∀ p ∈ a :: b :: c :: l, p ∈ a :: b :: c :: d :: l := fun p hp => by
  rcases List.mem_cons.mp hp with rfl | hp
  · exact .head _
  rcases List.mem_cons.mp hp with rfl | hp
  · exact .tail _ (.head _)
  rcases List.mem_cons.mp hp with rfl | hp
  · exact .tail _ (.tail _ (.head _))
  · exact .tail _ (.tail _ (.tail _ (.tail _ hp)))
theorem rot3 {h₀ h : Heap} {L : Addr} {x y z : Addr × Obj} {l : List (Addr × Obj)} (N : News h₀ L h (x :: y :: z :: l)) : News h₀ L h (y :: z :: x :: l) := fun p hp => N p (by
  rcases List.mem_cons.mp hp with rfl | hp
  · exact .tail _ (.head _)
  rcases List.mem_cons.mp hp with rfl | hp
  · exact .tail _ (.tail _ (.head _))
  rcases List.mem_cons.mp hp with rfl | hp
  · exact .head _
  · exact .tail _ (.tail _ (.tail _ hp)))
section
variable {w : World} {mean : ExcName → Option Value} {mg mb : Str → Option Value}
variable {c d : Addr} {b : Array UInt8} {ks : List Int} (hks : KBw.bInts b = ks) {p : Nat} {e : Int} {t1 t2 t3 u1 u2 u3 : Tok} {news : List (Addr × Obj)} (hb : ks.length ≤ 64) (he : e = ks.length)
include hks hb he
theorem names_ok (hq : ∀ k ∈ ks, k ≠ 34) (hcd : @Ne Nat c d) (hr : ∀ q ∈ news, q.1 ≠ d) :
    AsksE 10 w mean mg mb 96 [.ref c] ((c, instObj 178 d) :: (d, curD w b p e t1 t2 t3 u1 u2 u3) :: news) (fun h₀ L m s Q E base l =>
      (∀ ns q, readL .blank [] (ks.drop p) p = (some ns, q) → ∀ (T : Addr) (l : List (Str × Tok)) (n : Nat) (t : Tok) (h' : Heap) (tk' : Nat), Fr h₀ L h' m → News h₀ L h' ((T, tupOf (strValues l) n) :: (c, instObj 178 d) :: (d, curD w b (q : Nat) e t1 t t3 u1 u2 u3) :: news) → l.map (·.1) = ns.map txt → Q (.ref T) { s with heap := h', toks := tk' }) ∧
      (∀ q : Nat, readL .blank [] (ks.drop p) p = (none, q) → FliesOut w q h₀ L m s E base l)) := by
  intro dp un gd cn cs a ccd cl outer A₀ base h₀ L m s Q E B F X N T hk hdp hun hret
  have h0 : (0 : Int) ≤ (p : Int) := by omega
  walk_at "mine enter"
  k_with "exec While Call cons nil" => (k_here; (rename Fr _ _ _ _ => FX); (rename News _ _ _ _ => NX); (rename run ks (p + 1 + 1) ≠ [] => hq2); (rename codeAt ks (p + 1) = _ => hq1); (rename codeAt ks p = _ => hq0); (rename_i lF _ lF1 _); (refine' while_cut (tLed w b c d lF e t1 t3 u1 u2 u3 news) (TInv ks p) (fun z => TInv ks p z ∧ codeAt ks z.2.1 ≠ i32) (fun z => ks.length - z.2.1) ([run ks (p + 1 + 1)], p + 1 + 1 + (run ks (p + 1 + 1)).length, _, _, [(txt (run ks (p + 1 + 1)), _)]) FX (rot3 NX) ⟨rfl, rd_yes hq0 hq1 hq2, run_end ks _ _ (Nat.le_refl _), (run_fits hq2).1, by have := (run_fits hq2).2; show 1 ≤ p + 1 + 1 + _; omega⟩ ?turn ?after ?hE); (case hE => passes_own); (clear FX NX); (case' turn => ((rintro ⟨ns, q, t, nn, l⟩ h tk F₁ N₁ hI; dsimp only [tLed] at *); (have hll : l.length = ns.length := by simpa using congrArg List.length hI.txts); (have hfew := hI.few); (have hinn := hI.inn); (dsimp only at hfew hinn); (have hsv : (strValues l).length ≤ 64 := by rw [strValues_len]; omega))); (case' after => ((rintro ⟨ns, q, t, nn, l⟩ h tk F₁ N₁ ⟨hI, hne⟩; dsimp only [tLed] at *); (have hll : l.length = ns.length := by simpa using congrArg List.length hI.txts); (have hfew := hI.few); (have hinn := hI.inn); (dsimp only at hfew hinn); (have hl64 : l.length ≤ 64 := by omega))))
  k_steps
  · exact hret.1 ns (q + 1) (hI.reads.trans (rd_end hI.stop hne (by assumption))) _ l _ _ _ _ (by assumption) (cb_drop (by assumption) drop3) hI.txts
  · exact hret.2 q (hI.reads.trans (rd_end_no hI.stop hne (by assumption))) _ _ _ _ (by assumption) (by assumption) (by assumption)
  · rename run ks (q + 1) ≠ [] => hq2
    rename codeAt ks q = _ => hq0
    refine' turned (ns ++ [run ks (q + 1)], q + 1 + (run ks (q + 1)).length, _, _, l ++ [(txt (run ks (q + 1)), _)]) (by assumption) ?zN ?zI ?zm
    case zN =>
      rename News _ _ _ _ => NE
      rw [strValues_snoc] at NE
      exact NE
    case zI =>
      have hf := run_fits hq2
      refine ⟨?_, hI.reads.trans (rd_more hI.stop hq0 hq2), run_end ks _ _ (Nat.le_refl _), hf.1, ?_⟩
      · dsimp only
        rw [List.map_append, List.map_append, hI.txts]
        rfl
      · dsimp only
        rw [List.length_append, List.length_singleton]
        omega
    case zm =>
      have hf := run_fits hq2
      dsimp only
      omega
  · exact hret.2 (q + 1) (hI.reads.trans (rd_more_no hI.stop (by assumption) (by assumption))) _ _ _ _ (by assumption) (by assumption) (by assumption)
  · exact past (ns, q, t, nn, l) (by assumption) (by assumption) ⟨hI, by assumption⟩
  · exact hret.2 _ (rd_no2 (by assumption) (by assumption) (by assumption)) _ _ _ _ (by assumption) (by assumption) (by assumption)
  · exact hret.2 _ (rd_no1 (by assumption) (by assumption)) _ _ _ _ (by assumption) (by assumption) (by assumption)
  · exact hret.2 _ (rd_no0 (by assumption)) _ _ _ _ (by assumption) (by assumption) (by assumption)
end
end Mine
-- DR
theorem Mine.kmem_use {x : Addr × Obj} {o' : Obj} {g : Obj → List (Addr × Obj)} (h : ∀ (o' : Obj), x ∈ g o') : x ∈ g o' := h o'
local macro_rules | `(tactic| k_mem) => `(tactic| exact Mine.kmem_use (by assumption))
theorem Mine.len_cells {prog : Program} {w : World} {A : Around} {E : Value → Shared → Prop} {s : Shared} {h₀ : Heap} {L l : Addr} {news : List (Addr × Obj)} {vs : List Value} {ns : List Int} {c : Nat} {Q : Value → Shared → Prop} (N : News h₀ L s.heap news) (hm : (l, W.listOf vs.toArray c) ∈ news) (hi : IntsAre vs ns) (hz : ns.length ≤ 64)
    (h : Q (.int (ns.length : Int) (s.toks + 1)) { s with toks := s.toks + 1 + 1 }) : wpAny (model prog w) A (call (.builtin "len") [.ref l]) Q E s :=
  kst_len N hm hi.length (by omega) h
theorem Mine.words8 : True := by
  k_with "call builtin:len" => (k_here; (with_reducible show wpAny _ _ (call (Value.builtin "len") [Value.ref _]) _ _ _); k_dflt (refine' Mine.len_cells ?k1 ?k2 ?k3 ?k4 ?_; (case k1 => k_asm); (case k2 => k_mem); (case k3 => assumption); (case k4 => omega)))
  k_with "subscriptTail" => (k_here; (with_reducible show wpAny _ _ (subscriptTail _ _ (Value.ref _) (Value.int _ _)) _ _ _); k_dflt (refine' ksa_sub ?k1 ?k2 ?k3 ?k4 ?k5 ?k6 ?_ ?k7; (case k1 => k_asm); (case k2 => k_mem); (case k3 => assumption); (case k4 => omega); (case k5 => omega); (case k6 => omega); (case k7 => with_unfolding_all rfl); intro t9))
  trivial
namespace Mine
section
variable {w : World} {mean : ExcName → Option Value} {mg mb : Str → Option Value}
variable {tp cl : Addr} {vs : List Value} {ns : List Int} {n nc : Nat} {ta : Tok} {news : List (Addr × Obj)}
theorem draw_ok {at0 many : Int} {t : Tok} {g : Obj → List (Addr × Obj)} (hi : IntsAre vs ns) (hl0 : 0 < ns.length) (hl1 : ns.length ≤ 40) (ha0 : 0 ≤ at0) (ha1 : at0 ≤ 40) (hm : 0 < many)
    (ht : (tp, W.listOf #[.ref cl, .int at0 ta] n) ∈ news) (hc : (cl, W.listOf vs.toArray nc) ∈ news) (hc' : ∀ (o' : Obj), (cl, W.listOf vs.toArray nc) ∈ g o') (hU : ∀ (t : Tok) (o' : Obj), Upd tp (W.listOf #[.ref cl, .int at0 ta] n) o' news (g o')) :
    Asks 2 w mean mg mb 189 [.ref tp, .int many t] news (fun h₀ L m s Q E =>
      ∀ (k : Nat) (t ta' : Tok) (h' : Heap) (tk' : Nat), (k : Int) < many → Fr h₀ L h' m → News h₀ L h' (g (W.listOf #[.ref cl, .int (at0 + 1) ta'] n)) → Q (.int (k : Int) t) { s with heap := h', toks := tk' }) := by
  intro dp un gd cn cs a ccd cl outer A₀ base h₀ L m s Q E B F X N T hk hdp hun hret
  have hlz : (0 : Int) < (ns.length : Int) := by omega
  have hm0 : 0 ≤ at0 % (ns.length : Int) := Int.emod_nonneg _ (by omega)
  have hm1 : at0 % (ns.length : Int) < (ns.length : Int) := Int.emod_lt_of_pos _ hlz
  have hd0 : 0 ≤ at0 / (ns.length : Int) := Int.ediv_nonneg ha0 (by omega)
  have hd1 : at0 / (ns.length : Int) ≤ 40 := Int.le_trans (Int.ediv_le_self _ ha0) ha1
  walk_at "mine enter"
  k_steps
  rename Fr h₀ L _ m => FE
  rename News h₀ L _ _ => NE
  have hx := fun x : Int => (show 0 ≤ x.fmod many by rw [Int.fmod_eq_emod_of_nonneg _ (Int.le_of_lt hm)]; exact Int.emod_nonneg _ (by omega))
  have hy := fun x : Int => (show x.fmod many < many by rw [Int.fmod_eq_emod_of_nonneg _ (Int.le_of_lt hm)]; exact Int.emod_lt_of_pos _ hm)
  generalize hX : (ns.getD (at0.fmod (ns.length : Int)).toNat 0 + at0.fdiv (ns.length : Int) * (7 * at0 + 3 + at0.fdiv 2)) = X
  have e : X.fmod many = (((X.fmod many).toNat : Nat) : Int) := (Int.toNat_of_nonneg (hx X)).symm
  rw [e]
  exact hret _ _ _ _ _ (by rw [← e]; exact hy X) FE NE
end
end Mine
-- SG
namespace Mine
/-- the octet at q, or none -/
def sgn (ks : List Int) (q : Nat) : Array UInt8 := if q < ks.length then #[(codeAt ks q).toNat.toUInt8] else #[]
theorem sgn_in {ks : List Int} {q : Nat} (h : q < ks.length) : sgn ks q = #[(codeAt ks q).toNat.toUInt8] := if_pos h
theorem sgn_out {ks : List Int} {q : Nat} (h : ¬ q < ks.length) : sgn ks q = #[] := if_neg h
theorem bInts_ext {a b : Array UInt8} (h : KBw.bInts a = KBw.bInts b) : a = b := by
  apply Array.toList_inj.mp
  have inj : ∀ (x y : UInt8), ((x.toNat : Nat) : Int) = ((y.toNat : Nat) : Int) → x = y := fun x y e => UInt8.toNat_inj.mp (by omega)
  obtain ⟨a⟩ := a
  obtain ⟨b⟩ := b
  change a.map (fun c => (c.toNat : Int)) = b.map (fun c => (c.toNat : Int)) at h
  show a = b
  exact List.map_inj_right inj |>.mp h
theorem bInts_range {b : Array UInt8} {ks : List Int} (hk : KBw.bInts b = ks) : ∀ k ∈ ks, 0 ≤ k ∧ k < 256 := fun k hm => by
  subst hk
  exact KBw.ints_in hm
theorem picked_sgn {b : Array UInt8} {ks : List Int} (hk : KBw.bInts b = ks) (q : Nat) : KBy.picked b (some (q : Int)) (some ((q : Int) + 1)) = sgn ks q := by
  have e1 := KBc.ints_picked hk (some (q : Int)) (some ((q : Int) + 1))
  have e2 : (some ((q : Int) + 1)) = some (((q + 1 : Nat) : Int)) := by congr 1
  rw [e2] at e1 ⊢
  simp only [Option.elim, clipAt_nat] at e1
  apply bInts_ext
  rw [e1]
  by_cases h : q < ks.length
  · rw [sgn_in h, show min q ks.length = q from by omega, show min (q + 1) ks.length - q = 1 from by omega, drop_code h, List.take_succ_cons, List.take_zero]
    have hr := code_in h (bInts_range hk)
    show _ = [(((codeAt ks q).toNat.toUInt8.toNat : Nat) : Int)]
    congr 1
    rw [Nat.toUInt8_eq, UInt8.toNat_ofNat']
    omega
  · rw [sgn_out h, show min q ks.length = ks.length from by omega, List.drop_length, List.take_nil]
    rfl
section
variable {prog : Program} {w : World} {A : Around} {E : Value → Shared → Prop} {s : Shared} {value slice : PySem.Expr} {b : Array UInt8} {t : Tok} {h₀ : Heap} {L : Addr} {m : PySem.Str → Option Value} {news : List (Addr × Obj)} {Q : Value → Shared → Prop} {ks : List Int} {q : Nat} {ta tb tc : Tok}
theorem slice_one (hF : Fr h₀ L s.heap m) (hN : News h₀ L s.heap news) (hk : KBw.bInts b = ks) (hz : ks.length ≤ 64)
    (h : ∀ h' t' k, Fr h₀ L h' m → News h₀ L h' news → Q (.bytes (sgn ks q) t') { s with heap := h', toks := k })
    (hs : subscripted slice false (.bytes b t) (.ref s.heap.objs.size) = operate [.ref s.heap.objs.size, .bytes b t] (getItem (.bytes b t) (.ref s.heap.objs.size)) := by with_unfolding_all rfl)
    (ht : ∀ r, letTemporaryGo value (.bytes b t) r = pure () := by intro _; with_unfolding_all rfl) :
    wpAny (model prog w) A (subscriptTail value slice (.bytes b t) (.ref s.heap.objs.size)) Q E { s with heap := s.heap.push { cls := .type "slice", data := .fields #[.int (q : Int) ta, .int ((q : Int) + 1) tb, .none] } } :=
  KBc.slice_K hF hN hk (by constructor) (by constructor) (by omega) (fun h' t' k F N _ => by rw [picked_sgn hk]; exact h h' t' k F N) hs ht
theorem one_eq {x y : UInt8} : ((#[x] : Array UInt8).toList == (#[y] : Array UInt8).toList) = decide (x = y) := by
  rw [Bool.eq_iff_iff, beq_iff_eq, decide_eq_true_eq]
  constructor
  · intro q; cases q; rfl
  · intro q; rw [q]
theorem u8_of {k : Int} {x : UInt8} (h0 : 0 ≤ k) (h1 : k < 256) : (k.toNat.toUInt8 = x) ↔ k = (x.toNat : Int) := by
  constructor
  · rintro rfl
    rw [Nat.toUInt8_eq, UInt8.toNat_ofNat']
    omega
  · rintro rfl
    simp
theorem sgn_eq {x : UInt8} (hk : ∀ k ∈ ks, 0 ≤ k ∧ k < 256) : ((sgn ks q).toList == (#[x] : Array UInt8).toList) = decide (codeAt ks q = (x.toNat : Int)) := by
  by_cases h : q < ks.length
  · rw [sgn_in h, one_eq]
    have hr := code_in h hk
    rw [Bool.eq_iff_iff, decide_eq_true_eq, decide_eq_true_eq]
    exact u8_of hr.1 hr.2
  · rw [sgn_out h, code_end h, decide_eq_false (by have : 0 ≤ (x.toNat : Int) := Int.natCast_nonneg _; omega)]
    rfl
theorem eq_sgn {x : UInt8} (hk : KBw.bInts b = ks) (h : Q (.bool (decide (codeAt ks q = (x.toNat : Int)))) s) : wpAny (model prog w) A (compareOp .Eq (.bytes (sgn ks q) ta) (.bytes #[x] tb)) Q E s :=
  eq_bytes (by rw [sgn_eq (bInts_range hk)]; exact h)
theorem ne_nil_sgn (h : Q (.bool (decide (q < ks.length))) s) : wpAny (model prog w) A (compareOp .NotEq (.bytes (sgn ks q) ta) (.bytes #[] tb)) Q E s :=
  ne_bytes (by
    by_cases hq : q < ks.length
    · rw [decide_eq_true hq] at h
      rw [sgn_in hq]; exact h
    · rw [decide_eq_false hq] at h
      rw [sgn_out hq]; exact h)
theorem item_sgn (hk : KBw.bInts b = ks) (hq : q < ks.length) (h : ∀ t' k, Q (.int (codeAt ks q) t') { s with toks := k })
    (hs : subscripted slice false (.bytes (sgn ks q) ta) (.int 0 tb) = operate [.bytes (sgn ks q) ta, .int 0 tb] (getItem (.bytes (sgn ks q) ta) (.int 0 tb)) := by with_unfolding_all rfl)
    (ht : ∀ r, letTemporaryGo value (.bytes (sgn ks q) ta) r = pure () := by intro _; with_unfolding_all rfl) :
    wpAny (model prog w) A (subscriptTail value slice (.bytes (sgn ks q) ta) (.int 0 tb)) Q E s := by
  have hr := code_in hq (bInts_range hk)
  refine tail_of_ItemOn ⟨"bytes", _, FB.slot_bytes_getitem.lookup, typeIs_bytes _ _ _, ?_⟩ hs ht
  rw [sgn_in hq]
  refine getItem_bytes (l := [(codeAt ks q).toNat.toUInt8]) (by simp) (by decide) (by simp) ?_
  have e : (([(codeAt ks q).toNat.toUInt8].getD (Int.toNat 0) 0).toNat : Int) = codeAt ks q := by
    show (((codeAt ks q).toNat.toUInt8.toNat : Nat) : Int) = _
    rw [Nat.toUInt8_eq, UInt8.toNat_ofNat']
    omega
  rw [e]
  exact h _ _
theorem eqBool_bytes {x y : Array UInt8} {Q : Bool → Shared → Prop} (h : Q (x.toList == y.toList) s) : wpAny (model prog w) A (eqBool (.bytes x ta) (.bytes y tb)) Q E s := by
  unfold eqBool
  show wpAny _ _ (if (Value.bytes x ta == Value.bytes y tb) = true then _ else _) Q E s
  by_cases hab : (Value.bytes x ta == Value.bytes y tb) = true
  · rw [if_pos hab]
    have e : x = y := by have := eq_of_beq hab; injection this
    subst e
    exact wpAny_bind (wpAny_rule (wpAny_pure (by simpa using h)))
  · rw [if_neg hab]
    exact wpAny_bind (eq_bytes (wpAny_truthy_bool h))
def sameB (x : Array UInt8) : Value → Bool
  | .bytes y _ => y.toList == x.toList
  | _ => false
theorem notIn_sgn {a : Addr} {n : Nat} {v1 v2 v3 v4 v5 v6 v7 v8 : Tok} (hN : News h₀ L s.heap news)
    (hm : (a, ({ cls := .type "tuple", data := .seq #[.bytes #[40] v1, .bytes #[41] v2, .bytes #[123] v3, .bytes #[37] v4, .bytes #[42] v5, .bytes #[34] v6, .bytes #[92] v7, .bytes #[93] v8] n } : Obj)) ∈ news)
    (hk : KBw.bInts b = ks) (h1 : 32 < codeAt ks q) (h2 : codeAt ks q < 127)
    (h : Q (.bool (isAtom (codeAt ks q))) s) : wpAny (model prog w) A (compareOp .NotIn (.bytes (sgn ks q) ta) (.ref a)) Q E s := by
  refine SeqAt.notIn_tupleAt (sameB (sgn ks q)) ⟨_, (hN _ hm).1, rfl, n, rfl⟩ (fun y hy => ?_) ?_
  · have hb : ∃ (c : Array UInt8) (u : Tok), y = .bytes c u := by
      simp only [List.mem_toArray, List.mem_cons, List.not_mem_nil, or_false] at hy
      rcases hy with rfl | rfl | rfl | rfl | rfl | rfl | rfl | rfl <;> exact ⟨_, _, rfl⟩
    obtain ⟨c, u, rfl⟩ := hb
    exact fun _ _ _ _ hq => eqBool_bytes hq
  · have hf : ∀ (x : UInt8) (v : Tok), sameB (sgn ks q) (.bytes #[x] v) = decide (codeAt ks q = (x.toNat : Int)) := fun x v => by
      show ((#[x] : Array UInt8).toList == (sgn ks q).toList) = _
      rw [← sgn_eq (bInts_range hk), Bool.eq_iff_iff, beq_iff_eq, beq_iff_eq]
      exact ⟨Eq.symm, Eq.symm⟩
    have e : (!(#[Value.bytes #[40] v1, .bytes #[41] v2, .bytes #[123] v3, .bytes #[37] v4, .bytes #[42] v5, .bytes #[34] v6, .bytes #[92] v7, .bytes #[93] v8] : Array Value).any (sameB (sgn ks q))) = isAtom (codeAt ks q) := by
      simp only [List.any_toArray, List.any_cons, List.any_nil, hf]
      unfold isAtom barred
      rw [decide_eq_true h1, decide_eq_true h2]
      generalize codeAt ks q = k at h1 h2
      have e32 : (k == 32) = false := beq_eq_false_iff_ne.mpr (by omega)
      simp only [List.contains_cons, List.contains_nil, Bool.true_and, Bool.or_false, e32]
      rfl
    rw [e]
    exact h
/-- an expression's value, without its way -/
def Cut (h₀ : Heap) (L : Addr) (m : Str → Option Value) (s : Shared) (news : List (Addr × Obj)) (V v : Value) (s₂ : Shared) : Prop :=
  v = V ∧ ∃ (h : Heap) (tk : Nat), s₂ = { s with heap := h, toks := tk } ∧ Fr h₀ L h m ∧ News h₀ L h news
theorem cut_of {V v : Value} {h : Heap} {tk : Nat} (F : Fr h₀ L h m) (N : News h₀ L h news) (e : v = V) : Cut h₀ L m s news V v { s with heap := h, toks := tk } := ⟨e, h, tk, rfl, F, N⟩
theorem eval_cut {M : Model} {x : PySem.Expr} {env : Env} {V : Value} (F : Fr h₀ L s.heap m) (N : News h₀ L s.heap news) (h : wpAny M A (eval x env) (Cut h₀ L m s news V) E s)
    (k : ∀ h tk, Fr h₀ L h m → News h₀ L h news → Q V { s with heap := h, toks := tk }) : wpAny M A (eval x env) Q E s :=
  wpAny_mono h (fun v s₂ c => by
    obtain ⟨rfl, h, tk, rfl, F', N'⟩ := c
    exact k h tk F' N') fun _ _ e => e
theorem can_out (h : ¬ q < ks.length) : (Value.bool (decide (q < ks.length))) = .bool (isAtom (codeAt ks q)) := by
  rw [code_end h, decide_eq_false h]; rfl
theorem can_lo (h : ¬ 32 < codeAt ks q) : (Value.bool (decide (32 < codeAt ks q))) = .bool (isAtom (codeAt ks q)) := by
  unfold isAtom
  rw [decide_eq_false h]; rfl
theorem can_hi (h : ¬ codeAt ks q < 127) : (Value.bool (decide (codeAt ks q < 127))) = .bool (isAtom (codeAt ks q)) := by
  unfold isAtom
  rw [decide_eq_false h]; simp
end
end Mine
-- SGL
theorem Mine.words9 : True := by
  k_with "subscriptTail" => (k_here; (with_reducible show wpAny _ _ (subscriptTail _ (PySem.Expr.Slice _ _ none _) (Value.bytes _ _) (Value.ref _)) _ _ _); (with_reducible rename Fr _ _ _ _ => F'); (with_reducible rename News _ _ _ _ => N'); (refine Mine.slice_one (s := ⟨_, _, _, _, _⟩) F' N' (by assumption) (by assumption) ?_); clear F' N'; intro h9 t9 k9 F9 N9)
  k_with "subscriptTail" => (k_here; (with_reducible show wpAny _ _ (subscriptTail _ _ (Value.bytes (Mine.sgn _ _) _) (Value.int _ _)) _ _ _); (refine Mine.item_sgn (by assumption) (by first | assumption | exact (Mine.run_yes (by assumption)).2) ?_); intro t9 k9)
  k_with "compareOp Eq bytes bytes" => (k_here; (with_reducible show wpAny _ _ (compareOp CmpOp.Eq (Value.bytes (Mine.sgn _ _) _) (Value.bytes _ _)) _ _ _); refine Mine.eq_sgn (by assumption) ?_)
  k_with "compareOp NotEq bytes bytes" => (k_here; (with_reducible show wpAny _ _ (compareOp CmpOp.NotEq (Value.bytes (Mine.sgn _ _) _) (Value.bytes _ _)) _ _ _); refine Mine.ne_nil_sgn ?_)
  k_with "compareOp NotIn bytes ref" => (k_here; (with_reducible show wpAny _ _ (compareOp CmpOp.NotIn (Value.bytes (Mine.sgn _ _) _) (Value.ref _)) _ _ _); (refine' Mine.notIn_sgn ?k1 ?k2 ?k3 ?k4 ?k5 ?_; (case k1 => k_asm); (case k2 => k_mem); (case k3 => assumption); (case k4 => assumption); (case k5 => assumption)))
  k_with "Cut" => (refine' Mine.cut_of ?k1 ?k2 ?k3; (case k1 => k_asm); (case k2 => first | k_asm | exact cb_drop (by k_asm) (fun p hp => .tail _ hp)); (case k3 => first | rfl | exact Mine.can_out (by assumption) | exact Mine.can_lo (by assumption) | exact Mine.can_hi (by assumption)))
  trivial
-- SG2
namespace Mine
section
variable {prog : Program} {w : World} {A : Around} {E : Value → Shared → Prop} {s : Shared} {h₀ : Heap} {L a : Addr} {m : PySem.Str → Option Value} {news news' : List (Addr × Obj)} {l : List (Str × Tok)} {x y : Str} {t t' u : Tok} {n : Nat}
theorem item_last {value slice : PySem.Expr} {Q : Value → Shared → Prop} (N : News h₀ L s.heap news) (hm : (a, W.listOf (strValues (l ++ [(x, t)])).toArray n) ∈ news) (h : Q (.str x t) s)
    (hs : subscripted slice false (.ref a) (.int (-1) u) = operate [.ref a, .int (-1) u] (getItem (.ref a) (.int (-1) u)) := by with_unfolding_all rfl) :
    wpAny (model prog w) A (subscriptTail value slice (.ref a) (.int (-1) u)) Q E s := by
  have hl := isList_of N hm
  have hz : (strValues (l ++ [(x, t)])).toArray.size = l.length + 1 := by simp [strValues]
  have hj : ((-1 : Int) + ((strValues (l ++ [(x, t)])).toArray.size : Nat)).toNat = l.length := by rw [hz]; omega
  refine subscriptTail_builtinR hl.typeIs slot_list_getitem.lookup (wpAny_getItem_list_neg (Q := fun r s' => r = _ ∧ Q r s') hl (by decide) (by rw [hz]; omega) (by decide) (x := .str x t) ?_ ⟨rfl, h⟩) hs
  rw [hj]
  simp [strValues]
theorem setL_last : ∀ (l : List (Str × Tok)), ki_setL (strValues (l ++ [(x, t)])) l.length (.str y t') = some (strValues (l ++ [(y, t')]))
  | [] => rfl
  | p :: r => by
    have ih := setL_last r
    show (match ki_setL (strValues (r ++ [(x, t)])) r.length (.str y t') with | some q => some (Value.str p.1 p.2 :: q) | none => none) = _
    rw [ih]
    rfl
theorem set_last {Q : Unit → Shared → Prop} (F : Fr h₀ L s.heap m) (N : News h₀ L s.heap news) (U : Upd a (W.listOf (strValues (l ++ [(x, t)])).toArray n) (W.listOf (strValues (l ++ [(y, t')])).toArray n) news news')
    (h : ∀ h', Fr h₀ L h' m → News h₀ L h' news' → Q () { s with heap := h' }) : wpAny (model prog w) A (setItem (.ref a) (.int (-1) u) (.str y t')) Q E s := by
  have hz : (strValues (l ++ [(x, t)])).toArray.size = l.length + 1 := by simp [strValues]
  refine ki_setNeg (j := l.length) F N (by decide) (by decide) ?_ (setL_last l) U h
  show seqIndex? (-1) (strValues (l ++ [(x, t)])).toArray.size = some l.length
  rw [hz]
  simp [seqIndex?]
  omega
theorem append_strs {Q : Value → Shared → Prop} (F : Fr h₀ L s.heap m) (N : News h₀ L s.heap news) (hz : l.length ≤ 64) (U : Upd a (W.listOf (strValues l).toArray n) (W.listOf (strValues (l ++ [(x, t)])).toArray (n + 1)) news news')
    (h : ∀ h', Fr h₀ L h' m → News h₀ L h' news' → Q .none { s with heap := h' }) : wpAny (model prog w) A (call (.builtin "list.append") [.ref a, .str x t]) Q E s := by
  rw [← strValues_snoc] at U
  exact append_K F N U h (by rw [List.size_toArray, strValues_len, sizeLine_eq]; omega)
theorem add_txt {z : List Int} {k : Int} {Q : Value → Shared → Prop} (hx : x = txt z) (hz : z.length ≤ 64) (h : ∀ t' tk, Q (.str (txt (z ++ [k])) t') { s with toks := tk }) : wpAny (model prog w) A (binaryOp .Add (.str x t) (.str (chrS k) u)) Q E s := by
  subst hx
  have e1 : (txt z).length = z.length := by simp [txt, Str.length]
  refine PyProof.Rows.add_str (fun t' tk => ?_) (by rw [e1, sizeLine_eq]; show z.length + 1 ≤ _; omega)
  rw [txt_snoc]
  exact h t' tk
end
end Mine
theorem Mine.words10 : True := by
  k_with "subscriptTail" => (k_here; (with_reducible show wpAny _ _ (subscriptTail _ _ (Value.ref _) (Value.int (-1) _)) _ _ _); k_dflt (refine' Mine.item_last ?k1 ?k2 ?_ ?k3; (case k1 => k_asm); (case k2 => k_mem); (case k3 => with_unfolding_all rfl)))
  k_with "setItem ref int" => (k_here; (with_reducible show wpAny _ _ (PySem.setItem (Value.ref _) (Value.int (-1) _) (Value.str _ _)) _ _ _); k_dflt (refine' Mine.set_last ?k1 ?k2 ?k3 ?_; (case k1 => k_asm); (case k2 => k_asm); (case k3 => k_upd); intro h9 F9 N9))
  k_with "call builtin:list.append" => (k_here; (with_reducible show wpAny _ _ (call (Value.builtin _) [Value.ref _, Value.str _ _]) _ _ _); k_dflt (refine' Mine.append_strs ?k1 ?k2 ?k4 ?k3 ?_; (case k1 => k_asm); (case k2 => k_asm); (case k3 => k_upd); (case k4 => assumption); intro h9 F9 N9))
  k_with "binaryOp Add str str" => (k_here; refine' Mine.add_txt ?k1 ?k2 ?_; (case k1 => first | exact rfl | (show Str.ofString "" = Mine.txt []; decide +kernel)); (case k2 => first | assumption | decide); intro t9 k9)
  trivial
-- RD
namespace Mine
def stS : St → Str
  | .blank => Str.ofString "blank"
  | .opn => Str.ofString "open"
  | .beg => Str.ofString "begin"
  | .wit => Str.ofString "within"
abbrev RSt := St × List (List Int) × Nat × Tok × Tok × Nat × List (Str × Tok)
abbrev rLed (lN : Addr) (news : List (Addr × Obj)) (z : RSt) : List (Addr × Obj) := (lN, W.listOf (strValues z.2.2.2.2.2.2).toArray z.2.2.2.2.2.1) :: news
abbrev rPs (z : RSt) : List (Str × Value) := [(Str.ofString "state", .str (stS z.1) z.2.2.2.2.1), (Str.ofString "at", .int ((z.2.2.1 : Nat) : Int) z.2.2.2.1)]
structure RInv (ks : List Int) (p : Nat) (z : RSt) : Prop where
  txts : z.2.2.2.2.2.2.map (·.1) = z.2.1.map txt
  reads : readL .blank [] (ks.drop p) p = readL z.1 z.2.1 (ks.drop z.2.2.1) z.2.2.1
  some_ : z.1 = .wit → z.2.1 ≠ []
  inn : z.2.2.1 ≤ ks.length
  few : z.2.1.length ≤ z.2.2.1
  lens : ∀ y ∈ z.2.1, y.length ≤ z.2.2.1
theorem RInv.last {ks : List Int} {p : Nat} {ns : List (List Int)} {q : Nat} {tq ts : Tok} {nn : Nat} {l : List (Str × Tok)} (h : RInv ks p (.wit, ns, q, tq, ts, nn, l)) : ∃ ns₀ z l₀ tz, ns = ns₀ ++ [z] ∧ l = l₀ ++ [(txt z, tz)] := by
  have h1 := h.txts
  have h2 : ns ≠ [] := h.some_ rfl
  dsimp only at h1
  rcases List.eq_nil_or_concat ns with rfl | ⟨ns₀, z, rfl⟩
  · exact absurd rfl h2
  rcases List.eq_nil_or_concat l with rfl | ⟨l₀, ⟨x, tz⟩, rfl⟩
  · simp at h1
  · simp only [List.concat_eq_append, List.map_append, List.map_cons, List.map_nil] at h1 ⊢
    have h3 := (List.append_inj' h1 rfl).2
    have h4 : x = txt z := by injection h3
    exact ⟨ns₀, z, l₀, tz, rfl, by rw [h4]⟩
theorem in_of {ks : List Int} {q : Nat} {x : UInt8} (h : codeAt ks q = (x.toNat : Int)) : q < ks.length := by
  false_or_by_contra
  rename_i hq
  rw [code_end hq] at h
  have : 0 ≤ (x.toNat : Int) := Int.natCast_nonneg _
  omega
section
variable {ks : List Int} {p q : Nat} {ns : List (List Int)} {tq ts tq' ts' : Tok} {nn nn' : Nat} {l : List (Str × Tok)} {t : Tok}
theorem inv_blank (hI : RInv ks p (.blank, ns, q, tq, ts, nn, l)) (h : codeAt ks q = i32) : RInv ks p (.opn, ns, q + 1, tq', ts', nn', l) :=
  ⟨hI.txts, hI.reads.trans (by show readL .blank ns (ks.drop q) q = _; rw [read_blank, if_pos (show codeAt ks q = 32 from h)]), (fun q => nomatch q), in_of h, Nat.le_succ_of_le hI.few, fun y hy => Nat.le_succ_of_le (hI.lens y hy)⟩
theorem inv_opn (hI : RInv ks p (.opn, ns, q, tq, ts, nn, l)) (h : codeAt ks q = i40) : RInv ks p (.beg, ns, q + 1, tq', ts', nn', l) :=
  ⟨hI.txts, hI.reads.trans (by show readL .opn ns (ks.drop q) q = _; rw [read_opn, if_pos (show codeAt ks q = 40 from h)]), (fun q => nomatch q), in_of h, Nat.le_succ_of_le hI.few, fun y hy => Nat.le_succ_of_le (hI.lens y hy)⟩
theorem inv_beg (hI : RInv ks p (.beg, ns, q, tq, ts, nn, l)) (h : isAtom (codeAt ks q) = true) : RInv ks p (.wit, ns ++ [[codeAt ks q]], q + 1, tq', ts', nn', l ++ [(txt [codeAt ks q], t)]) := by
  refine ⟨?_, hI.reads.trans (by show readL .beg ns (ks.drop q) q = _; rw [read_beg, if_pos h]), fun _ => by simp, (run_yes h).2, ?_, fun y hy => ?_⟩
  · have := hI.txts
    dsimp only at this ⊢
    rw [List.map_append, List.map_append, this]
    rfl
  · have := hI.few
    dsimp only at this ⊢
    rw [List.length_append, List.length_singleton]
    omega
  · rcases List.mem_append.mp hy with hy | hy
    · exact Nat.le_succ_of_le (hI.lens y hy)
    · rw [List.mem_singleton.mp hy]
      show 1 ≤ q + 1
      omega
theorem inv_wit {z : List Int} {tz : Tok} (hI : RInv ks p (.wit, ns ++ [z], q, tq, ts, nn, l ++ [(txt z, tz)])) (h : isAtom (codeAt ks q) = true) : RInv ks p (.wit, ns ++ [z ++ [codeAt ks q]], q + 1, tq', ts', nn', l ++ [(txt (z ++ [codeAt ks q]), t)]) := by
  refine ⟨?_, hI.reads.trans (by show readL .wit (ns ++ [z]) (ks.drop q) q = _; rw [read_wit, if_pos h, app_last]), fun _ => by simp, (run_yes h).2, ?_, fun y hy => ?_⟩
  · have := hI.txts
    dsimp only at this ⊢
    rw [List.map_append, List.map_append] at this ⊢
    rw [(List.append_inj' this rfl).1]
    rfl
  · have := hI.few
    dsimp only at this ⊢
    rw [List.length_append, List.length_singleton] at this ⊢
    omega
  · rcases List.mem_append.mp hy with hy | hy
    · exact Nat.le_succ_of_le (hI.lens y (List.mem_append.mpr (.inl hy)))
    · rw [List.mem_singleton.mp hy, List.length_append, List.length_singleton]
      exact Nat.succ_le_succ (hI.lens z (List.mem_append.mpr (.inr (.head _))))
theorem inv_sep (hI : RInv ks p (.wit, ns, q, tq, ts, nn, l)) (ha : isAtom (codeAt ks q) = false) (h : codeAt ks q = i32) : RInv ks p (.beg, ns, q + 1, tq', ts', nn', l) :=
  ⟨hI.txts, hI.reads.trans (by show readL .wit ns (ks.drop q) q = _; rw [read_wit, if_neg (by rw [ha]; exact Bool.false_ne_true), if_pos (show codeAt ks q = 32 from h)]), (fun q => nomatch q), in_of h, Nat.le_succ_of_le hI.few, fun y hy => Nat.le_succ_of_le (hI.lens y hy)⟩
theorem no_blank (hI : RInv ks p (.blank, ns, q, tq, ts, nn, l)) (h : ¬ codeAt ks q = i32) : readL .blank [] (ks.drop p) p = (none, q) :=
  hI.reads.trans (by show readL .blank ns (ks.drop q) q = _; rw [read_blank, if_neg (show ¬ codeAt ks q = 32 from h)])
theorem no_opn (hI : RInv ks p (.opn, ns, q, tq, ts, nn, l)) (h : ¬ codeAt ks q = i40) : readL .blank [] (ks.drop p) p = (none, q) :=
  hI.reads.trans (by show readL .opn ns (ks.drop q) q = _; rw [read_opn, if_neg (show ¬ codeAt ks q = 40 from h)])
theorem no_beg (hI : RInv ks p (.beg, ns, q, tq, ts, nn, l)) (h : isAtom (codeAt ks q) = false) : readL .blank [] (ks.drop p) p = (none, q) :=
  hI.reads.trans (by show readL .beg ns (ks.drop q) q = _; rw [read_beg, if_neg (by rw [h]; exact Bool.false_ne_true)])
theorem no_wit (hI : RInv ks p (.wit, ns, q, tq, ts, nn, l)) (ha : isAtom (codeAt ks q) = false) (h : ¬ codeAt ks q = i32) (h2 : ¬ codeAt ks q = i41) : readL .blank [] (ks.drop p) p = (none, q) :=
  hI.reads.trans (rd_end_no ha h h2)
theorem yes_wit (hI : RInv ks p (.wit, ns, q, tq, ts, nn, l)) (ha : isAtom (codeAt ks q) = false) (h : ¬ codeAt ks q = i32) (h2 : codeAt ks q = i41) : readL .blank [] (ks.drop p) p = (some ns, q + 1) :=
  hI.reads.trans (rd_end ha h h2)
end
theorem keep4 {α : Type} {x a b c : α} {l : List α} : ∀ p ∈ x :: l, p ∈ x :: a :: b :: c :: l := fun p hp => by
  rcases List.mem_cons.mp hp with rfl | hp
  · exact .head _
  · exact .tail _ (.tail _ (.tail _ (.tail _ hp)))
theorem keep5 {α : Type} {x y a b c : α} {l : List α} : ∀ p ∈ x :: y :: l, p ∈ x :: y :: a :: b :: c :: l := fun p hp => by
  rcases List.mem_cons.mp hp with rfl | hp
  · exact .head _
  · exact .tail _ (keep4 p hp)
theorem four {c : RSt} {y : Str} (h2 : ∀ p ∈ rPs c, y ≠ p.1) (h3 : [Str.ofString "sign", Str.ofString "can_stand"].contains y = false) : y ≠ Str.ofString "state" ∧ y ≠ Str.ofString "at" ∧ y ≠ Str.ofString "sign" ∧ y ≠ Str.ofString "can_stand" := by
  simp only [List.contains_cons, List.contains_nil, Bool.or_false, Bool.or_eq_false_iff, beq_eq_false_iff_ne] at h3
  exact ⟨h2 _ (.head _), h2 _ (.tail _ (.head _)), h3.1, h3.2⟩
theorem tail_news {h₀ h : Heap} {L : Addr} {x : Addr × Obj} {l : List (Addr × Obj)} (N : News h₀ L h (x :: l)) : News h₀ L h l := fun p hp => N p (.tail _ hp)
theorem end_at {h₀ : Heap} {L lN : Addr} {s : Shared} {base : List (Addr × Obj)} {ks : List Int} {p : Nat} {m₀ m' : Str → Option Value} {c : RSt} {h' : Heap} {tk : Nat} (st : St) (ns : List (List Int)) (q : Nat) {l : List (Str × Tok)} {nn : Nat} {tq ts : Tok}
    (F : Fr h₀ L h' m') (N : News h₀ L h' ((lN, W.listOf (strValues l).toArray nn) :: base)) (hs : m' (Str.ofString "state") = some (.str (stS st) ts)) (ha : m' (Str.ofString "at") = some (.int ((q : Nat) : Int) tq))
    (hr : ∀ y, y ≠ Str.ofString "state" → y ≠ Str.ofString "at" → y ≠ Str.ofString "sign" → y ≠ Str.ofString "can_stand" → [Str.ofString "sign", Str.ofString "can_stand"].contains y = false → m' y = m₀ y) (hp : RInv ks p (st, ns, q, tq, ts, nn, l)) (hm : ks.length - q < ks.length - c.2.2.1) :
    KswEnd h₀ L s (rLed lN base) rPs (fun _ => True) [Str.ofString "sign", Str.ofString "can_stand"] m₀ (RInv ks p) (fun z => ks.length - z.2.2.1) c { s with heap := h', toks := tk } := by
  refine ksw_end (st, ns, q, tq, ts, nn, l) F N (fun p hp => hp) True.intro ?_ ?_ hp hm
  · intro x hx
    rcases List.mem_cons.mp hx with rfl | hx
    · exact hs
    · rw [List.mem_singleton.mp hx]
      exact ha
  · intro y h2 h3
    obtain ⟨a1, a2, a3, a4⟩ := four h2 h3
    exact hr y a1 a2 a3 a4 h3
theorem swap2 {h₀ h : Heap} {L : Addr} {x y : Addr × Obj} {l : List (Addr × Obj)} (N : News h₀ L h (x :: y :: l)) : News h₀ L h (y :: x :: l) := fun p hp => N p (by
  rcases List.mem_cons.mp hp with rfl | hp
  · exact .tail _ (.head _)
  rcases List.mem_cons.mp hp with rfl | hp
  · exact .head _
  · exact .tail _ (.tail _ hp))
section
variable {w : World} {mean : ExcName → Option Value} {mg mb : Str → Option Value}
variable {b : Array UInt8} {ks : List Int} (hks : KBw.bInts b = ks) {p : Nat} {news : List (Addr × Obj)} (hb : ks.length ≤ 64)
include hks hb
theorem read_ok {t1 t2 : Tok} (hp : p ≤ ks.length) :
    Asks 2 w mean mg mb 196 [.bytes b t1, .int (p : Int) t2] news (fun h₀ L m s Q E =>
      (∀ ns q, readL .blank [] (ks.drop p) p = (some ns, q) → ∀ (R T : Addr) (l : List (Str × Tok)) (n n' : Nat) (t : Tok) (h' : Heap) (tk' : Nat), Fr h₀ L h' m → News h₀ L h' ((R, tupOf [.ref T, .int (q : Int) t] n') :: (T, tupOf (strValues l) n) :: news) → l.map (·.1) = ns.map txt → Q (.ref R) { s with heap := h', toks := tk' }) ∧
      (∀ q : Nat, readL .blank [] (ks.drop p) p = (none, q) → ∀ (R : Addr) (n' : Nat) (t : Tok) (h' : Heap) (tk' : Nat), Fr h₀ L h' m → News h₀ L h' ((R, tupOf [.none, .int (q : Int) t] n') :: news) → Q (.ref R) { s with heap := h', toks := tk' })) := by
  intro dp un gd cn cs a ccd cl outer A₀ base h₀ L m s Q E B F X N T hk hdp hun hret
  have h0 : (0 : Int) ≤ (p : Int) := by omega
  walk_at "mine enter"
  k_with "exec While Constant cons nil" => (k_here; (rename Fr _ _ _ _ => FX); (rename News _ _ _ _ => NX); (rename_i lN _ lN1 _ _ _ _ _ _); (refine' ksw_while (rLed lN (_ :: news)) rPs (fun _ => True) [Str.ofString "sign", Str.ofString "can_stand"] (RInv ks p) (fun z => ks.length - z.2.2.1) (.blank, [], p, t2, _, _, []) FX (swap2 NX) True.intro ?kk ⟨rfl, rfl, (fun q => nomatch q), hp, Nat.zero_le _, fun _ q => nomatch q⟩ ?turn ?hE); (case hE => passes_own); (case kk => (dsimp only [rPs]; kst_all)); (clear FX NX); (case' turn => ((rintro ⟨st, ns, q, tq, ts, nn, l⟩ u h tk _ hI F₁ N₁; dsimp only [rLed, rPs] at *); (have hll : l.length = ns.length := by simpa using congrArg List.length hI.txts); (have hfew := hI.few); (have hinn := hI.inn); (dsimp only at hfew hinn); (have hl64 : l.length ≤ 64 := by omega))))
  k_with "eval BoolOp" => (k_dflt (refine' eval_cut (V := .bool (isAtom (codeAt ks q))) ?cF ?cN ?cway ?crest; (case cF => k_asm); (case cN => k_asm); (case' crest => (intro hC tkC FC NC; cases st <;> first | (obtain ⟨ns₀, z, l₀, tz, rfl, rfl⟩ := hI.last; have hz64 : z.length ≤ 64 := Nat.le_trans (hI.lens z (List.mem_append.mpr (.inr (.head _)))) (Nat.le_trans hI.inn hb)) | skip))))
  k_steps
  · rename News _ _ _ _ => NE
    refine end_at .opn (ns) (q + 1) (by assumption) (NE) (by with_unfolding_all rfl) (by with_unfolding_all rfl) ?_ (inv_blank hI (by assumption)) ?_
    · intro y a1 a2 a3 a4 h3
      simp only [kstB, a1, a2, a3, a4, h3, if_false, Bool.false_eq_true]
    · have := in_of (by assumption : codeAt ks q = _)
      dsimp only
      omega
  · rename News h₀ L _ _ => NE
    exact hret.2 q (no_blank hI (by assumption)) _ 0 _ _ _ (by assumption) (cb_drop NE keep4)
  · rename News _ _ _ _ => NE
    refine end_at .beg (ns) (q + 1) (by assumption) (NE) (by with_unfolding_all rfl) (by with_unfolding_all rfl) ?_ (inv_opn hI (by assumption)) ?_
    · intro y a1 a2 a3 a4 h3
      simp only [kstB, a1, a2, a3, a4, h3, if_false, Bool.false_eq_true]
    · have := in_of (by assumption : codeAt ks q = _)
      dsimp only
      omega
  · rename News h₀ L _ _ => NE
    exact hret.2 q (no_opn hI (by assumption)) _ 0 _ _ _ (by assumption) (cb_drop NE keep4)
  · rename News _ _ _ _ => NE
    rename isAtom (codeAt ks q) = true => hat
    refine end_at .wit (ns ++ [[codeAt ks q]]) (q + 1) (by assumption) (tail_news NE) (by with_unfolding_all rfl) (by with_unfolding_all rfl) ?_ (inv_beg hI hat) ?_
    · intro y a1 a2 a3 a4 h3
      simp only [kstB, a1, a2, a3, a4, h3, if_false, Bool.false_eq_true]
    · have := (run_yes hat).2
      dsimp only
      omega
  · rename News h₀ L _ _ => NE
    exact hret.2 q (no_beg hI (by assumption)) _ 0 _ _ _ (by assumption) (cb_drop NE keep4)
  · rename News _ _ _ _ => NE
    rename isAtom (codeAt ks q) = true => hat
    refine end_at .wit (ns₀ ++ [z ++ [codeAt ks q]]) (q + 1) (by assumption) (tail_news NE) (by with_unfolding_all rfl) (by with_unfolding_all rfl) ?_ (inv_wit hI hat) ?_
    · intro y a1 a2 a3 a4 h3
      simp only [kstB, a1, a2, a3, a4, h3, if_false, Bool.false_eq_true]
    · have := (run_yes hat).2
      dsimp only
      omega
  · rename News _ _ _ _ => NE
    refine end_at .beg (_) (q + 1) (by assumption) (tail_news NE) (by with_unfolding_all rfl) (by with_unfolding_all rfl) ?_ (inv_sep hI (by assumption) (by assumption)) ?_
    · intro y a1 a2 a3 a4 h3
      simp only [kstB, a1, a2, a3, a4, h3, if_false, Bool.false_eq_true]
    · have := in_of (by assumption : codeAt ks q = _)
      dsimp only
      omega
  · rename News h₀ L _ _ => NE
    exact hret.1 _ (q + 1) (yes_wit hI (by assumption) (by assumption) (by assumption)) _ _ _ _ 0 _ _ _ (by assumption) (cb_drop NE keep5) hI.txts
  · rename News h₀ L _ _ => NE
    exact hret.2 q (no_wit hI (by assumption) (by assumption) (by assumption)) _ 0 _ _ _ (by assumption) (cb_drop NE keep4)
end
end Mine
-- LW1
theorem Mine.words11 : True := by
  k_with "call ref" => (k_here; (with_reducible show wpAny _ _ (call (Value.ref 189) _) _ _ _); k_dflt (refine' Mine.draw_ok ?zhi ?zl0 ?zl1 ?za0 ?za1 ?zm ?zt ?zc ?zc' ?zU ?zB ?zF ?zX ?zN ?zT ?zk ?zdp ?zun ?_; (case zB => k_asm); (case zF => k_asm); (case zX => k_asm); (case zN => k_asm); (case zT => k_asm); (case zt => k_mem); (case zc => k_mem); (case zU => intro _ _; k_upd); (case zc' => intro _; k_mem); (case zhi => first | assumption | exact .cons _ _ .nil); (case zl0 => first | assumption | decide); (case zl1 => first | decide | omega); (case za0 => omega); (case za1 => omega); (case zm => omega); (case zk => first | exact rfl | assumption); (case zdp => ktr_room); (case zun => ktr_units); intro k9 t9 u9 h9 tk9 k9u F9 N9; (try dsimp only); (try k_fold)))
  trivial
-- LW2
namespace Mine
def good (z : Int) : Prop := 0 ≤ z ∧ z < 256 ∧ z ≠ 34
abbrev tapeO (cl : Addr) (a : Int) (t : Tok) (n0 : Nat) : Obj := W.listOf #[.ref cl, .int a t] n0
def SgnEl (tp cl : Addr) (n0 : Nat) (rest : List (Addr × Obj)) (a : Int) (y : Value) (news' : List (Addr × Obj)) : Prop :=
  (∃ t', news' = (tp, tapeO cl a t' n0) :: rest) ∧ ∃ z u, y = .int z u ∧ good z
section
variable {prog : Program} {w : World} {A : Around} {h₀ : Heap} {L : Addr} {m : Str → Option Value} {env : Env} {elt : Expr} {x : Str} {scope : Scope} {cc : List (Str × Addr)} {s : Shared} {S : List (Addr × Obj) → Prop} {P : Nat → Value → Prop} {Fin : List Value → List (Addr × Obj) → Prop}
theorem signs_comp {n : Nat} {tp cl : Addr} {n0 : Nat} {rest : List (Addr × Obj)} {a0 : Int} {t0 : Tok}
    (turn : ∀ (i : Nat) (t : Tok) (I : Addr) (oI : Obj) (C : Addr) (oC : Obj) (D : Addr) (m₂ : Str → Option Value) (ys : List Value) (h : Heap) (tk : Nat) (E' : Value → Shared → Prop), i < n → LCg.NsObj oC m₂ → Fr h₀ L h m → News h₀ L h ((I, oI) :: (C, oC) :: (D, LCg.lst ys) :: (tp, tapeO cl (a0 + (i : Int)) t n0) :: rest) → LCg.Off3 I C D ((tp, tapeO cl (a0 + (i : Int)) t n0) :: rest) → ((@Ne Nat I C) ∧ (@Ne Nat I D) ∧ (@Ne Nat C D)) →
      wpAny (model prog w) A (eval elt (compEnvC scope cc C env)) (LCg.CompEnd h₀ L m { s with heap := h, toks := tk } I oI C oC D (LCg.lst ys) S (SgnEl tp cl n0 rest (a0 + (i : Int) + 1))) E' { s with heap := h, toks := tk })
    (fin : ∀ (ys : List Value) (zs : List Int) (t : Tok), IntsAre ys zs → zs.length = n → (∀ z ∈ zs, good z) → Fin ys ((tp, tapeO cl (a0 + (n : Int)) t n0) :: rest)) :
    LCg.CompRest prog w A h₀ L m env elt x scope cc s S P Fin n 0 [] ((tp, tapeO cl a0 t0 n0) :: rest) := by
  have key : ∀ (j i : Nat) (ys : List Value) (zs : List Int) (t : Tok), i + j = n → IntsAre ys zs → zs.length = i → (∀ z ∈ zs, good z) → LCg.CompRest prog w A h₀ L m env elt x scope cc s S P Fin j i ys ((tp, tapeO cl (a0 + (i : Int)) t n0) :: rest) := by
    intro j
    induction j with
    | zero =>
      intro i ys zs t hi hy hl hg
      have e : i = n := by omega
      subst e
      exact LCg.CompRest.zero (fin ys zs t hy hl hg)
    | succ j ih =>
      intro i ys zs t hi hy hl hg
      refine LCg.CompRest.succ ?_
      intro v I oI C oC D m₂ h tk E' hv hC hx F N off ne
      refine wpAny_mono (turn i t I oI C oC D m₂ ys h tk E' (by omega) hC F N off ne) (fun y s₂ hq => ?_) fun _ _ e => e
      obtain ⟨h', tk', nw, e, F', N', off', hS, ⟨t', hn⟩, z, u, hy', hz⟩ := hq
      subst hn
      refine ⟨h', tk', _, e, F', N', off', hS, ?_⟩
      rw [hy']
      have e2 : a0 + (i : Int) + 1 = a0 + ((i + 1 : Nat) : Int) := by omega
      rw [e2]
      refine ih (i + 1) _ (zs ++ [z]) t' (by omega) (IntsAre.append hy (.cons z u .nil)) (by rw [List.length_append, hl]; rfl) fun q hq => ?_
      rcases List.mem_append.mp hq with hq | hq
      · exact hg q hq
      · rw [List.mem_singleton.mp hq]; exact hz
  have k0 := key n 0 [] [] t0 (by omega) .nil rfl (fun _ q => nomatch q)
  rwa [show a0 + ((0 : Nat) : Int) = a0 from by omega] at k0
end
def signsB : List UInt8 := [32, 40, 41, 97, 90, 55, 46, 45, 126, 123, 37, 42, 92, 93, 31, 127]
theorem good_sign (n : Nat) : good (((signsB.getD n 0).toNat : Nat) : Int) := by
  have key : ∀ n : Fin 16, good (((signsB.getD n.val 0).toNat : Nat) : Int) := by unfold good; decide +kernel
  by_cases h : n < 16
  · exact key ⟨n, h⟩
  · have e : signsB.getD n 0 = 0 := by
      rw [List.getD_eq_getElem?_getD, List.getElem?_eq_none (by show 16 ≤ n; omega)]; rfl
    rw [e]; unfold good; decide
section
variable {prog : Program} {w : World} {A : Around} {E : Value → Shared → Prop} {s : Shared} {value slice : PySem.Expr} {ta tb : Tok} {Q : Value → Shared → Prop}
theorem item_signs {k : Nat} (hk : k < 16) (h : ∀ z t' tk, good z → Q (.int z t') { s with toks := tk })
    (hs : subscripted slice false (.bytes signsB.toArray ta) (.int (k : Int) tb) = operate [.bytes signsB.toArray ta, .int (k : Int) tb] (getItem (.bytes signsB.toArray ta) (.int (k : Int) tb)) := by with_unfolding_all rfl)
    (ht : ∀ r, letTemporaryGo value (.bytes signsB.toArray ta) r = pure () := by intro _; with_unfolding_all rfl) :
    wpAny (model prog w) A (subscriptTail value slice (.bytes signsB.toArray ta) (.int (k : Int) tb)) Q E s :=
  tail_of_ItemOn ⟨"bytes", _, FB.slot_bytes_getitem.lookup, typeIs_bytes _ _ _, getItem_bytes (l := signsB) (by decide) (by omega) (by show (k : Int) < 16; omega) (h _ _ _ (good_sign _))⟩ hs ht
end
end Mine
theorem Mine.words12 : True := by
  k_with "subscriptTail" => (k_here; (with_reducible show wpAny _ _ (subscriptTail _ _ (Value.bytes _ _) (Value.int _ _)) _ _ _); k_dflt (refine' Mine.item_signs ?k1 ?_ ?k2 ?k3; (case k1 => omega); (case k2 => with_unfolding_all rfl); (case k3 => (intro _; with_unfolding_all rfl)); intro z9 t9 k9 g9))
  k_with "SgnEl" => exact ⟨⟨_, rfl⟩, _, _, rfl, by assumption⟩
  k_with "CompSrc" => (k_here; k_dflt (refine LCg.CompSrc.range (by rfl) (by k_asm) (by k_asm) (by assumption) (small_one (by omega) (by omega) (by omega) (by omega)) (rangeSize_nat _ _) (by rw [PySem.sizeLine_eq]; omega) ?_; intro g9; refine' Mine.signs_comp (fun i9 t9 I' oI' C' oC' D' m' ys' h' tk' E' hi' hC' F' N' off' ne' => ?_) (fun ys9 zs9 t9 hy9 hl9 hg9 => ?_); (all_goals (try (simp only [LCg.Off3, and_true] at off'))); kcf_last))
  trivial
-- LW3
namespace Mine
def Okb (B : Array UInt8) (lo n : Nat) : Prop := lo ≤ B.size ∧ B.size ≤ n ∧ ∀ z ∈ KBw.bInts B, z ≠ 34
theorem Okb.add {a b : Array UInt8} {lo lo' n n' : Nat} (ha : Okb a lo n) (hb : Okb b lo' n') : Okb (a ++ b) lo (n + n') := by
  obtain ⟨a1, a2, a3⟩ := ha
  obtain ⟨b1, b2, b3⟩ := hb
  refine ⟨?_, ?_, fun z hz => ?_⟩
  · rw [Array.size_append]; omega
  · rw [Array.size_append]; omega
  · rw [KBw.ints_app rfl rfl] at hz
    rcases List.mem_append.mp hz with hz | hz
    · exact a3 z hz
    · exact b3 z hz
theorem okb_pre : Okb #[32, 40, 97] 0 3 := ⟨by decide, by decide, by decide⟩
theorem okb_nil : Okb #[] 0 0 := ⟨by decide, by decide, by decide⟩
theorem okb_end : Okb #[41] 0 1 := ⟨by decide, by decide, by decide⟩
section
variable {prog : Program} {w : World} {A : Around} {E : Value → Shared → Prop} {s : Shared} {value slice : PySem.Expr} {t u : Tok} {h₀ : Heap} {L : Addr} {m : PySem.Str → Option Value} {news : List (Addr × Obj)} {Q : Value → Shared → Prop} {a b : Array UInt8} {lo lo' n n' k : Nat}
theorem add_ok (ha : Okb a lo n) (hb : Okb b lo' n') (hz : n + n' ≤ 64) (h : ∀ B t' k, Okb B lo (n + n') → Q (.bytes B t') { s with toks := k }) : wpAny (model prog w) A (binaryOp .Add (.bytes a t) (.bytes b u)) Q E s :=
  KBy.add_bytes (by have := ha.2.1; have := hb.2.1; omega) fun t' k => h _ t' k (ha.add hb)
theorem slice_pre {tk : Tok} (hF : Fr h₀ L s.heap m) (hN : News h₀ L s.heap news) (hk : k < 3)
    (h : ∀ B h' t' k', Okb B k 2 → Fr h₀ L h' m → News h₀ L h' news → Q (.bytes B t') { s with heap := h', toks := k' })
    (hs : subscripted slice false (.bytes #[120, 121, 122] t) (.ref s.heap.objs.size) = operate [.ref s.heap.objs.size, .bytes #[120, 121, 122] t] (getItem (.bytes #[120, 121, 122] t) (.ref s.heap.objs.size)) := by with_unfolding_all rfl)
    (ht : ∀ r, letTemporaryGo value (.bytes #[120, 121, 122] t) r = pure () := by intro _; with_unfolding_all rfl) :
    wpAny (model prog w) A (subscriptTail value slice (.bytes #[120, 121, 122] t) (.ref s.heap.objs.size)) Q E { s with heap := s.heap.push { cls := .type "slice", data := .fields #[.none, .int (k : Int) tk, .none] } } := by
  refine KBc.slice_K (ks := [120, 121, 122]) hF hN (by decide) (by constructor) (by constructor) (by decide) (fun h' t' k' F N e => h _ h' t' k' ?_ F N) hs ht
  simp only [Option.elim, clipAt_nat, List.drop_zero, Nat.sub_zero] at e
  have hk3 : min k ([120, 121, 122] : List Int).length = k := by
    show min k 3 = k
    omega
  rw [hk3] at e
  have hsz : (KBy.picked #[120, 121, 122] none (some (k : Int))).size = k := by
    rw [← KBw.ints_length, e, List.length_take]
    exact hk3
  refine ⟨by omega, by omega, fun z hz => ?_⟩
  rw [e] at hz
  have := List.mem_of_mem_take hz
  simp only [List.mem_cons, List.not_mem_nil, or_false] at this
  omega
theorem make_ok {l : Addr} {vs : List Value} {zs : List Int} {c : Nat} (hF : Fr h₀ L s.heap m) (hN : News h₀ L s.heap news) (hh : A.handled = none) (hm : (l, ({ cls := .type "list", data := .seq vs.toArray c } : Obj)) ∈ news) (hi : IntsAre vs zs) (hg : ∀ z ∈ zs, good z) (hz : zs.length ≤ 14)
    (h : ∀ B h' t' k', Okb B 0 14 → Fr h₀ L h' m → News h₀ L h' news → Q (.bytes B t') { s with heap := h', toks := k' }) : wpAny (model prog w) A (call (.type "bytes") [.ref l]) Q E s := by
  have hr : KBa.In zs := fun z hz => ⟨(hg z hz).1, (hg z hz).2.1⟩
  refine KBa.make_K hF hN hh ⟨_, (hN _ hm).1, rfl, c, rfl⟩ hi hr (by omega) fun h' t' k' F N e => h _ h' t' k' ?_ F N
  have e2 := KBa.ints_make hr
  refine ⟨Nat.zero_le _, ?_, fun z hz => ?_⟩
  · rw [← KBw.ints_length, e2]; exact hz
  · rw [e2] at hz; exact (hg z hz).2.2
/-- the octets' statement, without its way -/
def OctEnd (h₀ : Heap) (L : Addr) (m : Str → Option Value) (s : Shared) (off : Nat) (f : Flow) (s₂ : Shared) : Prop :=
  f = .next ∧ ∃ B t h tk, s₂ = { s with heap := h, toks := tk } ∧ Okb B off 20 ∧ Fr h₀ L h (fun y => if y = Str.ofString "octets" then some (.bytes B t) else m y)
theorem oct_end {off : Nat} {B : Array UInt8} {t : Tok} {h : Heap} {tk : Nat} {n : Nat} (hB : Okb B off n) (hn : n ≤ 20) (F : Fr h₀ L h (fun y => if y = Str.ofString "octets" then some (.bytes B t) else m y)) : OctEnd h₀ L m s off .next { s with heap := h, toks := tk } :=
  ⟨rfl, B, t, h, tk, rfl, ⟨hB.1, Nat.le_trans hB.2.1 hn, hB.2.2⟩, F⟩
theorem exec_oct {M : Model} {st : Stmt} {env : Env} {off : Nat} {to : Tok} {Q : Flow → Shared → Prop} (F : Fr h₀ L s.heap m) (ho : m (Str.ofString "offset") = some (.int (off : Int) to)) (h : wpAny M A (exec st env) (OctEnd h₀ L m s off) E s)
    (k1 : ∀ B ks t h tk ns q, KBw.bInts B = ks → ks.length ≤ 64 → (∀ k ∈ ks, k ≠ 34) → off ≤ ks.length → readL .blank [] (ks.drop off) off = (some ns, q) → Fr h₀ L h (fun y => if y = Str.ofString "octets" then some (.bytes B t) else m y) → News h₀ L h [] → Q .next { s with heap := h, toks := tk })
    (k2 : ∀ B ks t h tk q, KBw.bInts B = ks → ks.length ≤ 64 → (∀ k ∈ ks, k ≠ 34) → off ≤ ks.length → readL .blank [] (ks.drop off) off = (none, q) → Fr h₀ L h (fun y => if y = Str.ofString "octets" then some (.bytes B t) else m y) → News h₀ L h [] → Q .next { s with heap := h, toks := tk }) : wpAny M A (exec st env) Q E s :=
  wpAny_mono h (fun f s₂ c => by
    obtain ⟨rfl, B, t, h, tk, rfl, hB, F'⟩ := c
    have l1 : (KBw.bInts B).length ≤ 64 := by rw [KBw.ints_length]; have := hB.2.1; omega
    have l2 : off ≤ (KBw.bInts B).length := by rw [KBw.ints_length]; exact hB.1
    rcases hR : readL .blank [] ((KBw.bInts B).drop off) off with ⟨r, q⟩
    cases r with
    | none => exact k2 B _ t h tk q rfl l1 hB.2.2 l2 hR F' fun _ q => nomatch q
    | some ns => exact k1 B _ t h tk ns q rfl l1 hB.2.2 l2 hR F' fun _ q => nomatch q) fun _ _ e => e
end
end Mine
theorem Mine.words13 : True := by
  k_with "subscriptTail" => (k_here; (with_reducible show wpAny _ _ (subscriptTail _ (PySem.Expr.Slice none _ none _) (Value.bytes _ _) (Value.ref _)) _ _ _); (with_reducible rename Fr _ _ _ _ => F'); (with_reducible rename News _ _ _ _ => N'); k_dflt (refine Mine.slice_pre (s := ⟨_, _, _, _, _⟩) F' N' (by omega) ?_); clear F' N'; intro B9 h9 t9 k9 o9 F9 N9)
  k_with "binaryOp Add bytes bytes" => (k_here; (with_reducible show wpAny _ _ (binaryOp Operator.Add (Value.bytes _ _) (Value.bytes _ _)) _ _ _); k_dflt (refine' Mine.add_ok ?k1 ?k2 ?k3 ?_; (case k1 => assumption); (case k2 => first | assumption | exact Mine.okb_pre | exact Mine.okb_nil | exact Mine.okb_end); (case k3 => decide); intro B9 t9 k9 o9))
  k_with "call type:bytes" => (k_here; (with_reducible show wpAny _ _ (call (Value.type "bytes") [Value.ref _]) _ _ _); k_dflt (refine' Mine.make_ok ?k1 ?k2 ?k3 ?k4 ?k5 ?k6 ?k7 ?_; (case k1 => k_asm); (case k2 => k_asm); (case k3 => rfl); (case k4 => k_mem); (case k5 => assumption); (case k6 => assumption); (case k7 => omega); intro B9 h9 t9 k9 o9 F9 N9))
  k_with "OctEnd" => k_dflt (refine' Mine.oct_end ?k1 ?k2 ?k3; (case k1 => assumption); (case k2 => decide); (case k3 => k_asm))
  k_with "exec Assign" => (k_here; (with_reducible show wpAny _ _ (exec (PySem.Stmt.Assign [PySem.Expr.Name (Str.ofString "octets") _] _ _) _) _ _ _); (fail_if_success (with_reducible show wpAny _ _ _ (Mine.OctEnd _ _ _ _ _) _ _)); k_dflt (refine' Mine.exec_oct ?k1 ?ko ?_ ?_ ?_; (case k1 => k_asm); (case ko => with_unfolding_all rfl); rotate_left; (intro B9 ks9 t9 h9 tk9 ns9 q9 e9 l9 n9 o9 r9 F9 N9); (try dsimp only); (try k_fold); rotate_left; (intro B9 ks9 t9 h9 tk9 q9 e9 l9 n9 o9 r9 F9 N9); (try dsimp only); (try k_fold); rotate_left))
  trivial
-- LW4
namespace Mine
section
variable {w : World} {mean : ExcName → Option Value} {mg mb : Str → Option Value}
variable {b : Array UInt8} {ks : List Int} (hks : KBw.bInts b = ks) {p : Nat} {news : List (Addr × Obj)} (hb : ks.length ≤ 64)
include hks hb
theorem read_some {t1 t2 : Tok} {ns : List (List Int)} {q : Nat} (hp : p ≤ ks.length) (hR : readL .blank [] (ks.drop p) p = (some ns, q)) :
    Asks 2 w mean mg mb 196 [.bytes b t1, .int (p : Int) t2] news (fun h₀ L m s Q E =>
      ∀ (R T : Addr) (l : List (Str × Tok)) (n n' : Nat) (t : Tok) (h' : Heap) (tk' : Nat), Fr h₀ L h' m → News h₀ L h' ((R, tupOf [.ref T, .int (q : Int) t] n') :: (T, tupOf (strValues l) n) :: news) → l.map (·.1) = ns.map txt → Q (.ref R) { s with heap := h', toks := tk' }) := by
  intro dp un gd cn cs a ccd cl outer A₀ base h₀ L m s Q E B F X N T hk hdp hun hret
  exact read_ok hks hb hp B F X N T hk hdp hun ⟨fun ns' q' hr => by rw [hR] at hr; cases hr; exact hret, fun q' hr => by rw [hR] at hr; cases hr⟩
theorem read_none {t1 t2 : Tok} {q : Nat} (hp : p ≤ ks.length) (hR : readL .blank [] (ks.drop p) p = (none, q)) :
    Asks 2 w mean mg mb 196 [.bytes b t1, .int (p : Int) t2] news (fun h₀ L m s Q E =>
      ∀ (R : Addr) (n' : Nat) (t : Tok) (h' : Heap) (tk' : Nat), Fr h₀ L h' m → News h₀ L h' ((R, tupOf [.none, .int (q : Int) t] n') :: news) → Q (.ref R) { s with heap := h', toks := tk' }) := by
  intro dp un gd cn cs a ccd cl outer A₀ base h₀ L m s Q E B F X N T hk hdp hun hret
  exact read_ok hks hb hp B F X N T hk hdp hun ⟨fun ns' q' hr => (by rw [hR] at hr; cases hr), fun q' hr => by rw [hR] at hr; cases hr; exact hret⟩
end
section
variable {w : World} {mean : ExcName → Option Value} {mg mb : Str → Option Value}
variable {c d : Addr} {b : Array UInt8} {ks : List Int} (hks : KBw.bInts b = ks) {p : Nat} {e : Int} {t1 t2 t3 u1 u2 u3 : Tok} {news : List (Addr × Obj)} (hb : ks.length ≤ 64) (he : e = ks.length)
include hks hb he
theorem names_some {ns : List (List Int)} {q : Nat} (hR : readL .blank [] (ks.drop p) p = (some ns, q)) (hq : ∀ k ∈ ks, k ≠ 34) (hcd : @Ne Nat c d) (hr : ∀ q ∈ news, q.1 ≠ d) :
    AsksE 10 w mean mg mb 96 [.ref c] ((c, instObj 178 d) :: (d, curD w b p e t1 t2 t3 u1 u2 u3) :: news) (fun h₀ L m s Q E base l =>
      ∀ (T : Addr) (l : List (Str × Tok)) (n : Nat) (t : Tok) (h' : Heap) (tk' : Nat), Fr h₀ L h' m → News h₀ L h' ((T, tupOf (strValues l) n) :: (c, instObj 178 d) :: (d, curD w b (q : Nat) e t1 t t3 u1 u2 u3) :: news) → l.map (·.1) = ns.map txt → Q (.ref T) { s with heap := h', toks := tk' }) := by
  intro dp un gd cn cs a ccd cl outer A₀ base h₀ L m s Q E B F X N T hk hdp hun hret
  exact names_ok hks hb he hq hcd hr B F X N T hk hdp hun ⟨fun ns' q' hr => by rw [hR] at hr; cases hr; exact hret, fun q' hr => by rw [hR] at hr; cases hr⟩
theorem names_none {q : Nat} (hR : readL .blank [] (ks.drop p) p = (none, q)) (hq : ∀ k ∈ ks, k ≠ 34) (hcd : @Ne Nat c d) (hr : ∀ q ∈ news, q.1 ≠ d) :
    AsksE 10 w mean mg mb 96 [.ref c] ((c, instObj 178 d) :: (d, curD w b p e t1 t2 t3 u1 u2 u3) :: news) (fun h₀ L m s Q E base l => FliesOut w q h₀ L m s E base l) := by
  intro dp un gd cn cs a ccd cl outer A₀ base h₀ L m s Q E B F X N T hk hdp hun hret
  exact names_ok hks hb he hq hcd hr B F X N T hk hdp hun ⟨fun ns' q' hr => (by rw [hR] at hr; cases hr), fun q' hr => by rw [hR] at hr; cases hr; exact hret⟩
end
end Mine
theorem Mine.words14 : True := by
  k_with "call ref" => (k_here; (with_reducible show wpAny _ _ (call (Value.ref 196) _) _ _ _); k_dflt (first
      | (refine' Mine.read_some ?zhks ?zhb ?zhp ?zR ?zB ?zF ?zX ?zN ?zT ?zk ?zdp ?zun ?_; (case zR => assumption); (case zB => k_asm); (case zF => k_asm); (case zX => k_asm); (case zN => k_asm); (case zT => k_asm); (case zhks => assumption); (case zhb => assumption); (case zhp => assumption); (case zk => first | exact rfl | assumption); (case zdp => ktr_room); (case zun => ktr_units); intro R9 T9 l9 n9 m9 t9 h9 tk9 F9 N9 x9; (try dsimp only); (try k_fold))
      | (refine' Mine.read_none ?zhks ?zhb ?zhp ?zR ?zB ?zF ?zX ?zN ?zT ?zk ?zdp ?zun ?_; (case zR => assumption); (case zB => k_asm); (case zF => k_asm); (case zX => k_asm); (case zN => k_asm); (case zT => k_asm); (case zhks => assumption); (case zhb => assumption); (case zhp => assumption); (case zk => first | exact rfl | assumption); (case zdp => ktr_room); (case zun => ktr_units); intro R9 m9 t9 h9 tk9 F9 N9; (try dsimp only); (try k_fold))))
  trivial
-- LW5
theorem Mine.all_ne_nil {d : Addr} : ∀ q ∈ ([] : List (Addr × Obj)), q.1 ≠ d := fun _ q => nomatch q
theorem Mine.words15 : True := by
  k_with "call ref" => (k_here; (with_reducible show wpAny _ _ (call (Value.ref 96) _) _ _ _); k_dflt (first
      | (refine' Mine.names_some ?zhks ?zhb ?zhe ?zR ?zhq ?zcd ?zr ?zB ?zF ?zX ?zN ?zT ?zk ?zdp ?zun ?_; (case zR => assumption); (case zB => k_asm); (case zF => k_asm); (case zX => k_asm); (case zN => k_asm); (case zT => k_asm); (case zhks => assumption); (case zhb => assumption); (case zhe => first | assumption | omega); (case zhq => assumption); (case zcd => k_ne); (case zr => repeat' (first | exact Mine.all_ne_nil | refine Mine.all_ne_cons (by k_ne) ?_)); (case zk => first | exact rfl | assumption); (case zdp => ktr_room); (case zun => ktr_units); intro T9 l9 n9 t9 h9 tk9 F9 N9 x9; (try dsimp only); (try k_fold))
      | (refine' Mine.names_none ?zhks ?zhb ?zhe ?zR ?zhq ?zcd ?zr ?zB ?zF ?zX ?zN ?zT ?zk ?zdp ?zun ?_; (case zR => assumption); (case zB => k_asm); (case zF => k_asm); (case zX => k_asm); (case zN => k_asm); (case zT => k_asm); (case zhks => assumption); (case zhb => assumption); (case zhe => first | assumption | omega); (case zhq => assumption); (case zcd => k_ne); (case zr => repeat' (first | exact Mine.all_ne_nil | refine Mine.all_ne_cons (by k_ne) ?_)); (case zk => first | exact rfl | assumption); (case zdp => ktr_room); (case zun => ktr_units); intro e9 g9 h9 tk9 F9 v9 x9; (try dsimp only); (try k_fold))))
  trivial
-- CA
namespace Mine
section
variable {w : World} {A : Around} {s : Shared} {E : Value → Shared → Prop} {e : Addr} {oe od : Obj} {name : Str} {v : Value}
/-- an attribute of a WireFault's own dict is read -/
theorem exc_get {expr : Bool} {Q : Value → Shared → Prop} (X : (hd.heap_39 w.params).In s.heap) (I : InstAt s.heap e oe 59 (some od)) (hf : findObj (hd.heap_39 w.params) 59 (some od) name = some (.value v)) (hh : handedIn v = true)
    (h : Q v { s with toks := s.toks + 1 }) : wpAny (model PySem.Challenge.rw_pq0965_01.row.prog w) A (getAttr (.ref e) name expr) Q E s := by
  obtain ⟨hp, g, d, t, os⟩ := s
  have L0 := I.type (M := model PySem.Challenge.rw_pq0965_01.row.prog w)
  have L1 := looks_findIn (M := model PySem.Challenge.rw_pq0965_01.row.prog w) X (by k_is : findIn (hd.heap_39 w.params) (.ref 59) "__getattribute__" = some (some (.builtin "BaseException.__getattribute__")))
  have L2 := looks_findIn (M := model PySem.Challenge.rw_pq0965_01.row.prog w) X (by k_is : findIn (hd.heap_39 w.params) (.ref 59) "__getattr__" = some none)
  have L3 := looks_find (M := model PySem.Challenge.rw_pq0965_01.row.prog w) X I hf
  have f3 := PySem.F.attr_Exception.ga.bind (.ref e)
  have hx2 : (Value.builtin "BaseException.__getattribute__" == Value.builtin "object.__getattribute__") = false := by decide +kernel
  have hx1 : (onTheHeap (Value.ref 59) && Value.builtin "BaseException.__getattribute__" == Value.builtin "object.__getattribute__") = false := by rw [hx2]; rfl
  have hx0 : (expr && onTheHeap (Value.builtin "BaseException.__getattribute__")) = false := by cases expr <;> rfl
  have sub : Looks (model PySem.Challenge.rw_pq0965_01.row.prog w) hp (isInstance (.ref e) (.type "BaseException")) true := L0.andThen (looks_mroIn X (by k_is))
  unfold getAttr getAttrBy
  refine wpAny_bind (wpAny_mkText (wpAny_holding (wpAny_bind (L0.at (wpAny_bind (L1.at ?_))))))
  dsimp only
  rw [hx1, if_neg (by decide)]
  unfold getAttrByItsOwn
  refine wpAny_bind (L2.at ?_)
  unfold callGetattribute
  rw [hx0, if_neg (by decide)]
  unfold boundAndCalled
  rw [f3]
  refine wpAny_bind (wpAny_attempt (wpAny_holding (wpAny_bind (wpAny_pure (wpAny_call ?_)))))
  refine codeAny_call_builtin PySem.F.attr_Exception.ga.plain F.entry_bexc_ga ?_
  have hk : builtinKind "BaseException.__getattribute__" = some .slot := by decide +kernel
  have hsplit : splitId "BaseException.__getattribute__" = some ("BaseException", "__getattribute__") := by decide +kernel
  have ha := F.args_bexc_ga (.ref e) (.str name t)
  refine @check_slot (model PySem.Challenge.rw_pq0965_01.row.prog w) _ _ ⟨hp, g, d, t + 1, os⟩ "BaseException.__getattribute__" "BaseException" "__getattribute__" (.ref e) [.str name t] [] _ hk hsplit sub ha ?_
  show wpAny _ _ (Builtin.«object.__getattribute__» ⟨[.ref e, .str name t], []⟩) _ _ _
  unfold Builtin.«object.__getattribute__»
  refine wpAny_bind (wpAny_pure ?_)
  refine wpAny_bind (wpAny_pure (wpAny_bind (L0.at (wpAny_bind (L3.at ?_)))))
  refine wpAny_pure ?_
  show wpAny _ _ (handedOut v) _ _ _
  rw [handedOut_of hh]
  exact wpAny_pure h
end
theorem stays_trans {a b c : Heap} (x : a.StaysIn b) (y : b.StaysIn c) : a.StaysIn c := fun q o e => y q o (x q o e)
/-- what a caught WireFault is -/
def Held (w : World) (h₀ h : Heap) (e : Addr) (k : Int) : Prop := ∃ oe x t1 t2 u1 u2, InstAt h e oe 59 (some (excD w x k t1 t2 u1 u2))
section
variable {w : World} {A : Around} {E : Value → Shared → Prop} {s' : Shared} {h₀ g : Heap} {outer : List Env} {L a e : Addr} {m : Str → Option Value} {name : Str} {scope : Scope} {cd : Value} {cl : List (Str × Addr)}
  {n x : Str} {b₀ : Stmt} {suite : List Stmt} {pos np : Pos} {rest : List ExceptHandler} {Q : Flow → Shared → Prop} {k : Int} {mean : ExcName → Option Value} {mg mb : Str → Option Value}
theorem caught_wire (hfr : A.frames = some (envX name scope L a cd cl :: outer)) (F : Fr h₀ L g m) (hsm : g.UpToSlots s'.heap) (R : WireFly w h₀ (envX name scope L a cd cl :: outer) e k s'.heap)
    (X : (hd.heap_39 w.params).In h₀) (T : Top hd.view_39 (looseW hd.view_39 [Str.ofString "PostError"]) mean mg mb h₀) (ex : nsIn (hd.heap_39 w.params) mainGlobals x = some (some (.ref 59)))
    (k : ∀ h' tk, Fr h₀ L h' (fun y => if y = n then some (.ref e) else m y) → Held w h₀ h' e k → News h₀ L h' [] →
      wpAny (model PySem.Challenge.rw_pq0965_01.row.prog w) (A.mark (some (.ref e))) (execs (b₀ :: suite) (envX name scope L a cd cl))
        (fun f s₄ => wpAny (model PySem.Challenge.rw_pq0965_01.row.prog w) A (do bindName (envX name scope L a cd cl) n .none; unbindBehindTheSuite (envX name scope L a cd cl) n pos) (fun _ s₅ => Q f s₅) E s₄)
        (AsSuiteRaised (model PySem.Challenge.rw_pq0965_01.row.prog w) (A.mark (some (.ref e))) (envX name scope L a cd cl) n pos (notedBy (model PySem.Challenge.rw_pq0965_01.row.prog w) (A.mark (some (.ref e))) (envX name scope L a cd cl) (cameBackBy (model PySem.Challenge.rw_pq0965_01.row.prog w) A (envX name scope L a cd cl) E)))
        { s' with heap := h', toks := tk })
    (hk : scope.kind = .function := by rfl) (hlo : (envX name scope L a cd cl).kindOf n = some .local := by rfl) (hx : (envX name scope L a cd cl).kindOf x = some .globalImplicit := by rfl) (hd' : (x == ("__debug__" : Str)) = false := by decide) :
    wpAny (model PySem.Challenge.rw_pq0965_01.row.prog w) A (noteFrame (.ref e) (envX name scope L a cd cl))
      (fun _ s₂ => wpAny (model PySem.Challenge.rw_pq0965_01.row.prog w) A (setFlight (.ref e) none) (fun _ s₃ =>
        wpAny (model PySem.Challenge.rw_pq0965_01.row.prog w) A (handleBy (.ref e) (envX name scope L a cd cl) (.ExceptHandler (some (.Name x np)) (some n) (b₀ :: suite) pos :: rest)) Q E s₃) E s₂) E s' := by
  obtain ⟨B, dx, xx, t1, t2, u1, u2, hB, hdx, hfl⟩ := R
  refine noted hfr rfl hfl fun h₄ x₄ u₄ => flight x₄ fun h₅ x₅ u₅ => ?_
  have hsm₅ := hsm.trans (u₄.trans u₅)
  have F₅ := F.of_stays (stays_trans hB x₅.1) hsm₅
  refine wpAny_handleBy_cons (codeAny_handlers_test (nameX_K F₅ X (topRead_of T) ex ?_ hk hx hd')) (by intro q; cases q)
  obtain ⟨k0, k1, k2, k3, k5, hC⟩ := wire_obj (X.keeps F₅.keep)
  obtain ⟨f1, f2, f3, oe, vs, T', oT, ts, he, hc, hdt, h1, hnT, hTe, hT, hdT, h3⟩ := id x₅
  refine wpAny_excMatches_sub_self hC he hc.1 (by decide +kernel) (codeAny_handlers_suite_as ?_)
  refine flight x₅ fun h₆ x₆ u₆ => ?_
  have F₆ := F₅.of_stays (stays_trans hB x₆.1) u₆
  obtain ⟨f1', f2', f3', oe', vs', T'', oT', ts', he', hc', hdt', h1', hnT', hTe', hT', hdT', h3'⟩ := x₆
  obtain ⟨_, ⟨L', oL, hf, hnL, hoL, hdL⟩, _⟩ := f3'
  obtain rfl : L = L' := Option.some.inj hf
  refine wpAny_storeName_local hlo F₆.ns (fun h₇ hn hs => k h₇ _ (F₆.set hn hs) ⟨oe', xx, t1, t2, u1, u2, ?_⟩ fun _ q => nomatch q) (by show (scope.kind == .class || (scope.kind == .module && L != mainGlobals)) = false; rw [hk]; rfl)
  have neL : e ≠ L := fun q => by
    rw [q, hoL] at he'
    cases he'
    exact hdL _ hdt'
  have ndL : dx ≠ L := fun q => by
    rw [q, hnL] at hdx
    cases hdx
  refine ⟨(hs.2 e neL).trans he', hc'.1, ?_, ?_⟩
  · unfold notCls
    rw [hdt']
  · rw [hc'.2]
    exact (hs.2 dx ndL).trans (f1' _ _ hdx)
theorem name_goesX {M : Model} {A : Around} {s : Shared} {E : Value → Shared → Prop} {Q : Unit → Shared → Prop} (F : Fr h₀ L s.heap m)
    (h : ∀ h' m' tk, Fr h₀ L h' m' → News h₀ L h' [] → Q () { s with heap := h', toks := tk })
    (hk : scope.kind = .function := by rfl) (hl : (envX name scope L a cd cl).kindOf n = some .local := by rfl) :
    wpAny M A (do bindName (envX name scope L a cd cl) n .none; unbindBehindTheSuite (envX name scope L a cd cl) n pos) Q E s :=
  wpAny_nameGoes hl F.ns (by show (scope.kind == .class || (scope.kind == .module && L != mainGlobals)) = false; rw [hk]; rfl) fun h' m' hn hs => h h' m' _ (F.set hn hs) fun _ q => nomatch q
theorem wire_at {A : Around} {s : Shared} {E : Value → Shared → Prop} {expr : Bool} {Q : Value → Shared → Prop} (X : (hd.heap_39 w.params).In s.heap) (H : Held w h₀ s.heap e k) (h : ∀ t tk, Q (.int k t) { s with toks := tk }) :
    wpAny (model PySem.Challenge.rw_pq0965_01.row.prog w) A (getAttr (.ref e) (Str.ofString "at") expr) Q E s := by
  obtain ⟨oe, x, t1, t2, u1, u2, I⟩ := H
  have hl : getL (Str.ofString "at") [(⟨PyData.keyHash w.params (Str.ofString "what"), .str (Str.ofString "what") u1, .str x t1⟩ : DictEntry), ⟨PyData.keyHash w.params (Str.ofString "at"), .str (Str.ofString "at") u2, .int k t2⟩] = some (some (.int k t2)) := by k_get
  exact exc_get X I (findObj_own (attr := none) (by k_is) (by k_is) rfl hl) rfl (h _ _)
theorem eq_names {prog : Program} {A : Around} {s : Shared} {E : Value → Shared → Prop} {Q : Value → Shared → Prop} {b : Addr} {news : List (Addr × Obj)} {l l' : List (Str × Tok)} {na nb : Nat} {ns : List (List Int)} (N : News h₀ L s.heap news) (ha : (a, tupOf (strValues l) na) ∈ news) (hb : (b, tupOf (strValues l') nb) ∈ news) (hu : A.units < cLine)
    (h1 : l.map (·.1) = ns.map txt) (h2 : l'.map (·.1) = ns.map txt) (h : Q (.bool true) s) : wpAny (model prog w) A (compareOp .Eq (.ref a) (.ref b)) Q E s :=
  eq_tuples N ha hb hu (by rw [h1, h2, decide_eq_true rfl]; exact h)
end
end Mine
theorem Mine.words16 : True := by
  k_with "noteFrame ref" => (k_here; (with_reducible rename Mine.WireFly _ _ _ _ _ _ => rkX); k_dflt (refine' Mine.caught_wire ?zf ?zF ?zU rkX ?zX ?zT ?zx ?_; (case zU => assumption); (case zF => assumption); (case zf => first | exact rfl | exact Around.frames_deeper (Below.stack (by assumption))); (case zX => k_asm); (case zT => k_asm); (case zx => k_is); intro h9 tk9 F9 H9 N9; (try dsimp only); (try k_fold)))
  k_with "bind" => (k_here; k_dflt (refine' Mine.name_goesX ?zF ?_; (case zF => k_asm); intro h9 m9 tk9 F9 N9; (try dsimp only)))
  k_with "getAttr ref" => (k_here; (with_reducible show wpAny _ _ (getAttr (Value.ref _) (Str.ofString "at") _) _ _ _); (with_reducible rename Mine.Held _ _ _ _ _ => rkH); k_dflt (refine' Mine.wire_at ?zX rkH ?_; (case zX => k_in); intro t9 tk9; (try dsimp only)))
  k_with "compareOp Eq ref ref" => (k_here; (with_reducible show wpAny _ _ (compareOp CmpOp.Eq (Value.ref _) (Value.ref _)) _ _ _); k_dflt (refine' Mine.eq_names ?zN ?za ?zb ?zu ?z1 ?z2 ?_; (case zN => k_asm); (case za => k_mem); (case zb => k_mem); (case zu => first | ktr_units | k_units); (case z1 => assumption); (case z2 => assumption)))
  k_with "exec Try" => (k_here; (with_reducible show wpAny _ _ (exec (Stmt.Try _ (_ :: _) _ [] _) _) _ _ _); refine wpAny_Try_except ?_)
  trivial
-- TP
namespace Mine
/-- the tape's statement, without its way -/
def TapeEnd (h₀ : Heap) (L : Addr) (m : Str → Option Value) (s : Shared) (c1 c2 : Addr) (o2 : Obj) (f : Flow) (s₂ : Shared) : Prop :=
  f = .next ∧ ∃ (tp cl : Addr) (vs : List Value) (ns : List Int) (n nc : Nat) (ta : Tok) (o : Obj) (h : Heap) (tk : Nat), s₂ = { s with heap := h, toks := tk } ∧ (@LT.lt Nat _ cl tp ∧ @LT.lt Nat _ c2 tp ∧ @LT.lt Nat _ c1 tp) ∧ (@LT.lt Nat _ c2 cl ∧ @LT.lt Nat _ c1 cl) ∧ o.data = .cell (some (.ref tp)) ∧
    IntsAre vs ns ∧ 0 < ns.length ∧ ns.length ≤ 40 ∧ Fr h₀ L h m ∧ News h₀ L h [(tp, W.listOf #[.ref cl, .int 0 ta] n), (cl, W.listOf vs.toArray nc), (c2, o2), (c1, o)]
section
variable {h₀ : Heap} {L : Addr} {m : Str → Option Value} {s : Shared} {c1 c2 : Addr} {o1 o2 : Obj}
theorem tape_end {tp cl : Addr} {vs : List Value} {ns : List Int} {n nc : Nat} {ta : Tok} {o : Obj} {h : Heap} {tk : Nat} {news : List (Addr × Obj)} (F : Fr h₀ L h m) (N : News h₀ L h news) (hd : o.data = .cell (some (.ref tp)))
    (h4 : (c1, o) ∈ news) (h3 : (c2, o2) ∈ news) (h1 : (tp, W.listOf #[.ref cl, .int 0 ta] n) ∈ news) (h2 : (cl, W.listOf vs.toArray nc) ∈ news) (hi : IntsAre vs ns) (h0 : 0 < ns.length) (h40 : ns.length ≤ 40)
    (l1 : @LT.lt Nat _ cl tp ∧ @LT.lt Nat _ c2 tp ∧ @LT.lt Nat _ c1 tp) (l2 : @LT.lt Nat _ c2 cl ∧ @LT.lt Nat _ c1 cl) : TapeEnd h₀ L m s c1 c2 o2 .next { s with heap := h, toks := tk } :=
  ⟨rfl, tp, cl, vs, ns, n, nc, ta, o, h, tk, rfl, l1, l2, hd, hi, h0, h40, F, fun p hp => N p (by
    rcases List.mem_cons.mp hp with rfl | hp
    · exact h1
    rcases List.mem_cons.mp hp with rfl | hp
    · exact h2
    rcases List.mem_cons.mp hp with rfl | hp
    · exact h3
    · rw [List.mem_singleton.mp hp]; exact h4)⟩
theorem exec_tape {M : Model} {A : Around} {E : Value → Shared → Prop} {st : Stmt} {env : Env} {Q : Flow → Shared → Prop} (F : Fr h₀ L s.heap m) (N : News h₀ L s.heap [(c2, o2), (c1, o1)]) (h : wpAny M A (exec st env) (TapeEnd h₀ L m s c1 c2 o2) E s)
    (k : ∀ (tp cl : Addr) (vs : List Value) (ns : List Int) (n nc : Nat) (ta : Tok) (o : Obj) (h : Heap) (tk : Nat), (@LT.lt Nat _ cl tp ∧ @LT.lt Nat _ c2 tp ∧ @LT.lt Nat _ c1 tp) → (@LT.lt Nat _ c2 cl ∧ @LT.lt Nat _ c1 cl) → o.data = .cell (some (.ref tp)) → IntsAre vs ns → 0 < ns.length → ns.length ≤ 40 → Fr h₀ L h m →
      News h₀ L h [(tp, W.listOf #[.ref cl, .int 0 ta] n), (cl, W.listOf vs.toArray nc), (c2, o2), (c1, o)] → Q .next { s with heap := h, toks := tk }) : wpAny M A (exec st env) Q E s :=
  wpAny_mono h (fun f s₂ c => by
    obtain ⟨rfl, tp, cl, vs, ns, n, nc, ta, o, h, tk, rfl, l1, l2, hd, hi, h0, h40, F', N'⟩ := c
    exact k tp cl vs ns n nc ta o h tk l1 l2 hd hi h0 h40 F' N') fun _ _ e => e
end
end Mine
theorem Mine.words17 : True := by
  k_with "TapeEnd" => k_dflt (refine' Mine.tape_end ?zF ?zN ?zd ?z4 ?z3 ?z1 ?z2 ?zi ?z0 ?z40 ?zl ?zm; (case zF => k_asm); (case zN => k_asm); (case zd => assumption); (case z4 => k_mem); (case z3 => k_mem); (case z1 => k_mem); (case z2 => k_mem); (case zi => first | assumption | exact .cons _ _ .nil); (case z0 => first | assumption | decide); (case z40 => first | decide | omega); (case zl => omega); (case zm => omega))
  k_with "exec Assign" => (k_here; (with_reducible show wpAny _ _ (exec (PySem.Stmt.Assign [PySem.Expr.Name (Str.ofString "tape") _] _ _) _) _ _ _); (fail_if_success (with_reducible show wpAny _ _ _ (Mine.TapeEnd _ _ _ _ _ _ _) _ _)); k_dflt (refine' Mine.exec_tape ?k1 ?k2 ?_ ?_; (case k1 => k_asm); (case k2 => k_asm); rotate_left; (intro tp9 cl9 vs9 ns9 n9 m9 t9 o9 h9 tk9 l8 l9 d9 i9 j9 k9 F9 N9); (try dsimp only); (try k_fold); rotate_left))
  trivial
set_option maxRecDepth 100000 in
set_option maxHeartbeats 0 in
theorem PySem.Challenge.cw_pq0965_01_holds : PySem.Challenge.rw_pq0965_01.Holds := by
  refine Mine.hd ?_
  k_go0
  all_goals try k_fold
  k_steps
