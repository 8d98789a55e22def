import PyProof.Rows.All
import Wide.All
import OpenK.AllK
import Wide.FinOn
import Lean
import PySem.Challenge.RW_rr0004_01
set_option Elab.async false
set_option maxRecDepth 100000
set_option maxHeartbeats 8000000
open PySem PySem.W PyProof.Rows
namespace Mine
def seedA : PySem.Str := PySem.Str.ofString "a"
theorem seedE : seedA = seedA := rfl
end Mine
name_quick tw16148165584984752058 for Mine.seedA by Mine.seedE
name_quick tw8075568018651887793 for Mine.seedA by Mine.seedE
name_quick tw3095889466270382072 for Mine.seedA by Mine.seedE
name_quick tw16352341863112812594 for Mine.seedA by Mine.seedE
name_quick tw5718504769338547837 for Mine.seedA by Mine.seedE
name_quick tw14979626087600564940 for Mine.seedA by Mine.seedE
name_quick tw1241815167647035670 for Mine.seedA by Mine.seedE
name_quick tw17391345882316296723 for Mine.seedA by Mine.seedE
name_quick tw9518749785886187100 for Mine.seedA by Mine.seedE
name_quick tw10132909190147918485 for Mine.seedA by Mine.seedE
name_quick tw15548232759531236198 for Mine.seedA by Mine.seedE
name_quick tw8860474907870498473 for Mine.seedA by Mine.seedE
name_quick tw14209830616999942402 for Mine.seedA by Mine.seedE
name_quick tw10918131014791663178 for Mine.seedA by Mine.seedE
name_quick tw9300948228871686676 for Mine.seedA by Mine.seedE
name_quick tw17300597898927385350 for Mine.seedA by Mine.seedE
name_quick tw13670142967304031831 for Mine.seedA by Mine.seedE
name_quick tw3393014988767919139 for Mine.seedA by Mine.seedE
name_quick tw250591516235675507 for Mine.seedA by Mine.seedE
name_quick tw9988325580192981579 for Mine.seedA by Mine.seedE
name_quick tw8032284361305108907 for Mine.seedA by Mine.seedE
name_quick tw8172809164517127073 for Mine.seedA by Mine.seedE
name_quick tw7401281599722004195 for Mine.seedA by Mine.seedE
name_quick tw12150249912526168084 for Mine.seedA by Mine.seedE
name_quick tw2436316575755570063 for Mine.seedA by Mine.seedE
name_quick tw11130039905162102590 for Mine.seedA by Mine.seedE
name_quick tw17111948838632640456 for Mine.seedA by Mine.seedE
name_quick tw17828083071136270317 for Mine.seedA by Mine.seedE
name_quick tw16406328271908756883 for Mine.seedA by Mine.seedE
name_quick tw2611137233208623240 for Mine.seedA by Mine.seedE
name_quick tw9674257727999782656 for Mine.seedA by Mine.seedE
name_quick tw4933834842325187142 for Mine.seedA by Mine.seedE
name_quick tw1055568401681811165 for Mine.seedA by Mine.seedE
name_quick tw1735497430108182060 for Mine.seedA by Mine.seedE
name_quick tw14323765505736481980 for Mine.seedA by Mine.seedE
name_quick tw4575980220486274672 for Mine.seedA by Mine.seedE
name_quick tw10500077913531017323 for Mine.seedA by Mine.seedE
name_quick tw11519604305632133818 for Mine.seedA by Mine.seedE
name_quick tw17520869792638436183 for Mine.seedA by Mine.seedE
name_quick tw9673203406766833760 for Mine.seedA by Mine.seedE
name_quick tw607167704815816724 for Mine.seedA by Mine.seedE
name_quick tw15236012663528867214 for Mine.seedA by Mine.seedE
name_quick tw15376083050721069600 for Mine.seedA by Mine.seedE
name_quick tw7469732015759309437 for Mine.seedA by Mine.seedE
name_quick tw3105397867545767578 for Mine.seedA by Mine.seedE
name_quick tw17341736924252097559 for Mine.seedA by Mine.seedE
name_quick tw14896874001708588922 for Mine.seedA by Mine.seedE
name_quick tw682011567655089306 for Mine.seedA by Mine.seedE
name_quick tw2719445374943340272 for Mine.seedA by Mine.seedE
name_quick tw16979880578912567463 for Mine.seedA by Mine.seedE
name_quick tw4552823106982906706 for Mine.seedA by Mine.seedE
name_quick tw12371321757623732685 for Mine.seedA by Mine.seedE
name_quick tw18211773271919218964 for Mine.seedA by Mine.seedE
name_quick tw17000458434675057986 for Mine.seedA by Mine.seedE
name_quick tw15823609455315575823 for Mine.seedA by Mine.seedE
name_quick tw3972328310683599613 for Mine.seedA by Mine.seedE
name_quick tw12813236842856870187 for Mine.seedA by Mine.seedE
name_quick tw8620020772036689432 for Mine.seedA by Mine.seedE
name_quick tw2315820567201803617 for Mine.seedA by Mine.seedE
name_quick tw15450981722951097364 for Mine.seedA by Mine.seedE
namespace Mine
open_top hd for PySem.Challenge.rw_rr0004_01
end Mine
section
namespace Mine
/-- a call's contract: from the ledger news, by the values vs, to what Out says of the answer and the ledger behind it -/
def Con (w : World) (mean : ExcName → Option Value) (mg mb : PySem.Str → Option Value) (lv : Nat) (f : Addr) (vs : List Value) (news : List (Addr × Obj)) (Out : Value → List (Addr × Obj) → Prop) : Prop :=
  ∀ (dp un : Nat) (gd : Option (List Code)) (cn : PySem.Str) (cs : Scope) (a : Addr) (ccd : Value) (cl : List (PySem.Str × Addr)) (outer : List Env) (A₀ : Around) (base h₀ : Heap) (L : Addr) (m : PySem.Str → Option Value) (s : Shared) (Q E : Value → Shared → Prop),
    Below A₀ base outer h₀ → Fr h₀ L s.heap m → (hd.heap_39 w.params).In h₀ → News h₀ L s.heap news → Top hd.view_39 (looseW hd.view_39 [PySem.Str.ofString "BasicError", PySem.Str.ofString "wend_place"]) mean mg mb h₀ → cs.kind = .function →
    dp + 10 * lv ≤ 600 → un + 100 * lv ≤ 5000 →
    (∀ r news' h' tk', Fr h₀ L h' m → News h₀ L h' news' → Out r news' → Q r { s with heap := h', toks := tk' }) →
    wpAny (model PySem.Challenge.rw_rr0004_01.row.prog w) (ktrTop dp un gd cn cs L a ccd cl outer) (call (.ref f) vs) Q E s

section
variable {w : World} {mean : ExcName → Option Value} {mg mb : PySem.Str → Option Value} {lv : Nat} {f : Addr} {vs : List Value} {news : List (Addr × Obj)} {Out : Value → List (Addr × Obj) → Prop}
theorem con_use {dp un : Nat} {gd : Option (List Code)} {cn : PySem.Str} {cs : Scope} {a : Addr} {ccd : Value} {cl : List (PySem.Str × Addr)} {outer : List Env} {A₀ : Around} {base h₀ : Heap} {L : Addr} {m : PySem.Str → Option Value} {s : Shared} {Q E : Value → Shared → Prop}
    (B : Below A₀ base outer h₀) (F : Fr h₀ L s.heap m) (X : (hd.heap_39 w.params).In h₀) (N : News h₀ L s.heap news) (T : Top hd.view_39 (looseW hd.view_39 [PySem.Str.ofString "BasicError", PySem.Str.ofString "wend_place"]) mean mg mb h₀) (hk : cs.kind = .function)
    (C : Con w mean mg mb lv f vs news Out) (hd : dp + 10 * lv ≤ 600) (hu : un + 100 * lv ≤ 5000)
    (ret : ∀ r news' h' tk', Fr h₀ L h' m → News h₀ L h' news' → Out r news' → Q r { s with heap := h', toks := tk' }) :
    wpAny (model PySem.Challenge.rw_rr0004_01.row.prog w) (ktrTop dp un gd cn cs L a ccd cl outer) (call (.ref f) vs) Q E s :=
  C _ _ _ _ _ _ _ _ _ _ _ _ _ _ _ _ _ B F X N T hk hd hu ret
end

theorem news_sub {h₀ h : Heap} {L : Addr} {a b : List (Addr × Obj)} (N : News h₀ L h a) (hs : ∀ p ∈ b, p ∈ a) : News h₀ L h b := fun p hp => N p (hs p hp)

/-- a row of the text -/
inductive Row where
  | rem (x : PySem.Str)
  | set (v : Int)
  | goto (t : Nat)
  | fin

def Row.dat : Row → Dat
  | .rem x => .tuple [.str (PySem.Str.ofString "REM"), .str x]
  | .set v => .tuple [.str (PySem.Str.ofString "LET"), .tuple [.str (PySem.Str.ofString "name"), .str (PySem.Str.ofString "X")], .tuple [.str (PySem.Str.ofString "whole"), .int v]]
  | .goto t => .tuple [.str (PySem.Str.ofString "GOTO"), .int (10 * ((t : Int) + 1))]
  | .fin => .tuple [.str (PySem.Str.ofString "END")]

/-- every jump of the rows goes to a later row -/
def RowsOk (many : Nat) (rows : List Row) : Prop := ∀ i t, rows[i]? = some (.goto t) → i < t ∧ t < many
/-- every text of a row can be laid -/
def TextOk (rows : List Row) : Prop := ∀ (i : Nat) (x : PySem.Str), rows[i]? = some (Row.rem x) → PyData.strOk x = true
theorem strOk_ofString (x : String) : PyData.strOk (PySem.Str.ofString x) = true := by
  unfold PyData.strOk
  rw [PySem.Str.ofString_eq_toList]
  simp only [List.all_toArray, List.all_eq_true, decide_eq_true_eq]
  intro c hc
  obtain ⟨d, -, rfl⟩ := List.mem_map.mp hc
  have := d.valid
  show d.val.toNat < 0x110000
  rcases this with h | h <;> omega
end Mine
namespace Mine
/-- a mark at which the walk halts -/
def Stop (P : Prop) : Prop := P
theorem stop_of {P : Prop} (h : Stop P) : P := h
end Mine
end

local macro_rules | `(tactic| walk_at $s:str) => `(tactic| k_extra $s)
local macro_rules | `(tactic| size_fits) => `(tactic| k_extra "size_fits")
local macro_rules | `(tactic| k_room) => `(tactic| k_extra "k_room")
local macro_rules | `(tactic| k_units) => `(tactic| k_extra "k_units")
local macro_rules | `(tactic| walk_at "pyIter ref") => `(tactic| ((with_reducible show wpAny _ _ (pyIter (Value.ref _)) (fun it s₂ => LoopAtV _ _ _ _ _ _ _ _ _ it s₂) _ _); refine Mine.stop_of ?_))
local macro_rules | `(tactic| walk_at "pyIter ref") => `(tactic| ((with_reducible show wpAny _ _ (pyIter (Value.ref _)) (fun it s₂ => TurnsAt _ _ _ _ _ _ _ _ _ it s₂) _ _); refine Mine.stop_of ?_))

section
namespace Mine
/-- where the row at place at leads -/
def nxt (rows : List Row) (at_ : Nat) : Nat := match rows[at_]? with
  | some .fin => rows.length
  | some (.goto t) => t
  | _ => at_ + 1
def wayF (rows : List Row) : Nat → Nat → List Nat
  | 0, _ => []
  | f + 1, k => if k < rows.length then k :: wayF rows f (nxt rows k) else []
/-- the way from a place -/
def wayFrom (rows : List Row) (k : Nat) : List Nat := wayF rows (rows.length - k) k

theorem nxt_gt {rows : List Row} (hok : RowsOk rows.length rows) {k : Nat} (hk : k < rows.length) : k < nxt rows k ∧ nxt rows k ≤ rows.length := by
  unfold nxt
  split
  · exact ⟨hk, Nat.le_refl _⟩
  · rename_i t h
    have := hok k t h
    omega
  · omega
theorem wayF_enough {rows : List Row} (hok : RowsOk rows.length rows) : ∀ (f g k : Nat), rows.length - k ≤ f → rows.length - k ≤ g → wayF rows f k = wayF rows g k
  | 0, 0, _, _, _ => rfl
  | 0, g + 1, k, hf, _ => by
    unfold wayF
    rw [if_neg (by omega)]
  | f + 1, 0, k, _, hg => by
    unfold wayF
    rw [if_neg (by omega)]
  | f + 1, g + 1, k, hf, hg => by
    unfold wayF
    by_cases hk : k < rows.length
    · rw [if_pos hk, if_pos hk]
      have := nxt_gt hok hk
      rw [wayF_enough hok f g (nxt rows k) (by omega) (by omega)]
    · rw [if_neg hk, if_neg hk]
theorem wayFrom_cons {rows : List Row} (hok : RowsOk rows.length rows) {k : Nat} (hk : k < rows.length) : wayFrom rows k = k :: wayFrom rows (nxt rows k) := by
  have hn := nxt_gt hok hk
  unfold wayFrom
  have e : rows.length - k = (rows.length - k - 1) + 1 := by omega
  rw [e]
  show (if k < rows.length then k :: wayF rows (rows.length - k - 1) (nxt rows k) else []) = _
  rw [if_pos hk, wayF_enough hok (rows.length - k - 1) (rows.length - nxt rows k) (nxt rows k) (by omega) (by omega)]
theorem wayFrom_nil {rows : List Row} {k : Nat} (hk : rows.length ≤ k) : wayFrom rows k = [] := by
  unfold wayFrom
  have e : rows.length - k = 0 := by omega
  rw [e]
  rfl

/-- what the while of _law_way keeps -/
def WayP (rows : List Row) (ns : List Int) (at_ : Int) : Prop :=
  ∃ k : Nat, at_ = (k : Int) ∧ k ≤ rows.length ∧ ns.length ≤ k ∧ ns ++ (wayFrom rows k).map Int.ofNat = (wayFrom rows 0).map Int.ofNat
theorem wayP_step {rows : List Row} (hok : RowsOk rows.length rows) {ns : List Int} {at_ at' : Int} (h : WayP rows ns at_) (hlt : at_ < (rows.length : Int)) (he : at' = (nxt rows at_.toNat : Nat)) : WayP rows (ns ++ [at_]) at' := by
  obtain ⟨k, rfl, hk, hl, hw⟩ := h
  have hk' : k < rows.length := by omega
  have e : (k : Int).toNat = k := by omega
  rw [e] at he
  have hn := nxt_gt hok hk'
  refine ⟨nxt rows k, he, hn.2, by rw [List.length_append]; simp; omega, ?_⟩
  rw [← hw, wayFrom_cons hok hk', List.append_assoc]
  rfl
theorem way_less {rows : List Row} (hok : RowsOk rows.length rows) {ns : List Int} {at_ at' : Int} (h : WayP rows ns at_) (hlt : at_ < (rows.length : Int)) (he : at' = (nxt rows at_.toNat : Nat)) : rows.length - at'.toNat < rows.length - at_.toNat := by
  obtain ⟨k, rfl, hk, hl, hw⟩ := h
  have e : (k : Int).toNat = k := by omega
  rw [e] at he ⊢
  have hn := nxt_gt hok (show k < rows.length by omega)
  omega
theorem way_done {rows : List Row} {ns : List Int} {at_ : Int} (h : WayP rows ns at_) (hlt : ¬ at_ < (rows.length : Int)) : ns = (wayFrom rows 0).map Int.ofNat := by
  obtain ⟨k, rfl, hk, hl, hw⟩ := h
  rw [← hw, wayFrom_nil (by omega), List.map_nil, List.append_nil]
theorem nxt_rem {rows : List Row} {k : Nat} {x : PySem.Str} (h : rows[k]? = some (.rem x)) : nxt rows k = k + 1 := by unfold nxt; rw [h]
theorem nxt_set {rows : List Row} {k : Nat} {x : Int} (h : rows[k]? = some (.set x)) : nxt rows k = k + 1 := by unfold nxt; rw [h]
theorem nxt_goto {rows : List Row} {k : Nat} {t : Nat} (h : rows[k]? = some (.goto t)) : nxt rows k = t := by unfold nxt; rw [h]
theorem nxt_fin {rows : List Row} {k : Nat} (h : rows[k]? = some .fin) : nxt rows k = rows.length := by unfold nxt; rw [h]
theorem line_back (t : Nat) : Int.fdiv (10 * ((t : Int) + 1)) 10 - 1 = t := by
  rw [Int.fdiv_eq_ediv_of_nonneg _ (by omega)]
  omega

/-- a row with its line's number, as the flat text keeps it -/
def flatRow (i : Nat) (r : Row) : Dat := .tuple [.int (10 * ((i : Int) + 1)), r.dat]
/-- a line of the text: its number, its one statement -/
def lineDat (i : Nat) (r : Row) : Dat := .tuple [.int (10 * ((i : Int) + 1)), .list [r.dat]]
def numbered (f : Nat → Row → Dat) : Nat → List Row → List Dat
  | _, [] => []
  | i, r :: rs => f i r :: numbered f (i + 1) rs
theorem numbered_length (f : Nat → Row → Dat) : ∀ (i : Nat) (rows : List Row), (numbered f i rows).length = rows.length
  | _, [] => rfl
  | i, _ :: rs => by rw [numbered, List.length_cons, List.length_cons, numbered_length f (i + 1) rs]
theorem numbered_get (f : Nat → Row → Dat) : ∀ (i j : Nat) (rows : List Row), (numbered f i rows)[j]? = (rows[j]?).map (f (i + j))
  | _, _, [] => by simp [numbered]
  | i, 0, r :: rs => by simp [numbered]
  | i, j + 1, r :: rs => by
    rw [numbered, List.getElem?_cons_succ, List.getElem?_cons_succ, numbered_get f (i + 1) j rs]
    have e : i + 1 + j = i + (j + 1) := by omega
    rw [e]
theorem numbered_append (f : Nat → Row → Dat) : ∀ (i : Nat) (a b : List Row), numbered f i (a ++ b) = numbered f i a ++ numbered f (i + a.length) b
  | i, [], b => by simp [numbered]
  | i, r :: a, b => by
    rw [List.cons_append, numbered, numbered, List.cons_append, numbered_append f (i + 1) a b]
    have e : i + 1 + a.length = i + (r :: a).length := by rw [List.length_cons]; omega
    rw [e]
theorem numbered_at {f : Nat → Row → Dat} {rows : List Row} {pre post : List Dat} {d : Dat} (h : numbered f 0 rows = pre ++ d :: post) : ∃ r, rows[pre.length]? = some r ∧ d = f pre.length r := by
  have h1 : (numbered f 0 rows)[pre.length]? = some d := by rw [h]; simp
  rw [numbered_get, Nat.zero_add] at h1
  cases hr : rows[pre.length]? with
  | none => rw [hr] at h1; cases h1
  | some r => rw [hr] at h1; exact ⟨r, rfl, (Option.some.inj h1).symm⟩
theorem numbered_snoc {f : Nat → Row → Dat} {rows : List Row} {k : Nat} {r : Row} (h : rows[k]? = some r) : numbered f 0 (rows.take (k + 1)) = numbered f 0 (rows.take k) ++ [f k r] := by
  have hk : k < rows.length := (List.getElem?_eq_some_iff.mp h).1
  rw [List.take_add_one, h, numbered_append, List.length_take, Nat.min_eq_left (Nat.le_of_lt hk), Nat.zero_add]
  rfl
section
variable {K : Type} [DecidableEq K]
theorem valueAt_cons (p : K × Value) (kvs : List (K × Value)) (k : K) : valueAt (p :: kvs) k = if p.1 = k then some p.2 else valueAt kvs k := by
  unfold valueAt
  rw [List.find?_cons]
  by_cases h : p.1 = k
  · rw [if_pos h, decide_eq_true h]; rfl
  · rw [if_neg h, decide_eq_false h]
theorem valueAt_turned (k : K) (v : Value) (k' : K) : ∀ kvs : List (K × Value), valueAt (kvs.map fun kv => if kv.1 = k then (kv.1, v) else kv) k' = if k' = k then (if kvs.any (fun kv => kv.1 = k) then some v else none) else valueAt kvs k'
  | [] => by
    by_cases h : k' = k
    · rw [if_pos h]; rfl
    · rw [if_neg h]; rfl
  | p :: kvs => by
    rw [List.map_cons, valueAt_cons, valueAt_turned k v k' kvs, valueAt_cons, List.any_cons]
    by_cases hp : p.1 = k
    · rw [if_pos hp, decide_eq_true hp, Bool.true_or, if_pos rfl]
      by_cases h : k' = k
      · rw [if_pos h, if_pos (hp.trans h.symm), if_pos h]
      · rw [if_neg h, if_neg (fun e => h (e.symm.trans hp)), if_neg h, if_neg (fun e => h (e.symm.trans hp))]
    · rw [if_neg hp, decide_eq_false hp, Bool.false_or]
      by_cases h : k' = k
      · rw [if_pos h, if_pos h, if_neg (fun e => hp (e.trans h))]
      · rw [if_neg h, if_neg h]
theorem valueAt_append (e : List (K × Value)) (k : K) : ∀ kvs : List (K × Value), valueAt (kvs ++ e) k = if kvs.any (fun kv => kv.1 = k) then valueAt kvs k else valueAt e k
  | [] => rfl
  | p :: kvs => by
    rw [List.cons_append, valueAt_cons, valueAt_append e k kvs, valueAt_cons, List.any_cons]
    by_cases hp : p.1 = k
    · rw [if_pos hp, if_pos hp, decide_eq_true hp, Bool.true_or, if_pos rfl]
    · rw [if_neg hp, if_neg hp, decide_eq_false hp, Bool.false_or]
theorem valueAt_stored (kvs : List (K × Value)) (k : K) (v : Value) : valueAt (stored kvs k v) k = some v := by
  unfold stored
  by_cases h : kvs.any (fun kv => decide (kv.1 = k)) = true
  · rw [if_pos h, valueAt_turned, if_pos rfl, if_pos h]
  · rw [if_neg h, valueAt_append, if_neg h, valueAt_cons, if_pos rfl]
theorem valueAt_none {kvs : List (K × Value)} {k : K} : kvs.any (fun kv => decide (kv.1 = k)) = false → valueAt kvs k = none := by
  intro h
  unfold valueAt
  have e : kvs.find? (fun kv => decide (kv.1 = k)) = none := by
    rw [List.find?_eq_none]
    intro p hp
    rw [List.any_eq_false] at h
    exact h p hp
  rw [e]
  rfl
theorem valueAt_stored_ne (kvs : List (K × Value)) {k k' : K} (v : Value) (hne : k' ≠ k) : valueAt (stored kvs k v) k' = valueAt kvs k' := by
  unfold stored
  by_cases h : kvs.any (fun kv => decide (kv.1 = k)) = true
  · rw [if_pos h, valueAt_turned, if_neg hne]
  · rw [if_neg h, valueAt_append, valueAt_cons, if_neg (show ¬ (k, v).1 = k' from fun e => hne e.symm)]
    cases h' : kvs.any (fun kv => decide (kv.1 = k')) with
    | true => exact if_pos rfl
    | false => rw [valueAt_none h']; exact if_neg Bool.false_ne_true
theorem stored_length (kvs : List (K × Value)) (k : K) (v : Value) : (stored kvs k v).length ≤ kvs.length + 1 := by
  unfold stored
  split
  · rw [List.length_map]; exact Nat.le_succ _
  · rw [List.length_append]; exact Nat.le_refl _
end
/-- the first rows' places, by their lines' numbers -/
def PlacesOk (kvs : List (Int × Value)) (m : Nat) : Prop := kvs.length ≤ m ∧ ∀ i : Nat, i < m → ∃ t, valueAt kvs (10 * ((i : Int) + 1)) = some (.int (i : Int) t)
theorem places_none : PlacesOk [] 0 := ⟨Nat.le_refl _, fun _ h => absurd h (Nat.not_lt_zero _)⟩
theorem places_step {kvs : List (Int × Value)} {m : Nat} (h : PlacesOk kvs m) {x : Int} {t : Tok} (hx : x = (m : Int)) : PlacesOk (stored kvs (10 * ((m : Int) + 1)) (.int x t)) (m + 1) := by
  subst hx
  refine ⟨Nat.le_trans (stored_length _ _ _) (Nat.succ_le_succ h.1), fun i hi => ?_⟩
  by_cases e : i = m
  · subst e
    exact ⟨t, valueAt_stored _ _ _⟩
  · rw [valueAt_stored_ne _ _ (by omega)]
    exact h.2 i (by omega)
abbrev keyE (w : World) (x : String) (t : Tok) (v : Value) : DictEntry := ⟨PyData.keyHash w.params (PySem.Str.ofString x), .str (PySem.Str.ofString x) t, v⟩
/-- what a Flat keeps -/
abbrev flatD (w : World) (RW PL DA PA LO FN : Addr) (t1 t2 t3 t4 t5 t6 : Tok) : Obj :=
  dictOf [keyE w "rows" t1 (.ref RW), keyE w "places" t2 (.ref PL), keyE w "data" t3 (.ref DA), keyE w "pairs" t4 (.ref PA), keyE w "loops" t5 (.ref LO), keyE w "fns" t6 (.ref FN)] 6
abbrev tupO (vs : List Value) : Obj := { cls := .type "tuple", data := .seq vs.toArray }
section
variable {prog : Program} {w : World} {A : Around} {E : Value → Shared → Prop} {s : Shared} {h₀ : Heap} {L l : Addr}
/-- a row read out of the list of the rows -/
theorem row_item {value slice : PySem.Expr} {news L9 : List (Addr × Obj)} {us : List Value} {rows : List Row} {n : Nat} {k : Int} {u : Tok} {Q : Value → Shared → Prop} (N : News h₀ L s.heap news) (hm : (l, listOf us.toArray n) ∈ news) (hd : DatAll L9 us (rows.map Row.dat))
    (h0 : 0 ≤ k) (h1 : k < (rows.length : Int)) (hfit : k < 2 ^ 63) (h : ∀ v r, rows[k.toNat]? = some r → DatIn L9 v r.dat → Q v s)
    (hs : subscripted slice false (.ref l) (.int k u) = operate [.ref l, .int k u] (getItem (.ref l) (.int k u)) := by with_unfolding_all rfl) :
    wpAny (model prog w) A (subscriptTail value slice (.ref l) (.int k u)) Q E s := by
  refine kd_item N hm hd h0 (by rw [List.length_map]; exact h1) hfit (fun v d e _ hD => ?_) hs
  rw [List.getElem?_map] at e
  cases hr : rows[k.toNat]? with
  | none => rw [hr] at e; cases e
  | some r =>
    rw [hr] at e
    cases e
    exact h v r hr hD
theorem row_item_at {value slice : PySem.Expr} {news L9 : List (Addr × Obj)} {us : List Value} {rows : List Row} {n : Nat} {k : Int} {u : Tok} {r : Row} {Q : Value → Shared → Prop} (N : News h₀ L s.heap news) (hm : (l, listOf us.toArray n) ∈ news) (hd : DatAll L9 us (rows.map Row.dat))
    (h0 : 0 ≤ k) (h1 : k < (rows.length : Int)) (hfit : k < 2 ^ 63) (hr : rows[k.toNat]? = some r) (h : ∀ v, DatIn L9 v r.dat → Q v s)
    (hs : subscripted slice false (.ref l) (.int k u) = operate [.ref l, .int k u] (getItem (.ref l) (.int k u)) := by with_unfolding_all rfl) :
    wpAny (model prog w) A (subscriptTail value slice (.ref l) (.int k u)) Q E s :=
  row_item N hm hd h0 h1 hfit (fun v r' e hD => by rw [hr] at e; cases e; exact h v hD) hs
theorem row_len {news L9 : List (Addr × Obj)} {us : List Value} {rows : List Row} {n : Nat} {Q : Value → Shared → Prop} (N : News h₀ L s.heap news) (hm : (l, listOf us.toArray n) ∈ news) (hd : DatAll L9 us (rows.map Row.dat)) (hfit : (rows.length : Int) < 2 ^ 63)
    (h : Q (.int (rows.length : Int) (s.toks + 1)) { s with toks := s.toks + 1 + 1 }) : wpAny (model prog w) A (call (.builtin "len") [.ref l]) Q E s :=
  kd_len N hm hd (by rw [List.length_map]; exact hfit) (by rw [List.length_map]; exact h)
theorem any_len {news : List (Addr × Obj)} {its : Array Value} {n : Nat} {Q : Value → Shared → Prop} (N : News h₀ L s.heap news) (hm : (l, listOf its n) ∈ news) (hfit : (its.size : Int) < 2 ^ 63)
    (h : Q (.int (its.size : Int) (s.toks + 1)) { s with toks := s.toks + 1 + 1 }) : wpAny (model prog w) A (call (.builtin "len") [.ref l]) Q E s :=
  len_list ⟨_, (N _ hm).1, rfl, n, rfl⟩ hfit h
theorem any_lenL {news : List (Addr × Obj)} {vs : List Value} {n k : Nat} {Q : Value → Shared → Prop} (N : News h₀ L s.heap news) (hm : (l, listOf vs.toArray n) ∈ news) (hk : vs.length = k) (hfit : (k : Int) < 2 ^ 63)
    (h : Q (.int (k : Int) (s.toks + 1)) { s with toks := s.toks + 1 + 1 }) : wpAny (model prog w) A (call (.builtin "len") [.ref l]) Q E s := by
  subst hk
  have e : vs.toArray.size = vs.length := List.size_toArray
  refine len_list ⟨_, (N _ hm).1, rfl, n, rfl⟩ (by rw [e]; exact hfit) (by rw [e]; exact h)
theorem place_item {K : Type} [DecidableEq K] {knd : KeyKind prog w K} {value slice : PySem.Expr} {news : List (Addr × Obj)} {o : Obj} {kvs : List (K × Value)} {k : K} {key v : Value} {Q : Value → Shared → Prop} (N : News h₀ L s.heap news) (hp : (l, o) ∈ news) (hd : o.IsDictOf knd kvs) (hkey : knd.is k key = true) (hl : valueAt kvs k = some v)
    (h : Q v { s with toks := s.toks + 1 }) (hs : subscripted slice false (.ref l) key = operate [.ref l, key] (getItem (.ref l) key) := by with_unfolding_all rfl) :
    wpAny (model prog w) A (subscriptTail value slice (.ref l) key) Q E s :=
  have hD := kda_dict N hp hd
  tail_any hD.typeIs slot_dict_getitem.lookup (wpAny_getItem_of hkey hD.mapOf hl h) hs
end
end Mine
end

section
namespace Mine
section
variable {prog : Program} {w : World} {A : Around} {E : Value → Shared → Prop} {s : Shared} {env : Env} {h₀ : Heap} {target : PySem.Expr} {body : List Stmt} {Q : Flow → Shared → Prop}

/-- a for loop with any target over an iterator that reads one list of the ledger: by an invariant over the turn's number, the names and the ledger -/
theorem mt_core {I l : Addr} {lo : Obj} {fp wr : List Addr} {n : Nat} {P Md : Nat → Value → Heap → Prop} {St : Nat → Heap → Prop} {m₀ : PySem.Str → Option Value} {news : List (Addr × Obj)}
    (J : Nat → (PySem.Str → Option Value) → List (Addr × Obj) → Prop) (W : KTurns prog w A target I fp wr n P Md St) (hfp : ∀ b ∈ fp, b ∈ wr ∨ b = l) (hob : ∀ i h, St i h → ∀ b ∈ wr, ∃ o, h.get? b = some o)
    (hLw : env.locals ∉ wr) (hwr : ∀ b ∈ wr, h₀.get? b = none) (hnw : ∀ p ∈ news, p.1 ∉ wr) (hst : St 0 s.heap) (hl : (l, lo) ∈ news) (F : Fr h₀ env.locals s.heap m₀) (N : News h₀ env.locals s.heap news) (hj : J 0 m₀ news)
    (turn : ∀ i v m₁ nx h tk own, i < n → P i v h → OwnOff own (nx.map (·.1)) → (l, lo) ∈ nx → J i m₁ nx → Fr h₀ env.locals h m₁ → News h₀ env.locals h (nx ++ own) →
      wpAny (model prog w) A (assign target env v) (fun _ s₂ => wpAny (model prog w) A (execs body env) (InvPostG h₀ env.locals (fun m' ny => (l, lo) ∈ ny ∧ J (i + 1) m' ny) own { s with heap := h, toks := tk } Q) E s₂) E { s with heap := h, toks := tk })
    (done : ∀ m₁ nx h tk, J n m₁ nx → Fr h₀ env.locals h m₁ → News h₀ env.locals h nx → Q .next { s with heap := h, toks := tk }) :
    TurnsAt prog w A h₀ env target body Q E (.ref I) s := by
  have hLl : env.locals ≠ l := fun e => (N _ hl).2.1 e.symm
  have hLf : env.locals ∉ fp := fun h => (hfp _ h).elim hLw hLl
  refine ⟨I, fp, wr, n, P, Md, St, m₀, news, fun i m nx => (l, lo) ∈ nx ∧ J i m nx, rfl, W, hLf, hwr, hnw, hst, F, N, ⟨hl, hj⟩, ?_, fun h' tk m' nx F' N' _ hJ => done m' nx h' tk hJ.2 F' N'⟩
  intro i v m₁ nx h₁ tk₁ own hi hP hJ hoff hown hget hall hst₁ F₁ N₁
  obtain ⟨hl₁, hJ⟩ := hJ
  have hkeep : ∀ p ∈ own.filter fun p => decide (p.1 ∈ wr), p ∈ own ∧ p.1 ∈ wr := fun p hp => ⟨(List.mem_filter.mp hp).1, of_decide_eq_true (List.mem_filter.mp hp).2⟩
  have hsep : OwnOff (own.filter fun p => decide (p.1 ∈ wr)) (nx.map (·.1)) := by
    intro p hp b hb e
    obtain ⟨q, hq, rfl⟩ := List.mem_map.mp hb
    exact hoff q hq (e ▸ (hkeep p hp).2)
  have N₂ : News h₀ env.locals h₁ (nx ++ own.filter fun p => decide (p.1 ∈ wr)) := fun p hp => N₁ p ((List.mem_append.mp hp).elim (fun h => List.mem_append.mpr (.inr h)) fun h => List.mem_append.mpr (.inl (hkeep p h).1))
  have hlo : h₁.get? l = some lo := (N₁ _ (List.mem_append.mpr (.inr hl₁))).1
  have fin : ∀ s₃, InvEndG h₀ env.locals (fun m' ny => (l, lo) ∈ ny ∧ J (i + 1) m' ny) (own.filter fun p => decide (p.1 ∈ wr)) { s with heap := h₁, toks := tk₁ } s₃ →
      LoopStepU h₀ env.locals wr own (fun m' ny => (l, lo) ∈ ny ∧ J (i + 1) m' ny) { s with heap := h₁, toks := tk₁ } .next s₃ := by
    rintro s₃ ⟨h', tk, m', news', ny, rfl, F', N', hn, ho, ha, hm⟩
    refine ⟨rfl, h', tk, m', ny, rfl, F', fun p hp => ?_, fun p hp hq => ?_, hm⟩
    · rcases List.mem_append.mp hp with hp | hp
      · by_cases hw : p.1 ∈ wr
        · exact N' p (ho p (List.mem_filter.mpr ⟨hp, decide_eq_true hw⟩))
        · have hpl : p.1 = l := (hfp _ (hown p hp)).resolve_left hw
          have h2 := hget p hp
          rw [hpl, hlo] at h2
          have h3 : p = (l, lo) := Prod.ext hpl (Option.some.inj h2).symm
          exact N' p (hn p (h3 ▸ hm.1))
      · exact N' p (hn p hp)
    · obtain ⟨o, hbo⟩ := hob _ _ hst₁ _ hq
      exact ha (p.1, o) (List.mem_filter.mpr ⟨hall _ (W.sub _ hq) (hwr _ hq) o hbo, decide_eq_true hq⟩) p.1 (List.mem_map.mpr ⟨p, hp, rfl⟩) rfl
  refine wpAny_mono (turn i v m₁ nx h₁ tk₁ _ hi hP hsep hl₁ hJ F₁ N₂) (fun _ s₂ h₂ => wpAny_mono h₂ (fun f s₃ p => ?_) fun _ _ e => e) fun _ _ e => e
  cases f with
  | ret v => exact .ret p
  | brk => exact .brk p
  | next => exact .next (fin s₃ p)
  | cont => exact .cont (fin s₃ p)

theorem mt_list {l : Addr} {vs : List Value} {nn : Nat} {m₀ : PySem.Str → Option Value} {news : List (Addr × Obj)} (J : Nat → (PySem.Str → Option Value) → List (Addr × Obj) → Prop)
    (hh : A.handled = none) (hl : (l, listOf vs.toArray nn) ∈ news) (F : Fr h₀ env.locals s.heap m₀) (N : News h₀ env.locals s.heap news) (hj : J 0 m₀ news)
    (turn : ∀ i v m₁ nx h tk own, vs[i]? = some v → OwnOff own (nx.map (·.1)) → (l, listOf vs.toArray nn) ∈ nx → J i m₁ nx → Fr h₀ env.locals h m₁ → News h₀ env.locals h (nx ++ own) →
      wpAny (model prog w) A (assign target env v) (fun _ s₂ => wpAny (model prog w) A (execs body env) (InvPostG h₀ env.locals (fun m' ny => (l, listOf vs.toArray nn) ∈ ny ∧ J (i + 1) m' ny) own { s with heap := h, toks := tk } Q) E s₂) E { s with heap := h, toks := tk })
    (done : ∀ m₁ nx h tk, J vs.length m₁ nx → Fr h₀ env.locals h m₁ → News h₀ env.locals h nx → Q .next { s with heap := h, toks := tk }) :
    wpAny (model prog w) A (pyIter (.ref l)) (fun it s₂ => TurnsAt prog w A h₀ env target body Q E it s₂) E s := by
  have hol : s.heap.get? l = some (listOf vs.toArray nn) := (N _ hl).1
  have hls : s.heap.IsList l vs.toArray := ⟨_, hol, rfl, nn, rfl⟩
  have hlt : l < s.heap.objs.size := Heap.lt_size hol
  have hne : l ≠ s.heap.objs.size := Nat.ne_of_lt hlt
  refine wpAny_pyIter_list hls ?_
  have W := KTurns.ofWalks (target := target) (Walks.list (prog := prog) (w := w) hh s.heap.objs.size l hne vs.toArray) fun i v s Q E st q => letGo_listiter st.1 q
  have hlen : vs.toArray.size = vs.length := by simp
  rw [hlen] at W
  refine mt_core (s := { s with heap := s.heap.push _ }) J W (fun b hb => ?_) (fun i h st b hb => ?_) (fun hm => ?_) (fun b hb => ?_) (fun p hp hI => ?_)
    ⟨⟨_, Heap.get?_push_size _ rfl, rfl, rfl⟩, hls.at fun o e => Heap.get?_push_of_some _ e⟩ hl (F.push _) (fun p hp => ⟨Heap.get?_push_of_some _ (N p hp).1, (N p hp).2⟩) hj (fun i v m₁ nx h tk own _ hP => turn i v m₁ nx h tk own (by simpa using hP)) done
  · rcases List.mem_cons.mp hb with h | h
    · exact .inl (List.mem_singleton.mpr h)
    · exact .inr (List.mem_singleton.mp h)
  · obtain ⟨⟨o, ho, _⟩, _⟩ := st
    exact ⟨o, (List.mem_singleton.mp hb) ▸ ho⟩
  · exact absurd F.ns.lt ((List.mem_singleton.mp hm) ▸ Nat.lt_irrefl _)
  · rw [List.mem_singleton.mp hb]
    exact next_is_new F
  · exact absurd (Heap.lt_size (N p hp).1) ((List.mem_singleton.mp hI) ▸ Nat.lt_irrefl _)

theorem mt_enum {elts : List PySem.Expr} {kk : Nat} {pos : Pos} {l : Addr} {vs : List Value} {nn : Nat} {m₀ : PySem.Str → Option Value} {news : List (Addr × Obj)} (J : Nat → (PySem.Str → Option Value) → List (Addr × Obj) → Prop)
    (hh : A.handled = none) (hl : (l, listOf vs.toArray nn) ∈ news) (F : Fr h₀ env.locals s.heap m₀) (N : News h₀ env.locals s.heap news) (hj : J 0 m₀ news)
    (turn : ∀ (i : Nat) x T t m₁ nx h tk own, vs[i]? = some x → IsTup h T #[.int (i : Int) t, x] → OwnOff own (nx.map (·.1)) → (l, listOf vs.toArray nn) ∈ nx → J i m₁ nx → Fr h₀ env.locals h m₁ → News h₀ env.locals h (nx ++ own) →
      wpAny (model prog w) A (assign (.Tuple elts kk pos) env (.ref T)) (fun _ s₂ => wpAny (model prog w) A (execs body env) (InvPostG h₀ env.locals (fun m' ny => (l, listOf vs.toArray nn) ∈ ny ∧ J (i + 1) m' ny) own { s with heap := h, toks := tk } Q) E s₂) E { s with heap := h, toks := tk })
    (done : ∀ m₁ nx h tk, J vs.length m₁ nx → Fr h₀ env.locals h m₁ → News h₀ env.locals h nx → Q .next { s with heap := h, toks := tk }) :
    wpAny (model prog w) A (call (.type "enumerate") [.ref l]) (fun xv s₁ => wpAny (model prog w) A (pyIter xv) (fun it s₂ => TurnsAt prog w A h₀ env (.Tuple elts kk pos) body Q E it s₂) E s₁) E s := by
  have hol : s.heap.get? l = some (listOf vs.toArray nn) := (N _ hl).1
  have hls : s.heap.IsList l vs.toArray := ⟨_, hol, rfl, nn, rfl⟩
  have hlt : l < s.heap.objs.size := Heap.lt_size hol
  have hLs : env.locals < s.heap.objs.size := F.ns.lt
  refine call_enumerate_list hls fun h' hE hI hsz hk => ?_
  refine wpAny_pyIter_enum hE ?_
  have W := KTurns.ofWalksU (elts := elts) (k := kk) (pos := pos) (WalksT.enumerate (prog := prog) (w := w) hh (s.heap.objs.size + 1) s.heap.objs.size l (Nat.succ_ne_self _) (ktu_ne 1 hlt) (Nat.ne_of_lt hlt) vs.toArray).toU
  have hlen : vs.toArray.size = vs.length := by simp
  rw [hlen] at W
  have two : ∀ {b : Addr}, b ∈ [s.heap.objs.size + 1, s.heap.objs.size] → s.heap.objs.size ≤ b := by
    intro b hb
    rcases List.mem_cons.mp hb with h | h
    · exact h ▸ Nat.le_succ _
    · exact (List.mem_singleton.mp h) ▸ Nat.le_refl _
  have apart : ∀ {b : Addr}, b < s.heap.objs.size → b ∉ [s.heap.objs.size + 1, s.heap.objs.size] := fun hb hm => absurd hb (Nat.not_lt.mpr (two hm))
  refine mt_core (s := { s with heap := h' }) J W (fun b hb => ?_) (fun i h st b hb => ?_) (apart hLs) (fun b hb => ktu_new F (two hb)) (fun p hp => apart (Heap.lt_size (N p hp).1))
    ⟨⟨.none, hE⟩, hI, hls.at fun o e => hk l o e⟩ hl (F.keeps hk) (N.grown hk) hj ?_ done
  · rcases List.mem_cons.mp hb with h | hb
    · exact .inl (h ▸ List.Mem.head _)
    · rcases List.mem_cons.mp hb with h | hb
      · exact .inl (h ▸ List.Mem.tail _ (List.Mem.head _))
      · exact .inr (List.mem_singleton.mp hb)
  · obtain ⟨⟨old, he⟩, ⟨oi, hoi, _⟩, _⟩ := st
    rcases List.mem_cons.mp hb with h | hb
    · exact ⟨_, h ▸ he⟩
    · exact ⟨_, (List.mem_singleton.mp hb) ▸ hoi⟩
  · rintro i v m₁ nx h tk own hi ⟨T, vals, rfl, ⟨t, x, hx, rfl⟩, hT⟩ hoff hl₁ hJ F₁ N₁
    exact turn i x T t m₁ nx h tk own (by simpa using hx) hT hoff hl₁ hJ F₁ N₁

/-- the same over a list of data: what is kept is a state, its objects and its facts; what is new lies in the tail -/
theorem mt_listL {σ : Type} {l : Addr} {vs : List Value} {ds : List Dat} {nn : Nat} {m₀ : PySem.Str → Option Value} (x : PySem.Str) (Led : σ → List (Addr × Obj)) (cst : List (Addr × Obj)) (ps : σ → List (PySem.Str × Value)) (Facts : List (Addr × Obj) → σ → Prop) (stored : List PySem.Str) (P : List Dat → σ → Prop) (adr : List Addr) (c₀ : σ)
    (hh : A.handled = none) (hl : (l, listOf vs.toArray nn) ∈ cst) (hd : DatAll cst vs ds) (F : Fr h₀ env.locals s.heap m₀) (N : News h₀ env.locals s.heap (Led c₀ ++ cst)) (hadr : ∀ c, (Led c ++ cst).map (·.1) = adr) (hf : Facts cst c₀) (hk : ∀ p ∈ ps c₀, m₀ p.1 = some p.2) (hp : P [] c₀)
    (turn : ∀ (c : σ) tl pre d post v (u : PySem.Str → Option Value) h tk own, ds = pre ++ d :: post → DatIn (cst ++ tl) v d → KdSep own tl adr → OwnOff (tl ++ own) adr → Facts (cst ++ tl) c → P pre c →
      Fr h₀ env.locals h (fun y => if y = x then u y else kstB (fun z => if stored.contains z then u z else m₀ z) (ps c) y) → News h₀ env.locals h (Led c ++ (cst ++ (tl ++ own))) →
      wpAny (model prog w) A (assign target env v) (fun _ s₂ => wpAny (model prog w) A (execs body env) (InvPostG h₀ env.locals (KdS Led cst ps Facts x stored m₀ P adr (pre ++ [d])) own { s with heap := h, toks := tk } Q) E s₂) E { s with heap := h, toks := tk })
    (done : ∀ (c : σ) tl (u : PySem.Str → Option Value) h tk, OwnOff tl adr → Facts (cst ++ tl) c → P ds c → Fr h₀ env.locals h (fun y => if y = x then u y else kstB (fun z => if stored.contains z then u z else m₀ z) (ps c) y) → News h₀ env.locals h (Led c ++ (cst ++ tl)) → Q .next { s with heap := h, toks := tk }) :
    wpAny (model prog w) A (pyIter (.ref l)) (fun it s₂ => TurnsAt prog w A h₀ env target body Q E it s₂) E s := by
  have hlen : vs.length = ds.length := hd.length
  have e0 : Led c₀ ++ (cst ++ []) = Led c₀ ++ cst := by rw [List.append_nil]
  refine mt_list (news := Led c₀ ++ cst) (fun i m nx => KdS Led cst ps Facts x stored m₀ P adr (ds.take i) m nx) hh (List.mem_append.mpr (.inr hl)) F N ⟨c₀, [], e0.symm, fun _ hp => (nomatch hp), by rw [List.append_nil]; exact hf, hk, fun _ _ _ _ => rfl, by simpa using hp⟩ ?_ ?_
  · rintro i v m₁ nx h tk own hv hoff _ ⟨c, tl, rfl, ht, hf', h1, h2, hp'⟩ F₁ N₁
    have hi : i < ds.length := by rw [← hlen]; exact (List.getElem?_eq_some_iff.mp hv).1
    obtain ⟨v', hv', hD⟩ := hd.get hi
    have ev : v' = v := by rw [hv] at hv'; exact (Option.some.inj hv').symm
    rw [ev] at hD
    have hs : ds.take (i + 1) = ds.take i ++ [ds[i]'hi] := by rw [List.take_add_one, List.getElem?_eq_getElem hi] <;> rfl
    have e : ds = ds.take i ++ (ds[i]'hi) :: ds.drop (i + 1) := by
      have h9 := List.take_append_drop (i + 1) ds
      rw [hs, List.append_assoc] at h9
      exact h9.symm
    obtain ⟨o1, o2⟩ := kd_split (hadr c) hoff
    rw [List.append_assoc, List.append_assoc] at N₁
    refine wpAny_mono (turn c tl _ _ _ v m₁ h tk own e (DatIn.mono (fun p hp => List.mem_append.mpr (.inl hp)) hD) ⟨o1, o2, ht⟩ (kd_off o1 ht) hf' hp' (kst_frOut h1 h2 F₁) N₁) (fun _ s₂ q => wpAny_mono q (fun f s₃ p => ?_) fun _ _ x => x) fun _ _ x => x
    have up : InvEndG h₀ env.locals (KdS Led cst ps Facts x stored m₀ P adr (ds.take i ++ [ds[i]'hi])) own { s with heap := h, toks := tk } s₃ →
        InvEndG h₀ env.locals (fun m' ny => (l, listOf vs.toArray nn) ∈ ny ∧ KdS Led cst ps Facts x stored m₀ P adr (ds.take (i + 1)) m' ny) own { s with heap := h, toks := tk } s₃ := by
      rintro ⟨h', tk', m', news', ny, e', F', N', hn', ho', ha, hS⟩
      refine ⟨h', tk', m', news', ny, e', F', N', hn', ho', ha, ?_, by rw [hs]; exact hS⟩
      obtain ⟨c', tl', rfl, _⟩ := hS
      exact List.mem_append.mpr (.inr (List.mem_append.mpr (.inl hl)))
    cases f with
    | ret v => exact p
    | brk => exact p
    | next => exact up p
    | cont => exact up p
  · rintro m₁ nx h tk ⟨c, tl, rfl, ht, hf', h1, h2, hp'⟩ F₁ N₁
    rw [hlen, List.take_length] at hp'
    exact done c tl m₁ h tk ht hf' hp' (kst_frOut h1 h2 F₁) N₁

theorem fr_over {L : Addr} {h : Heap} {stored : List PySem.Str} {m₀ m₁ : PySem.Str → Option Value} (hz : ∀ z, stored.contains z = false → m₁ z = m₀ z) (F : Fr h₀ L h m₁) : Fr h₀ L h (fun z => if stored.contains z then m₁ z else m₀ z) := by
  have e : (fun z => if stored.contains z then m₁ z else m₀ z) = m₁ := by
    funext z
    cases h3 : stored.contains z with
    | true => simp
    | false => simp only [Bool.false_eq_true, if_false]; exact (hz z h3).symm
  rw [e]
  exact F
/-- a loop of one turn: what the turn leaves is what stands behind the loop -/
theorem mt_one {l : Addr} {v : Value} {nn : Nat} {m₀ : PySem.Str → Option Value} {news : List (Addr × Obj)} (stored : List PySem.Str) (R : List (Addr × Obj) → Prop)
    (hh : A.handled = none) (hl : (l, listOf [v].toArray nn) ∈ news) (F : Fr h₀ env.locals s.heap m₀) (N : News h₀ env.locals s.heap news)
    (turn : ∀ h tk own, OwnOff own (news.map (·.1)) → Fr h₀ env.locals h m₀ → News h₀ env.locals h (news ++ own) →
      wpAny (model prog w) A (assign target env v) (fun _ s₂ => wpAny (model prog w) A (execs body env) (InvPostG h₀ env.locals (fun m' ny => (l, listOf [v].toArray nn) ∈ ny ∧ R ny ∧ ∀ z, stored.contains z = false → m' z = m₀ z) own { s with heap := h, toks := tk } Q) E s₂) E { s with heap := h, toks := tk })
    (done : ∀ (u : PySem.Str → Option Value) nx h tk, R nx → Fr h₀ env.locals h (fun z => if stored.contains z then u z else m₀ z) → News h₀ env.locals h nx → Q .next { s with heap := h, toks := tk }) :
    wpAny (model prog w) A (pyIter (.ref l)) (fun it s₂ => TurnsAt prog w A h₀ env target body Q E it s₂) E s := by
  refine mt_list (fun i m nx => if i = 0 then m = m₀ ∧ nx = news else R nx ∧ ∀ z, stored.contains z = false → m z = m₀ z) hh hl F N ⟨rfl, rfl⟩ ?_ ?_
  · intro i u m₁ nx h tk own hu hoff _ hj F₁ N₁
    have hi : i = 0 := by
      have := (List.getElem?_eq_some_iff.mp hu).1
      simp only [List.length_cons, List.length_nil] at this
      omega
    subst hi
    obtain ⟨rfl, rfl⟩ := hj
    cases hu
    exact turn h tk own hoff F₁ N₁
  · intro m₁ nx h tk hj F₁ N₁
    obtain ⟨hR, hz⟩ : R nx ∧ ∀ z, stored.contains z = false → m₁ z = m₀ z := hj
    refine done m₁ nx h tk hR ?_ N₁
    have e : (fun z => if stored.contains z then m₁ z else m₀ z) = m₁ := by
      funext z
      cases h3 : stored.contains z with
      | true => simp
      | false => simp only [Bool.false_eq_true, if_false]; exact (hz z h3).symm
    rw [e]
    exact F₁

/-- a loop over enumerate that leaves the ledger as it was -/
theorem mt_enumK {elts : List PySem.Expr} {kk : Nat} {pos : Pos} {l : Addr} {vs : List Value} {nn : Nat} {m₀ : PySem.Str → Option Value} {keep : List (Addr × Obj)} (stored : List PySem.Str)
    (hh : A.handled = none) (hl : (l, listOf vs.toArray nn) ∈ keep) (F : Fr h₀ env.locals s.heap m₀) (N : News h₀ env.locals s.heap keep)
    (turn : ∀ (i : Nat) x T t (u : PySem.Str → Option Value) h tk own, vs[i]? = some x → IsTup h T #[.int (i : Int) t, x] → OwnOff own (keep.map (·.1)) → Fr h₀ env.locals h (fun z => if stored.contains z then u z else m₀ z) → News h₀ env.locals h (keep ++ own) →
      wpAny (model prog w) A (assign (.Tuple elts kk pos) env (.ref T)) (fun _ s₂ => wpAny (model prog w) A (execs body env) (InvPostG h₀ env.locals (fun m' ny => ny = keep ∧ ∀ z, stored.contains z = false → m' z = m₀ z) own { s with heap := h, toks := tk } Q) E s₂) E { s with heap := h, toks := tk })
    (done : ∀ (u : PySem.Str → Option Value) h tk, Fr h₀ env.locals h (fun z => if stored.contains z then u z else m₀ z) → News h₀ env.locals h keep → Q .next { s with heap := h, toks := tk }) :
    wpAny (model prog w) A (call (.type "enumerate") [.ref l]) (fun xv s₁ => wpAny (model prog w) A (pyIter xv) (fun it s₂ => TurnsAt prog w A h₀ env (.Tuple elts kk pos) body Q E it s₂) E s₁) E s := by
  refine mt_enum (fun _ m nx => nx = keep ∧ ∀ z, stored.contains z = false → m z = m₀ z) hh hl F N ⟨rfl, fun _ _ => rfl⟩ ?_ ?_
  · rintro i x T t m₁ nx h tk own hx hT hoff _ ⟨rfl, hz⟩ F₁ N₁
    refine wpAny_mono (turn i x T t m₁ h tk own hx hT hoff (fr_over hz F₁) N₁) (fun _ s₂ q => wpAny_mono q (fun f s₃ p => ?_) fun _ _ e => e) fun _ _ e => e
    have up : InvEndG h₀ env.locals (fun m' ny => ny = nx ∧ ∀ z, stored.contains z = false → m' z = m₀ z) own { s with heap := h, toks := tk } s₃ →
        InvEndG h₀ env.locals (fun m' ny => (l, listOf vs.toArray nn) ∈ ny ∧ ny = nx ∧ ∀ z, stored.contains z = false → m' z = m₀ z) own { s with heap := h, toks := tk } s₃ := by
      rintro ⟨h', tk', m', news', ny, e', F', N', hn', ho', ha, e, hS⟩
      exact ⟨h', tk', m', news', ny, e', F', N', hn', ho', ha, e ▸ hl, e, hS⟩
    cases f with
    | ret v => exact p
    | brk => exact p
    | next => exact up p
    | cont => exact up p
  · rintro m₁ nx h tk ⟨rfl, hz⟩ F₁ N₁
    exact done m₁ h tk (fr_over hz F₁) N₁

theorem upd_same {d : Addr} : ∀ {pre pre' post post' : List (Addr × Obj)} {o : Obj}, (∀ p ∈ pre, p.1 ≠ d) → (∀ p ∈ pre', p.1 ≠ d) → pre ++ (d, o) :: post = pre' ++ (d, o) :: post' → pre = pre' ∧ post = post'
  | [], [], _, _, _, _, _, e => ⟨rfl, (List.cons.inj e).2⟩
  | [], p :: _, _, _, _, _, h2, e => absurd (congrArg Prod.fst (List.cons.inj e).1).symm (h2 p (.head _))
  | q :: _, [], _, _, _, h1, _, e => absurd (congrArg Prod.fst (List.cons.inj e).1) (h1 q (.head _))
  | _ :: _, _ :: _, _, _, _, h1, h2, e => by
    obtain ⟨e1, e2⟩ := List.cons.inj e
    obtain ⟨a, b⟩ := upd_same (fun p hp => h1 p (.tail _ hp)) (fun p hp => h2 p (.tail _ hp)) e2
    exact ⟨by rw [e1, a], b⟩
/-- a ledger of which one object is turned, with that object ahead -/
theorem upd_front {d : Addr} {o : Obj} {o' : Tok → Obj} {news : List (Addr × Obj)} {news' : Tok → List (Addr × Obj)} (hU : ∀ t, Upd d o (o' t) news (news' t)) :
    ∃ rest, OwnOff rest [d] ∧ (∀ p ∈ (d, o) :: rest, p ∈ news) ∧ (∀ p ∈ rest, p ∈ news) ∧ (∀ p ∈ news, p ∈ (d, o) :: rest) ∧ ∀ t, ∀ p ∈ news' t, p ∈ (d, o' t) :: rest := by
  obtain ⟨pre, post, rfl, -, o1, o2⟩ := (hU 0).split
  refine ⟨pre ++ post, ?_, ?_, ?_, ?_, ?_⟩
  · intro p hp b hb
    rw [List.mem_singleton.mp hb]
    exact (List.mem_append.mp hp).elim (o1 p) (o2 p)
  · intro p hp
    rcases List.mem_cons.mp hp with rfl | hp
    · exact List.mem_append.mpr (.inr (.head _))
    · exact (List.mem_append.mp hp).elim (fun h => List.mem_append.mpr (.inl h)) fun h => List.mem_append.mpr (.inr (.tail _ h))
  · intro p hp
    exact (List.mem_append.mp hp).elim (fun h => List.mem_append.mpr (.inl h)) fun h => List.mem_append.mpr (.inr (.tail _ h))
  · intro p hp
    rcases List.mem_append.mp hp with hp | hp
    · exact .tail _ (List.mem_append.mpr (.inl hp))
    · rcases List.mem_cons.mp hp with rfl | hp
      · exact .head _
      · exact .tail _ (List.mem_append.mpr (.inr hp))
  · intro t p hp
    obtain ⟨pre', post', e1, e2, o1', o2'⟩ := (hU t).split
    obtain ⟨rfl, rfl⟩ := upd_same o1 o1' e1
    rw [e2] at hp
    rcases List.mem_append.mp hp with hp | hp
    · exact .tail _ (List.mem_append.mpr (.inl hp))
    · rcases List.mem_cons.mp hp with rfl | hp
      · exact .head _
      · exact .tail _ (List.mem_append.mpr (.inr hp))
end
end Mine
end

section
namespace Mine
theorem lt_of_all {d : Addr} : ∀ {l : List (Addr × Obj)}, AllLt d l → ∀ p ∈ l, @LT.lt Nat _ p.1 d
  | [], _, _, h => nomatch h
  | q :: r, h, p, hp => by
    obtain ⟨h1, h2⟩ := h
    cases hp with
    | head => exact h1
    | tail _ hp => exact lt_of_all h2 p hp
def noteStep (rows : List Row) (st : List (PySem.Str × Int) × Int) (k : Nat) : List (PySem.Str × Int) × Int := match rows[k]? with
  | some (.rem x) => (st.1 ++ [(x, st.2)], st.2)
  | some (.set v) => (st.1, v)
  | _ => st
/-- what is noted, and the variable, when these rows have been done -/
def noted (rows : List Row) (done : List Nat) : List (PySem.Str × Int) × Int := done.foldl (noteStep rows) ([], 0)
theorem noted_snoc (rows : List Row) (done : List Nat) (k : Nat) : noted rows (done ++ [k]) = noteStep rows (noted rows done) k := by
  unfold noted
  rw [List.foldl_append]
  rfl
def noteDat (p : PySem.Str × Int) : Dat := .tuple [.str p.1, .int p.2]
/-- the values' dict holds the variable -/
def XOk (kvs : List (PySem.Str × Value)) (x : Int) : Prop := ∃ t, (valueAt kvs (PySem.Str.ofString "X")).getD (.int 0 t) = .int x t ∨ ((valueAt kvs (PySem.Str.ofString "X")) = none ∧ x = 0)
theorem xOk_none : XOk [] 0 := ⟨0, .inr ⟨rfl, rfl⟩⟩
theorem xOk_set (kvs : List (PySem.Str × Value)) (x : Int) (t : Tok) : XOk (stored kvs (PySem.Str.ofString "X") (.int x t)) x := ⟨t, .inl (by rw [valueAt_stored]; rfl)⟩
theorem xOk_get {kvs : List (PySem.Str × Value)} {x : Int} (h : XOk kvs x) (t : Tok) : ∃ t', (valueAt kvs (PySem.Str.ofString "X")).getD (.int 0 t) = .int x t' := by
  obtain ⟨t0, h | ⟨h, rfl⟩⟩ := h
  · cases hv : valueAt kvs (PySem.Str.ofString "X") with
    | none =>
      rw [hv] at h
      obtain ⟨rfl, -⟩ := Value.int.inj h
      exact ⟨t, rfl⟩
    | some v =>
      rw [hv] at h
      exact ⟨t0, h⟩
  · exact ⟨t, by rw [h]; rfl⟩

/-- what the loop of go keeps -/
def GoP (rows : List Row) (i : Nat) (at_ : Int) (nds : List Dat) (kvs : List (PySem.Str × Value)) : Prop :=
  ∃ k : Nat, at_ = (k : Int) ∧ k ≤ rows.length ∧ i ≤ (wayFrom rows 0).length ∧ (wayFrom rows 0).take i ++ wayFrom rows k = wayFrom rows 0 ∧
    nds = (noted rows ((wayFrom rows 0).take i)).1.map noteDat ∧ XOk kvs (noted rows ((wayFrom rows 0).take i)).2 ∧ kvs.length ≤ i
theorem goP_start (rows : List Row) : GoP rows 0 0 [] [] := ⟨0, rfl, Nat.zero_le _, Nat.zero_le _, rfl, rfl, xOk_none, Nat.le_refl _⟩
theorem take_next {α : Type} {l : List α} {i : Nat} {k : α} {r : List α} (h : l.take i ++ k :: r = l) (hi : i ≤ l.length) : l.take (i + 1) = l.take i ++ [k] ∧ i < l.length := by
  have hl : (l.take i).length = i := by rw [List.length_take]; omega
  have hlen : l.length = i + (r.length + 1) := by
    have := congrArg List.length h
    rw [List.length_append, List.length_cons, hl] at this
    exact this.symm
  have hg : l[i]? = some k := by
    rw [← h, List.getElem?_append_right (by rw [hl]; exact Nat.le_refl _), hl, Nat.sub_self]
    rfl
  exact ⟨by rw [List.take_add_one, hg]; rfl, by omega⟩
theorem goP_step {rows : List Row} (hok : RowsOk rows.length rows) {i : Nat} {at_ at' : Int} {nds nds' : List Dat} {kvs kvs' : List (PySem.Str × Value)} (h : GoP rows i at_ nds kvs) (hlt : at_ < (rows.length : Int)) (he : at' = (nxt rows at_.toNat : Nat))
    (hn : ∀ st : List (PySem.Str × Int) × Int, nds = st.1.map noteDat → XOk kvs st.2 → nds' = (noteStep rows st at_.toNat).1.map noteDat ∧ XOk kvs' (noteStep rows st at_.toNat).2) (hl : kvs'.length ≤ kvs.length + 1) : GoP rows (i + 1) at' nds' kvs' := by
  obtain ⟨k, rfl, hk, hi, hw, h1, h2, h3⟩ := h
  have e : (k : Int).toNat = k := by omega
  rw [e] at he hn
  have hk' : k < rows.length := by omega
  have hg := nxt_gt hok hk'
  rw [wayFrom_cons hok hk'] at hw
  obtain ⟨t1, t2⟩ := take_next hw hi
  obtain ⟨n1, n2⟩ := hn _ h1 h2
  refine ⟨nxt rows k, he, hg.2, t2, ?_, ?_, ?_, by omega⟩
  · rw [t1, List.append_assoc]
    exact hw
  · rw [t1, noted_snoc]
    exact n1
  · rw [t1, noted_snoc]
    exact n2
/-- the loop came to the rows' end -/
theorem goP_done {rows : List Row} {i most : Nat} {at_ : Int} {nds : List Dat} {kvs : List (PySem.Str × Value)} (h : GoP rows i at_ nds kvs) (hge : (rows.length : Int) ≤ at_) (hm : i ≤ most) :
    at_ = (rows.length : Int) ∧ (wayFrom rows 0).length ≤ most ∧ nds = (noted rows ((wayFrom rows 0).take most)).1.map noteDat ∧ XOk kvs (noted rows ((wayFrom rows 0).take most)).2 := by
  obtain ⟨k, rfl, hk, hi, hw, h1, h2, h3⟩ := h
  have hk' : k = rows.length := by omega
  subst hk'
  rw [wayFrom_nil (Nat.le_refl _), List.append_nil] at hw
  have hl : (wayFrom rows 0).length = i := by
    have := congrArg List.length hw
    rw [List.length_take] at this
    omega
  have e : (wayFrom rows 0).take most = (wayFrom rows 0).take i := by rw [hw, List.take_of_length_le (by omega)]
  exact ⟨rfl, by omega, by rw [e]; exact h1, by rw [e]; exact h2⟩
theorem goP_more {rows : List Row} (hok : RowsOk rows.length rows) {most : Nat} {at_ : Int} {nds : List Dat} {kvs : List (PySem.Str × Value)} (h : GoP rows most at_ nds kvs) (hlt : at_ < (rows.length : Int)) :
    ¬ (wayFrom rows 0).length ≤ most ∧ nds = (noted rows ((wayFrom rows 0).take most)).1.map noteDat ∧ XOk kvs (noted rows ((wayFrom rows 0).take most)).2 := by
  obtain ⟨k, rfl, hk, hi, hw, h1, h2, h3⟩ := h
  rw [wayFrom_cons hok (show k < rows.length by omega)] at hw
  have := (take_next hw hi).2
  exact ⟨by omega, h1, h2⟩
theorem goP_bounds {rows : List Row} {i : Nat} {at_ : Int} {nds : List Dat} {kvs : List (PySem.Str × Value)} (h : GoP rows i at_ nds kvs) : 0 ≤ at_ ∧ at_ ≤ (rows.length : Int) ∧ kvs.length ≤ i ∧ nds.length ≤ i ∧ i ≤ rows.length := by
  obtain ⟨k, rfl, hk, hi, hw, h1, h2, h3⟩ := h
  have hf : ∀ (done : List Nat) (st : List (PySem.Str × Int) × Int), (done.foldl (noteStep rows) st).1.length ≤ st.1.length + done.length := by
    intro done
    induction done with
    | nil => intro st; exact Nat.le_refl _
    | cons d r ih =>
      intro st
      rw [List.foldl_cons, List.length_cons]
      have h1 := ih (noteStep rows st d)
      have h2 : (noteStep rows st d).1.length ≤ st.1.length + 1 := by
        unfold noteStep
        split <;> simp
      omega
  have hway : (wayFrom rows 0).length ≤ rows.length := by
    have hw : ∀ f k, (wayF rows f k).length ≤ f := by
      intro f
      induction f with
      | zero => intro k; exact Nat.le_refl _
      | succ f ih =>
        intro k
        unfold wayF
        split
        · rw [List.length_cons]; exact Nat.succ_le_succ (ih _)
        · exact Nat.zero_le _
    exact hw _ _
  refine ⟨by omega, by omega, h3, ?_, by omega⟩
  rw [h1, List.length_map]
  have := hf ((wayFrom rows 0).take i) ([], 0)
  rw [List.length_take] at this
  unfold noted
  simp only [List.length_nil] at this
  omega

theorem xOk_unique {kvs : List (PySem.Str × Value)} {x y : Int} (h : XOk kvs x) (k : XOk kvs y) : x = y := by
  obtain ⟨t1, h1⟩ := xOk_get h 0
  obtain ⟨t2, h2⟩ := xOk_get k 0
  rw [h1] at h2
  exact (Value.int.inj h2).1
theorem xOk_all {kvs : List (PySem.Str × Value)} {x : Int} (h : XOk kvs x) : ∃ f : Tok → Tok, ∀ t, (valueAt kvs (PySem.Str.ofString "X")).getD (.int 0 t) = .int x (f t) :=
  ⟨fun t => Classical.choose (xOk_get h t), fun t => Classical.choose_spec (xOk_get h t)⟩
theorem goP_x {rows : List Row} {i : Nat} {at_ : Int} {nds : List Dat} {kvs : List (PySem.Str × Value)} (h : GoP rows i at_ nds kvs) : ∃ x, XOk kvs x := by
  obtain ⟨k, _, _, _, _, _, h2, _⟩ := h
  exact ⟨_, h2⟩
theorem goP_rem {rows : List Row} (hok : RowsOk rows.length rows) {i i' : Nat} {at_ at' : Int} {nds : List Dat} {kvs : List (PySem.Str × Value)} {y : PySem.Str} {x : Int} (h : GoP rows i at_ nds kvs) (hi : i' = i + 1) (hlt : at_ < (rows.length : Int)) (hr : rows[at_.toNat]? = some (.rem y)) (hx : XOk kvs x) (he : at' = at_ + 1) :
    GoP rows i' at' (nds ++ [.tuple [.str y, .int x]]) kvs := by
  subst hi
  have h0 := (goP_bounds h).1
  refine goP_step hok h hlt (by rw [nxt_rem hr]; omega) (fun st e hst => ?_) (Nat.le_succ _)
  obtain rfl := xOk_unique hx hst
  unfold noteStep
  rw [hr]
  exact ⟨by rw [e, List.map_append]; rfl, hst⟩
theorem goP_set {rows : List Row} (hok : RowsOk rows.length rows) {i i' : Nat} {at_ at' : Int} {nds : List Dat} {kvs : List (PySem.Str × Value)} {v : Int} {t : Tok} (h : GoP rows i at_ nds kvs) (hi : i' = i + 1) (hlt : at_ < (rows.length : Int)) (hr : rows[at_.toNat]? = some (.set v)) (he : at' = at_ + 1) :
    GoP rows i' at' nds (stored kvs (PySem.Str.ofString "X") (.int v t)) := by
  subst hi
  have h0 := (goP_bounds h).1
  refine goP_step hok h hlt (by rw [nxt_set hr]; omega) (fun st e hst => ?_) (stored_length _ _ _)
  unfold noteStep
  rw [hr]
  exact ⟨e, xOk_set _ _ _⟩
theorem goP_goto {rows : List Row} (hok : RowsOk rows.length rows) {i i' t : Nat} {at_ : Int} {nds : List Dat} {kvs : List (PySem.Str × Value)} (h : GoP rows i at_ nds kvs) (hi : i' = i + 1) (hlt : at_ < (rows.length : Int)) (hr : rows[at_.toNat]? = some (.goto t)) : GoP rows i' (t : Int) nds kvs := by
  subst hi
  refine goP_step hok h hlt (by rw [nxt_goto hr]) (fun st e hst => ?_) (Nat.le_succ _)
  unfold noteStep
  rw [hr]
  exact ⟨e, hst⟩
theorem goP_fin {rows : List Row} (hok : RowsOk rows.length rows) {i most : Nat} {at_ : Int} {nds : List Dat} {kvs : List (PySem.Str × Value)} (h : GoP rows i at_ nds kvs) (hlt : at_ < (rows.length : Int)) (hr : rows[at_.toNat]? = some .fin) (hm : i < most) :
    (wayFrom rows 0).length ≤ most ∧ nds = (noted rows ((wayFrom rows 0).take most)).1.map noteDat ∧ XOk kvs (noted rows ((wayFrom rows 0).take most)).2 := by
  have h1 : GoP rows (i + 1) (rows.length : Int) nds kvs := by
    refine goP_step hok h hlt (by rw [nxt_fin hr]) (fun st e hst => ?_) (Nat.le_succ _)
    unfold noteStep
    rw [hr]
    exact ⟨e, hst⟩
  exact (goP_done h1 (by omega) (by omega)).2

section
variable {prog : Program} {w : World} {A : Around} {E : Value → Shared → Prop} {s : Shared} {h₀ : Heap} {L l : Addr}
theorem flat_item {value slice : PySem.Expr} {news L9 : List (Addr × Obj)} {us : List Value} {rows : List Row} {n : Nat} {k : Int} {u : Tok} {Q : Value → Shared → Prop} (N : News h₀ L s.heap news) (hm : (l, listOf us.toArray n) ∈ news) (hd : DatAll L9 us (numbered flatRow 0 rows))
    (h0 : 0 ≤ k) (h1 : k < (rows.length : Int)) (hfit : k < 2 ^ 63) (h : ∀ v r, rows[k.toNat]? = some r → DatIn L9 v (flatRow k.toNat r) → Q v s)
    (hs : subscripted slice false (.ref l) (.int k u) = operate [.ref l, .int k u] (getItem (.ref l) (.int k u)) := by with_unfolding_all rfl) :
    wpAny (model prog w) A (subscriptTail value slice (.ref l) (.int k u)) Q E s := by
  refine kd_item N hm hd h0 (by rw [numbered_length]; exact h1) hfit (fun v d e _ hD => ?_) hs
  rw [numbered_get, Nat.zero_add] at e
  cases hr : rows[k.toNat]? with
  | none => rw [hr] at e; cases e
  | some r =>
    rw [hr] at e
    cases e
    exact h v r hr hD
theorem place_notin {K : Type} [DecidableEq K] {knd : KeyKind prog w K} {news : List (Addr × Obj)} {o : Obj} {kvs : List (K × Value)} {k : K} {key v : Value} {Q : Value → Shared → Prop} (N : News h₀ L s.heap news) (hp : (l, o) ∈ news) (hd : o.IsDictOf knd kvs) (lo : (l == sysModules) = false) (hkey : knd.is k key = true) (hl : valueAt kvs k = some v)
    (h : Q (.bool false) { s with toks := s.toks + 1 }) : wpAny (model prog w) A (compareOp .NotIn key (.ref l)) Q E s :=
  wpAny_notIn_of hkey lo (kda_dict N hp hd).mapOf (by rw [hl]; exact h)
theorem dict_get_method {K : Type} [DecidableEq K] {knd : KeyKind prog w K} {news : List (Addr × Obj)} {o : Obj} {kvs : List (K × Value)} {pl : Sem Bool} {Q : Value × List Value → Shared → Prop} (N : News h₀ L s.heap news) (hp : (l, o) ∈ news) (hd : o.IsDictOf knd kvs)
    (h : Q (.builtin "dict.get", [.ref l]) s) : wpAny (model prog w) A (getMethod (.ref l) "get" pl) Q E s :=
  have hD := kda_dict N hp hd
  getMethod_builtin hD.typeIs PySem.F.plainAttrs_dict PySem.F.slot_dict_get PySem.F.type_dict_get hD.mapOf.noDict h
theorem dict_get {K : Type} [DecidableEq K] {knd : KeyKind prog w K} {news : List (Addr × Obj)} {o : Obj} {kvs : List (K × Value)} {k : K} {key dflt v : Value} {Q : Value → Shared → Prop} (N : News h₀ L s.heap news) (hp : (l, o) ∈ news) (hd : o.IsDictOf knd kvs) (lo : (l == sysModules) = false) (hkey : knd.is k key = true) (hv : (valueAt kvs k).getD dflt = v)
    (h : Q v { s with toks := s.toks + 1 }) : wpAny (model prog w) A (call (.builtin "dict.get") [.ref l, key, dflt]) Q E s := by
  have hD := kda_dict N hp hd
  exact call_meetsIn PySem.F.slot_dict_get hD.typeIs PySem.F.entry_dict_get (PySem.F.args_dict_get_3 _ _ _) (meets_dict_get_default knd l hkey lo dflt) ⟨_, hD.mapOf, by rw [hv]; exact h⟩
end
/-- what a FlowRun keeps -/
abbrev runD (w : World) (FL VA CO NO : Addr) (b1 b2 t1 t2 t3 t4 t5 t6 t7 : Tok) : Obj :=
  dictOf [keyE w "flat" t1 (.ref FL), keyE w "values" t2 (.ref VA), keyE w "worth_of" t3 (.ref 575), keyE w "bits" t4 (.int 16 b1), keyE w "digits" t5 (.int 9 b2), keyE w "control" t6 (.ref CO), keyE w "notes" t7 (.ref NO)] 7
end Mine
end

section
namespace Mine
theorem wayFrom_len (rows : List Row) : (wayFrom rows 0).length ≤ rows.length := by
  have hw : ∀ f k, (wayF rows f k).length ≤ f := by
    intro f
    induction f with
    | zero => intro k; exact Nat.le_refl _
    | succ f ih =>
      intro k
      unfold wayF
      split
      · rw [List.length_cons]; exact Nat.succ_le_succ (ih _)
      · exact Nat.zero_le _
  exact hw _ _
theorem way_lt (rows : List Row) : ∀ k ∈ wayFrom rows 0, k < rows.length := by
  have hw : ∀ f k, ∀ j ∈ wayF rows f k, j < rows.length := by
    intro f
    induction f with
    | zero => intro k j hj; cases hj
    | succ f ih =>
      intro k j hj
      unfold wayF at hj
      split at hj
      · next hk =>
        rcases List.mem_cons.mp hj with rfl | hj
        · exact hk
        · exact ih _ j hj
      · cases hj
  exact hw _ _
theorem news_cut {h₀ h : Heap} {L : Addr} {a : List (Addr × Obj)} (N : News h₀ L h a) : ∃ b, a = b ∧ News h₀ L h b := ⟨a, rfl, N⟩
/-- what the loop of _law_noted keeps -/
def NoteP (rows : List Row) (pre : List Int) (ds : List Dat) (x : Int) : Prop :=
  ∃ pd : List Nat, pre = pd.map Int.ofNat ∧ ds = (noted rows pd).1.map noteDat ∧ x = (noted rows pd).2
theorem noteP_start (rows : List Row) : NoteP rows [] [] 0 := ⟨[], rfl, rfl, rfl⟩
theorem noteP_step {rows : List Row} {pre : List Int} {ds ds' : List Dat} {x x' n : Int} (h : NoteP rows pre ds x) (hn : 0 ≤ n)
    (hs : ∀ st : List (PySem.Str × Int) × Int, ds = st.1.map noteDat → x = st.2 → ds' = (noteStep rows st n.toNat).1.map noteDat ∧ x' = (noteStep rows st n.toNat).2) : NoteP rows (pre ++ [n]) ds' x' := by
  obtain ⟨pd, h1, h2, h3⟩ := h
  obtain ⟨q1, q2⟩ := hs _ h2 h3
  refine ⟨pd ++ [n.toNat], ?_, by rw [noted_snoc]; exact q1, by rw [noted_snoc]; exact q2⟩
  rw [List.map_append, h1]
  congr 1
  show [n] = [((n.toNat : Nat) : Int)]
  rw [Int.toNat_of_nonneg hn]
theorem noteP_rem {rows : List Row} {pre : List Int} {ds : List Dat} {x n : Int} {y : PySem.Str} (h : NoteP rows pre ds x) (hn : 0 ≤ n) (hr : rows[n.toNat]? = some (.rem y)) : NoteP rows (pre ++ [n]) (ds ++ [.tuple [.str y, .int x]]) x := by
  refine noteP_step h hn fun st e ex => ?_
  unfold noteStep
  rw [hr]
  exact ⟨by rw [e, ex, List.map_append]; rfl, ex⟩
theorem noteP_set {rows : List Row} {pre : List Int} {ds : List Dat} {x n v : Int} (h : NoteP rows pre ds x) (hn : 0 ≤ n) (hr : rows[n.toNat]? = some (.set v)) : NoteP rows (pre ++ [n]) ds v := by
  refine noteP_step h hn fun st e ex => ?_
  unfold noteStep
  rw [hr]
  exact ⟨e, rfl⟩
theorem noteP_goto {rows : List Row} {pre : List Int} {ds : List Dat} {x n : Int} {t : Nat} (h : NoteP rows pre ds x) (hn : 0 ≤ n) (hr : rows[n.toNat]? = some (.goto t)) : NoteP rows (pre ++ [n]) ds x := by
  refine noteP_step h hn fun st e ex => ?_
  unfold noteStep
  rw [hr]
  exact ⟨e, ex⟩
theorem noteP_fin {rows : List Row} {pre : List Int} {ds : List Dat} {x n : Int} (h : NoteP rows pre ds x) (hn : 0 ≤ n) (hr : rows[n.toNat]? = some .fin) : NoteP rows (pre ++ [n]) ds x := by
  refine noteP_step h hn fun st e ex => ?_
  unfold noteStep
  rw [hr]
  exact ⟨e, ex⟩
theorem noteP_done {rows : List Row} {done : List Nat} {ds : List Dat} {x : Int} (h : NoteP rows (done.map Int.ofNat) ds x) : ds = (noted rows done).1.map noteDat ∧ x = (noted rows done).2 := by
  obtain ⟨pd, h1, h2, h3⟩ := h
  have : done = pd := by
    refine List.map_inj_right (f := Int.ofNat) (fun a b e => ?_) |>.mp h1
    exact Int.ofNat.inj e
  subst this
  exact ⟨h2, h3⟩
theorem noteP_len {rows : List Row} {pre : List Int} {ds : List Dat} {x : Int} (h : NoteP rows pre ds x) : ds.length ≤ pre.length := by
  obtain ⟨pd, h1, h2, -⟩ := h
  have hf : ∀ (done : List Nat) (st : List (PySem.Str × Int) × Int), (done.foldl (noteStep rows) st).1.length ≤ st.1.length + done.length := by
    intro done
    induction done with
    | nil => intro st; exact Nat.le_refl _
    | cons d r ih =>
      intro st
      rw [List.foldl_cons, List.length_cons]
      have h1 := ih (noteStep rows st d)
      have h2 : (noteStep rows st d).1.length ≤ st.1.length + 1 := by
        unfold noteStep
        split <;> simp
      omega
  have := hf pd ([], 0)
  rw [h2, h1, List.length_map, List.length_map]
  unfold noted
  simpa using this
/-- every text that is noted can be laid -/
theorem noted_ok {rows : List Row} (htx : TextOk rows) (done : List Nat) : ∀ d ∈ (noted rows done).1.map noteDat, kqdOk 7 d = true := by
  have key : ∀ (done : List Nat) (st : List (PySem.Str × Int) × Int), (∀ d ∈ st.1.map noteDat, kqdOk 7 d = true) → ∀ d ∈ (done.foldl (noteStep rows) st).1.map noteDat, kqdOk 7 d = true := by
    intro done
    induction done with
    | nil => intro st h; exact h
    | cons k r ih =>
      intro st h
      rw [List.foldl_cons]
      refine ih _ ?_
      unfold noteStep
      split
      · next x hx =>
        rw [List.map_append]
        intro d hd
        rcases List.mem_append.mp hd with hd | hd
        · exact h d hd
        · rw [List.mem_singleton.mp hd]
          have := htx k x hx
          simp [noteDat, kqdOk, this]
      · exact h
      · exact h
  exact key done _ (by simp)
section
variable {prog : Program} {w : World} {A : Around} {E : Value → Shared → Prop} {s : Shared} {h₀ : Heap} {L : Addr}
/-- the end at an int, nothing else being changed -/
def IntEnd (z : Int) (s : Shared) (v : Value) (s' : Shared) : Prop := ∃ t tk, v = .int z t ∧ s' = { s with toks := tk }
/-- both ways of an expression give the same int: one way goes on -/
theorem merge_int {e : PySem.Expr} {env : Env} {z : Int} {Q : Value → Shared → Prop} (h : wpAny (model prog w) A (eval e env) (IntEnd z s) E s) (k : ∀ t tk, Q (.int z t) { s with toks := tk }) :
    wpAny (model prog w) A (eval e env) Q E s :=
  wpAny_mono h (fun v s' h => by obtain ⟨t, tk, rfl, rfl⟩ := h; exact k t tk) (fun _ _ e => e)
theorem same_ne {a b : Value} {news n₁ n₂ : List (Addr × Obj)} {d : Dat} {Q : Value → Shared → Prop} (N : News h₀ L s.heap news) (Da : DatIn n₁ a d) (sa : ∀ p ∈ n₁, p ∈ news) (Db : DatIn n₂ b d) (sb : ∀ p ∈ n₂, p ∈ news)
    (ok : kqdOk 9 d = true) (hu : A.units + 64 < cLine) (h : Q (.bool false) s) : wpAny (model prog w) A (compareOp .NotEq a b) Q E s := by
  obtain ⟨as, ra⟩ := kqd_in N 9 (Da.mono sa) ok
  obtain ⟨bs, rb⟩ := kqd_in N 9 (Db.mono sb) ok
  have l := kqd_lay 9 d ok
  have e : PyData.eqv (kqdP d) (kqdP d) = true := (kqd_eqv 9 d d 9 ok ok).mpr rfl
  have sh : SeqAt.shaped (kqdP d) = true := by
    unfold SeqAt.shaped
    rw [l.1, Bool.true_and]
    exact decide_eq_true (Nat.le_trans l.2 (by decide))
  exact ne_dataH ra rb sh sh hu (by rw [e]; exact h)
end
end Mine
end

section
namespace Mine
/-- a walk's post put out of sight: what is known of it stands in the context -/
theorem hide_flow {α : Type} {M : Model} {A : Around} {t : Sem α} {Q : α → Shared → Prop} {E : Value → Shared → Prop} {s : Shared}
    (h : ∀ Q' : α → Shared → Prop, (∀ f s₂, Q f s₂ → Q' f s₂) → wpAny M A t Q' E s) : wpAny M A t Q E s := h Q fun _ _ q => q
section
variable {α : Type} {a : α} {l l' r : List α} {P : α → Prop}
theorem sub_nil : ∀ p ∈ ([] : List α), P p := fun _ h => nomatch h
theorem sub_refl : ∀ p ∈ l, p ∈ l := fun _ h => h
theorem sub_both (h : ∀ p ∈ l, p ∈ l') : ∀ p ∈ a :: l, p ∈ a :: l' := fun _ q => (List.mem_cons.mp q).elim (fun e => e ▸ .head _) fun q => .tail _ (h _ q)
theorem sub_cons (h : P a) (k : ∀ p ∈ l, P p) : ∀ p ∈ a :: l, P p := fun _ q => (List.mem_cons.mp q).elim (fun e => e ▸ h) (k _)
theorem sub_app (h : ∀ p ∈ l, P p) (k : ∀ p ∈ l', P p) : ∀ p ∈ l ++ l', P p := fun _ q => (List.mem_append.mp q).elim (h _) (k _)
theorem sub_skip (h : ∀ p ∈ l, p ∈ l') : ∀ p ∈ l, p ∈ a :: l' := fun _ q => .tail _ (h _ q)
theorem sub_left (h : ∀ p ∈ l, p ∈ l') : ∀ p ∈ l, p ∈ l' ++ r := fun _ q => List.mem_append.mpr (.inl (h _ q))
theorem sub_right (h : ∀ p ∈ l, p ∈ r) : ∀ p ∈ l, p ∈ l' ++ r := fun _ q => List.mem_append.mpr (.inr (h _ q))
theorem mem_left (h : a ∈ l) : a ∈ l ++ r := List.mem_append.mpr (.inl h)
theorem mem_right (h : a ∈ r) : a ∈ l ++ r := List.mem_append.mpr (.inr h)
end
abbrev tupN (vs : List Value) (n : Nat) : Obj := { cls := .type "tuple", data := .seq vs.toArray n }
section
variable {L : List (Addr × Obj)} {x : Value} {G : Prop}
theorem dat_tuple {ds : List Dat} (h : DatIn L x (.tuple ds)) : ∃ a vs n, x = .ref a ∧ (a, tupN vs n) ∈ L ∧ DatAll L vs ds := by
  cases h with
  | tuple h r => exact ⟨_, _, _, rfl, h, r⟩
theorem dat_list {ds : List Dat} (h : DatIn L x (.list ds)) : ∃ a vs n, x = .ref a ∧ (a, listOf vs.toArray n) ∈ L ∧ DatAll L vs ds := by
  cases h with
  | list h r => exact ⟨_, _, _, rfl, h, r⟩
theorem dat_str {y : PySem.Str} (h : DatIn L x (.str y)) : ∃ t, x = .str y t := by cases h; exact ⟨_, rfl⟩
theorem dat_int {i : Int} (h : DatIn L x (.int i)) : ∃ t, x = .int i t := by cases h; exact ⟨_, rfl⟩
theorem dat_cons {vs : List Value} {d : Dat} {ds : List Dat} (h : DatAll L vs (d :: ds)) : ∃ v vs', vs = v :: vs' ∧ DatIn L v d ∧ DatAll L vs' ds := by
  cases h with
  | cons h r => exact ⟨_, _, rfl, h, r⟩
theorem dat_nil {vs : List Value} (h : DatAll L vs []) : vs = [] := by cases h; rfl
/-- the four kinds of a row, as they lie in the ledger -/
theorem row4 {r : Row} (h : DatIn L x r.dat)
    (h1 : ∀ y a n t1 t2, r = .rem y → x = .ref a → (a, ({ cls := .type "tuple", data := .seq [.str (PySem.Str.ofString "REM") t1, .str y t2].toArray n } : Obj)) ∈ L → G)
    (h2 : ∀ v a b c n1 n2 n3 t1 t2 t3 t4 t5, r = .set v → x = .ref a → (a, ({ cls := .type "tuple", data := .seq [.str (PySem.Str.ofString "LET") t1, .ref b, .ref c].toArray n1 } : Obj)) ∈ L →
      (b, ({ cls := .type "tuple", data := .seq [.str (PySem.Str.ofString "name") t2, .str (PySem.Str.ofString "X") t3].toArray n2 } : Obj)) ∈ L → (c, ({ cls := .type "tuple", data := .seq [.str (PySem.Str.ofString "whole") t4, .int v t5].toArray n3 } : Obj)) ∈ L → G)
    (h3 : ∀ t a n t1 t2, r = .goto t → x = .ref a → (a, ({ cls := .type "tuple", data := .seq [.str (PySem.Str.ofString "GOTO") t1, .int (10 * ((t : Int) + 1)) t2].toArray n } : Obj)) ∈ L → G)
    (h4 : ∀ a n t1, r = .fin → x = .ref a → (a, ({ cls := .type "tuple", data := .seq [.str (PySem.Str.ofString "END") t1].toArray n } : Obj)) ∈ L → G) : G := by
  cases r with
  | rem y =>
    obtain ⟨a, vsq1, n, rfl, m, hq1⟩ := dat_tuple h
    obtain ⟨vq1, vsq2, rfl, hvq1, hq2⟩ := dat_cons hq1
    obtain ⟨t1, rfl⟩ := dat_str hvq1
    obtain ⟨vq2, vsq3, rfl, hvq2, hq3⟩ := dat_cons hq2
    obtain ⟨t2, rfl⟩ := dat_str hvq2
    obtain rfl := dat_nil hq3
    exact h1 _ _ _ _ _ rfl rfl m
  | set v =>
    obtain ⟨a, vsq4, n, rfl, m, hq4⟩ := dat_tuple h
    obtain ⟨uq1, vsq5, rfl, hvq3, hq5⟩ := dat_cons hq4
    obtain ⟨t1, rfl⟩ := dat_str hvq3
    obtain ⟨uq2, vsq6, rfl, hbq1, hq6⟩ := dat_cons hq5
    obtain ⟨uq3', vsq7, rfl, hcq1, hq7⟩ := dat_cons hq6
    obtain rfl := dat_nil hq7
    obtain ⟨b, vb, nb, rfl, mb, hbq2⟩ := dat_tuple hbq1
    obtain ⟨c, vc, nc, rfl, mc, hcq2⟩ := dat_tuple hcq1
    obtain ⟨uq4, vsq8, rfl, hvq4, hbq3⟩ := dat_cons hbq2
    obtain ⟨t2, rfl⟩ := dat_str hvq4
    obtain ⟨uq5, vsq9, rfl, hvq5, hbq4⟩ := dat_cons hbq3
    obtain ⟨t3, rfl⟩ := dat_str hvq5
    obtain rfl := dat_nil hbq4
    obtain ⟨uq6, vsq10, rfl, hvq6, hcq3⟩ := dat_cons hcq2
    obtain ⟨t4, rfl⟩ := dat_str hvq6
    obtain ⟨uq7, vsq11, rfl, hvq7, hcq4⟩ := dat_cons hcq3
    obtain ⟨t5, rfl⟩ := dat_int hvq7
    obtain rfl := dat_nil hcq4
    exact h2 _ _ _ _ _ _ _ _ _ _ _ _ rfl rfl m mb mc
  | goto t =>
    obtain ⟨a, vsq12, n, rfl, m, hq8⟩ := dat_tuple h
    obtain ⟨vq3, vsq13, rfl, hvq8, hq9⟩ := dat_cons hq8
    obtain ⟨t1, rfl⟩ := dat_str hvq8
    obtain ⟨vq4, vsq14, rfl, hvq9, hq10⟩ := dat_cons hq9
    obtain ⟨t2, rfl⟩ := dat_int hvq9
    obtain rfl := dat_nil hq10
    exact h3 _ _ _ _ _ rfl rfl m
  | fin =>
    obtain ⟨a, vsq15, n, rfl, m, hq11⟩ := dat_tuple h
    obtain ⟨vq5, vsq16, rfl, hvq10, hq12⟩ := dat_cons hq11
    obtain ⟨t1, rfl⟩ := dat_str hvq10
    obtain rfl := dat_nil hq12
    exact h4 _ _ _ rfl rfl m
theorem flat_inv {i : Nat} {r : Row} (h : DatIn L x (flatRow i r)) : ∃ a b n t, x = .ref a ∧ (a, ({ cls := .type "tuple", data := .seq [.int (10 * ((i : Int) + 1)) t, b].toArray n } : Obj)) ∈ L ∧ DatIn L b r.dat := by
  obtain ⟨a, vsq17, n, rfl, m, hq13⟩ := dat_tuple h
  obtain ⟨vq6, vsq18, rfl, hvq11, hq14⟩ := dat_cons hq13
  obtain ⟨t1, rfl⟩ := dat_int hvq11
  obtain ⟨vq7, vsq19, rfl, hbq5, hq15⟩ := dat_cons hq14
  obtain rfl := dat_nil hq15
  exact ⟨_, _, _, _, rfl, m, hbq5⟩
theorem line_inv {i : Nat} {r : Row} (h : DatIn L x (lineDat i r)) (k : ∀ a b n t v n', x = .ref a → (a, ({ cls := .type "tuple", data := .seq [.int (10 * ((i : Int) + 1)) t, .ref b].toArray n } : Obj)) ∈ L → (b, listOf [v].toArray n') ∈ L → DatIn L v r.dat → G) : G := by
  obtain ⟨a, vsq20, n, rfl, m, hq16⟩ := dat_tuple h
  obtain ⟨vq8, vsq21, rfl, hvq12, hq17⟩ := dat_cons hq16
  obtain ⟨t1, rfl⟩ := dat_int hvq12
  obtain ⟨vq9, vsq22, rfl, hbq6, hq18⟩ := dat_cons hq17
  obtain rfl := dat_nil hq18
  obtain ⟨b, vb, nb, rfl, mb, hbq7⟩ := dat_list hbq6
  obtain ⟨uq8, vsq23, rfl, hvq13, hbq8⟩ := dat_cons hbq7
  obtain rfl := dat_nil hbq8
  exact k _ _ _ _ _ _ rfl m mb hvq13
theorem flat4 {i : Nat} {r : Row} (h : DatIn L x (flatRow i r))
    (h1 : ∀ y a o u n' n t1 t2, r = .rem y → x = .ref o → (o, ({ cls := .type "tuple", data := .seq [.int (10 * ((i : Int) + 1)) u, .ref a].toArray n' } : Obj)) ∈ L → (a, ({ cls := .type "tuple", data := .seq [.str (PySem.Str.ofString "REM") t1, .str y t2].toArray n } : Obj)) ∈ L → G)
    (h2 : ∀ v a b c o u n' n1 n2 n3 t1 t2 t3 t4 t5, r = .set v → x = .ref o → (o, ({ cls := .type "tuple", data := .seq [.int (10 * ((i : Int) + 1)) u, .ref a].toArray n' } : Obj)) ∈ L → (a, ({ cls := .type "tuple", data := .seq [.str (PySem.Str.ofString "LET") t1, .ref b, .ref c].toArray n1 } : Obj)) ∈ L →
      (b, ({ cls := .type "tuple", data := .seq [.str (PySem.Str.ofString "name") t2, .str (PySem.Str.ofString "X") t3].toArray n2 } : Obj)) ∈ L → (c, ({ cls := .type "tuple", data := .seq [.str (PySem.Str.ofString "whole") t4, .int v t5].toArray n3 } : Obj)) ∈ L → G)
    (h3 : ∀ t a o u n' n t1 t2, r = .goto t → x = .ref o → (o, ({ cls := .type "tuple", data := .seq [.int (10 * ((i : Int) + 1)) u, .ref a].toArray n' } : Obj)) ∈ L → (a, ({ cls := .type "tuple", data := .seq [.str (PySem.Str.ofString "GOTO") t1, .int (10 * ((t : Int) + 1)) t2].toArray n } : Obj)) ∈ L → G)
    (h4 : ∀ a o u n' n t1, r = .fin → x = .ref o → (o, ({ cls := .type "tuple", data := .seq [.int (10 * ((i : Int) + 1)) u, .ref a].toArray n' } : Obj)) ∈ L → (a, ({ cls := .type "tuple", data := .seq [.str (PySem.Str.ofString "END") t1].toArray n } : Obj)) ∈ L → G) : G := by
  obtain ⟨a, b, n, t, rfl, m, hq19⟩ := flat_inv h
  refine row4 hq19 ?_ ?_ ?_ ?_
  · rintro y a' n' t1 t2 rfl rfl m'
    exact h1 _ _ _ _ _ _ _ _ rfl rfl m m'
  · rintro v a' b' c' n1 n2 n3 t1 t2 t3 t4 t5 rfl rfl m1 m2 m3
    exact h2 _ _ _ _ _ _ _ _ _ _ _ _ _ _ _ rfl rfl m m1 m2 m3
  · rintro t a' n' t1 t2 rfl rfl m'
    exact h3 _ _ _ _ _ _ _ _ rfl rfl m m'
  · rintro a' n' t1 rfl rfl m'
    exact h4 _ _ _ _ _ _ rfl rfl m m'
end
section
variable {prog : Program} {w : World} {A : Around} {E : Value → Shared → Prop} {s : Shared} {h₀ : Heap} {L l : Addr}
/-- a row read out of the list of the rows, by its kind -/
theorem row_item4 {value slice : PySem.Expr} {news L9 : List (Addr × Obj)} {us : List Value} {rows : List Row} {n : Nat} {k : Int} {u : Tok} {Q : Value → Shared → Prop} (N : News h₀ L s.heap news) (hm : (l, listOf us.toArray n) ∈ news) (hd : DatAll L9 us (rows.map Row.dat))
    (h0 : 0 ≤ k) (hl : k < (rows.length : Int)) (hfit : k < 2 ^ 63)
    (h1 : ∀ y a n t1 t2, rows[k.toNat]? = some (.rem y) → (a, ({ cls := .type "tuple", data := .seq [.str (PySem.Str.ofString "REM") t1, .str y t2].toArray n } : Obj)) ∈ L9 → Q (.ref a) s)
    (h2 : ∀ v a b c n1 n2 n3 t1 t2 t3 t4 t5, rows[k.toNat]? = some (.set v) → (a, ({ cls := .type "tuple", data := .seq [.str (PySem.Str.ofString "LET") t1, .ref b, .ref c].toArray n1 } : Obj)) ∈ L9 →
      (b, ({ cls := .type "tuple", data := .seq [.str (PySem.Str.ofString "name") t2, .str (PySem.Str.ofString "X") t3].toArray n2 } : Obj)) ∈ L9 → (c, ({ cls := .type "tuple", data := .seq [.str (PySem.Str.ofString "whole") t4, .int v t5].toArray n3 } : Obj)) ∈ L9 → Q (.ref a) s)
    (h3 : ∀ t a n t1 t2, rows[k.toNat]? = some (.goto t) → (a, ({ cls := .type "tuple", data := .seq [.str (PySem.Str.ofString "GOTO") t1, .int (10 * ((t : Int) + 1)) t2].toArray n } : Obj)) ∈ L9 → Q (.ref a) s)
    (h4 : ∀ a n t1, rows[k.toNat]? = some .fin → (a, ({ cls := .type "tuple", data := .seq [.str (PySem.Str.ofString "END") t1].toArray n } : Obj)) ∈ L9 → Q (.ref a) s)
    (hs : subscripted slice false (.ref l) (.int k u) = operate [.ref l, .int k u] (getItem (.ref l) (.int k u)) := by with_unfolding_all rfl) :
    wpAny (model prog w) A (subscriptTail value slice (.ref l) (.int k u)) Q E s := by
  refine row_item N hm hd h0 hl hfit (fun v r e hD => row4 hD ?_ ?_ ?_ ?_) hs
  · rintro y a n t1 t2 rfl rfl m
    exact h1 _ _ _ _ _ e m
  · rintro y a b c n1 n2 n3 t1 t2 t3 t4 t5 rfl rfl m m2 m3
    exact h2 _ _ _ _ _ _ _ _ _ _ _ _ e m m2 m3
  · rintro y a n t1 t2 rfl rfl m
    exact h3 _ _ _ _ _ e m
  · rintro a n t1 rfl rfl m
    exact h4 _ _ _ e m
theorem row_at_rem {value slice : PySem.Expr} {news L9 : List (Addr × Obj)} {us : List Value} {rows : List Row} {n : Nat} {k : Int} {u : Tok} {y : PySem.Str} {Q : Value → Shared → Prop} (hr : rows[k.toNat]? = some (.rem y)) (N : News h₀ L s.heap news) (hm : (l, listOf us.toArray n) ∈ news) (hd : DatAll L9 us (rows.map Row.dat))
    (h0 : 0 ≤ k) (hl : k < (rows.length : Int)) (hfit : k < 2 ^ 63)
    (h1 : ∀ a n t1 t2, (a, ({ cls := .type "tuple", data := .seq [.str (PySem.Str.ofString "REM") t1, .str y t2].toArray n } : Obj)) ∈ L9 → Q (.ref a) s)
    (hs : subscripted slice false (.ref l) (.int k u) = operate [.ref l, .int k u] (getItem (.ref l) (.int k u)) := by with_unfolding_all rfl) :
    wpAny (model prog w) A (subscriptTail value slice (.ref l) (.int k u)) Q E s := by
  refine row_item4 N hm hd h0 hl hfit ?_ ?_ ?_ ?_ hs
  · intro y' a n t1 t2 e m; rw [hr] at e; cases e; exact h1 _ _ _ _ m
  · intro _ _ _ _ _ _ _ _ _ _ _ _ e; rw [hr] at e; cases e
  · intro _ _ _ _ _ e; rw [hr] at e; cases e
  · intro _ _ _ e; rw [hr] at e; cases e
theorem row_at_set {value slice : PySem.Expr} {news L9 : List (Addr × Obj)} {us : List Value} {rows : List Row} {n : Nat} {k : Int} {u : Tok} {v : Int} {Q : Value → Shared → Prop} (hr : rows[k.toNat]? = some (.set v)) (N : News h₀ L s.heap news) (hm : (l, listOf us.toArray n) ∈ news) (hd : DatAll L9 us (rows.map Row.dat))
    (h0 : 0 ≤ k) (hl : k < (rows.length : Int)) (hfit : k < 2 ^ 63)
    (h2 : ∀ a b c n1 n2 n3 t1 t2 t3 t4 t5, (a, ({ cls := .type "tuple", data := .seq [.str (PySem.Str.ofString "LET") t1, .ref b, .ref c].toArray n1 } : Obj)) ∈ L9 →
      (b, ({ cls := .type "tuple", data := .seq [.str (PySem.Str.ofString "name") t2, .str (PySem.Str.ofString "X") t3].toArray n2 } : Obj)) ∈ L9 → (c, ({ cls := .type "tuple", data := .seq [.str (PySem.Str.ofString "whole") t4, .int v t5].toArray n3 } : Obj)) ∈ L9 → Q (.ref a) s)
    (hs : subscripted slice false (.ref l) (.int k u) = operate [.ref l, .int k u] (getItem (.ref l) (.int k u)) := by with_unfolding_all rfl) :
    wpAny (model prog w) A (subscriptTail value slice (.ref l) (.int k u)) Q E s := by
  refine row_item4 N hm hd h0 hl hfit ?_ ?_ ?_ ?_ hs
  · intro _ _ _ _ _ e; rw [hr] at e; cases e
  · intro v' a b c n1 n2 n3 t1 t2 t3 t4 t5 e m m2 m3; rw [hr] at e; cases e; exact h2 _ _ _ _ _ _ _ _ _ _ _ m m2 m3
  · intro _ _ _ _ _ e; rw [hr] at e; cases e
  · intro _ _ _ e; rw [hr] at e; cases e
theorem row_at_goto {value slice : PySem.Expr} {news L9 : List (Addr × Obj)} {us : List Value} {rows : List Row} {n : Nat} {k : Int} {u : Tok} {t : Nat} {Q : Value → Shared → Prop} (hr : rows[k.toNat]? = some (.goto t)) (N : News h₀ L s.heap news) (hm : (l, listOf us.toArray n) ∈ news) (hd : DatAll L9 us (rows.map Row.dat))
    (h0 : 0 ≤ k) (hl : k < (rows.length : Int)) (hfit : k < 2 ^ 63)
    (h3 : ∀ a n t1 t2, (a, ({ cls := .type "tuple", data := .seq [.str (PySem.Str.ofString "GOTO") t1, .int (10 * ((t : Int) + 1)) t2].toArray n } : Obj)) ∈ L9 → Q (.ref a) s)
    (hs : subscripted slice false (.ref l) (.int k u) = operate [.ref l, .int k u] (getItem (.ref l) (.int k u)) := by with_unfolding_all rfl) :
    wpAny (model prog w) A (subscriptTail value slice (.ref l) (.int k u)) Q E s := by
  refine row_item4 N hm hd h0 hl hfit ?_ ?_ ?_ ?_ hs
  · intro _ _ _ _ _ e; rw [hr] at e; cases e
  · intro _ _ _ _ _ _ _ _ _ _ _ _ e; rw [hr] at e; cases e
  · intro t' a n t1 t2 e m; rw [hr] at e; cases e; exact h3 _ _ _ _ m
  · intro _ _ _ e; rw [hr] at e; cases e
theorem row_at_fin {value slice : PySem.Expr} {news L9 : List (Addr × Obj)} {us : List Value} {rows : List Row} {n : Nat} {k : Int} {u : Tok} {Q : Value → Shared → Prop} (hr : rows[k.toNat]? = some .fin) (N : News h₀ L s.heap news) (hm : (l, listOf us.toArray n) ∈ news) (hd : DatAll L9 us (rows.map Row.dat))
    (h0 : 0 ≤ k) (hl : k < (rows.length : Int)) (hfit : k < 2 ^ 63)
    (h4 : ∀ a n t1, (a, ({ cls := .type "tuple", data := .seq [.str (PySem.Str.ofString "END") t1].toArray n } : Obj)) ∈ L9 → Q (.ref a) s)
    (hs : subscripted slice false (.ref l) (.int k u) = operate [.ref l, .int k u] (getItem (.ref l) (.int k u)) := by with_unfolding_all rfl) :
    wpAny (model prog w) A (subscriptTail value slice (.ref l) (.int k u)) Q E s := by
  refine row_item4 N hm hd h0 hl hfit ?_ ?_ ?_ ?_ hs
  · intro _ _ _ _ _ e; rw [hr] at e; cases e
  · intro _ _ _ _ _ _ _ _ _ _ _ _ e; rw [hr] at e; cases e
  · intro _ _ _ _ _ e; rw [hr] at e; cases e
  · intro a n t1 _ m; exact h4 _ _ _ m
/-- a row of the flat rows, by its kind -/
theorem flat_item4 {value slice : PySem.Expr} {news L9 : List (Addr × Obj)} {us : List Value} {rows : List Row} {n : Nat} {k : Int} {u : Tok} {Q : Value → Shared → Prop} (N : News h₀ L s.heap news) (hm : (l, listOf us.toArray n) ∈ news) (hd : DatAll L9 us (numbered flatRow 0 rows))
    (h0 : 0 ≤ k) (hl : k < (rows.length : Int)) (hfit : k < 2 ^ 63)
    (h1 : ∀ y a o u n' n t1 t2, rows[k.toNat]? = some (.rem y) → (o, ({ cls := .type "tuple", data := .seq [.int (10 * ((k.toNat : Int) + 1)) u, .ref a].toArray n' } : Obj)) ∈ L9 → (a, ({ cls := .type "tuple", data := .seq [.str (PySem.Str.ofString "REM") t1, .str y t2].toArray n } : Obj)) ∈ L9 → Q (.ref o) s)
    (h2 : ∀ v a b c o u n' n1 n2 n3 t1 t2 t3 t4 t5, rows[k.toNat]? = some (.set v) → (o, ({ cls := .type "tuple", data := .seq [.int (10 * ((k.toNat : Int) + 1)) u, .ref a].toArray n' } : Obj)) ∈ L9 → (a, ({ cls := .type "tuple", data := .seq [.str (PySem.Str.ofString "LET") t1, .ref b, .ref c].toArray n1 } : Obj)) ∈ L9 →
      (b, ({ cls := .type "tuple", data := .seq [.str (PySem.Str.ofString "name") t2, .str (PySem.Str.ofString "X") t3].toArray n2 } : Obj)) ∈ L9 → (c, ({ cls := .type "tuple", data := .seq [.str (PySem.Str.ofString "whole") t4, .int v t5].toArray n3 } : Obj)) ∈ L9 → Q (.ref o) s)
    (h3 : ∀ t a o u n' n t1 t2, rows[k.toNat]? = some (.goto t) → (o, ({ cls := .type "tuple", data := .seq [.int (10 * ((k.toNat : Int) + 1)) u, .ref a].toArray n' } : Obj)) ∈ L9 → (a, ({ cls := .type "tuple", data := .seq [.str (PySem.Str.ofString "GOTO") t1, .int (10 * ((t : Int) + 1)) t2].toArray n } : Obj)) ∈ L9 → Q (.ref o) s)
    (h4 : ∀ a o u n' n t1, rows[k.toNat]? = some .fin → (o, ({ cls := .type "tuple", data := .seq [.int (10 * ((k.toNat : Int) + 1)) u, .ref a].toArray n' } : Obj)) ∈ L9 → (a, ({ cls := .type "tuple", data := .seq [.str (PySem.Str.ofString "END") t1].toArray n } : Obj)) ∈ L9 → Q (.ref o) s)
    (hs : subscripted slice false (.ref l) (.int k u) = operate [.ref l, .int k u] (getItem (.ref l) (.int k u)) := by with_unfolding_all rfl) :
    wpAny (model prog w) A (subscriptTail value slice (.ref l) (.int k u)) Q E s := by
  refine flat_item N hm hd h0 hl hfit (fun v r e hD => flat4 hD ?_ ?_ ?_ ?_) hs
  · rintro y a o u n' n t1 t2 rfl rfl m m'
    exact h1 _ _ _ _ _ _ _ _ e m m'
  · rintro v a b c o u n' n1 n2 n3 t1 t2 t3 t4 t5 rfl rfl m m1 m2 m3
    exact h2 _ _ _ _ _ _ _ _ _ _ _ _ _ _ _ e m m1 m2 m3
  · rintro t a o u n' n t1 t2 rfl rfl m m'
    exact h3 _ _ _ _ _ _ _ _ e m m'
  · rintro a o u n' n t1 rfl rfl m m'
    exact h4 _ _ _ _ _ _ e m m'
end
end Mine
namespace Mine
section
variable {M : Model} {A : Around} {E : Value → Shared → Prop} {s : Shared}
theorem at_call (n : Addr) {vs : List Value} {Q : Value → Shared → Prop} (h : wpAny M A (PySem.call (.ref n) vs) Q E s) : wpAny M A (PySem.call (.ref n) vs) Q E s := h
theorem at_one {f x : Value} {Q : Value → Shared → Prop} (h : wpAny M A (PySem.call f [x]) Q E s) : wpAny M A (PySem.call f [x]) Q E s := h
theorem at_len {l : Addr} {Q : Value → Shared → Prop} (h : wpAny M A (PySem.call (.builtin "len") [.ref l]) Q E s) : wpAny M A (PySem.call (.builtin "len") [.ref l]) Q E s := h
theorem at_dget {l : Addr} {x : PySem.Str} {t u : Tok} {k : Int} {Q : Value → Shared → Prop} (h : wpAny M A (PySem.call (.builtin "dict.get") [.ref l, .str x t, .int k u]) Q E s) : wpAny M A (PySem.call (.builtin "dict.get") [.ref l, .str x t, .int k u]) Q E s := h
theorem at_sub {value slice : PySem.Expr} {l : Addr} {k : Int} {t : Tok} {Q : Value → Shared → Prop} (h : wpAny M A (subscriptTail value slice (.ref l) (.int k t)) Q E s) : wpAny M A (subscriptTail value slice (.ref l) (.int k t)) Q E s := h
theorem at_set {l : Addr} {k j : Int} {t u : Tok} {Q} (h : wpAny M A (setItem (.ref l) (.int k t) (.int j u)) Q E s) : wpAny M A (setItem (.ref l) (.int k t) (.int j u)) Q E s := h
theorem at_setS {l : Addr} {x : PySem.Str} {j : Int} {t u : Tok} {Q} (h : wpAny M A (setItem (.ref l) (.str x t) (.int j u)) Q E s) : wpAny M A (setItem (.ref l) (.str x t) (.int j u)) Q E s := h
theorem at_get {l : Addr} {pl} {Q} (h : wpAny M A (getMethod (.ref l) (PySem.Str.ofString "get") pl) Q E s) : wpAny M A (getMethod (.ref l) (PySem.Str.ofString "get") pl) Q E s := h
theorem at_in {l : Addr} {x : PySem.Str} {t : Tok} {Q} (h : wpAny M A (compareOp CmpOp.In (.str x t) (.ref l)) Q E s) : wpAny M A (compareOp CmpOp.In (.str x t) (.ref l)) Q E s := h
theorem at_meth {a} {b : String} {l : Addr} {c d e} {Q} (h : wpAny M A (callWith a (Prod.fst (Value.builtin b, [Value.ref l])) c d e) Q E s) : wpAny M A (callWith a (Prod.fst (Value.builtin b, [Value.ref l])) c d e) Q E s := h
end
end Mine
end

section
open PySem PySem.W PySem.Calls PyProof.Rows PyProof.V PySem.Spec PyProof.Rows.LCg
namespace Mine
section
variable {prog : Program} {w : World} {A : Around} {E : Value → Shared → Prop} {s : Shared} {h₀ : Heap} {L : Addr} {m : PySem.Str → Option Value} {env : Env}

/-- what stands behind the iterable of a list comprehension over two names -/
def CeNext (prog : Program) (w : World) (A : Around) (E : Value → Shared → Prop) (env : Env) (elt : PySem.Expr) (a b : PySem.Str) (pa pb tp : Pos) (kk : Nat) (iter : PySem.Expr) (scope : Scope) (cl : List (PySem.Str × Addr)) (pos : Pos) (Q : Value → Shared → Prop) (x : Value) (s₁ : Shared) : Prop :=
  wpAny (model prog w) A (pyIter x) (fun it s₂ => wpAny (model prog w) A (newList []) (fun acc s₃ =>
      wpAny (model prog w) A (newFunctionEnv scope env.globals cl [] env.qual none .none (some env)) (fun cenv s₄ =>
        codeAny (model prog w) A (Code.compStart (Expr.ListComp elt [⟨Expr.Tuple [Expr.Name a pa, Expr.Name b pb] kk tp, iter, [], 0⟩] scope pos) 0 it acc { cenv with scope := relabel scope env })
          (compPost (model prog w) A E none Q acc cenv.locals) s₄) E s₃) E s₂) E s₁

theorem ce_ListComp {elt iter : PySem.Expr} {a b : PySem.Str} {pa pb tp : Pos} {kk : Nat} {scope : Scope} {cl : List (PySem.Str × Addr)} {pos : Pos} {Q : Value → Shared → Prop}
    (hclos : closureFor scope env = pure cl) (hkind : scope.kind = .function) (hnames : ∀ y ∈ scope.names, y.2 = .local → scope.names.lookup y.1 = some .local)
    (h : wpAny (model prog w) A (eval iter env) (CeNext prog w A E env elt a b pa pb tp kk iter scope cl pos Q) E s)
    (hs : ∀ x, foldedSetIterable iter env x = pure x := by intro _; rfl) :
    wpAny (model prog w) A (eval (.ListComp elt [⟨.Tuple [.Name a pa, .Name b pb] kk tp, iter, [], 0⟩] scope pos) env) Q E s := by
  rw [eval_ListComp]
  exact wpAny_comprehension_free (use := none) rfl hs hclos hkind hnames h

/-- what one turn of the comprehension leaves -/
def CeEnd (h₀ : Heap) (L : Addr) (m : PySem.Str → Option Value) (s : Shared) (own : List (Addr × Obj)) (l : Addr × Obj) (Inv : Value → List (Addr × Obj) → Prop) (y : Value) (s₂ : Shared) : Prop :=
  ∃ h' tk' nx', s₂ = { s with heap := h', toks := tk' } ∧ Fr h₀ L h' m ∧ News h₀ L h' (own ++ nx') ∧ OwnOff own (nx'.map (·.1)) ∧ l ∈ nx' ∧ Inv y nx'

theorem ce_enum {elt iter : PySem.Expr} {a b : PySem.Str} {pa pb tp : Pos} {kk : Nat} {scope : Scope} {cl : List (PySem.Str × Addr)} {pos : Pos} {l : Addr} {vs : List Value} {nn : Nat} {news : List (Addr × Obj)} {Q : Value → Shared → Prop}
    (Inv : List Value → List (Addr × Obj) → Prop) (hh : A.handled = none) (hl : (l, listOf vs.toArray nn) ∈ news) (hsz : vs.length ≤ sizeLine)
    (hcell : ∀ y ∈ scope.names, y.2 ≠ .cell) (hkind : scope.kind = .function) (hxa : scope.names.lookup a = some .local) (hxb : scope.names.lookup b = some .local) (hab : ¬ a = b)
    (F : Fr h₀ L s.heap m) (N : News h₀ L s.heap news) (hI : Inv [] news)
    (turn : ∀ (i : Nat) x t ys I J C D oI oJ oC m₂ h tk nx (E' : Value → Shared → Prop), vs[i]? = some x → ys.length = i → Inv ys nx → (l, listOf vs.toArray nn) ∈ nx → NsObj oC m₂ → m₂ a = some (.int (i : Int) t) → m₂ b = some x → Fr h₀ L h m →
      OwnOff [(I, oI), (J, oJ), (C, oC), (D, lst ys)] (nx.map (·.1)) → News h₀ L h ((I, oI) :: (J, oJ) :: (C, oC) :: (D, lst ys) :: nx) →
      wpAny (model prog w) A (eval elt (compEnvC scope cl C env)) (CeEnd h₀ L m s [(I, oI), (J, oJ), (C, oC), (D, lst ys)] (l, listOf vs.toArray nn) (fun y nx' => Inv (ys ++ [y]) nx')) E' { s with heap := h, toks := tk })
    (done : ∀ D ys h tk nx, ys.length = vs.length → Inv ys nx → Fr h₀ L h m → News h₀ L h ((D, lst ys) :: nx) → (∀ p ∈ nx, @Ne Nat p.1 D) → Q (.ref D) { s with heap := h, toks := tk }) :
    wpAny (model prog w) A (call (.type "enumerate") [.ref l]) (CeNext prog w A E env elt a b pa pb tp kk iter scope cl pos Q) E s := by
  have hol : s.heap.get? l = some (listOf vs.toArray nn) := (N _ hl).1
  have hls : s.heap.IsList l vs.toArray := ⟨_, hol, rfl, nn, rfl⟩
  have hlt : l < s.heap.objs.size := Heap.lt_size hol
  have hLs : L < s.heap.objs.size := F.ns.lt
  refine call_enumerate_list hls fun g hE hIt hgz hk => ?_
  unfold CeNext
  refine wpAny_pyIter_enum hE ?_
  have W := KTurns.ofWalksU (elts := [.Name a pa, .Name b pb]) (k := kk) (pos := tp) (WalksT.enumerate (prog := prog) (w := w) hh (s.heap.objs.size + 1) s.heap.objs.size l (Nat.succ_ne_self _) (ktu_ne 1 hlt) (Nat.ne_of_lt hlt) vs.toArray).toU
  have hlen : vs.toArray.size = vs.length := by simp
  rw [hlen] at W
  generalize hI1 : s.heap.objs.size + 1 = I at W hE ⊢
  generalize hJ1 : s.heap.objs.size = J at W hE hIt hgz hlt hLs hI1 ⊢
  have F₁ : Fr h₀ L g m := F.keeps hk
  have N₁ : News h₀ L g news := N.grown hk
  have old₀ : ∀ b, J ≤ b → h₀.get? b = none := fun b hb => ktu_new F (hJ1 ▸ hb)
  have offn : ∀ p ∈ news, p.1 < J := fun p hp => hJ1 ▸ Heap.lt_size (N p hp).1
  have hIJ : J < I := by rw [← hI1]; exact Nat.lt_succ_self _
  have hIg : I < g.objs.size := by rw [hgz, ← hI1]; exact Nat.lt_succ_self _
  refine wpAny_newObj_type (wpAny_newFunctionEnv hcell (by intro y hy; simp at hy) (fun h₁ hns₁ hsb₁ => ?_) hkind)
  dsimp only at hns₁ hsb₁ ⊢
  generalize hH2 : g.push { cls := .type "list", dict := none, data := .seq ([] : List Value).toArray } = H2 at hns₁ hsb₁ ⊢
  have hC : H2.objs.size = g.objs.size + 1 := by rw [← hH2, Heap.size_push]
  generalize hD1 : g.objs.size = D at hIg hC
  generalize hC1 : H2.objs.size = C at hC hns₁ hsb₁ ⊢
  have hDC : D < C := by rw [hC]; exact Nat.lt_succ_self _
  have old : ∀ b o, g.get? b = some o → h₁.get? b = some o := fun b o e => hsb₁.extBut b o (by have := Heap.lt_size e; rw [hD1] at this; exact Nat.ne_of_lt (Nat.lt_trans this hDC)) (Heap.get?_push_of_some _ (hH2 ▸ Heap.get?_push_of_some _ e))
  have hacc : h₁.get? D = some (lst []) := hsb₁.extBut _ _ (Nat.ne_of_lt hDC) (Heap.get?_push_of_some _ (hH2 ▸ hD1 ▸ Heap.get?_push_size _ rfl))
  have hJI : J ≠ I := Nat.ne_of_lt hIJ
  have hID : I ≠ D := Nat.ne_of_lt hIg
  have hJD : J ≠ D := Nat.ne_of_lt (Nat.lt_trans hIJ hIg)
  have hIC : I ≠ C := Nat.ne_of_lt (Nat.lt_trans hIg hDC)
  have hJC : J ≠ C := Nat.ne_of_lt (Nat.lt_trans (Nat.lt_trans hIJ hIg) hDC)
  have hlt' : ∀ x : Addr, x < J → x ≠ J ∧ x ≠ I ∧ x ≠ D ∧ x ≠ C := fun x hx => ⟨Nat.ne_of_lt hx, Nat.ne_of_lt (Nat.lt_trans hx hIJ), Nat.ne_of_lt (Nat.lt_trans hx (Nat.lt_trans hIJ hIg)), Nat.ne_of_lt (Nat.lt_trans hx (Nat.lt_trans (Nat.lt_trans hIJ hIg) hDC))⟩
  have hD₀ : h₀.get? D = none := old₀ _ (Nat.le_of_lt (Nat.lt_trans hIJ hIg))
  have hC₀ : h₀.get? C = none := old₀ _ (Nat.le_of_lt (Nat.lt_trans (Nat.lt_trans hIJ hIg) hDC))
  have hI₀ : h₀.get? I = none := old₀ _ (Nat.le_of_lt hIJ)
  have hJ₀ : h₀.get? J = none := old₀ _ (Nat.le_refl _)
  obtain ⟨hLJ, hLI, hLD, hLC⟩ := hlt' L hLs
  have two : ∀ {b : Addr}, b ∉ [I, J] ↔ b ≠ I ∧ b ≠ J := by intro b; simp
  have fromN : ∀ {h : Heap} {nx : List (Addr × Obj)} {h' : Heap}, News h₀ L h nx → (∀ b o, b ∉ [I, J] → h.get? b = some o → h'.get? b = some o) → (∀ p ∈ nx, p.1 ≠ I ∧ p.1 ≠ J) → News h₀ L h' nx :=
    fun N hk off p hp => ⟨hk _ _ (two.mpr (off p hp)) (N p hp).1, (N p hp).2⟩
  have fromF : ∀ {h h' : Heap}, Fr h₀ L h m → (∀ b o, b ∉ [I, J] → h.get? b = some o → h'.get? b = some o) → Fr h₀ L h' m :=
    fun F hk => ⟨F.ns.at' fun o e => hk L o (two.mpr ⟨hLI, hLJ⟩) e, fun b o e => hk b o (two.mpr ⟨fun q => (by rw [q, hI₀] at e; cases e), fun q => (by rw [q, hJ₀] at e; cases e)⟩) (F.keep b o e), F.above⟩
  have loop : ∀ s₃ : Shared, s₃ = { s with heap := h₁, toks := s.toks + ([] : List (PySem.Str × Value)).length } →
      codeAny (model prog w) A (Code.compLoop (Expr.ListComp elt [⟨Expr.Tuple [Expr.Name a pa, Expr.Name b pb] kk tp, iter, [], 0⟩] scope pos) 0 (.ref I) (.ref D) (compEnvC scope cl C env)) (compPost (model prog w) A E none Q (.ref D) C) s₃ := by
    rintro s₃ rfl
    refine kcp_loop
      (fun k s' => ∃ h' tk i ys m' nx, s' = { s with heap := h', toks := tk } ∧ i ≤ vs.length ∧ k = vs.length + 1 - i ∧ ys.length = i ∧ ((∃ old, IsEnum h' I J i old) ∧ h'.IsListIter J l i ∧ h'.IsList l vs.toArray) ∧ Fr h₀ L h' m ∧ h'.Ns C m' ∧
        News h₀ L h' ((D, lst ys) :: nx) ∧ (∀ p ∈ nx, p.1 ≠ I ∧ p.1 ≠ J ∧ p.1 ≠ C ∧ p.1 ≠ D) ∧ (l, listOf vs.toArray nn) ∈ nx ∧ Inv ys nx) ?_ (vs.length + 1)
      ⟨h₁, _, 0, [], _, news, rfl, Nat.zero_le _, rfl, rfl, ⟨⟨.none, old _ _ hE⟩, ?_, ?_⟩, F₁.keeps old, hns₁, ?_, ?_, hl, hI⟩
    · rintro k s' ⟨h', tk, i, ys, m', nx, rfl, hi, rfl, hyl, hst', F', hn', N', off', hl', hInv⟩
      by_cases hlt : i < vs.length
      · refine W.item i _ _ _ hlt hst' fun v h₂ tk₂ hMd hk₂ => ?_
        refine W.go i v _ _ _ hMd fun h₃ hP hst₃ hk₃ => ?_
        obtain ⟨T, vals, rfl, ⟨t, x, hx, rfl⟩, hT⟩ := hP
        have hx' : vs[i]? = some x := by simpa using hx
        have up₃ : ∀ c o, c ∉ [I, J] → h'.get? c = some o → h₃.get? c = some o := fun c o hc e => hk₃ c o hc (hk₂ c o hc e)
        have offC : C ∉ [I, J] := two.mpr ⟨Ne.symm hIC, Ne.symm hJC⟩
        refine kcp_assign (env := compEnvC scope cl C env) hh hT (lookup_relabel_local hxa) (lookup_relabel_local hxb) (by simp [compEnvC, relabel, hkind]) (hn'.at' fun o e => up₃ _ o offC e) fun h₄ tk₄ hn₄ hs₄ => ?_
        have hst₄ : (∃ old, IsEnum h₄ I J ((i : Nat) + 1 : Nat) old) ∧ h₄.IsListIter J l (i + 1) ∧ h₄.IsList l vs.toArray := by
          refine W.frame (i + 1) h₃ h₄ hst₃ fun b hb o e => hs₄ b o ?_ e
          rcases List.mem_cons.mp hb with rfl | hb
          · exact hIC
          · rcases List.mem_cons.mp hb with rfl | hb
            · exact hJC
            · rw [List.mem_singleton.mp hb]
              exact (off' _ hl').2.2.1
        obtain ⟨⟨oldE, hE₄⟩, ⟨oJ, hJ₄, hJr⟩, hL₄⟩ := hst₄
        obtain ⟨oC, heC, hoC⟩ := ns_obj hn₄
        have up : ∀ c o, c ∉ [I, J] → c ≠ C → h'.get? c = some o → h₄.get? c = some o := fun c o h1 h2 e => hs₄ c o h2 (up₃ c o h1 e)
        have F₄ : Fr h₀ L h₄ m := ⟨F'.ns.at' fun o e => up _ o (two.mpr ⟨hLI, hLJ⟩) hLC e, fun c o e => up c o (two.mpr ⟨fun q => (by rw [q, hI₀] at e; cases e), fun q => (by rw [q, hJ₀] at e; cases e)⟩) (fun q => by rw [q, hC₀] at e; cases e) (F'.keep c o e), F'.above⟩
        obtain ⟨oI, hE₄, hoI⟩ : ∃ oI, h₄.get? I = some oI ∧ ∀ h : Heap, h.get? I = some oI → IsEnum h I J ((i + 1 : Nat) : Int) oldE := ⟨_, hE₄, fun _ e => e⟩
        have offA : OwnOff [(I, oI), (J, oJ), (C, oC), (D, lst ys)] (nx.map (·.1)) := by
          intro p hp b hb e
          obtain ⟨q, hq, rfl⟩ := List.mem_map.mp hb
          obtain ⟨z1, z2, z3, z4⟩ := off' q hq
          simp only [List.mem_cons, List.not_mem_nil, or_false] at hp
          rcases hp with rfl | rfl | rfl | rfl
          · exact z1 e.symm
          · exact z2 e.symm
          · exact z3 e.symm
          · exact z4 e.symm
        have N₄ : News h₀ L h₄ ((I, oI) :: (J, oJ) :: (C, oC) :: (D, lst ys) :: nx) := fun q hq => by
          rcases List.mem_cons.mp hq with rfl | hq
          · exact ⟨hE₄, Ne.symm hLI, hI₀⟩
          rcases List.mem_cons.mp hq with rfl | hq
          · exact ⟨hJ₄, Ne.symm hLJ, hJ₀⟩
          rcases List.mem_cons.mp hq with rfl | hq
          · exact ⟨heC, Ne.symm hLC, hC₀⟩
          have z := N' q hq
          refine ⟨up _ _ (two.mpr ?_) ?_ z.1, z.2⟩
          · rcases List.mem_cons.mp hq with rfl | hq
            · exact ⟨Ne.symm hID, Ne.symm hJD⟩
            · exact ⟨(off' q hq).1, (off' q hq).2.1⟩
          · rcases List.mem_cons.mp hq with rfl | hq
            · exact Nat.ne_of_lt hDC
            · exact (off' q hq).2.2.1
        refine wpAny_mono (turn i x t ys I J C D oI oJ oC _ h₄ _ nx _ hx' hyl hInv hl' hoC (by simp [hab]) (by simp) F₄ offA N₄) (fun y s₅ h₅ => ?_) fun _ _ e => e
        obtain ⟨h₅, tk₅, nx₅, rfl, F₅, N₅, off₅, hl₅, hInv₅⟩ := h₅
        have zI := (N₅ (I, oI) (List.Mem.head _)).1
        have zJ := (N₅ (J, oJ) (List.Mem.tail _ (List.Mem.head _))).1
        have zC := (N₅ (C, oC) (List.Mem.tail _ (List.Mem.tail _ (List.Mem.head _)))).1
        have zD := (N₅ (D, lst ys) (List.Mem.tail _ (List.Mem.tail _ (List.Mem.tail _ (List.Mem.head _))))).1
        have N₅' : News h₀ L h₅ nx₅ := fun q hq => N₅ q (List.mem_append.mpr (.inr hq))
        have off5 : ∀ p ∈ nx₅, p.1 ≠ I ∧ p.1 ≠ J ∧ p.1 ≠ C ∧ p.1 ≠ D := fun p hp => by
          have hb : p.1 ∈ nx₅.map (·.1) := List.mem_map.mpr ⟨p, hp, rfl⟩
          exact ⟨Ne.symm (off₅ _ (List.Mem.head _) p.1 hb), Ne.symm (off₅ _ (List.Mem.tail _ (List.Mem.head _)) p.1 hb), Ne.symm (off₅ _ (List.Mem.tail _ (List.Mem.tail _ (List.Mem.head _))) p.1 hb), Ne.symm (off₅ _ (List.Mem.tail _ (List.Mem.tail _ (List.Mem.tail _ (List.Mem.head _)))) p.1 hb)⟩
        refine append_at (hsz := by show ys.toArray.size ≤ sizeLine; rw [List.size_toArray, hyl]; exact Nat.le_trans hi hsz) zD fun h₆ hs₆ hD₆ => ?_
        refine ⟨vs.length + 1 - (i + 1), by omega, h₆, tk₅, i + 1, ys ++ [y], _, nx₅, rfl, hlt, rfl, by rw [List.length_append, List.length_singleton, hyl], ⟨⟨oldE, ?_⟩, ⟨oJ, hs₆.extBut _ _ hJD zJ, hJr⟩, ?_⟩,
          F₅.change hs₆ (Ne.symm hLD) hD₀, (hoC.ns zC).sameBut hs₆ (Ne.symm (Nat.ne_of_lt hDC)), fun q hq => ?_, off5, hl₅, hInv₅⟩
        · exact hoI _ (hs₆.extBut _ _ hID zI)
        · exact ⟨_, hs₆.extBut _ _ (off5 _ hl₅).2.2.2 (N₅' _ hl₅).1, rfl, nn, rfl⟩
        · rcases List.mem_cons.mp hq with rfl | hq
          · exact ⟨hD₆.trans (congrArg some (lst_snoc ys y)), Ne.symm hLD, hD₀⟩
          · exact ⟨hs₆.extBut _ _ (off5 q hq).2.2.2 (N₅' q hq).1, (N₅' q hq).2⟩
      · have hin : i = vs.length := Nat.le_antisymm hi (Nat.not_lt.mp hlt)
        subst hin
        refine W.done _ _ _ hst' fun h₂ tk₂ hk₂ => ?_
        have F₂ := fromF F' hk₂
        have N₂ := fromN N' hk₂ fun p hp => by
          rcases List.mem_cons.mp hp with rfl | hp
          · exact ⟨Ne.symm hID, Ne.symm hJD⟩
          · exact ⟨(off' p hp).1, (off' p hp).2.1⟩
        refine ⟨m', hn'.at' fun o e => hk₂ _ o (two.mpr ⟨Ne.symm hIC, Ne.symm hJC⟩) e, fun h'' hs'' => done D ys h'' tk₂ nx hyl hInv (F₂.change hs'' (Ne.symm hLC) hC₀) (fun p hp => ?_) fun p hp => (off' p hp).2.2.2⟩
        refine ⟨hs''.extBut _ _ ?_ (N₂ p hp).1, (N₂ p hp).2⟩
        rcases List.mem_cons.mp hp with rfl | hp
        · exact Nat.ne_of_lt hDC
        · exact (off' p hp).2.2.1
    · exact hIt.at fun o e => old _ o e
    · exact hls.at fun o e => old _ o (hk _ o e)
    · intro p hp
      rcases List.mem_cons.mp hp with rfl | hp
      · exact ⟨hacc, Ne.symm hLD, hD₀⟩
      · exact ⟨old _ _ (N₁ p hp).1, (N₁ p hp).2⟩
    · intro p hp
      obtain ⟨q1, q2, q3, q4⟩ := hlt' p.1 (offn p hp)
      exact ⟨q2, q1, q4, q3⟩
  exact codeAny_compStart_list (loop _ rfl) (wpAny_pyIter_enum (old _ _ hE) (loop _ rfl))
end
end Mine
end

section
namespace Mine
section
variable {w : World} {mean : ExcName → Option Value} {mg mb : PySem.Str → Option Value}
theorem next_con0 {J C : Addr} {turn many : Int} {tt t : Tok} {n nc : Nat} {cs : List Value} {ns : List Int} {rest : List (Addr × Obj)}
    (hJC : @Ne Nat C J) (hJ : OwnOff rest [J]) (hi : IntsAre cs ns) (hl : ns.length ≤ 24) (h0 : 0 ≤ turn) (h1 : turn ≤ 1000) (hm : 1 ≤ many) (hm' : many ≤ 1000) :
    Con w mean mg mb 0 568 [.ref J, .int many t] ((J, listOf [.ref C, .int turn tt].toArray n) :: (C, listOf cs.toArray nc) :: rest)
      (fun r news' => ∃ x t' t'', r = .int x t'' ∧ 0 ≤ x ∧ x < many ∧ news' = (J, listOf [.ref C, .int (turn + 1) t'].toArray n) :: (C, listOf cs.toArray nc) :: rest) := by
  unfold Con
  w_top off
  k_fill
  intro dp un gd cn cs' a ccd cl outer A₀ base h₀ L m s Q E B F X N T hk hd hu hret
  have hMk := kdMark
  refine wpAny_call ?_
  k_dflt ktr_enter
  k_steps
  all_goals (rename Fr h₀ L _ m => kF; rename News h₀ L _ _ => kN; exact hret _ _ _ _ kF kN ⟨_, _, _, rfl, Int.fmod_nonneg_of_pos _ (by omega), Int.fmod_lt_of_pos _ (by omega), rfl⟩)

theorem next_con {J C : Addr} {turn many : Int} {tt t : Tok} {n nc : Nat} {cs : List Value} {ns : List Int} {news : List (Addr × Obj)} {news' : Tok → List (Addr × Obj)}
    (hU : ∀ t', Upd J (listOf [.ref C, .int turn tt].toArray n) (listOf [.ref C, .int (turn + 1) t'].toArray n) news (news' t')) (hJC : @Ne Nat C J) (hC : (C, listOf cs.toArray nc) ∈ news)
    (hi : IntsAre cs ns) (hl : ns.length ≤ 24) (h0 : 0 ≤ turn) (h1 : turn ≤ 1000) (hm : 1 ≤ many) (hm' : many ≤ 1000) :
    Con w mean mg mb 0 568 [.ref J, .int many t] news (fun r nx => ∃ x t' t'', r = .int x t'' ∧ 0 ≤ x ∧ x < many ∧ nx = news' t') := by
  intro dp un gd cn cs' a ccd cl outer A₀ base h₀ L m s Q E B F X N T hk hd hu hret
  obtain ⟨pre, post, rfl, -, o1, o2⟩ := (hU 0).split
  have off : OwnOff (pre ++ post) [J] := by
    intro p hp b hb
    rw [List.mem_singleton.mp hb]
    exact (List.mem_append.mp hp).elim (o1 p) (o2 p)
  refine con_use B F X (news := (J, listOf [.ref C, .int turn tt].toArray n) :: (C, listOf cs.toArray nc) :: (pre ++ post)) (news_sub N ?_) T hk (next_con0 hJC off hi hl h0 h1 hm hm') hd hu ?_
  · intro p hp
    rcases List.mem_cons.mp hp with rfl | hp
    · simp
    · rcases List.mem_cons.mp hp with rfl | hp
      · exact hC
      · rcases List.mem_append.mp hp with hp | hp <;> simp [hp]
  · rintro r nx h' tk' F' N' ⟨x, t', t'', rfl, hx0, hx1, rfl⟩
    refine hret _ (news' t') _ _ F' (news_sub N' ?_) ⟨x, t', t'', rfl, hx0, hx1, rfl⟩
    obtain ⟨pre', post', e1, e2, o1', o2'⟩ := (hU t').split
    have key : ∀ {pre pre' post post' : List (Addr × Obj)} {o : Obj}, (∀ p ∈ pre, p.1 ≠ J) → (∀ p ∈ pre', p.1 ≠ J) → pre ++ (J, o) :: post = pre' ++ (J, o) :: post' → pre = pre' ∧ post = post' := by
      intro pre
      induction pre with
      | nil =>
        intro pre' post post' o h1 h2 e
        cases pre' with
        | nil => exact ⟨rfl, (List.cons.inj e).2⟩
        | cons p r => exact absurd (congrArg Prod.fst (List.cons.inj e).1).symm (h2 p (.head _))
      | cons q r ih =>
        intro pre' post post' o h1 h2 e
        cases pre' with
        | nil => exact absurd (congrArg Prod.fst (List.cons.inj e).1) (h1 q (.head _))
        | cons p r' =>
          obtain ⟨e1, e2⟩ := List.cons.inj e
          obtain ⟨a, b⟩ := ih (fun p hp => h1 p (.tail _ hp)) (fun p hp => h2 p (.tail _ hp)) e2
          exact ⟨by rw [e1, a], b⟩
    obtain ⟨rfl, rfl⟩ := key o1 o1' e1
    rw [e2]
    intro p hp
    rcases List.mem_append.mp hp with hp | hp
    · simp [hp]
    · rcases List.mem_cons.mp hp with rfl | hp <;> simp [*]
end
end Mine
end

section
namespace Mine
section
variable {w : World} {mean : ExcName → Option Value} {mg mb : PySem.Str → Option Value}

def RowsP (many : Nat) (pre : List Int) (c : List Value × List Dat × Nat × Int × Tok) : Prop :=
  ∃ rows : List Row, c.2.1 = rows.map Row.dat ∧ rows.length = pre.length ∧ RowsOk many rows ∧ TextOk rows ∧ 1 ≤ c.2.2.2.1 ∧ c.2.2.2.1 ≤ 1 + 2 * (pre.length : Int)
theorem rowsP_step {many : Nat} {pre : List Int} {k turn : Int} {vs : List Value} {ds : List Dat} {n : Nat} {t : Tok} {rows : List Row} {d : Dat} (hds : ds = rows.map Row.dat) (hlen : rows.length = pre.length) (hok : RowsOk many rows) (htx : TextOk rows)
    (r : Row) (hr : r.dat = d) (hg : ∀ t, r = .goto t → pre.length < t ∧ t < many) (hx : ∀ x, r = .rem x → PyData.strOk x = true) (h1 : 1 ≤ turn) (h2 : turn ≤ 1 + 2 * ((pre.length : Int) + 1)) : RowsP many (pre ++ [k]) (vs, ds ++ [d], n, turn, t) := by
  refine ⟨rows ++ [r], by rw [hds, List.map_append, ← hr]; rfl, by simp [hlen], ?_, ?_, h1, by show turn ≤ _; rw [List.length_append]; simpa using h2⟩
  · intro i t h
    by_cases hi : i < rows.length
    · rw [List.getElem?_append_left hi] at h
      exact hok i t h
    · rw [List.getElem?_append_right (by omega)] at h
      by_cases hz : i - rows.length = 0
      · rw [hz] at h
        have hz' : i = rows.length := by omega
        have := hg t (Option.some.inj h)
        omega
      · rw [List.getElem?_eq_none (by simp; omega)] at h
        cases h
  intro i x h
  by_cases hi : i < rows.length
  · rw [List.getElem?_append_left hi] at h
    exact htx i x h
  · rw [List.getElem?_append_right (by omega)] at h
    by_cases hz : i - rows.length = 0
    · rw [hz] at h
      exact hx x (Option.some.inj h)
    · rw [List.getElem?_eq_none (by simp; omega)] at h
      cases h
theorem rowsP_goto {many : Nat} {pre : List Int} {k turn x z : Int} {vs : List Value} {ds : List Dat} {n : Nat} {t : Tok} {rows : List Row} (hds : ds = rows.map Row.dat) (hlen : rows.length = pre.length) (hok : RowsOk many rows) (htx : TextOk rows)
    (hk : k = 0 + (pre.length : Int)) (hx : 0 ≤ x) (hx' : x < (many : Int) - k - 1) (hz : z = 10 * (k + 2 + x)) (h1 : 1 ≤ turn) (h2 : turn ≤ 1 + 2 * ((pre.length : Int) + 1)) :
    RowsP many (pre ++ [k]) (vs, ds ++ [.tuple [.str (PySem.Str.ofString "GOTO"), .int z]], n, turn, t) := by
  refine rowsP_step hds hlen hok htx (.goto (k + 1 + x).toNat) ?_ ?_ (fun x e => by cases e) h1 h2
  · have e : z = 10 * (((k + 1 + x).toNat : Int) + 1) := by omega
    rw [e]
    rfl
  · intro t e
    cases e
    omega
theorem rows_con {J C : Addr} {n nc : Nat} {tt : Tok} {cs : List Value} {ns : List Int}
    (hJC : @Ne Nat C J) (hi : IntsAre cs ns) (hl : ns.length ≤ 24) :
    Con w mean mg mb 1 582 [.ref J] [(J, listOf [.ref C, .int 0 tt].toArray n), (C, listOf cs.toArray nc)]
      (fun r news' => ∃ R vs n' tl rows, r = .ref R ∧ news' = (R, listOf vs.toArray n') :: tl ∧ DatAll tl vs (rows.map Row.dat) ∧ 1 ≤ rows.length ∧ rows.length ≤ 7 ∧ RowsOk rows.length rows ∧ TextOk rows) := by
  unfold Con
  k_with_none
  w_top off
  k_with "room" =>
    first | omega | ((try simp only [depth_under_make, depth_under_kw, depth_in1, depth_deeper, depth_caller, units_in1, units_deeper, Around.mark_units, units_caller]); first | omega | decide)
  k_with "call ref" =>
    k_here
    (with_reducible refine' at_call 568 ?_)
    k_dflt (refine con_use (by k_asm) (by k_asm) (by k_asm) (by k_asm) (by k_asm) (by first | exact rfl | assumption) (next_con (by (intro t'; k_upd)) (by first | assumption | k_ne) (by k_mem) (by assumption) (by omega) (by omega) (by omega) (by omega) (by omega)) (by k_extra "room") (by k_extra "room") ?_)
    rintro _ _ _ _ _ _ ⟨_, _, _, e9, _, _, f9⟩
    subst e9
    subst f9
    (try k_sweep)
    (try dsimp only)
    (try k_fold)
  k_with "call type:range" =>
    (with_reducible refine' at_one ?_)
    refine range1_rows (by k_asm) (by k_asm) ?_
    intro _ _ _ _ _ _ _ _ _
  k_with "callWith" =>
    (with_reducible refine' at_meth ?_)
    refine callWith_method1 ?_
  k_with "size_fits" =>
    simp only [List.size_toArray, List.length_append, List.length_cons, List.length_nil, PySem.sizeLine_eq]
    omega
  k_fill
  intro dp un gd cn cs' a ccd cl outer A₀ base h₀ L m s Q E B F X N T hk hd hu hret
  have hMk := kdMark
  refine wpAny_call ?_
  k_dflt ktr_enter
  k_steps
  rename_i x9 t9 u9 hx9 hy9 R h7 kl1 h6 D kl2 h5 h4 h3 kF0 kN0 h2 tk9 t1 u1 v1 kR kF kN kk
  unfold Stop
  have e9 : Builtin.Range.rangeSize 0 (1 + x9) 1 = (((1 + x9).toNat : Nat) : Int) := by rw [rangeSize_nat, Int.sub_zero]
  refine kd_range (σ := List Value × List Dat × Nat × Int × Tok)
    (fun c => [(R, listOf c.1.toArray c.2.2.1), (J, listOf [.ref C, .int c.2.2.2.1 c.2.2.2.2].toArray n)])
    [(C, listOf cs.toArray nc)] (fun _ => []) (fun L c => DatAll L c.1 c.2.1) [PySem.Str.ofString "form"]
    (RowsP (1 + x9).toNat) [R, J, C] ([], [], 0, 1, t9)
    rfl kR (small_one (by omega) (by omega) (by omega) (by omega)) e9 kF kN ?_ ?_ ?_ ?_ ?_ ?_ ?_
  · kd_inAll
  · intro c; rfl
  · exact DatAll.nil
  · exact List.forall_mem_nil _
  · exact ⟨[], rfl, rfl, fun i t h => by simp at h, fun i x h => by simp at h, (by show (1 : Int) ≤ 1; omega), (by show (1 : Int) ≤ 1 + 2 * ((0 : Nat) : Int); omega)⟩
  · intro c tl pre k t u h tk own hk hlt hsep hoff hfacts hP F' N'
    refine hide_flow ?_
    intro Q9 hQ9
    obtain ⟨vs, ds, n', turn, tt'⟩ := c
    obtain ⟨rows, hds, hlen, hok, htx, ht0, ht1⟩ := hP
    dsimp only at hds ht0 ht1 hfacts N' F'
    simp only [List.nil_append, List.cons_append] at N' hfacts
    try dsimp only [kstB] at F'
    have hMk2 := kstMark
    have hvl : vs.length ≤ 7 := by rw [hfacts.length, hds, List.length_map]; omega
    k_with "state" => first
      | exact rowsP_step hds hlen hok htx (.set _) rfl (fun t e => by cases e) (fun x e => by cases e) (by omega) (by omega)
      | exact rowsP_step hds hlen hok htx .fin rfl (fun t e => by cases e) (fun x e => by cases e) (by omega) (by omega)
      | exact rowsP_step hds hlen hok htx (.rem _) rfl (fun t e => by cases e) (fun x e => by cases e; exact strOk_ofString _) (by omega) (by omega)
      | exact rowsP_goto hds hlen hok htx hk (by assumption) (by omega) rfl (by omega) (by omega)
    try k_fold
    k_steps
    all_goals (refine hQ9 _ _ ?_; (try k_fold); k_steps)

  · intro c tl u h tk hoff hfacts hP F' N'
    obtain ⟨vs, ds, n', turn, tt'⟩ := c
    obtain ⟨rows, hds, hlen, hok, htx, ht0, ht1⟩ := hP
    dsimp only at hds ht0 ht1 hfacts N' F'
    simp only [List.nil_append, List.cons_append] at N' hfacts
    try dsimp only [kstB] at F'
    try k_fold
    k_steps
    rw [rangeKs_length] at hlen
    (rename Fr h₀ L _ m => kF1)
    (rename News h₀ L _ _ => kN1)
    refine hret _ ((R, listOf vs.toArray n') :: (C, listOf cs.toArray nc) :: tl) _ _ kF1 (news_sub kN1 ?_) ⟨R, vs, n', _, rows, rfl, rfl, by rw [← hds]; exact hfacts, by omega, by omega, by rw [hlen]; exact hok, htx⟩
    intro p hp
    rcases List.mem_cons.mp hp with rfl | hp
    · exact List.Mem.head _
    · exact List.Mem.tail _ (List.Mem.tail _ hp)
end
end Mine
end

section
namespace Mine
section
variable {w : World} {mean : ExcName → Option Value} {mg mb : PySem.Str → Option Value}

theorem way_con {R : Addr} {n : Nat} {vs : List Value} {rows : List Row} {rest : List (Addr × Obj)}
    (hD : DatAll rest vs (rows.map Row.dat)) (hok : RowsOk rows.length rows) (hl7 : rows.length ≤ 7) :
    Con w mean mg mb 0 589 [.ref R] ((R, listOf vs.toArray n) :: rest)
      (fun r news' => ∃ W wv nw, r = .ref W ∧ news' = (W, listOf wv.toArray nw) :: (R, listOf vs.toArray n) :: rest ∧ IntsAre wv ((wayFrom rows 0).map Int.ofNat) ∧ ∀ p ∈ (R, listOf vs.toArray n) :: rest, p.1 < W) := by
  unfold Con
  k_with_none
  w_top off
  k_with "exec While Compare cons nil" =>
    refine stop_of ?_
  k_with "callWith" =>
    (with_reducible refine' at_meth ?_)
    refine callWith_method1 ?_
  k_with "size_fits" =>
    simp only [List.size_toArray, List.length_append, List.length_cons, List.length_nil, PySem.sizeLine_eq]
    omega
  k_with "call builtin:len" =>
    k_here
    (with_reducible refine' at_len ?_)
    k_dflt (refine row_len (by k_asm) (by k_memK) (by assumption) (by omega) ?_)
  k_with "subscriptTail" =>
    k_here
    (with_reducible refine' at_sub ?_)
    k_dflt (refine row_item4 (by k_asm) (by k_memK) (by assumption) (by omega) (by omega) (by omega) ?_ ?_ ?_ ?_ (by with_unfolding_all rfl))
    all_goals (intros; (try dsimp only); (try k_fold))
  k_with "subscriptTail" =>
    k_here
    (with_reducible refine' at_sub ?_)
    k_dflt (first
      | refine row_at_rem (by with_reducible assumption) (by k_asm) (by k_memK) (by assumption) (by omega) (by omega) (by omega) ?_ (by with_unfolding_all rfl)
      | refine row_at_set (by with_reducible assumption) (by k_asm) (by k_memK) (by assumption) (by omega) (by omega) (by omega) ?_ (by with_unfolding_all rfl)
      | refine row_at_goto (by with_reducible assumption) (by k_asm) (by k_memK) (by assumption) (by omega) (by omega) (by omega) ?_ (by with_unfolding_all rfl)
      | refine row_at_fin (by with_reducible assumption) (by k_asm) (by k_memK) (by assumption) (by omega) (by omega) (by omega) ?_ (by with_unfolding_all rfl))
    intros
    (try dsimp only)
    (try k_fold)
  k_with "KswEnd" =>
    (rename News _ _ _ _ => nE')
    (simp only [List.push_toArray] at nE')
    (refine ksw_end ⟨_, _, _, _, _⟩ (by assumption) nE' (fun p hp => hp) (by kst_facts) (by kst_all) (by ksw_same) (by kst_p) (by ksw_less))
  k_fill
  intro dp un gd cn cs' a ccd cl outer A₀ base h₀ L m s Q E B F X N T hk hd hu hret
  have hMk := kdMark
  refine wpAny_call ?_
  k_dflt ktr_enter
  k_steps
  rename_i W h7 kl1 h6 D h5 kl2 h4 h3 kF kN
  unfold Stop
  refine' ksw_while (σ := List Value × List Int × Nat × Int × Tok)
    (fun c => (W, listOf c.1.toArray c.2.2.1) :: (R, listOf vs.toArray n) :: rest)
    (fun c => [(PySem.Str.ofString "at", .int c.2.2.2.1 c.2.2.2.2)])
    (fun c => IntsAre c.1 c.2.1) [PySem.Str.ofString "word"]
    (fun c => WayP rows c.2.1 c.2.2.2.1) (fun c => rows.length - c.2.2.2.1.toNat) ([], [], 0, 0, ?t0)
    kF (news_sub kN (fun p hp => List.Mem.tail _ hp)) IntsAre.nil ?hk ⟨0, rfl, Nat.zero_le _, Nat.zero_le _, rfl⟩ ?turn
  case hk => kst_all
  case turn =>
    intro c u h tk hfacts hP F' N'
    refine hide_flow ?_
    intro Q9 hQ9
    obtain ⟨wv, wn, n', k, tt'⟩ := c
    dsimp only at hP hfacts N' F'
    dsimp only [kstB] at F'
    have hMk2 := kstMark
    have hk0 : 0 ≤ k ∧ k ≤ 7 ∧ wv.length ≤ 7 := by
      obtain ⟨k', h1, h2, h3, _⟩ := hP
      rw [hfacts.length]
      omega
    obtain ⟨hk0, hk7, hv7⟩ := hk0
    k_with "state" => first
      | exact wayP_step hok hP (by assumption) (by rw [nxt_rem (by assumption)]; omega)
      | exact wayP_step hok hP (by assumption) (by rw [nxt_set (by assumption)]; omega)
      | exact wayP_step hok hP (by assumption) (by rw [nxt_fin (by assumption)])
      | exact wayP_step hok hP (by assumption) (by rw [nxt_goto (by assumption)]; exact line_back _)
    k_with "measure" => first
      | exact way_less hok hP (by assumption) (by rw [nxt_rem (by assumption)]; omega)
      | exact way_less hok hP (by assumption) (by rw [nxt_set (by assumption)]; omega)
      | exact way_less hok hP (by assumption) (by rw [nxt_fin (by assumption)])
      | exact way_less hok hP (by assumption) (by rw [nxt_goto (by assumption)]; exact line_back _)
    try k_fold
    k_steps
    all_goals (refine hQ9 _ _ ?_; (try k_fold); k_steps)
    (rename Fr h₀ L _ m => kF1)
    (rename News h₀ L _ _ => kN1)
    refine hret _ _ _ _ kF1 kN1 ⟨W, wv, n', rfl, rfl, by rw [← way_done hP (by assumption)]; exact hfacts, ?_⟩
    intro p hp
    rcases List.mem_cons.mp hp with rfl | hp
    · exact kl1.1
    · exact ktn_ltOf kl1.2 p hp
end
end Mine
end

section
namespace Mine
section
variable {w : World} {mean : ExcName → Option Value} {mg mb : PySem.Str → Option Value}

theorem noted_con {R W : Addr} {nr nw : Nat} {vs wv : List Value} {rows : List Row} {done : List Nat} {rest : List (Addr × Obj)}
    (hD : DatAll rest vs (rows.map Row.dat)) (hlt : ∀ k ∈ done, k < rows.length) (hw : IntsAre wv (done.map Int.ofNat)) (h7 : rows.length ≤ 7) (hl7 : done.length ≤ 7) :
    Con w mean mg mb 0 596 [.ref R, .ref W] ((W, listOf wv.toArray nw) :: (R, listOf vs.toArray nr) :: rest)
      (fun r nx => ∃ (T NL : Addr) (nv : List Value) (nn : Nat) (t : Tok) (tl : List (Addr × Obj)), r = .ref T ∧ nx = (T, tupO [.ref NL, .int (noted rows done).2 t]) :: (NL, listOf nv.toArray nn) :: (W, listOf wv.toArray nw) :: (R, listOf vs.toArray nr) :: (rest ++ tl) ∧
        DatAll nx nv ((noted rows done).1.map noteDat)) := by
  unfold Con
  k_with_none
  w_top off
  k_with "callWith" =>
    (with_reducible refine' at_meth ?_)
    refine callWith_method1 ?_
  k_with "size_fits" =>
    simp only [List.size_toArray, List.length_append, List.length_cons, List.length_nil, PySem.sizeLine_eq]
    omega
  k_with "InvEndG" =>
    refine stop_of ?_
  k_with "subscriptTail" =>
    k_here
    (with_reducible refine' at_sub ?_)
    k_dflt (refine row_item4 (by k_asm) (by k_memK) (by assumption) (by omega) (by omega) (by omega) ?_ ?_ ?_ ?_ (by with_unfolding_all rfl))
    all_goals (intros; (try dsimp only); (try k_fold))
  k_with "subscriptTail" =>
    k_here
    (with_reducible refine' at_sub ?_)
    k_dflt (first
      | refine row_at_rem (by with_reducible assumption) (by k_asm) (by k_memK) (by assumption) (by omega) (by omega) (by omega) ?_ (by with_unfolding_all rfl)
      | refine row_at_set (by with_reducible assumption) (by k_asm) (by k_memK) (by assumption) (by omega) (by omega) (by omega) ?_ (by with_unfolding_all rfl)
      | refine row_at_goto (by with_reducible assumption) (by k_asm) (by k_memK) (by assumption) (by omega) (by omega) (by omega) ?_ (by with_unfolding_all rfl)
      | refine row_at_fin (by with_reducible assumption) (by k_asm) (by k_memK) (by assumption) (by omega) (by omega) (by omega) ?_ (by with_unfolding_all rfl))
    intros
    (try dsimp only)
    (try k_fold)
  k_with "mem" =>
    first | with_reducible exact List.Mem.head _ | (refine' List.Mem.tail _ ?_; k_extra "mem") | (refine' mem_left ?_; k_extra "mem") | (refine' mem_right ?_; k_extra "mem") | with_reducible assumption | exact List.Mem.head _
  k_with "subs" =>
    first | exact sub_nil | with_reducible exact sub_refl | (with_reducible refine' sub_both ?_; k_extra "subs") | (refine' sub_cons ?_ ?_; k_extra "mem"; k_extra "subs") | (refine' sub_app ?_ ?_ <;> k_extra "subs") | with_reducible assumption | (refine' sub_skip ?_; k_extra "subs") | (refine' sub_left ?_; k_extra "subs") | (refine' sub_right ?_; k_extra "subs")
  k_fill
  intro dp un gd cn cs' a ccd cl outer A₀ base h₀ L m s Q E B F X N T hk hd hu hret
  have hMk := kdMark
  refine wpAny_call ?_
  k_dflt ktr_enter
  k_steps
  rename_i NL h10 kl1 D9 h7' kl2 h5 h4 h3 kF kN
  (rename IntsAre wv (done.map Int.ofNat) => hw)
  unfold Stop
  have hwl : wv.length = done.length := by rw [hw.length, List.length_map]
  refine' kd_listI (σ := List Value × List Dat × Nat × Int × Tok)
    (fun c => [(NL, listOf c.1.toArray c.2.2.1)])
    ((W, listOf wv.toArray nw) :: (R, listOf vs.toArray nr) :: rest)
    (fun c => [(PySem.Str.ofString "x", .int c.2.2.2.1 c.2.2.2.2)]) (fun L c => DatAll L c.1 c.2.1) []
    (fun pre c => NoteP rows pre c.2.1 c.2.2.2.1)
    (NL :: W :: R :: rest.map (·.1)) ([], [], 0, 0, ?t0)
    rfl (List.Mem.head _) hw kF kN ?hn ?ha DatAll.nil ?hk (noteP_start rows) ?turn ?done
  case hk => kst_all
  case hn => intro p hp; simp only [List.cons_append, List.nil_append, List.append_nil] at hp; exact List.Mem.tail _ hp
  case ha => intro c; rfl
  case turn =>
    intro c tl pre post n t u h tk own hns hn hsep hoff hfacts hP F' N'
    refine hide_flow ?_
    intro Q9 hQ9
    obtain ⟨nv, nds, nn, x, tx⟩ := c
    dsimp only at hP hfacts N' F'
    dsimp only [kstB] at F'
    obtain ⟨k, hk0, rfl⟩ := List.mem_map.mp hn
    have hk1 := hlt k hk0
    have hn0 : 0 ≤ Int.ofNat k := Int.natCast_nonneg k
    have hn1 : Int.ofNat k < (rows.length : Int) := Int.ofNat_lt.mpr hk1
    generalize Int.ofNat k = n at *
    have hpl : pre.length ≤ 7 := by
      have := congrArg List.length hns
      rw [List.length_map, List.length_append] at this
      omega
    have hnl : nv.length ≤ 7 := by
      have := noteP_len hP
      rw [hfacts.length]
      omega
    simp only [List.nil_append, List.cons_append] at N' hfacts
    have hMk2 := kstMark
    have ho3 := hsep.three
    try k_fold
    k_steps
    all_goals (refine hQ9 _ _ ?_; (try k_fold); k_steps)
    · rename_i D8 h8 l8' h7 F9 N9
      (rename PySem.Str => y)
      (rename (rows[Int.toNat n]? = some (Row.rem _)) => e7)
      unfold Stop
      simp only [List.push_toArray] at N9
      obtain ⟨t8, t9, n9, N9⟩ : ∃ t8 t9 n9, News _ _ _ ((D8, ({ cls := .type "tuple", data := .seq #[.str y t8, .int x t9] n9 } : Obj)) :: (NL, listOf (nv ++ [Value.ref D8]).toArray (nn + 1)) :: (W, listOf wv.toArray nw) :: (R, listOf vs.toArray nr) :: (rest ++ (tl ++ own))) := ⟨_, _, _, N9⟩
      have l8 : ∀ p ∈ ((NL, listOf nv.toArray nn) :: (W, listOf nv.toArray nn) :: (R, listOf nv.toArray nn) :: (rest ++ (tl ++ own)) : List (Addr × Obj)), @LT.lt Nat _ p.1 D8 := lt_of_all l8'
      refine kd_end (tl := tl) (nv ++ [Value.ref D8], nds ++ [.tuple [.str y, .int x]], nn + 1, x, ?tok1) [(D8, ({ cls := .type "tuple", data := .seq #[.str y t8, .int x t9] n9 } : Obj))] hsep F9 N9 ?hn1 ?ho1 rfl ?hb1 ?hw1 ?hk1 ?hr1 ?hf1 (noteP_rem hP hn0 e7)
      case hn1 =>
        (try dsimp only [List.cons_append, List.nil_append])
        k_extra "subs"
      case ho1 =>
        (try dsimp only [List.cons_append, List.nil_append])
        k_extra "subs"
      case hk1 =>
        intro p hp
        obtain rfl := List.mem_singleton.mp hp
        exact rfl
      case hr1 =>
        intro z h1 h2 h3
        have h2' := h2 _ (List.mem_singleton.mpr rfl)
        dsimp only at h2'
        simp [h1, h2']
      case hb1 =>
        intro q hq b hb
        obtain rfl := List.mem_singleton.mp hq
        have hb' : b ∈ ((NL, listOf nv.toArray nn) :: (W, listOf nv.toArray nn) :: (R, listOf nv.toArray nn) :: rest : List (Addr × Obj)).map (·.1) := hb
        obtain ⟨p, hp, rfl⟩ := List.mem_map.mp hb'
        clear hb hb'
        refine Nat.ne_of_lt (l8 p ?_)
        revert p
        k_extra "subs"
      case hw1 =>
        intro q hq p hp
        obtain rfl := List.mem_singleton.mp hq
        refine Nat.ne_of_lt (l8 p ?_)
        revert p
        k_extra "subs"
      case hf1 =>
        refine DatAll.append (DatAll.mono ?_ hfacts) (DatAll.cons (DatIn.tuple (n := n9) (vs := [.str y t8, .int x t9]) ?_ (DatAll.cons (DatIn.str _ _) (DatAll.cons (DatIn.int _ _) DatAll.nil))) DatAll.nil)
        · (try dsimp only [List.cons_append, List.nil_append])
          k_extra "subs"
        · (try dsimp only [List.cons_append, List.nil_append])
          k_extra "mem"
    · (rename News _ _ _ _ => N9)
      (rename Fr _ _ _ _ => F9)
      (rename (rows[Int.toNat n]? = some (Row.set _)) => e7)
      unfold Stop
      refine kd_end (tl := tl) (nv, nds, nn, _, ?tok2) [] hsep F9 N9 ?hn2 ?ho2 rfl (List.forall_mem_nil _) (List.forall_mem_nil _) ?hk2 ?hr2 hfacts (noteP_set hP hn0 e7)
      case hn2 =>
        (try dsimp only [List.cons_append, List.nil_append])
        k_extra "subs"
      case ho2 =>
        (try dsimp only [List.cons_append, List.nil_append])
        k_extra "subs"
      case hk2 =>
        intro p hp
        obtain rfl := List.mem_singleton.mp hp
        exact rfl
      case hr2 =>
        intro z h1 h2 h3
        have h2' := h2 _ (List.mem_singleton.mpr rfl)
        dsimp only at h2'
        simp [h1, h2']
    · (rename News _ _ _ _ => N9)
      (rename Fr _ _ _ _ => F9)
      (rename (rows[Int.toNat n]? = some (Row.goto _)) => e7)
      unfold Stop
      refine kd_end (tl := tl) (nv, nds, nn, _, ?tok3) [] hsep F9 N9 ?hn3 ?ho3 rfl (List.forall_mem_nil _) (List.forall_mem_nil _) ?hk3 ?hr3 hfacts (noteP_goto hP hn0 e7)
      case hn3 =>
        (try dsimp only [List.cons_append, List.nil_append])
        k_extra "subs"
      case ho3 =>
        (try dsimp only [List.cons_append, List.nil_append])
        k_extra "subs"
      case hk3 =>
        intro p hp
        obtain rfl := List.mem_singleton.mp hp
        exact rfl
      case hr3 =>
        intro z h1 h2 h3
        have h2' := h2 _ (List.mem_singleton.mpr rfl)
        dsimp only at h2'
        simp [h1, h2']
    · (rename News _ _ _ _ => N9)
      (rename Fr _ _ _ _ => F9)
      (rename (rows[Int.toNat n]? = some Row.fin) => e7)
      unfold Stop
      refine kd_end (tl := tl) (nv, nds, nn, _, ?tok4) [] hsep F9 N9 ?hn4 ?ho4 rfl (List.forall_mem_nil _) (List.forall_mem_nil _) ?hk4 ?hr4 hfacts (noteP_fin hP hn0 e7)
      case hn4 =>
        (try dsimp only [List.cons_append, List.nil_append])
        k_extra "subs"
      case ho4 =>
        (try dsimp only [List.cons_append, List.nil_append])
        k_extra "subs"
      case hk4 =>
        intro p hp
        obtain rfl := List.mem_singleton.mp hp
        exact rfl
      case hr4 =>
        intro z h1 h2 h3
        have h2' := h2 _ (List.mem_singleton.mpr rfl)
        dsimp only at h2'
        simp [h1, h2']
  case done =>
    intro c tl u h tk hoff hfacts hP F' N'
    obtain ⟨nv, nds, nn, x, tx⟩ := c
    dsimp only at hP hfacts N' F'
    dsimp only [kstB] at F'
    obtain ⟨rfl, rfl⟩ := noteP_done hP
    simp only [List.nil_append, List.cons_append] at N' hfacts
    try k_fold
    k_steps
    (rename Fr h₀ L _ m => kF1)
    (rename News h₀ L _ _ => kN1)
    refine hret _ _ _ _ kF1 kN1 ⟨_, NL, nv, nn, _, tl, rfl, rfl, ?_⟩
    exact DatAll.mono (fun p hp => List.Mem.tail _ (List.Mem.tail _ hp)) hfacts

end
end Mine
end

section
namespace Mine
section
variable {w : World} {mean : ExcName → Option Value} {mg mb : PySem.Str → Option Value}

theorem put_con0 {RW FL D ST PL DA PA LO FN : Addr} {n ns : Nat} {rv : List Value} {sv : Value} {row : Row} {line : Int} {t t1 t2 t3 t4 t5 t6 : Tok} {rest : List (Addr × Obj)}
    (hRW : OwnOff rest [RW]) (hFL : (FL, instObj 381 D) ∈ rest) (hD : (D, flatD w RW PL DA PA LO FN t1 t2 t3 t4 t5 t6) ∈ rest) (hST : (ST, listOf [sv].toArray ns) ∈ rest) (hsv : DatIn rest sv row.dat) (hn : rv.length ≤ 100) :
    Con w mean mg mb 1 406 [.ref FL, .int line t, .ref ST] ((RW, listOf rv.toArray n) :: rest)
      (fun r nx => ∃ T : Addr, r = .none ∧ nx = (T, tupO [.int line t, sv]) :: (RW, listOf (rv ++ [Value.ref T]).toArray (n + 1)) :: rest ∧ ∀ p ∈ (RW, listOf rv.toArray n) :: rest, p.1 < T) := by
  unfold Con
  k_with_none
  w_top off
  k_with "k_room" =>
    simp only [depth_under_make, depth_under_kw, depth_in1, depth_deeper, recursionLimit]
    omega
  k_with "k_units" =>
    simp only [units_in1, units_deeper, units_under_make, Around.mark_units]
    have hcL9 := cLine_is
    omega
  k_with "callWith" =>
    (with_reducible refine' at_meth ?_)
    refine callWith_method1 ?_
  k_with "size_fits" =>
    simp only [List.size_toArray, List.length_append, List.length_cons, List.length_nil, PySem.sizeLine_eq]
    omega
  k_with "call builtin:len" =>
    k_here
    (with_reducible refine' at_len ?_)
    k_dflt (refine any_len (by k_asm) (by k_memK) (by ((try simp only [Array.size_push, List.size_toArray]); omega)) ?_)
  k_with "exec For Tuple Name cons nil" =>
    k_here
    with_unfolding_all refine For_turns (by k_asm) ?_
  k_with "exec For Tuple Call cons nil" =>
    k_here
    with_unfolding_all refine For_turns (by k_asm) ?_
  k_with "call type:enumerate" =>
    refine stop_of ?_
  k_with "exec For Name Name cons nil" =>
    k_here
    with_unfolding_all refine For_turns (by k_asm) ?_
  k_with "InvEndG" =>
    refine stop_of ?_
  k_fill
  intro dp un gd cn cs' a ccd cl outer A₀ base h₀ L m s Q E B F X N T hk hd hu hret
  have hMk := kdMark
  refine wpAny_call ?_
  k_dflt ktr_enter
  k_steps
  (rename News _ _ _ _ => kN)
  (rename Fr _ _ _ _ => kF)
  unfold Stop
  refine mt_one [PySem.Str.ofString "statement"] (fun ny => ∃ T : Addr, ny = (T, tupO [.int line t, sv]) :: (RW, listOf (rv ++ [Value.ref T]).toArray (n + 1)) :: rest ∧ ∀ p ∈ (RW, listOf rv.toArray n) :: rest, p.1 < T) rfl (List.Mem.tail _ hST) kF kN ?_ ?_
  · intro h tk own hoff F' N'
    simp only [List.map_cons] at hoff
    simp only [List.cons_append] at N'
    refine hide_flow ?_
    intro Q9 hQ9
    refine row4 hsv ?g1 ?g2 ?g3 ?g4
    case' g1 => rintro _ _ _ _ _ rfl rfl _
    case' g2 => rintro _ _ _ _ _ _ _ _ _ _ _ _ rfl rfl _ _ _
    case' g3 => rintro _ _ _ _ _ rfl rfl _
    case' g4 => rintro _ _ _ rfl rfl _
    all_goals ((try k_fold); k_steps)
    all_goals (refine hQ9 _ _ ?_; (try k_fold); k_steps)
    all_goals (
      (rename News _ _ _ _ => kN)
      (rename Fr _ _ _ _ => kF)
      (rename _ ∧ AllLt _ (_ ++ _) => kL)
      unfold Stop
      simp only [List.push_toArray] at kN
      refine' InvEndG.intro kF kN ⟨?hl, ⟨_, rfl, ?hlt⟩, ?hz⟩ ?ha ?hn ?ho
      case hn => kd_inAll
      case hl => exact List.Mem.tail _ (List.Mem.tail _ hST)
      case hlt =>
        intro p hp
        rcases List.mem_cons.mp hp with rfl | hp
        · exact kL.1
        · exact ktn_ltOf kL.2 p (List.mem_append.mpr (.inl hp))
      case hz =>
        intro z h3
        simp only [List.contains_cons, List.contains_nil, Bool.or_false, beq_eq_false_iff_ne, ne_eq] at h3
        exact if_neg h3
      case ha =>
        intro p hp b hb
        simp only [List.map_cons] at hb
        rcases List.mem_cons.mp hb with rfl | hb
        · exact Nat.ne_of_lt (ktn_ltOf kL.2 p (List.mem_append.mpr (.inr hp)))
        · exact hoff p hp b hb
      case ho => exact fun p hp => List.Mem.tail _ (List.Mem.tail _ (List.mem_append.mpr (.inr hp))))
  · rintro u nx h tk ⟨T, rfl, hT⟩ F' N'
    try k_fold
    k_steps
    (rename Fr h₀ L _ m => kF1)
    (rename News h₀ L _ _ => kN1)
    exact hret _ _ _ _ kF1 kN1 ⟨T, rfl, rfl, hT⟩

theorem put_con {RW FL D ST PL DA PA LO FN : Addr} {n ns : Nat} {rv : List Value} {sv : Value} {row : Row} {line : Int} {t t1 t2 t3 t4 t5 t6 : Tok} {news base : List (Addr × Obj)} {news' : Tok → List (Addr × Obj)}
    (hU : ∀ T, Upd RW (listOf rv.toArray n) (listOf (rv ++ [Value.ref T]).toArray (n + 1)) news (news' T)) (hFL : (FL, instObj 381 D) ∈ news) (hD : (D, flatD w RW PL DA PA LO FN t1 t2 t3 t4 t5 t6) ∈ news) (hST : (ST, listOf [sv].toArray ns) ∈ base)
    (hRF : @Ne Nat FL RW) (hRD : @Ne Nat D RW) (hsv : DatIn base sv row.dat) (hb : ∀ p ∈ base, p ∈ news) (hbo : ∀ p ∈ base, p.1 ≠ RW) (hn : rv.length ≤ 100) :
    Con w mean mg mb 1 406 [.ref FL, .int line t, .ref ST] news
      (fun r nx => ∃ T : Addr, r = .none ∧ nx = (T, tupO [.int line t, sv]) :: news' T ∧ ∀ p ∈ news, p.1 < T) := by
  intro dp un gd cn cs a ccd cl outer A₀ base h₀ L m s Q E B F X N T hk hd hu hret
  obtain ⟨rest, off, h1, h2, h3, h4⟩ := upd_front hU
  have into : ∀ p ∈ news, p.1 ≠ RW → p ∈ rest := fun p hp hne => (List.mem_cons.mp (h3 p hp)).resolve_left fun e => hne (congrArg Prod.fst e)
  refine con_use B F X (news_sub N h1) T hk (put_con0 off (into _ hFL hRF) (into _ hD hRD) (into _ (hb _ hST) (hbo _ hST)) (DatIn.mono (fun p hp => into p (hb p hp) (hbo p hp)) hsv) hn) hd hu ?_
  rintro r nx h' tk' F' N' ⟨T', rfl, rfl, hT⟩
  refine hret _ ((T', tupO [.int line t, sv]) :: news' T') _ _ F' (news_sub N' ?_) ⟨T', rfl, rfl, fun p hp => hT p (h3 p hp)⟩
  intro p hp
  rcases List.mem_cons.mp hp with rfl | hp
  · exact List.Mem.head _
  · exact List.Mem.tail _ (h4 T' p hp)
end
end Mine
end

section
namespace Mine
section
variable {w : World} {mean : ExcName → Option Value} {mg mb : PySem.Str → Option Value}

theorem gather_con {RW FL D PL DA PA LO FN : Addr} {n : Nat} {rv : List Value} {rows : List Row} {t1 t2 t3 t4 t5 t6 : Tok} {rest : List (Addr × Obj)}
    (hFL : (FL, instObj 381 D) ∈ rest) (hD : (D, flatD w RW PL DA PA LO FN t1 t2 t3 t4 t5 t6) ∈ rest) (hrv : DatAll rest rv (numbered flatRow 0 rows)) (hn : rows.length ≤ 7) :
    Con w mean mg mb 0 413 [.ref FL] ((RW, listOf rv.toArray n) :: rest) (fun r nx => r = .none ∧ nx = (RW, listOf rv.toArray n) :: rest) := by
  unfold Con
  k_with_none
  w_top off
  k_with "k_room" =>
    simp only [depth_under_make, depth_under_kw, depth_in1, depth_deeper, recursionLimit]
    omega
  k_with "k_units" =>
    simp only [units_in1, units_deeper, units_under_make, Around.mark_units]
    have hcL9 := cLine_is
    omega
  k_with "callWith" =>
    (with_reducible refine' at_meth ?_)
    refine callWith_method1 ?_
  k_with "size_fits" =>
    simp only [List.size_toArray, List.length_append, List.length_cons, List.length_nil, PySem.sizeLine_eq]
    omega
  k_with "call builtin:len" =>
    k_here
    (with_reducible refine' at_len ?_)
    k_dflt (refine any_len (by k_asm) (by k_memK) (by ((try simp only [Array.size_push, List.size_toArray]); omega)) ?_)
  k_with "exec For Tuple Name cons nil" =>
    k_here
    with_unfolding_all refine For_turns (by k_asm) ?_
  k_with "exec For Tuple Call cons nil" =>
    k_here
    with_unfolding_all refine For_turns (by k_asm) ?_
  k_with "call type:enumerate" =>
    refine stop_of ?_
  k_with "exec For Name Name cons nil" =>
    k_here
    with_unfolding_all refine For_turns (by k_asm) ?_
  k_with "InvEndG" =>
    refine stop_of ?_
  k_fill
  intro dp un gd cn cs' a ccd cl outer A₀ base h₀ L m s Q E B F X N T hk hd hu hret
  have hMk := kdMark
  refine wpAny_call ?_
  k_dflt ktr_enter
  k_steps
  (rename News _ _ _ _ => kN)
  (rename Fr _ _ _ _ => kF)
  unfold Stop
  refine mt_enumK (l := RW) (keep := (RW, listOf rv.toArray n) :: rest) [PySem.Str.ofString "at", PySem.Str.ofString "pair", PySem.Str.ofString "line", PySem.Str.ofString "statement", PySem.Str.ofString "word"] rfl (List.Mem.head _) kF (news_sub kN (fun p hp => List.Mem.tail _ (List.Mem.tail _ (List.Mem.tail _ (List.Mem.tail _ hp))))) ?_ ?_
  · intro i x T t u h tk own hx hT hoff F' N'
    simp only [List.map_cons] at hoff
    simp only [List.cons_append] at N'
    have hi : i < rows.length := by
      have := (List.getElem?_eq_some_iff.mp hx).1
      rw [hrv.length, numbered_length] at this
      exact this
    obtain ⟨x', hx', hxd⟩ := hrv.get (k := i) (by rw [numbered_length]; exact hi)
    obtain rfl : x' = x := by rw [hx] at hx'; exact (Option.some.inj hx').symm
    have hrow : ∃ r, (numbered flatRow 0 rows)[i]'(by rw [numbered_length]; exact hi) = flatRow i r := by
      refine ⟨rows[i]'hi, ?_⟩
      have h9 := numbered_get flatRow 0 i rows
      rw [List.getElem?_eq_getElem (by rw [numbered_length]; exact hi), List.getElem?_eq_getElem hi, Nat.zero_add] at h9
      exact Option.some.inj h9
    obtain ⟨r, hr⟩ := hrow
    rw [hr] at hxd
    clear hr
    refine hide_flow ?_
    intro Q9 hQ9
    refine flat4 hxd ?g1 ?g2 ?g3 ?g4
    case' g1 => rintro _ _ _ _ _ _ _ _ rfl rfl _ _
    case' g2 => rintro _ _ _ _ _ _ _ _ _ _ _ _ _ _ _ rfl rfl _ _ _ _
    case' g3 => rintro _ _ _ _ _ _ _ _ rfl rfl _ _
    case' g4 => rintro _ _ _ _ _ _ rfl rfl _ _
    all_goals ((try k_fold); k_steps)
    all_goals (refine hQ9 _ _ ?_; (try k_fold); k_steps)
    all_goals (
      (rename News _ _ _ _ => kN)
      (rename Fr _ _ _ _ => kF)
      unfold Stop
      refine InvEndG.intro kF kN ⟨rfl, ?_⟩ ?_ ?_ ?_
      · intro z h3
        have h4 := h3
        simp only [List.contains_cons, List.contains_nil, Bool.or_false, Bool.or_eq_false_iff, beq_eq_false_iff_ne, ne_eq] at h4
        simp only [h4, h3, if_false, Bool.false_eq_true]
      · simp only [List.map_cons]
        exact hoff
      · intro p hp
        rcases List.mem_cons.mp hp with rfl | hp
        · exact List.Mem.head _
        · exact List.Mem.tail _ (List.mem_append.mpr (.inl hp))
      · exact fun p hp => List.Mem.tail _ (List.mem_append.mpr (.inr hp)))
  · intro u h tk F' N'
    try k_fold
    k_steps
    (rename Fr h₀ L _ m => kF1)
    (rename News h₀ L _ _ => kN1)
    exact hret _ _ _ _ kF1 kN1 ⟨rfl, rfl⟩

theorem gather_con' {RW FL D PL DA PA LO FN : Addr} {n : Nat} {rv : List Value} {rows : List Row} {t1 t2 t3 t4 t5 t6 : Tok} {news base : List (Addr × Obj)}
    (hRW : (RW, listOf rv.toArray n) ∈ news) (hFL : (FL, instObj 381 D) ∈ news) (hD : (D, flatD w RW PL DA PA LO FN t1 t2 t3 t4 t5 t6) ∈ news) (hrv : DatAll base rv (numbered flatRow 0 rows)) (hb : ∀ p ∈ base, p ∈ news) (hn : rows.length ≤ 7) :
    Con w mean mg mb 0 413 [.ref FL] news (fun r nx => r = .none ∧ nx = news) := by
  intro dp un gd cn cs a ccd cl outer A₀ base' h₀ L m s Q E B F X N T hk hd hu hret
  refine con_use B F X (news := (RW, listOf rv.toArray n) :: news) (news_sub N ?_) T hk (gather_con hFL hD (DatAll.mono hb hrv) hn) hd hu ?_
  · intro p hp
    rcases List.mem_cons.mp hp with rfl | hp
    · exact hRW
    · exact hp
  · rintro r nx h' tk' F' N' ⟨rfl, rfl⟩
    exact hret _ news _ _ F' (news_sub N' (fun p hp => List.Mem.tail _ hp)) ⟨rfl, rfl⟩
end
end Mine
end

section
namespace Mine
section
variable {w : World} {mean : ExcName → Option Value} {mg mb : PySem.Str → Option Value}

theorem flatten_con {LL : Addr} {n : Nat} {lv : List Value} {rows : List Row} {rest : List (Addr × Obj)}
    (hlv : DatAll rest lv (numbered lineDat 0 rows)) (hn : rows.length ≤ 7) :
    Con w mean mg mb 2 434 [.ref LL] ((LL, listOf lv.toArray n) :: rest)
      (fun r nx => ∃ (FL D RW PL DA PA LO FN : Addr) (t1 t2 t3 t4 t5 t6 : Tok) (rv : List Value) (nr : Nat) (o : Obj) (kvs : List (Int × Value)) (tl : List (Addr × Obj)), r = .ref FL ∧
        nx = (FL, instObj 381 D) :: (D, flatD w RW PL DA PA LO FN t1 t2 t3 t4 t5 t6) :: (RW, listOf rv.toArray nr) :: (PL, o) :: tl ∧ DatAll tl rv (numbered flatRow 0 rows) ∧ o.IsDictOf (PySem.intKind PySem.Challenge.rw_rr0004_01.row.prog w) kvs ∧ PlacesOk kvs rows.length ∧
        (PL == sysModules) = false ∧ ∀ p ∈ (LL, listOf lv.toArray n) :: rest, p ∈ tl) := by
  unfold Con
  k_with_none
  w_top off
  k_with "room" =>
    first | omega | ((try simp only [depth_under_make, depth_under_kw, depth_in1, depth_deeper, depth_caller, units_in1, units_deeper, Around.mark_units, units_caller]); first | omega | decide)
  k_with "k_room" =>
    simp only [depth_under_make, depth_under_kw, depth_in1, depth_deeper, recursionLimit]
    omega
  k_with "k_units" =>
    simp only [units_in1, units_deeper, units_under_make, Around.mark_units]
    have hcL9 := cLine_is
    omega
  k_with "callWith" =>
    (with_reducible refine' at_meth ?_)
    refine callWith_method1 ?_
  k_with "size_fits" =>
    simp only [List.size_toArray, List.length_append, List.length_cons, List.length_nil, PySem.sizeLine_eq]
    omega
  k_with "call builtin:len" =>
    k_here
    (with_reducible refine' at_len ?_)
    k_dflt (refine any_len (by k_asm) (by k_memK) (by ((try simp only [Array.size_push, List.size_toArray]); omega)) ?_)
  k_with "call builtin:len" =>
    k_here
    (with_reducible refine' at_len ?_)
    k_dflt (refine any_lenL (by k_asm) (by k_memK) (by ((try simp only [List.length_append, List.length_cons, List.length_nil]); exact rfl)) (by omega) ?_)
  k_with "ite" =>
    k_here
    k_openite
    first | (refine ite_pos (by ((try simp only [decide_eq_true_eq, beq_iff_eq]); omega)) ?_) | (refine ite_neg (by ((try simp only [decide_eq_true_eq, beq_iff_eq]); omega)) ?_)
  k_with "exec For Tuple Name cons nil" =>
    k_here
    with_unfolding_all refine For_turns (by k_asm) ?_
  k_with "exec For Tuple Call cons nil" =>
    k_here
    with_unfolding_all refine For_turns (by k_asm) ?_
  k_with "call type:enumerate" =>
    refine stop_of ?_
  k_with "InvEndG" =>
    refine stop_of ?_
  k_with "setItem ref int" =>
    k_here
    (with_reducible refine' at_set ?_)
    k_dflt (refine kda_set (knd := PySem.intKind _ _) (by k_asm) (by k_asm) (by k_updF) (by assumption) (intKind_is _ _ _ _) (by (rw [sizeLine_eq]; omega)) ?_)
    intro _ _ _ _ _
  k_with "subscriptTail" =>
    k_here
    (with_reducible refine' at_sub ?_)
    k_dflt (refine place_item (knd := PySem.intKind _ _) (by k_asm) (by k_mem) (by assumption) (intKind_is _ _ _ _) (valueAt_stored _ _ _) ?_)
  k_with "call ref" =>
    k_here
    (with_reducible refine' at_call 406 ?_)
    k_dflt (refine con_use (by k_asm) (by k_asm) (by k_asm) (by k_asm) (by k_asm) (by first | exact rfl | assumption) (put_con (by (intro T9; k_upd)) (by k_mem) (by k_mem) (by assumption) (by k_ne) (by k_ne) (by assumption) (by first | k_extra "sub" | kd_inAll) (by k_all) (by omega)) (by k_extra "room") (by k_extra "room") ?_)
    rintro _ _ _ _ _ _ ⟨_, e9, f9, l9⟩
    subst e9
    subst f9
    have l8 := l9
    (try k_lt l9)
    (try k_sweep)
    (try dsimp only)
    (try k_fold)
  k_with "call ref" =>
    k_here
    (with_reducible refine' at_call 413 ?_)
    k_dflt (refine con_use (by k_asm) (by k_asm) (by k_asm) (by k_asm) (by k_asm) (by first | exact rfl | assumption) (gather_con' (by k_mem) (by k_mem) (by k_mem) (by assumption) (by first | k_extra "sub" | kd_inAll) (by omega)) (by k_extra "room") (by k_extra "room") ?_)
    rintro _ _ _ _ _ _ ⟨e9, f9⟩
    subst e9
    subst f9
    (try k_sweep)
    (try dsimp only)
    (try k_fold)
  k_with "mem" =>
    first | with_reducible exact List.Mem.head _ | (refine' List.Mem.tail _ ?_; k_extra "mem") | (refine' mem_left ?_; k_extra "mem") | (refine' mem_right ?_; k_extra "mem") | with_reducible assumption | exact List.Mem.head _
  k_with "subs" =>
    first | exact sub_nil | with_reducible exact sub_refl | (with_reducible refine' sub_both ?_; k_extra "subs") | (refine' sub_cons ?_ ?_; k_extra "mem"; k_extra "subs") | (refine' sub_app ?_ ?_ <;> k_extra "subs") | with_reducible assumption | (refine' sub_skip ?_; k_extra "subs") | (refine' sub_left ?_; k_extra "subs") | (refine' sub_right ?_; k_extra "subs")
  k_fill
  intro dp un gd cn cs' a ccd cl outer A₀ base h₀ L m s Q E B F X N T hk hd hu hret
  have hMk := kdMark
  refine wpAny_call ?_
  k_dflt ktr_enter
  k_steps
  rename_i FL D h67 lD lF g64 L63 h62 B61 X60 T59 k58 RW h56 lRW h54 k53 PL h51 oPL loPL hsP fsP hiPL fiP lPL h43 DA h41 lDA h39 k38 PA h36 oPA loPA hsA fsA hiA fiA lPA h28 LO h26 oLO loLO hsL fsL hiL fiL lLO h18 FN h16 oFN loFN hsF fsF hiF fiF lFN h8 F7 N6 Tc5 X4 h3 kF kN
  clear hsP fsP fiP loPA hsA fsA hiA fiA loLO hsL fsL hiL fiL loFN hsF fsF hiF fiF F7 N6 Tc5 X4
  unfold Stop
  obtain ⟨t1, t2, t3, t4, t5, t6, kN⟩ : ∃ t1 t2 t3 t4 t5 t6, News _ _ _ ((FN, oFN) :: (LO, oLO) :: (PA, oPA) :: (DA, listOf [].toArray 0) :: (PL, oPL) :: (RW, listOf [].toArray 0) :: (FL, instObj 381 D) :: (D, flatD w RW PL DA PA LO FN t1 t2 t3 t4 t5 t6) :: (LL, listOf lv.toArray n) :: rest) := ⟨_, _, _, _, _, _, kN⟩
  refine mt_listL (σ := List Value × List Dat × Nat × Obj × List (Int × Value)) (PySem.Str.ofString "line")
    (fun c => [(RW, listOf c.1.toArray c.2.2.1), (PL, c.2.2.2.1)])
    ((FN, oFN) :: (LO, oLO) :: (PA, oPA) :: (DA, listOf [].toArray 0) :: (FL, instObj 381 D) :: (D, flatD w RW PL DA PA LO FN t1 t2 t3 t4 t5 t6) :: (LL, listOf lv.toArray n) :: rest)
    (fun _ => []) (fun L c => DatAll L c.1 c.2.1 ∧ c.2.2.2.1.IsDictOf (PySem.intKind PySem.Challenge.rw_rr0004_01.row.prog w) c.2.2.2.2) [PySem.Str.ofString "statements"]
    (fun pre c => c.2.1 = numbered flatRow 0 (rows.take pre.length) ∧ PlacesOk c.2.2.2.2 pre.length)
    (RW :: PL :: FN :: LO :: PA :: DA :: FL :: D :: LL :: rest.map (·.1)) ([], [], 0, oPL, [])
    rfl (by k_memK) (DatAll.mono (fun p hp => by kst_mem) hlv) kF (news_sub kN ?_) ?_ ⟨DatAll.nil, hiPL⟩ (List.forall_mem_nil _) ⟨rfl, places_none⟩ ?_ ?_
  · kd_inAll
  · intro c; rfl
  · intro c tl pre d post v u h tk own hds hv hsep hoff hfacts hP F' N'
    refine hide_flow ?_
    intro Q9 hQ9
    obtain ⟨rv, rds, nr, o, kvs⟩ := c
    obtain ⟨hrds, hpl⟩ := hP
    obtain ⟨hrv, ho⟩ := hfacts
    obtain ⟨r, hr, rfl⟩ := numbered_at hds
    dsimp only at hrds hpl hrv ho N' F'
    dsimp only [kstB] at F'
    have hi : pre.length < rows.length := (List.getElem?_eq_some_iff.mp hr).1
    have hrl : rds.length = pre.length := by rw [hrds, numbered_length, List.length_take]; omega
    have hrvl : rv.length = pre.length := by rw [hrv.length, hrl]
    have hkl : kvs.length ≤ 7 := Nat.le_trans hpl.1 (by omega)
    simp only [List.nil_append, List.cons_append] at N' hv hrv
    have hMk2 := kstMark
    have ho3 := hsep.three
    have hsub : ∀ (o1 o2 : Obj), ∀ p ∈ (FN, oFN) :: (LO, oLO) :: (PA, oPA) :: (DA, listOf [].toArray 0) :: (FL, instObj 381 D) :: (D, flatD w RW PL DA PA LO FN t1 t2 t3 t4 t5 t6) :: (LL, listOf lv.toArray n) :: (rest ++ tl),
        p ∈ (RW, o1) :: (PL, o2) :: (FN, oFN) :: (LO, oLO) :: (PA, oPA) :: (DA, listOf [].toArray 0) :: (FL, instObj 381 D) :: (D, flatD w RW PL DA PA LO FN t1 t2 t3 t4 t5 t6) :: (LL, listOf lv.toArray n) :: (rest ++ (tl ++ own)) := by
      intro o1 o2
      k_extra "subs"
    k_with "sub" => exact hsub _ _
    refine line_inv hv ?_
    rintro a4 a3 n1 tt v9 n2 rfl ha ha2 hv1
    subst hrds
    try k_fold
    k_steps
    all_goals (refine hQ9 _ _ ?_; (try k_fold); k_steps)
    rename_i h03 F05 N05 h02 h01 tk01 h00 o1 hdo tk7 h9 tk9 F9 T N9
    unfold Stop
    refine kd_end (tl := tl) (rv ++ [Value.ref T], numbered flatRow 0 (rows.take pre.length) ++ [flatRow pre.length r], nr + 1, o1, _) [(T, tupO [.int (10 * ((pre.length : Int) + 1)) tt, v9])] hsep F9 N9 ?_ ?_ rfl ?_ ?_ (List.forall_mem_nil _) ?_ ⟨?_, hdo⟩ ⟨?_, ?_⟩
    · (try dsimp only [List.cons_append, List.nil_append])
      k_extra "subs"
    · (try dsimp only [List.cons_append, List.nil_append])
      k_extra "subs"
    · intro q hq b hb
      obtain rfl := List.mem_singleton.mp hq
      have hb' : b ∈ ((RW, listOf rv.toArray nr) :: (PL, o1) :: (FN, oFN) :: (LO, oLO) :: (PA, oPA) :: (DA, listOf [].toArray 0) :: (FL, instObj 381 D) :: (D, flatD w RW PL DA PA LO FN t1 t2 t3 t4 t5 t6) :: (LL, listOf lv.toArray n) :: rest).map (·.1) := hb
      obtain ⟨p, hp, rfl⟩ := List.mem_map.mp hb'
      clear hb hb'
      refine Nat.ne_of_lt (l8 p ?_)
      revert p
      k_extra "subs"
    · intro q hq p hp
      obtain rfl := List.mem_singleton.mp hq
      refine Nat.ne_of_lt (l8 p ?_)
      revert p
      k_extra "subs"
    · intro z h1 _ h3
      simp only [List.contains_cons, List.contains_nil, Bool.or_false, beq_eq_false_iff_ne, ne_eq] at h3
      simp [h1, h3]
    · refine DatAll.append (DatAll.mono ?_ hrv) (DatAll.cons (DatIn.tuple (n := 0) (vs := [.int (10 * ((pre.length : Int) + 1)) tt, v9]) ?_ (DatAll.cons (DatIn.int _ _) (DatAll.cons (DatIn.mono ?_ hv1) DatAll.nil))) DatAll.nil)
      · (try dsimp only [List.cons_append, List.nil_append])
        k_extra "subs"
      · (try dsimp only [List.cons_append, List.nil_append])
        k_extra "mem"
      · (try dsimp only [List.cons_append, List.nil_append])
        k_extra "subs"
    · show numbered flatRow 0 (rows.take pre.length) ++ [flatRow pre.length r] = numbered flatRow 0 (rows.take (pre ++ [lineDat pre.length r]).length)
      rw [List.length_append]
      exact (numbered_snoc hr).symm
    · show PlacesOk _ (pre ++ [lineDat pre.length r]).length
      rw [List.length_append]
      exact places_step hpl (by omega)
  · intro c tl u h tk hoff hfacts hP F' N'
    obtain ⟨rv, rds, nr, o, kvs⟩ := c
    obtain ⟨hrds, hpl⟩ := hP
    obtain ⟨hrv, ho⟩ := hfacts
    dsimp only at hrds hpl hrv ho N' F'
    dsimp only [kstB] at F'
    rw [numbered_length] at hrds hpl
    rw [List.take_length] at hrds
    subst hrds
    simp only [List.nil_append, List.cons_append] at N' hrv
    k_with "sub" => exact fun p hp => List.Mem.tail _ (List.Mem.tail _ hp)
    try k_fold
    k_steps
    (rename Fr h₀ L _ m => kF1)
    (rename News h₀ L _ _ => kN1)
    refine hret _ ((FL, instObj 381 D) :: (D, flatD w RW PL DA PA LO FN t1 t2 t3 t4 t5 t6) :: (RW, listOf rv.toArray nr) :: (PL, o) :: (FN, oFN) :: (LO, oLO) :: (PA, oPA) :: (DA, listOf [].toArray 0) :: (FL, instObj 381 D) :: (D, flatD w RW PL DA PA LO FN t1 t2 t3 t4 t5 t6) :: (LL, listOf lv.toArray n) :: (rest ++ tl)) _ _ kF1 (news_sub kN1 ?_)
      ⟨FL, D, RW, PL, DA, PA, LO, FN, t1, t2, t3, t4, t5, t6, rv, nr, o, kvs, _, rfl, rfl, hrv, ho, hpl, loPL, ?_⟩
    · (try dsimp only [List.cons_append, List.nil_append])
      k_extra "subs"
    · (try dsimp only [List.cons_append, List.nil_append])
      k_extra "subs"

end
end Mine
end

section
namespace Mine
section
variable {w : World} {mean : ExcName → Option Value} {mg mb : PySem.Str → Option Value}

theorem go_con {RN RD NO VA CO FL D RW PL DA PA LO FN : Addr} {nr nn : Nat} {rv : List Value} {rows : List Row} {vo po : Obj} {pkvs : List (Int × Value)} {b1 b2 r1 r2 r3 r4 r5 r6 r7 t1 t2 t3 t4 t5 t6 ta tm : Tok} {most : Nat} {rest : List (Addr × Obj)}
    (hoff : OwnOff ((RN, instObj 557 RD) :: (RD, runD w FL VA CO NO b1 b2 r1 r2 r3 r4 r5 r6 r7) :: (FL, instObj 381 D) :: (D, flatD w RW PL DA PA LO FN t1 t2 t3 t4 t5 t6) :: (RW, listOf rv.toArray nr) :: (PL, po) :: rest) [NO, VA]) (hNV : @Ne Nat NO VA)
    (hrv : DatAll rest rv (numbered flatRow 0 rows)) (hok : RowsOk rows.length rows) (hn : rows.length ≤ 7) (hm : most ≤ 20)
    (hpo : po.IsDictOf (PySem.intKind PySem.Challenge.rw_rr0004_01.row.prog w) pkvs) (hpl : PlacesOk pkvs rows.length) (lPL : (PL == sysModules) = false) (hvo : vo.IsDictOf (PySem.strKind PySem.Challenge.rw_rr0004_01.row.prog w) []) (lVA : (VA == sysModules) = false) :
    Con w mean mg mb 4 554 [.ref RN, .int 0 ta, .int (most : Int) tm] ((NO, listOf [].toArray nn) :: (VA, vo) :: (RN, instObj 557 RD) :: (RD, runD w FL VA CO NO b1 b2 r1 r2 r3 r4 r5 r6 r7) :: (FL, instObj 381 D) :: (D, flatD w RW PL DA PA LO FN t1 t2 t3 t4 t5 t6) :: (RW, listOf rv.toArray nr) :: (PL, po) :: rest)
      (fun r nx => ∃ (t : Tok) (nv : List Value) (nn' : Nat) (vo' : Obj) (kvs : List (PySem.Str × Value)) (tl : List (Addr × Obj)), r = .int (if (wayFrom rows 0).length ≤ most then (rows.length : Int) else -1) t ∧
        nx = (NO, listOf nv.toArray nn') :: (VA, vo') :: (RN, instObj 557 RD) :: (RD, runD w FL VA CO NO b1 b2 r1 r2 r3 r4 r5 r6 r7) :: (FL, instObj 381 D) :: (D, flatD w RW PL DA PA LO FN t1 t2 t3 t4 t5 t6) :: (RW, listOf rv.toArray nr) :: (PL, po) :: (rest ++ tl) ∧
        DatAll nx nv ((noted rows ((wayFrom rows 0).take most)).1.map noteDat) ∧ vo'.IsDictOf (PySem.strKind PySem.Challenge.rw_rr0004_01.row.prog w) kvs ∧ XOk kvs (noted rows ((wayFrom rows 0).take most)).2) := by
  unfold Con
  k_with_none
  w_top off
  k_with "k_room" =>
    simp only [depth_under_make, depth_under_kw, depth_in1, depth_deeper, recursionLimit]
    omega
  k_with "k_units" =>
    simp only [units_in1, units_deeper, units_under_make, Around.mark_units]
    have hcL9 := cLine_is
    omega
  k_with "callWith" =>
    (with_reducible refine' at_meth ?_)
    refine callWith_method1 ?_
  k_with "size_fits" =>
    simp only [List.size_toArray, List.length_append, List.length_cons, List.length_nil, PySem.sizeLine_eq]
    omega
  k_with "call builtin:len" =>
    k_here
    (with_reducible refine' at_len ?_)
    k_dflt (refine any_lenL (by k_asm) (by k_memK) (by ((try simp only [List.length_append, List.length_cons, List.length_nil]); exact rfl)) (by omega) ?_)
  k_with "ite" =>
    k_here
    k_openite
    first | (refine ite_pos (by ((try simp only [decide_eq_true_eq, beq_iff_eq]); omega)) ?_) | (refine ite_neg (by ((try simp only [decide_eq_true_eq, beq_iff_eq]); omega)) ?_)
  k_with "call type:range" =>
    (with_reducible refine' at_one ?_)
    refine range1_rows (by k_asm) (by k_asm) ?_
    intro _ _ _ _ _ _ _ _ _
  k_with "InvEndG" =>
    refine stop_of ?_
  k_with "subscriptTail" =>
    k_here
    (with_reducible refine' at_sub ?_)
    k_dflt (refine flat_item4 (by k_asm) (by k_mem) (by assumption) (by omega) (by omega) (by omega) ?_ ?_ ?_ ?_ (by with_unfolding_all rfl))
    all_goals (intros; (try k_extra "row"); (try dsimp only); (try k_fold))
  k_with "compareOp NotIn int ref" =>
    k_here
    (try k_extra "row")
    k_dflt (refine place_notin (knd := PySem.intKind _ _) (by k_asm) (by k_mem) (by assumption) (by assumption) (intKind_is _ _ _ _) (by assumption) ?_)
  k_with "subscriptTail" =>
    k_here
    (with_reducible refine' at_sub ?_)
    (try k_extra "row")
    k_dflt (refine place_item (knd := PySem.intKind _ _) (by k_asm) (by k_mem) (by assumption) (intKind_is _ _ _ _) (by assumption) ?_ (by with_unfolding_all rfl))
  k_with "setItem ref str" =>
    k_here
    (with_reducible refine' at_setS ?_)
    k_dflt (refine kda_set (knd := PySem.strKind _ _) (by k_asm) (by k_asm) (by k_updF) (by assumption) (strKind_is _ _ _ _) (by (rw [sizeLine_eq]; omega)) ?_)
    intro _ _ _ _ _
  k_with "getMethod ref" =>
    k_here
    (with_reducible refine' at_get ?_)
    k_dflt (refine dict_get_method (knd := PySem.strKind _ _) (by k_asm) (by k_mem) (by assumption) ?_)
  k_with "call builtin:dict.get" =>
    k_here
    (with_reducible refine' at_dget ?_)
    k_dflt (refine dict_get (knd := PySem.strKind _ _) (by k_asm) (by k_mem) (by assumption) (by assumption) (strKind_is _ _ _ _) (by k_extra "x") ?_)
  k_with "compareOp In str ref" =>
    k_here
    (with_reducible refine' at_in ?_)
    (with_unfolding_all refine in_tuple_strs (kun_topT (by k_asm) (by k_asm) (by k_is)) (by kde_strs) ?_)
  k_with "mem" =>
    first | with_reducible exact List.Mem.head _ | (refine' List.Mem.tail _ ?_; k_extra "mem") | (refine' mem_left ?_; k_extra "mem") | (refine' mem_right ?_; k_extra "mem") | with_reducible assumption | exact List.Mem.head _
  k_with "subs" =>
    first | exact sub_nil | with_reducible exact sub_refl | (with_reducible refine' sub_both ?_; k_extra "subs") | (refine' sub_cons ?_ ?_; k_extra "mem"; k_extra "subs") | (refine' sub_app ?_ ?_ <;> k_extra "subs") | with_reducible assumption | (refine' sub_skip ?_; k_extra "subs") | (refine' sub_left ?_; k_extra "subs") | (refine' sub_right ?_; k_extra "subs")
  k_fill
  intro dp un gd cn cs' a ccd cl outer A₀ base h₀ L m s Q E B F X N T hk hd hu hret
  have hMk := kdMark
  have hrl : rv.length = rows.length := by rw [hrv.length, numbered_length]
  refine wpAny_call ?_
  k_dflt ktr_enter
  k_steps
  rename_i h2 tk9 k1 u1 v1 kR kF kN kk
  unfold Stop
  have n0N : @Ne Nat RN NO := hoff _ (List.Mem.head _) NO (List.Mem.head _)
  have n0V : @Ne Nat RN VA := hoff _ (List.Mem.head _) VA (List.Mem.tail _ (List.Mem.head _))
  have n1N : @Ne Nat RD NO := hoff _ (List.Mem.tail _ (List.Mem.head _)) NO (List.Mem.head _)
  have n1V : @Ne Nat RD VA := hoff _ (List.Mem.tail _ (List.Mem.head _)) VA (List.Mem.tail _ (List.Mem.head _))
  have n2N : @Ne Nat FL NO := hoff _ (List.Mem.tail _ (List.Mem.tail _ (List.Mem.head _))) NO (List.Mem.head _)
  have n2V : @Ne Nat FL VA := hoff _ (List.Mem.tail _ (List.Mem.tail _ (List.Mem.head _))) VA (List.Mem.tail _ (List.Mem.head _))
  have n3N : @Ne Nat D NO := hoff _ (List.Mem.tail _ (List.Mem.tail _ (List.Mem.tail _ (List.Mem.head _)))) NO (List.Mem.head _)
  have n3V : @Ne Nat D VA := hoff _ (List.Mem.tail _ (List.Mem.tail _ (List.Mem.tail _ (List.Mem.head _)))) VA (List.Mem.tail _ (List.Mem.head _))
  have n4N : @Ne Nat RW NO := hoff _ (List.Mem.tail _ (List.Mem.tail _ (List.Mem.tail _ (List.Mem.tail _ (List.Mem.head _))))) NO (List.Mem.head _)
  have n4V : @Ne Nat RW VA := hoff _ (List.Mem.tail _ (List.Mem.tail _ (List.Mem.tail _ (List.Mem.tail _ (List.Mem.head _))))) VA (List.Mem.tail _ (List.Mem.head _))
  have n5N : @Ne Nat PL NO := hoff _ (List.Mem.tail _ (List.Mem.tail _ (List.Mem.tail _ (List.Mem.tail _ (List.Mem.tail _ (List.Mem.head _)))))) NO (List.Mem.head _)
  have n5V : @Ne Nat PL VA := hoff _ (List.Mem.tail _ (List.Mem.tail _ (List.Mem.tail _ (List.Mem.tail _ (List.Mem.tail _ (List.Mem.head _)))))) VA (List.Mem.tail _ (List.Mem.head _))
  have hro : OwnOff rest [NO, VA] := fun p hp => hoff p (List.Mem.tail _ (List.Mem.tail _ (List.Mem.tail _ (List.Mem.tail _ (List.Mem.tail _ (List.Mem.tail _ hp))))))
  clear hoff
  have e9 : Builtin.Range.rangeSize 0 (most : Int) 1 = ((most : Nat) : Int) := by rw [rangeSize_nat, Int.sub_zero, Int.toNat_natCast]
  refine' kd_range (σ := Int × Tok × List Value × List Dat × Nat × Obj × List (PySem.Str × Value))
    (fun c => [(NO, listOf c.2.2.1.toArray c.2.2.2.2.1), (VA, c.2.2.2.2.2.1)])
    ((RN, instObj 557 RD) :: (RD, runD w FL VA CO NO b1 b2 r1 r2 r3 r4 r5 r6 r7) :: (FL, instObj 381 D) :: (D, flatD w RW PL DA PA LO FN t1 t2 t3 t4 t5 t6) :: (RW, listOf rv.toArray nr) :: (PL, po) :: rest)
    (fun c => [(PySem.Str.ofString "at", .int c.1 c.2.1)]) (fun L c => DatAll L c.2.2.1 c.2.2.2.1 ∧ c.2.2.2.2.2.1.IsDictOf (PySem.strKind PySem.Challenge.rw_rr0004_01.row.prog w) c.2.2.2.2.2.2) [PySem.Str.ofString "statement"]
    (fun pre c => GoP rows pre.length c.1 c.2.2.2.1 c.2.2.2.2.2.2)
    (NO :: VA :: RN :: RD :: FL :: D :: RW :: PL :: rest.map (·.1)) (0, ?t0, [], [], nn, vo, [])
    rfl kR (small_one (by omega) (by omega) (by omega) (by omega)) e9 kF kN ?hn ?ha ⟨DatAll.nil, hvo⟩ ?hk (goP_start rows) ?turn ?done
  case hk => kst_all
  case hn => simp
  case ha => intro c; rfl
  case turn =>
    intro c tl pre k t u h tk own hk hlt hsep hoff hfacts hP F' N'
    refine hide_flow ?_
    intro Q9 hQ9
    obtain ⟨at_, ta, nv, nds, nn', vo', kvs⟩ := c
    obtain ⟨hnv, hvo'⟩ := hfacts
    dsimp only at hP hnv hvo' N' F'
    dsimp only [kstB] at F'
    obtain ⟨q0, q1, q2, q3, q4⟩ := goP_bounds hP
    have hnl : nv.length ≤ 7 := by rw [hnv.length]; omega
    obtain ⟨x, hx⟩ := goP_x hP
    obtain ⟨fx, hfx⟩ := xOk_all hx
    simp only [List.nil_append, List.cons_append] at N' hnv
    have hMk2 := kstMark
    have ho3 := hsep.three
    k_with "x" => exact hfx _
    k_with "row" => obtain ⟨tg, hgt⟩ := hpl.2 _ (hok _ _ (by assumption)).2
    try k_fold
    k_steps
    all_goals (refine hQ9 _ _ ?_; (try k_fold); k_steps)
    · (rename Fr h₀ L _ m => kF1)
      (rename News h₀ L _ _ => kN1)
      obtain ⟨g1, g2, g3, g4⟩ := goP_done (most := most) hP (by omega) (by omega)
      refine hret _ ((NO, listOf nv.toArray nn') :: (VA, vo') :: (RN, instObj 557 RD) :: (RD, runD w FL VA CO NO b1 b2 r1 r2 r3 r4 r5 r6 r7) :: (FL, instObj 381 D) :: (D, flatD w RW PL DA PA LO FN t1 t2 t3 t4 t5 t6) :: (RW, listOf rv.toArray nr) :: (PL, po) :: (rest ++ tl)) _ _ kF1 (news_sub kN1 ?_) ⟨_, nv, nn', vo', kvs, tl, by rw [if_pos g2, g1], rfl, ?_, hvo', g4⟩
      · (try dsimp only [List.cons_append, List.nil_append])
        k_extra "subs"
      · rw [← g3]
        exact DatAll.mono (fun p hp => List.Mem.tail _ (List.Mem.tail _ hp)) hnv
    · rename_i D9 h7 l9 h8 h9 F9 N9
      (rename PySem.Str => y)
      (rename (rows[Int.toNat at_]? = some (Row.rem _)) => e7)
      unfold Stop
      simp only [List.push_toArray] at N9
      obtain ⟨t8, t9, n9, N9⟩ : ∃ t8 t9 n9, News _ _ _ ((D9, ({ cls := .type "tuple", data := .seq #[.str y t8, .int x t9] n9 } : Obj)) :: (NO, listOf (nv ++ [Value.ref D9]).toArray (nn' + 1)) :: (VA, vo') :: (RN, instObj 557 RD) :: (RD, runD w FL VA CO NO b1 b2 r1 r2 r3 r4 r5 r6 r7) :: (FL, instObj 381 D) :: (D, flatD w RW PL DA PA LO FN t1 t2 t3 t4 t5 t6) :: (RW, listOf rv.toArray nr) :: (PL, po) :: (rest ++ (tl ++ own))) := ⟨_, _, _, N9⟩
      have l8 : ∀ p ∈ ((NO, vo) :: (VA, vo) :: (RN, vo) :: (RD, vo) :: (FL, vo) :: (D, vo) :: (RW, vo) :: (PL, vo) :: (rest ++ (tl ++ own)) : List (Addr × Obj)), p.1 < D9 := by
        exact lt_of_all l9
      refine kd_end (tl := tl) (at_ + 1, ?tok1, nv ++ [Value.ref D9], nds ++ [.tuple [.str y, .int x]], nn' + 1, vo', kvs) [(D9, ({ cls := .type "tuple", data := .seq #[.str y t8, .int x t9] n9 } : Obj))] hsep F9 N9 ?hn1 ?ho1 rfl ?hb1 ?hw1 ?hk1 ?hr1 ⟨?hf1, hvo'⟩ (goP_rem hok hP (by rw [List.length_append]; rfl) (by omega) e7 hx rfl)
      case hn1 =>
        (try dsimp only [List.cons_append, List.nil_append])
        k_extra "subs"
      case ho1 =>
        (try dsimp only [List.cons_append, List.nil_append])
        k_extra "subs"
      case hb1 =>
        intro q hq b hb
        obtain rfl := List.mem_singleton.mp hq
        have hb' : b ∈ ((NO, vo) :: (VA, vo) :: (RN, vo) :: (RD, vo) :: (FL, vo) :: (D, vo) :: (RW, vo) :: (PL, vo) :: rest : List (Addr × Obj)).map (·.1) := hb
        obtain ⟨p, hp, rfl⟩ := List.mem_map.mp hb'
        clear hb hb'
        refine Nat.ne_of_lt (l8 p ?_)
        revert p
        k_extra "subs"
      case hw1 =>
        intro q hq p hp
        obtain rfl := List.mem_singleton.mp hq
        refine Nat.ne_of_lt (l8 p ?_)
        revert p
        k_extra "subs"
      case hk1 =>
        intro p hp
        obtain rfl := List.mem_singleton.mp hp
        exact rfl
      case hr1 =>
        intro z h1 h2 h3
        have h2' := h2 _ (List.mem_singleton.mpr rfl)
        dsimp only at h2'
        simp only [List.contains_cons, List.contains_nil, Bool.or_false, beq_eq_false_iff_ne, ne_eq] at h3
        simp [h1, h2', h3]
      case hf1 =>
        refine DatAll.append (DatAll.mono ?_ hnv) (DatAll.cons (DatIn.tuple (n := n9) (vs := [.str y t8, .int x t9]) ?_ (DatAll.cons (DatIn.str _ _) (DatAll.cons (DatIn.int _ _) DatAll.nil))) DatAll.nil)
        · (try dsimp only [List.cons_append, List.nil_append])
          k_extra "subs"
        · (try dsimp only [List.cons_append, List.nil_append])
          k_extra "mem"
    · rename_i o9 F8 N8 hd9 Tc9 kX9 h9 F9 N9
      (rename (rows[Int.toNat at_]? = some (Row.set _)) => e7)
      unfold Stop
      refine kd_end (tl := tl) (at_ + 1, ?tok2, nv, nds, nn', o9, stored kvs (PySem.Str.ofString "X") (.int _ _)) [] hsep F9 N9 ?hn2 ?ho2 rfl (List.forall_mem_nil _) (List.forall_mem_nil _) ?hk2 ?hr2 ⟨hnv, hd9⟩ (goP_set hok hP (by rw [List.length_append]; rfl) (by omega) e7 rfl)
      case hn2 =>
        (try dsimp only [List.cons_append, List.nil_append])
        k_extra "subs"
      case ho2 =>
        (try dsimp only [List.cons_append, List.nil_append])
        k_extra "subs"
      case hk2 =>
        intro p hp
        obtain rfl := List.mem_singleton.mp hp
        exact rfl
      case hr2 =>
        intro z h1 h2 h3
        have h2' := h2 _ (List.mem_singleton.mpr rfl)
        dsimp only at h2'
        simp only [List.contains_cons, List.contains_nil, Bool.or_false, beq_eq_false_iff_ne, ne_eq] at h3
        simp [h1, h2', h3]
    · rename_i h9 F9 N9
      (rename (rows[Int.toNat at_]? = some (Row.goto _)) => e7)
      unfold Stop
      refine kd_end (tl := tl) (_, ?tok3, nv, nds, nn', vo', kvs) [] hsep F9 N9 ?hn3 ?ho3 rfl (List.forall_mem_nil _) (List.forall_mem_nil _) ?hk3 ?hr3 ⟨hnv, hvo'⟩ (goP_goto hok hP (by rw [List.length_append]; rfl) (by omega) e7)
      case hn3 =>
        (try dsimp only [List.cons_append, List.nil_append])
        k_extra "subs"
      case ho3 =>
        (try dsimp only [List.cons_append, List.nil_append])
        k_extra "subs"
      case hk3 =>
        intro p hp
        obtain rfl := List.mem_singleton.mp hp
        exact rfl
      case hr3 =>
        intro z h1 h2 h3
        have h2' := h2 _ (List.mem_singleton.mpr rfl)
        dsimp only at h2'
        simp only [List.contains_cons, List.contains_nil, Bool.or_false, beq_eq_false_iff_ne, ne_eq] at h3
        simp [h1, h2', h3]
    · (rename Fr h₀ L _ m => kF1)
      (rename News h₀ L _ _ => kN1)
      (rename (rows[Int.toNat at_]? = some Row.fin) => e7)
      obtain ⟨g2, g3, g4⟩ := goP_fin hok hP (by omega) e7 hlt
      refine hret _ ((NO, listOf nv.toArray nn') :: (VA, vo') :: (RN, instObj 557 RD) :: (RD, runD w FL VA CO NO b1 b2 r1 r2 r3 r4 r5 r6 r7) :: (FL, instObj 381 D) :: (D, flatD w RW PL DA PA LO FN t1 t2 t3 t4 t5 t6) :: (RW, listOf rv.toArray nr) :: (PL, po) :: (rest ++ tl)) _ _ kF1 (news_sub kN1 ?_) ⟨_, nv, nn', vo', kvs, tl, by rw [if_pos g2, hrl], rfl, ?_, hvo', g4⟩
      · (try dsimp only [List.cons_append, List.nil_append])
        k_extra "subs"
      · rw [← g3]
        exact DatAll.mono (fun p hp => List.Mem.tail _ (List.Mem.tail _ hp)) hnv
  case done =>
    intro c tl u h tk hoff hfacts hP F' N'
    obtain ⟨at_, ta, nv, nds, nn', vo', kvs⟩ := c
    obtain ⟨hnv, hvo'⟩ := hfacts
    dsimp only at hP hnv hvo' N' F'
    dsimp only [kstB] at F'
    have er : (rangeKs 0 most).length = most := by simp [rangeKs]
    rw [er] at hP
    obtain ⟨q0, q1, q2, q3, q4⟩ := goP_bounds hP
    simp only [List.nil_append, List.cons_append] at N' hnv
    try k_fold
    k_steps
    · (rename Fr h₀ L _ m => kF1)
      (rename News h₀ L _ _ => kN1)
      obtain ⟨g1, g2, g3, g4⟩ := goP_done hP (by omega) (Nat.le_refl _)
      refine hret _ ((NO, listOf nv.toArray nn') :: (VA, vo') :: (RN, instObj 557 RD) :: (RD, runD w FL VA CO NO b1 b2 r1 r2 r3 r4 r5 r6 r7) :: (FL, instObj 381 D) :: (D, flatD w RW PL DA PA LO FN t1 t2 t3 t4 t5 t6) :: (RW, listOf rv.toArray nr) :: (PL, po) :: (rest ++ tl)) _ _ kF1 (news_sub kN1 ?_) ⟨_, nv, nn', vo', kvs, tl, by rw [if_pos g2, g1], rfl, ?_, hvo', g4⟩
      · (try dsimp only [List.cons_append, List.nil_append])
        k_extra "subs"
      · rw [← g3]
        exact DatAll.mono (fun p hp => List.Mem.tail _ (List.Mem.tail _ hp)) hnv
    · (rename Fr h₀ L _ m => kF1)
      (rename News h₀ L _ _ => kN1)
      obtain ⟨g2, g3, g4⟩ := goP_more hok hP (by omega)
      refine hret _ ((NO, listOf nv.toArray nn') :: (VA, vo') :: (RN, instObj 557 RD) :: (RD, runD w FL VA CO NO b1 b2 r1 r2 r3 r4 r5 r6 r7) :: (FL, instObj 381 D) :: (D, flatD w RW PL DA PA LO FN t1 t2 t3 t4 t5 t6) :: (RW, listOf rv.toArray nr) :: (PL, po) :: (rest ++ tl)) _ _ kF1 (news_sub kN1 ?_) ⟨_, nv, nn', vo', kvs, tl, by rw [if_neg g2], rfl, ?_, hvo', g4⟩
      · (try dsimp only [List.cons_append, List.nil_append])
        k_extra "subs"
      · rw [← g3]
        exact DatAll.mono (fun p hp => List.Mem.tail _ (List.Mem.tail _ hp)) hnv

end
end Mine
end

section
namespace Mine
section
variable {w : World} {mean : ExcName → Option Value} {mg mb : PySem.Str → Option Value}

theorem go_con2a {RN RD VA CO NO FL D RW PL DA PA LO FN : Addr} {nr : Nat} {rv : List Value} {b1 b2 r1 r2 r3 r4 r5 r6 r7 t1 t2 t3 t4 t5 t6 ta tm : Tok} {rest : List (Addr × Obj)}
    (hRD : (RD, runD w FL VA CO NO b1 b2 r1 r2 r3 r4 r5 r6 r7) ∈ rest) (hFL : (FL, instObj 381 D) ∈ rest) (hD : (D, flatD w RW PL DA PA LO FN t1 t2 t3 t4 t5 t6) ∈ rest) (hRW : (RW, listOf rv.toArray nr) ∈ rest) (hn : rv.length ≤ 7) :
    Con w mean mg mb 0 554 [.ref RN, .int (rv.length : Int) ta, .int 0 tm] ((RN, instObj 557 RD) :: rest) (fun r nx => (∃ t, r = .int (rv.length : Int) t) ∧ nx = (RN, instObj 557 RD) :: rest) := by
  unfold Con
  k_with_none
  w_top off
  k_with "k_room" =>
    simp only [depth_under_make, depth_under_kw, depth_in1, depth_deeper, recursionLimit]
    omega
  k_with "k_units" =>
    simp only [units_in1, units_deeper, units_under_make, Around.mark_units]
    have hcL9 := cLine_is
    omega
  k_with "callWith" =>
    (with_reducible refine' at_meth ?_)
    refine callWith_method1 ?_
  k_with "size_fits" =>
    simp only [List.size_toArray, List.length_append, List.length_cons, List.length_nil, PySem.sizeLine_eq]
    omega
  k_with "call builtin:len" =>
    k_here
    (with_reducible refine' at_len ?_)
    k_dflt (refine any_lenL (by k_asm) (by first | k_memK | exact List.Mem.tail _ (List.mem_append.mpr (.inl (by assumption)))) (by ((try simp only [List.length_append, List.length_cons, List.length_nil]); exact rfl)) (by omega) ?_)
  k_with "ite" =>
    k_here
    k_openite
    first | (refine ite_pos (by ((try simp only [decide_eq_true_eq, beq_iff_eq]); omega)) ?_) | (refine ite_neg (by ((try simp only [decide_eq_true_eq, beq_iff_eq]); omega)) ?_)
  k_with "call type:range" =>
    (with_reducible refine' at_one ?_)
    refine range1_rows (by k_asm) (by k_asm) ?_
    intro _ _ _ _ _ _ _ _ _
  k_with "InvEndG" =>
    refine stop_of ?_
  k_with "mem" =>
    first | with_reducible exact List.Mem.head _ | (refine' List.Mem.tail _ ?_; k_extra "mem") | (refine' mem_left ?_; k_extra "mem") | (refine' mem_right ?_; k_extra "mem") | with_reducible assumption | exact List.Mem.head _
  k_with "subs" =>
    first | exact sub_nil | with_reducible exact sub_refl | (with_reducible refine' sub_both ?_; k_extra "subs") | (refine' sub_cons ?_ ?_; k_extra "mem"; k_extra "subs") | (refine' sub_app ?_ ?_ <;> k_extra "subs") | with_reducible assumption | (refine' sub_skip ?_; k_extra "subs") | (refine' sub_left ?_; k_extra "subs") | (refine' sub_right ?_; k_extra "subs")
  k_fill
  intro dp un gd cn cs' a ccd cl outer A₀ base h₀ L m s Q E B F X N T hk hd hu hret
  have hMk := kdMark
  refine wpAny_call ?_
  k_dflt ktr_enter
  k_steps
  rename_i h2 tk9 k1 u1 v1 kR kF kN kk
  unfold Stop
  have e9 : Builtin.Range.rangeSize 0 0 1 = ((0 : Nat) : Int) := rfl
  refine' kd_range (σ := Unit) (fun _ => []) ((RN, instObj 557 RD) :: rest) (fun _ => []) (fun _ _ => True) [] (fun _ _ => True) (RN :: rest.map (·.1)) ()
    rfl kR (small_one (by omega) (by omega) (by omega) (by omega)) e9 kF kN ?hn ?ha True.intro (List.forall_mem_nil _) True.intro ?turn ?done
  case hn => exact fun p hp => by simpa using hp
  case ha => intro c; rfl
  case turn =>
    intro c tl pre k t u h tk own hk hlt
    exact absurd hlt (Nat.not_lt_zero _)
  case done =>
    intro c tl u h tk hoff hfacts hP F' N'
    dsimp only [kstB] at F'
    simp only [List.nil_append, List.cons_append] at N'
    try k_fold
    k_steps
    (rename Fr h₀ L _ m => kF1)
    (rename News h₀ L _ _ => kN1)
    refine hret _ _ _ _ kF1 (news_sub kN1 ?_) ⟨⟨_, rfl⟩, rfl⟩
    (try dsimp only [List.cons_append, List.nil_append])
    k_extra "subs"
theorem go_con2 {RN RD VA CO NO FL D RW PL DA PA LO FN : Addr} {nr : Nat} {rv : List Value} {b1 b2 r1 r2 r3 r4 r5 r6 r7 t1 t2 t3 t4 t5 t6 ta tm : Tok} {many : Int} {news : List (Addr × Obj)}
    (hRN : (RN, instObj 557 RD) ∈ news) (hRD : (RD, runD w FL VA CO NO b1 b2 r1 r2 r3 r4 r5 r6 r7) ∈ news) (hFL : (FL, instObj 381 D) ∈ news) (hD : (D, flatD w RW PL DA PA LO FN t1 t2 t3 t4 t5 t6) ∈ news) (hRW : (RW, listOf rv.toArray nr) ∈ news) (hn : rv.length ≤ 7) (hm : many = (rv.length : Int)) :
    Con w mean mg mb 0 554 [.ref RN, .int many ta, .int 0 tm] news (fun r nx => (∃ t, r = .int many t) ∧ nx = news) := by
  subst hm
  intro dp un gd cn cs a ccd cl outer A₀ base' h₀ L m s Q E B F X N T hk hd hu hret
  refine con_use B F X (news := (RN, instObj 557 RD) :: news) (news_sub N ?_) T hk (go_con2a hRD hFL hD hRW hn) hd hu ?_
  · intro p hp
    rcases List.mem_cons.mp hp with rfl | hp
    · exact hRN
    · exact hp
  · rintro r nx h' tk' F' N' ⟨⟨t, rfl⟩, rfl⟩
    exact hret _ news _ _ F' (news_sub N' (fun p hp => List.Mem.tail _ hp)) ⟨⟨t, rfl⟩, rfl⟩

end
end Mine
end

section
namespace Mine
section

theorem law_holds : PySem.Challenge.rw_rr0004_01.Holds := hd (by
  k_with_none
  k_with "room" =>
    first | omega | ((try simp only [depth_under_make, depth_under_kw, depth_in1, depth_deeper, depth_caller, units_in1, units_deeper, Around.mark_units, units_caller]); first | omega | decide)
  k_with "k_room" =>
    simp only [depth_under_make, depth_under_kw, depth_in1, depth_deeper, recursionLimit]
    omega
  k_with "k_units" =>
    simp only [units_in1, units_deeper, units_under_make, Around.mark_units]
    have hcL9 := cLine_is
    omega
  k_with "callWith" =>
    (with_reducible refine' at_meth ?_)
    refine callWith_method1 ?_
  k_with "size_fits" =>
    simp only [List.size_toArray, List.length_append, List.length_cons, List.length_nil, PySem.sizeLine_eq]
    omega
  k_with "call builtin:len" =>
    k_here
    (with_reducible refine' at_len ?_)
    k_dflt (refine any_len (by k_asm) (by k_memK) (by ((try simp only [Array.size_push, List.size_toArray]); omega)) ?_)
  k_with "call type:range" =>
    (with_reducible refine' at_one ?_)
    refine range1_rows (by k_asm) (by k_asm) ?_
    intro _ _ _ _ _ _ _ _ _
  k_with "call ref" =>
    k_here
    (with_reducible refine' at_call 582 ?_)
    k_dflt (refine con_use (by k_asm) (by k_asm) (by k_asm) (by k_asm) (by k_asm) (by first | exact rfl | assumption) (rows_con (by k_ne) (by assumption) (by omega)) (by k_extra "room") (by k_extra "room") ?_)
    rintro _ _ _ _ _ _ ⟨_, _, _, _, _, e9, f9, _, _, _, _, _⟩
    subst e9
    subst f9
    (try dsimp only)
    (try k_fold)
  k_with "call ref" =>
    k_here
    (with_reducible refine' at_call 589 ?_)
    k_dflt (refine con_use (by k_asm) (by k_asm) (by k_asm) (by k_asm) (by k_asm) (by first | exact rfl | assumption) (way_con (by assumption) (by assumption) (by assumption)) (by k_extra "room") (by k_extra "room") ?_)
    rintro _ _ _ _ _ _ ⟨_, _, _, e9, f9, _, _⟩
    subst e9
    subst f9
    (try dsimp only)
    (try k_fold)
  k_with "eval ListComp" =>
    k_here
    k_dflt (refine ce_ListComp (by rfl) (by rfl) (by decide) ?_)
  k_with "call type:enumerate" =>
    refine stop_of ?_
  k_with "call ref" =>
    k_here
    (with_reducible refine' at_call 434 ?_)
    k_dflt (refine con_use (by k_asm) (by k_asm) (by k_asm) (by k_asm) (by k_asm) (by first | exact rfl | assumption) (flatten_con (by assumption) (by omega)) (by k_extra "room") (by k_extra "room") ?_)
    intro r9 nx9 h9 tk9 F9 N9 ho9
    obtain ⟨FL9, D9, RW9, PL9, DA9, PA9, LO9, FN9, t91, t92, t93, t94, t95, t96, rv9, nr9, o9, kvs9, tl9, e9, f9, hrv9, hpo9, hpl9, lPL9, hsub9⟩ := ho9
    subst e9
    subst f9
    (try dsimp only at N9)
    have mLL9 := hsub9 _ (List.Mem.head _)
    have mW9 := hsub9 _ (List.Mem.tail _ (List.Mem.head _))
    have mR9 := hsub9 _ (List.Mem.tail _ (List.Mem.tail _ (List.Mem.head _)))
    (try k_sweep)
    (try dsimp only)
    (try k_fold)
  k_with "eval IfExp" =>
    (with_reducible show wpAny _ _ (eval (Expr.IfExp _ (Expr.Call _ _ _ _) _ _) _) _ _ _)
    refine stop_of ?_
  k_with "call ref" =>
    (with_reducible refine' at_call 554 ?_)
    refine stop_of ?_
  k_with "call ref" =>
    (with_reducible refine' at_call 596 ?_)
    refine stop_of ?_
  k_with "InvEndG" =>
    refine stop_of ?_
  k_with "call builtin:len" =>
    k_here
    (with_reducible refine' at_len ?_)
    k_dflt (refine any_lenL (by k_asm) (by k_memK) (by ((try simp only [List.length_append, List.length_cons, List.length_nil]); exact rfl)) (by omega) ?_)
  k_with "ite" =>
    k_here
    k_openite
    first | (refine ite_pos (by ((try simp only [decide_eq_true_eq, beq_iff_eq]); omega)) ?_) | (refine ite_neg (by ((try simp only [decide_eq_true_eq, beq_iff_eq]); omega)) ?_)
  k_with "ite" =>
    k_here
    k_openite
    refine ite_neg (by first | (simp only [beq_self_eq_true, Bool.not_true, Bool.false_eq_true, not_false_eq_true]; done) | (simp; done)) ?_
  k_with "setItem ref str" =>
    k_here
    (with_reducible refine' at_setS ?_)
    k_dflt (refine kda_set (knd := PySem.strKind _ _) (by k_asm) (by k_asm) (by k_updF) (by assumption) (strKind_is _ _ _ _) (by (rw [sizeLine_eq]; omega)) ?_)
    intro _ _ _ _ _
  k_with "getMethod ref" =>
    k_here
    (with_reducible refine' at_get ?_)
    k_dflt (refine dict_get_method (knd := PySem.strKind _ _) (by k_asm) (by k_mem) (by assumption) ?_)
  k_with "call builtin:dict.get" =>
    k_here
    (with_reducible refine' at_dget ?_)
    k_dflt (refine dict_get (knd := PySem.strKind _ _) (by k_asm) (by k_mem) (by assumption) (by assumption) (strKind_is _ _ _ _) (by k_extra "x") ?_)
  k_go0
  have hMk := kdMark
  (rename Below _ _ _ _ => K0)
  (rename World => w)
  dsimp only [PyProof.Rows.Top.heap] at K0
  k_steps
  rename_i R vs n tl rows hD hl1 hl2 hok htx qk ek h1 F1 N1 h2 tk2 F9 W wv nw hw hlt N9
  unfold Stop
  have hvl : vs.length = rows.length := by rw [hD.length, List.length_map]
  refine' ce_enum (l := R) (vs := vs) (nn := n) (news := (W, listOf wv.toArray nw) :: (R, listOf vs.toArray n) :: tl)
    (fun ys nx => DatAll nx ys (numbered lineDat 0 (rows.take ys.length)) ∧ ∀ p ∈ (W, listOf wv.toArray nw) :: (R, listOf vs.toArray n) :: tl, p ∈ nx)
    rfl (List.Mem.tail _ (List.Mem.head _)) ?hsz (by decide) rfl rfl rfl (by decide) F9 N9 ⟨DatAll.nil, fun _ hp => hp⟩ ?turn ?done
  case hsz => rw [hvl, sizeLine_eq]; omega
  case turn =>
    intro i x t ys I J C D oI oJ oC m₂ h tk nx E' hx hyl hys hlm hC ha hb F8 hoffs N8
    refine hide_flow ?_
    intro Q9 hQ9
    obtain ⟨hys, hsub⟩ := hys
    have hi : i < rows.length := by rw [← hvl]; exact (List.getElem?_eq_some_iff.mp hx).1
    k_steps
    rename_i Y g1 lY T g2 F7 N7 lT
    obtain ⟨t7, n7, k7, N7⟩ : ∃ t7 n7 k7, News _ _ _ ((T, ({ cls := .type "tuple", data := .seq #[.int (10 * ((i : Int) + 1)) t7, .ref Y] n7 } : Obj)) :: (Y, listOf [x].toArray k7) :: (I, oI) :: (J, oJ) :: (C, oC) :: (D, LCg.lst ys) :: nx) := ⟨_, _, _, N7⟩
    obtain ⟨x', hx', hxd⟩ := hD.get (k := i) (by rw [List.length_map]; exact hi)
    obtain rfl : x' = x := by rw [hx] at hx'; exact (Option.some.inj hx').symm
    have hr : rows[i]? = some (rows[i]'hi) := List.getElem?_eq_getElem hi
    rw [List.getElem_map] at hxd
    obtain ⟨a1, a2, a3, a4, a5, a6⟩ := lT
    obtain ⟨c2, c3, c4, c5, c6⟩ := lY
    refine hQ9 _ _ ?_
    unfold CeEnd
    refine ⟨_, _, (T, ({ cls := .type "tuple", data := .seq #[.int (10 * ((i : Int) + 1)) t7, .ref Y] n7 } : Obj)) :: (Y, listOf [x'].toArray k7) :: nx, rfl, F7, news_sub N7 ?_, ?_, ?_, ?_, ?_⟩
    · (try dsimp only [List.cons_append, List.nil_append])
      exact sub_cons (List.Mem.tail _ (List.Mem.tail _ (List.Mem.head _))) (sub_cons (List.Mem.tail _ (List.Mem.tail _ (List.Mem.tail _ (List.Mem.head _)))) (sub_cons (List.Mem.tail _ (List.Mem.tail _ (List.Mem.tail _ (List.Mem.tail _ (List.Mem.head _))))) (sub_cons (List.Mem.tail _ (List.Mem.tail _ (List.Mem.tail _ (List.Mem.tail _ (List.Mem.tail _ (List.Mem.head _)))))) (sub_both (sub_both (sub_skip (sub_skip (sub_skip (sub_skip (sub_refl))))))))))
    · intro p hp b hb
      simp only [List.mem_cons, List.not_mem_nil, or_false, List.map_cons] at hp hb
      have q := fun p hp => hoffs p hp b
      rcases hb with rfl | rfl | hb
      · rcases hp with rfl | rfl | rfl | rfl
        · exact Nat.ne_of_lt a2
        · exact Nat.ne_of_lt a3
        · exact Nat.ne_of_lt a4
        · exact Nat.ne_of_lt a5
      · rcases hp with rfl | rfl | rfl | rfl
        · exact Nat.ne_of_lt c2
        · exact Nat.ne_of_lt c3
        · exact Nat.ne_of_lt c4
        · exact Nat.ne_of_lt c5
      · rcases hp with rfl | rfl | rfl | rfl
        · exact q _ (List.Mem.head _) hb
        · exact q _ (List.Mem.tail _ (List.Mem.head _)) hb
        · exact q _ (List.Mem.tail _ (List.Mem.tail _ (List.Mem.head _))) hb
        · exact q _ (List.Mem.tail _ (List.Mem.tail _ (List.Mem.tail _ (List.Mem.head _)))) hb
    · exact List.Mem.tail _ (List.Mem.tail _ hlm)
    · rw [List.length_append, hyl]
      show DatAll _ _ (numbered lineDat 0 (rows.take (i + 1)))
      rw [numbered_snoc hr]
      rw [hyl] at hys
      refine DatAll.append (DatAll.mono (fun p hp => List.Mem.tail _ (List.Mem.tail _ hp)) hys) (DatAll.cons (DatIn.tuple (n := n7) (vs := [.int (10 * ((i : Int) + 1)) t7, .ref Y]) (List.Mem.head _) (DatAll.cons (DatIn.int _ _) (DatAll.cons (DatIn.list (List.Mem.tail _ (List.Mem.head _)) (DatAll.cons (DatIn.mono ?_ hxd) DatAll.nil)) DatAll.nil))) DatAll.nil)
      exact fun p hp => List.Mem.tail _ (List.Mem.tail _ (hsub p (List.Mem.tail _ (List.Mem.tail _ hp))))
    · exact fun p hp => List.Mem.tail _ (List.Mem.tail _ (hsub p hp))
  case done =>
    intro LL lv h tk nx hll hin F8 N8 hne
    obtain ⟨hlv, hsub⟩ := hin
    rw [hll, hvl, List.take_length] at hlv
    have N8 : News _ _ _ ((LL, listOf lv.toArray lv.length) :: (W, listOf wv.toArray nw) :: (R, listOf vs.toArray n) :: nx) := news_sub N8 (by
      intro p hp
      rcases List.mem_cons.mp hp with rfl | hp
      · exact List.Mem.head _
      rcases List.mem_cons.mp hp with rfl | hp
      · exact List.Mem.tail _ (hsub _ (List.Mem.head _))
      rcases List.mem_cons.mp hp with rfl | hp
      · exact List.Mem.tail _ (hsub _ (List.Mem.tail _ (List.Mem.head _)))
      exact List.Mem.tail _ hp)
    replace hD : DatAll nx vs (rows.map Row.dat) := DatAll.mono (fun p hp => hsub p (List.Mem.tail _ (List.Mem.tail _ hp))) hD
    have hwl : wv.length = (wayFrom rows 0).length := by rw [hw.length, List.length_map]
    have hway := wayFrom_len rows
    clear N1 F1 F9 N9 hne
    k_steps
    rename_i h3 tk3 t1 u1 v1 kR kF kN kk
    unfold Stop
    have e9 : Builtin.Range.rangeSize 0 ((wv.toArray.size : Int) + 3) 1 = (((wayFrom rows 0).length + 3 : Nat) : Int) := by
      rw [rangeSize_nat, Int.sub_zero, List.size_toArray, hwl]
      omega
    have hsz : wv.toArray.size ≤ 7 := by rw [List.size_toArray, hwl]; omega
    refine' kd_range (σ := Unit) (fun _ => []) ((LL, listOf lv.toArray lv.length) :: (W, listOf wv.toArray nw) :: (R, listOf vs.toArray n) :: nx) (fun _ => []) (fun _ _ => True) [PySem.Str.ofString "run"] (fun _ _ => True) (LL :: W :: R :: nx.map (·.1)) ()
      rfl kR (small_one (by omega) (by omega) (by omega) (by omega)) e9 kF kN ?hn ?ha True.intro (List.forall_mem_nil _) True.intro ?turn ?done
    case hn =>
      intro p hp
      simp only [List.nil_append, List.append_nil] at hp
      exact List.Mem.tail _ hp
    case ha => intro c; rfl
    case turn =>
      intro c tl' pre k t u h tk own hk hlt hsep hoff hfacts hP F' N'
      refine hide_flow ?_
      intro Q9 hQ9
      dsimp only [kstB] at F'
      have hm20 : k = ((pre.length : Nat) : Int) := by omega
      have hm21 : pre.length ≤ 20 := by omega
      subst hm20
      generalize pre.length = most at *
      simp only [List.nil_append, List.cons_append] at N'
      have hlv0 : DatAll ((W, listOf wv.toArray nw) :: (R, listOf vs.toArray n) :: (nx ++ (tl' ++ own))) lv (numbered lineDat 0 rows) := DatAll.mono (fun p hp => List.Mem.tail _ (List.Mem.tail _ (List.mem_append.mpr (.inl hp)))) hlv
      have hD0 : DatAll (nx ++ (tl' ++ own)) vs (rows.map Row.dat) := DatAll.mono (fun p hp => List.mem_append.mpr (.inl hp)) hD
      k_steps
      rename_i VA _ vo loVA hvo _ _ _ lVA RN RD _ lRD lRN _ _ _ _ _ _ _ _ _ _ _ _ _ _ _ _ _ _ CO CD _ _ _ _ _ _ _ _ _ _ _ _ _ PI _ _ _ _ _ _ _ _ _ _ _ _ NO _ lNO _ _ _ _ _ _ _ F8 N8
      unfold Stop
      obtain ⟨b1, b2, r1, r2, r3, r4, r5, r6, r7, oCD, nNO, nPI, N8⟩ : ∃ b1 b2 r1 r2 r3 r4 r5 r6 r7 oCD nNO nPI, News _ _ _ ((NO, listOf [].toArray nNO) :: (PI, listOf [].toArray nPI) :: (CO, instObj 265 CD) :: (CD, oCD) :: (RN, instObj 557 RD) :: (RD, runD w FL9 VA CO NO b1 b2 r1 r2 r3 r4 r5 r6 r7) :: (VA, vo) :: (FL9, instObj 381 D9) :: (D9, flatD w RW9 PL9 DA9 PA9 LO9 FN9 t91 t92 t93 t94 t95 t96) :: (RW9, listOf rv9.toArray nr9) :: (PL9, o9) :: tl9) := ⟨_, _, _, _, _, _, _, _, _, _, _, _, N8⟩
      have gNO : ∀ p ∈ ((PI, o9) :: (CO, o9) :: (CD, o9) :: (RN, o9) :: (RD, o9) :: (VA, o9) :: (FL9, o9) :: (D9, o9) :: (RW9, o9) :: (PL9, o9) :: tl9 : List (Addr × Obj)), @LT.lt Nat _ p.1 NO := lt_of_all lNO
      have gVA : ∀ p ∈ ((FL9, o9) :: (D9, o9) :: (RW9, o9) :: (PL9, o9) :: tl9 : List (Addr × Obj)), @LT.lt Nat _ p.1 VA := lt_of_all lVA
      have hNV : @Ne Nat NO VA := fun e => Nat.lt_irrefl _ (e ▸ gNO (VA, o9) (by simp))
      have hVRD : @LT.lt Nat _ VA RD := lRD.1
      have hVRN : @LT.lt Nat _ VA RN := Nat.lt_trans hVRD lRN
      have hoffG : OwnOff ((RN, instObj 557 RD) :: (RD, runD w FL9 VA CO NO b1 b2 r1 r2 r3 r4 r5 r6 r7) :: (FL9, instObj 381 D9) :: (D9, flatD w RW9 PL9 DA9 PA9 LO9 FN9 t91 t92 t93 t94 t95 t96) :: (RW9, listOf rv9.toArray nr9) :: (PL9, o9) :: tl9) [NO, VA] := by
        intro p hp b hb
        have h1 : @LT.lt Nat _ p.1 NO ∧ (@LT.lt Nat _ p.1 VA ∨ @LT.lt Nat _ VA p.1) := by
          rcases List.mem_cons.mp hp with rfl | hp
          · exact ⟨gNO (RN, o9) (by simp), .inr hVRN⟩
          rcases List.mem_cons.mp hp with rfl | hp
          · exact ⟨gNO (RD, o9) (by simp), .inr hVRD⟩
          rcases List.mem_cons.mp hp with rfl | hp
          · exact ⟨gNO (FL9, o9) (by simp), .inl (gVA (FL9, o9) (by simp))⟩
          rcases List.mem_cons.mp hp with rfl | hp
          · exact ⟨gNO (D9, o9) (by simp), .inl (gVA (D9, o9) (by simp))⟩
          rcases List.mem_cons.mp hp with rfl | hp
          · exact ⟨gNO (RW9, o9) (by simp), .inl (gVA (RW9, o9) (by simp))⟩
          rcases List.mem_cons.mp hp with rfl | hp
          · exact ⟨gNO (PL9, o9) (by simp), .inl (gVA (PL9, o9) (by simp))⟩
          exact ⟨gNO p (by simp [hp]), .inl (gVA p (by simp [hp]))⟩
        rcases List.mem_cons.mp hb with rfl | hb
        · exact Nat.ne_of_lt h1.1
        obtain rfl := List.mem_singleton.mp hb
        rcases h1.2 with h2 | h2
        · exact Nat.ne_of_lt h2
        · exact Ne.symm (Nat.ne_of_lt h2)
      have N9 : News _ _ _ ((NO, listOf [].toArray nNO) :: (VA, vo) :: (RN, instObj 557 RD) :: (RD, runD w FL9 VA CO NO b1 b2 r1 r2 r3 r4 r5 r6 r7) :: (FL9, instObj 381 D9) :: (D9, flatD w RW9 PL9 DA9 PA9 LO9 FN9 t91 t92 t93 t94 t95 t96) :: (RW9, listOf rv9.toArray nr9) :: (PL9, o9) :: tl9) := news_sub N8 (by
        exact sub_cons (List.Mem.head _) (sub_cons (List.Mem.tail _ (List.Mem.tail _ (List.Mem.tail _ (List.Mem.tail _ (List.Mem.tail _ (List.Mem.tail _ (List.Mem.head _))))))) (sub_cons (List.Mem.tail _ (List.Mem.tail _ (List.Mem.tail _ (List.Mem.tail _ (List.Mem.head _))))) (sub_cons (List.Mem.tail _ (List.Mem.tail _ (List.Mem.tail _ (List.Mem.tail _ (List.Mem.tail _ (List.Mem.head _)))))) (sub_skip (sub_skip (sub_skip (sub_skip (sub_skip (sub_skip (sub_skip (sub_refl))))))))))))
      clear N8 lNO lVA lRD lRN
      k_here
      k_dflt (refine' con_use ?k1 ?k2 ?k3 N9 ?k5 ?k6 (go_con hoffG hNV hrv9 hok hl2 hm21 hpo9 hpl9 lPL9 hvo loVA) ?k8 ?k9 ?_; (case k1 => k_asm); (case k2 => k_asm); (case k3 => k_asm); (case k5 => k_asm); (case k6 => first | exact rfl | assumption); (case k8 => (first | omega | ((try simp only [depth_under_make, depth_under_kw, depth_in1, depth_deeper, depth_caller, units_in1, units_deeper, Around.mark_units, units_caller]); first | omega | decide))); (case k9 => (first | omega | ((try simp only [depth_under_make, depth_under_kw, depth_in1, depth_deeper, depth_caller, units_in1, units_deeper, Around.mark_units, units_caller]); first | omega | decide))); k_whole)
      intro r9 nx9 h9 tk9 F7 N7 ho9
      obtain ⟨tz, nv, nn, vo', kvs, tl2, e9, f9, hnv, hvo', hx⟩ := ho9
      subst e9
      subst f9
      (try dsimp only at N7)
      clear N9 hvo
      generalize hz : (if (wayFrom rows 0).length ≤ most then (rows.length : Int) else -1) = z
      have hz1 : (wayFrom rows 0).length ≤ most → z = (rows.length : Int) := fun h => by rw [← hz, if_pos h]
      have hz2 : ¬ (wayFrom rows 0).length ≤ most → z = -1 := fun h => by rw [← hz, if_neg h]
      have hsv : vs.toArray.size = rows.length := by rw [List.size_toArray, hvl]
      have hsw : wv.toArray.size = (wayFrom rows 0).length := by rw [List.size_toArray, hwl]
      obtain ⟨fx, hfx⟩ := xOk_all hx
      have hMk2 := kstMark
      k_with "x" => exact hfx _
      k_steps
      unfold Stop
      refine merge_int (z := z) ?way ?on
      case way =>
        with_reducible refine PyProof.Rows.IfExp_ ?_
        k_steps
        · exact ⟨_, _, by first | rw [hz1 (by omega), hsv] | rw [hz1 (by omega)], rfl⟩
        · exact ⟨_, _, by rw [hz2 (by omega)], rfl⟩
      intro tz2 tkz
      (try dsimp only)
      k_steps
      (try any_goals (exfalso; omega))
      rename_i T1 g1 lT1 S ws g2 F6 N6 hI6 hC6 hL6 lS
      unfold Stop
      obtain ⟨L6, e6, N6⟩ := news_cut N6
      have mNO : (NO, listOf nv.toArray nn) ∈ L6 := by rw [← e6]; simp
      obtain ⟨t6, n6, mT⟩ : ∃ t6 n6, (T1, ({ cls := .type "tuple", data := .seq #[.ref NO, .int (noted rows ((wayFrom rows 0).take most)).2 t6] n6 } : Obj)) ∈ L6 := ⟨_, _, by rw [← e6]; exact List.Mem.tail _ (List.Mem.head _)⟩
      obtain ⟨nS, mS⟩ : ∃ nS, (S, listOf ws.toArray nS) ∈ L6 := ⟨_, by rw [← e6]; exact List.Mem.head _⟩
      have sub6 : ∀ p ∈ (RN, instObj 557 RD) :: (RD, runD w FL9 VA CO NO b1 b2 r1 r2 r3 r4 r5 r6 r7) :: (FL9, instObj 381 D9) :: (D9, flatD w RW9 PL9 DA9 PA9 LO9 FN9 t91 t92 t93 t94 t95 t96) :: (RW9, listOf rv9.toArray nr9) :: (PL9, o9) :: tl9, p ∈ L6 := by
        rw [← e6]
        exact sub_skip (sub_skip (sub_skip (sub_skip (sub_both (sub_both (sub_both (sub_both (sub_both (sub_both (sub_left sub_refl))))))))))
      have hnv6 : DatAll L6 nv ((noted rows ((wayFrom rows 0).take most)).1.map noteDat) := DatAll.mono (fun p hp => by rw [← e6]; exact List.Mem.tail _ (List.Mem.tail _ hp)) hnv
      clear e6
      have tl6 : ∀ p ∈ tl9, p ∈ L6 := fun p hp => sub6 p (List.Mem.tail _ (List.Mem.tail _ (List.Mem.tail _ (List.Mem.tail _ (List.Mem.tail _ (List.Mem.tail _ hp))))))
      have hD6 : DatAll L6 vs (rows.map Row.dat) := DatAll.mono (fun p hp => tl6 p (hsub9 p (List.Mem.tail _ (List.Mem.tail _ (List.Mem.tail _ hp))))) hD0
      rw [Int.toNat_natCast, ← List.map_take] at hI6
      have hltk : ∀ k ∈ (wayFrom rows 0).take most, k < rows.length := fun k hk => way_lt rows k (List.mem_of_mem_take hk)
      have hlen7 : ((wayFrom rows 0).take most).length ≤ 7 := by rw [List.length_take]; omega
      have N5 : News _ _ _ ((S, listOf ws.toArray nS) :: (R, listOf vs.toArray n) :: L6) := news_sub N6 (by
        intro p hp
        rcases List.mem_cons.mp hp with rfl | hp
        · exact mS
        rcases List.mem_cons.mp hp with rfl | hp
        · exact tl6 _ mR9
        exact hp)
      k_here
      k_dflt (refine' con_use ?k1 ?k2 ?k3 N5 ?k5 ?k6 (noted_con hD6 hltk hI6 hl2 hlen7) ?k8 ?k9 ?_; (case k1 => k_asm); (case k2 => k_asm); (case k3 => k_asm); (case k5 => k_asm); (case k6 => first | exact rfl | assumption); (case k8 => (first | omega | ((try simp only [depth_under_make, depth_under_kw, depth_in1, depth_deeper, depth_caller, units_in1, units_deeper, Around.mark_units, units_caller]); first | omega | decide))); (case k9 => (first | omega | ((try simp only [depth_under_make, depth_under_kw, depth_in1, depth_deeper, depth_caller, units_in1, units_deeper, Around.mark_units, units_caller]); first | omega | decide))); k_whole)
      intro r9 nx9 h9 tk9 F4 N4 ho9
      obtain ⟨T2, NL, nv2, nn2, t2, tl3, e9, f9, hnv2⟩ := ho9
      subst e9
      have s4 : ∀ p ∈ L6, p ∈ nx9 := by
        intro p hp
        rw [f9]
        exact List.Mem.tail _ (List.Mem.tail _ (List.Mem.tail _ (List.Mem.tail _ (List.mem_append.mpr (.inl hp)))))
      have mT2 : (T2, tupO [.ref NL, .int (noted rows ((wayFrom rows 0).take most)).2 t2]) ∈ nx9 := by rw [f9]; exact List.Mem.head _
      have mNL : (NL, listOf nv2.toArray nn2) ∈ nx9 := by rw [f9]; exact List.Mem.tail _ (List.Mem.head _)
      (try dsimp only)
      refine same_ne (d := .tuple [.list ((noted rows ((wayFrom rows 0).take most)).1.map noteDat), .int (noted rows ((wayFrom rows 0).take most)).2]) N4
        (DatIn.tuple (n := n6) (vs := [.ref NO, .int (noted rows ((wayFrom rows 0).take most)).2 t6]) mT (DatAll.cons (DatIn.list mNO hnv6) (DatAll.cons (DatIn.int _ _) DatAll.nil))) s4
        (DatIn.tuple (vs := [.ref NL, .int (noted rows ((wayFrom rows 0).take most)).2 t2]) mT2 (DatAll.cons (DatIn.list mNL hnv2) (DatAll.cons (DatIn.int _ _) DatAll.nil))) (fun _ h => h)
        (by simp only [kqdOk, List.all_cons, List.all_nil, Bool.and_true]; exact List.all_eq_true.mpr (noted_ok htx _)) (by ke_room) ?_
      have N3 : News _ _ _ ((R, listOf vs.toArray n) :: (RN, instObj 557 RD) :: (RD, runD w FL9 VA CO NO b1 b2 r1 r2 r3 r4 r5 r6 r7) :: (FL9, instObj 381 D9) :: (D9, flatD w RW9 PL9 DA9 PA9 LO9 FN9 t91 t92 t93 t94 t95 t96) :: (RW9, listOf rv9.toArray nr9) :: (PL9, o9) :: tl9) := news_sub N4 (by
        intro p hp
        refine s4 p ?_
        rcases List.mem_cons.mp hp with rfl | hp
        · exact tl6 _ mR9
        exact sub6 p hp)
      (try clear N4)
      (try clear N5)
      (try clear N6)
      (try clear F6)
      (try clear N7)
      (try clear F7)
      have hrl : rv9.length = rows.length := by rw [hrv9.length, numbered_length]
      have hrl7 : rv9.length ≤ 7 := by omega
      have hrl8 : (vs.toArray.size : Int) = (rv9.length : Int) := by omega
      k_steps
      unfold Stop
      k_here
      k_dflt (refine' con_use ?k1 ?k2 ?k3 N3 ?k5 ?k6 (go_con2 (List.Mem.tail _ (List.Mem.head _)) (List.Mem.tail _ (List.Mem.tail _ (List.Mem.head _))) (List.Mem.tail _ (List.Mem.tail _ (List.Mem.tail _ (List.Mem.head _)))) (List.Mem.tail _ (List.Mem.tail _ (List.Mem.tail _ (List.Mem.tail _ (List.Mem.head _))))) (List.Mem.tail _ (List.Mem.tail _ (List.Mem.tail _ (List.Mem.tail _ (List.Mem.tail _ (List.Mem.head _)))))) hrl7 hrl8) ?k8 ?k9 ?_; (case k1 => k_asm); (case k2 => k_asm); (case k3 => k_asm); (case k5 => k_asm); (case k6 => first | exact rfl | assumption); (case k8 => (first | omega | ((try simp only [depth_under_make, depth_under_kw, depth_in1, depth_deeper, depth_caller, units_in1, units_deeper, Around.mark_units, units_caller]); first | omega | decide))); (case k9 => (first | omega | ((try simp only [depth_under_make, depth_under_kw, depth_in1, depth_deeper, depth_caller, units_in1, units_deeper, Around.mark_units, units_caller]); first | omega | decide))); k_whole)
      intro r9 nx8 h8 tk8 F2 N2 ho8
      obtain ⟨⟨t8, e8⟩, f8⟩ := ho8
      subst e8
      subst f8
      (try dsimp only)
      k_steps
      refine hQ9 _ _ ?_
      (try dsimp only [InvPostG])
      refine kd_end (tl := tl') () [] hsep F2 N2 ?he1 ?he2 rfl (List.forall_mem_nil _) (List.forall_mem_nil _) (List.forall_mem_nil _) ?he3 True.intro True.intro
      case he1 => exact fun p hp => List.Mem.tail _ (List.Mem.tail _ (List.Mem.tail _ (List.Mem.tail _ (List.Mem.tail _ (List.Mem.tail _ (List.Mem.tail _ (hsub9 p (sub_both (sub_both (sub_both (sub_app (sub_left sub_refl) (sub_right (sub_left sub_refl))))) p hp))))))))
      case he2 => exact fun p hp => List.Mem.tail _ (List.Mem.tail _ (List.Mem.tail _ (List.Mem.tail _ (List.Mem.tail _ (List.Mem.tail _ (List.Mem.tail _ (hsub9 p (sub_skip (sub_skip (sub_skip (sub_right (sub_right sub_refl)))) p hp))))))))
      case he3 =>
        intro z h1 _ h3
        have h4 := h3
        simp only [List.contains_cons, List.contains_nil, Bool.or_false, beq_eq_false_iff_ne, ne_eq] at h4
        simp only [h1, h4, h3, if_false, Bool.false_eq_true]
    case done =>
      intro c tl' u h tk hoff hfacts hP F' N'
      dsimp only [kstB] at F'
      simp only [List.nil_append, List.cons_append] at N'
      k_steps
)
end
end Mine
end

theorem PySem.Challenge.cw_rr0004_01_holds : PySem.Challenge.rw_rr0004_01.Holds := by
  exact Mine.law_holds
