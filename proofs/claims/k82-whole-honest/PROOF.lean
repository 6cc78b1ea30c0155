import PyProof.Rows.All
import Wide.All
import OpenK.AllK
import Wide.FinOn
import KE.KStateDown
import HandS.ForMost
import HandS.Defaults
import HandS.Head0
import HandS.Head1
import HandS.Head2
import HandS.HeadEnd
import HandS.HeadHook1
import HandS.HeadHook2
import HandS.Codes
import HandS.Style
import HandS.SetKeys
import HandS.IsInst
import KE.GoesMore
import KE.GoesEnum
import HandS.Walk
import HandS.Zip
import HandS.Steps
import PySem.Challenge.RW_sealround_k82_whole_honest_services
set_option Elab.async false
set_option linter.all false
set_option maxRecDepth 100000
set_option maxHeartbeats 4000000
/-! The mathematics: digests, trees of one to four entries, ways back among rounds 0 to 4. -/
namespace SR
def PR : Int := 2305843009213693951
structure Mx where
  b : Int
  f : Int
def stp (m : Mx) (s n : Int) : Int := (s * m.f + n + 1) % PR
def fin (m : Mx) (s : Int) : Int := (s * 48271 + s / 65536) % m.b
def dig (m : Mx) (ns : List Int) : Int := fin m (ns.foldl (stp m) ((m.f + (ns.length : Int) + 1) % PR))
theorem stp_lo (m : Mx) (s n : Int) : 0 ≤ stp m s n := Int.emod_nonneg _ (by decide)
theorem stp_hi (m : Mx) (s n : Int) : stp m s n < PR := Int.emod_lt_of_pos _ (by decide)
theorem stp_one (m : Mx) (n : Int) : stp m 1 n = (m.f + n + 1) % PR := by
  unfold stp
  rw [Int.one_mul]

/-! ### halves, roots, ways -/
def hf : Nat → Nat
  | 2 => 1
  | 3 => 2
  | 4 => 2
  | _ => 1
theorem hf_lo {n : Nat} : 1 ≤ hf n := by
  unfold hf
  split <;> decide
theorem hf_hi {n : Nat} (h : 2 ≤ n) : hf n < n := by
  unfold hf
  split <;> omega
/-- the node of two roots -/
def nd (m : Mx) (a b : Int) : Int := dig m [3, a, b]
def root (m : Mx) : List Int → Int
  | [a] => a
  | [a, b] => nd m a b
  | [a, b, c] => nd m (nd m a b) c
  | [a, b, c, d] => nd m (nd m a b) (nd m c d)
  | _ => 0
def way (m : Mx) : List Int → Nat → List Int
  | [_, b], 0 => [b]
  | [a, _], 1 => [a]
  | [_, b, c], 0 => [b, c]
  | [a, _, c], 1 => [a, c]
  | [a, b, _], 2 => [nd m a b]
  | [_, b, c, d], 0 => [b, nd m c d]
  | [a, _, c, d], 1 => [a, nd m c d]
  | [a, b, _, d], 2 => [d, nd m a b]
  | [a, b, c, _], 3 => [c, nd m a b]
  | _, _ => []
def trn : Nat → Nat → List Bool
  | 2, 0 => [false]
  | 2, 1 => [true]
  | 3, 0 => [false, false]
  | 3, 1 => [true, false]
  | 3, 2 => [true]
  | 4, 0 => [false, false]
  | 4, 1 => [true, false]
  | 4, 2 => [false, true]
  | 4, 3 => [true, true]
  | _, _ => []
theorem root_step (m : Mx) : ∀ es : List Int, 2 ≤ es.length → es.length ≤ 4 → root m es = nd m (root m (es.take (hf es.length))) (root m (es.drop (hf es.length)))
  | [], h, _ => absurd h (by decide)
  | [a], h, _ => absurd h (by simp)
  | [a, b], _, _ => rfl
  | [a, b, c], _, _ => rfl
  | [a, b, c, d], _, _ => rfl
  | _ :: _ :: _ :: _ :: _ :: r, _, h => absurd h (by simp only [List.length_cons]; omega)
theorem root_one (m : Mx) : ∀ es : List Int, es.length = 1 → es[0]? = some (root m es)
  | [a], _ => rfl
  | [], h => absurd h (by decide)
  | _ :: _ :: r, h => absurd h (by simp only [List.length_cons]; omega)
theorem way_one (m : Mx) : ∀ (es : List Int) (i : Nat), es.length ≤ 1 → way m es i = []
  | [], 0, _ => rfl
  | [], i + 1, _ => rfl
  | [a], 0, _ => rfl
  | [a], i + 1, _ => rfl
  | _ :: _ :: r, _, h => absurd h (by simp only [List.length_cons]; omega)
theorem way_lo (m : Mx) : ∀ (es : List Int) (i : Nat), 2 ≤ es.length → es.length ≤ 4 → i < hf es.length → way m es i = way m (es.take (hf es.length)) i ++ [root m (es.drop (hf es.length))]
  | [], _, h, _, _ => absurd h (by decide)
  | [a], _, h, _, _ => absurd h (by simp)
  | [a, b], 0, _, _, _ => rfl
  | [a, b], i + 1, _, _, h => absurd (show i + 1 < 1 from h) (by omega)
  | [a, b, c], 0, _, _, _ => rfl
  | [a, b, c], 1, _, _, _ => rfl
  | [a, b, c], i + 2, _, _, h => absurd (show i + 2 < 2 from h) (by omega)
  | [a, b, c, d], 0, _, _, _ => rfl
  | [a, b, c, d], 1, _, _, _ => rfl
  | [a, b, c, d], i + 2, _, _, h => absurd (show i + 2 < 2 from h) (by omega)
  | _ :: _ :: _ :: _ :: _ :: r, _, _, h, _ => absurd h (by simp only [List.length_cons]; omega)
theorem way_hi (m : Mx) : ∀ (es : List Int) (i : Nat), 2 ≤ es.length → es.length ≤ 4 → hf es.length ≤ i → i < es.length → way m es i = way m (es.drop (hf es.length)) (i - hf es.length) ++ [root m (es.take (hf es.length))]
  | [], _, h, _, _, _ => absurd h (by decide)
  | [a], _, h, _, _, _ => absurd h (by simp)
  | [a, b], 0, _, _, h, _ => absurd (show 1 ≤ 0 from h) (by omega)
  | [a, b], 1, _, _, _, _ => rfl
  | [a, b], i + 2, _, _, _, h => absurd (show i + 2 < 2 from h) (by omega)
  | [a, b, c], 0, _, _, h, _ => absurd (show 2 ≤ 0 from h) (by omega)
  | [a, b, c], 1, _, _, h, _ => absurd (show 2 ≤ 1 from h) (by omega)
  | [a, b, c], 2, _, _, _, _ => rfl
  | [a, b, c], i + 3, _, _, _, h => absurd (show i + 3 < 3 from h) (by omega)
  | [a, b, c, d], 0, _, _, h, _ => absurd (show 2 ≤ 0 from h) (by omega)
  | [a, b, c, d], 1, _, _, h, _ => absurd (show 2 ≤ 1 from h) (by omega)
  | [a, b, c, d], 2, _, _, _, _ => rfl
  | [a, b, c, d], 3, _, _, _, _ => rfl
  | [a, b, c, d], i + 4, _, _, _, h => absurd (show i + 4 < 4 from h) (by omega)
  | _ :: _ :: _ :: _ :: _ :: r, _, _, h, _, _ => absurd h (by simp only [List.length_cons]; omega)
theorem trn_one (n i : Nat) (h : n ≤ 1) : trn n i = [] := by
  match n, h with
  | 0, _ => rfl
  | 1, _ => rfl
theorem trn_lo : ∀ (n i : Nat), 2 ≤ n → n ≤ 4 → i < hf n → trn n i = trn (hf n) i ++ [false]
  | 2, 0, _, _, _ => rfl
  | 2, i + 1, _, _, h => absurd (show i + 1 < 1 from h) (by omega)
  | 3, 0, _, _, _ => rfl
  | 3, 1, _, _, _ => rfl
  | 3, i + 2, _, _, h => absurd (show i + 2 < 2 from h) (by omega)
  | 4, 0, _, _, _ => rfl
  | 4, 1, _, _, _ => rfl
  | 4, i + 2, _, _, h => absurd (show i + 2 < 2 from h) (by omega)
  | 0, _, h, _, _ => absurd h (by decide)
  | 1, _, h, _, _ => absurd h (by decide)
  | n + 5, _, _, h, _ => absurd h (by omega)
theorem trn_hi : ∀ (n i : Nat), 2 ≤ n → n ≤ 4 → hf n ≤ i → i < n → trn n i = trn (n - hf n) (i - hf n) ++ [true]
  | 2, 0, _, _, h, _ => absurd (show 1 ≤ 0 from h) (by omega)
  | 2, 1, _, _, _, _ => rfl
  | 2, i + 2, _, _, _, h => absurd h (by omega)
  | 3, 0, _, _, h, _ => absurd (show 2 ≤ 0 from h) (by omega)
  | 3, 1, _, _, h, _ => absurd (show 2 ≤ 1 from h) (by omega)
  | 3, 2, _, _, _, _ => rfl
  | 3, i + 3, _, _, _, h => absurd h (by omega)
  | 4, 0, _, _, h, _ => absurd (show 2 ≤ 0 from h) (by omega)
  | 4, 1, _, _, h, _ => absurd (show 2 ≤ 1 from h) (by omega)
  | 4, 2, _, _, _, _ => rfl
  | 4, 3, _, _, _, _ => rfl
  | 4, i + 4, _, _, _, h => absurd h (by omega)
  | 0, _, h, _, _, _ => absurd h (by decide)
  | 1, _, h, _, _, _ => absurd h (by decide)
  | n + 5, _, _, h, _, _ => absurd h (by omega)

/-! ### climbing -/
/-- the node's row above a digest -/
def row1 (h : Int) (p : Int × Bool) : List Int := if p.2 then [3, p.1, h] else [3, h, p.1]
def clm (m : Mx) (h : Int) (ps : List (Int × Bool)) : Int := ps.foldl (fun h p => dig m (row1 h p)) h
def nodes (m : Mx) (h : Int) : List (Int × Bool) → List (List Int)
  | [] => []
  | p :: ps => row1 h p :: nodes m (dig m (row1 h p)) ps
theorem clm_snoc (m : Mx) (h : Int) (ps : List (Int × Bool)) (p : Int × Bool) : clm m h (ps ++ [p]) = dig m (row1 (clm m h ps) p) := by
  unfold clm
  rw [List.foldl_append]
  rfl
theorem nodes_snoc (m : Mx) : ∀ (ps : List (Int × Bool)) (h : Int) (p : Int × Bool), nodes m h (ps ++ [p]) = nodes m h ps ++ [row1 (clm m h ps) p]
  | [], _, _ => rfl
  | q :: ps, h, p => by
    show row1 h q :: nodes m _ (ps ++ [p]) = row1 h q :: (nodes m _ ps ++ [_])
    rw [nodes_snoc m ps]
    rfl
theorem nodes_len (m : Mx) : ∀ (ps : List (Int × Bool)) (h : Int), (nodes m h ps).length = ps.length
  | [], _ => rfl
  | q :: ps, h => by
    show (nodes m _ ps).length + 1 = ps.length + 1
    rw [nodes_len m ps]
theorem nodes_last (m : Mx) (ps : List (Int × Bool)) (h : Int) (r : List Int) (e : (nodes m h ps).getLast? = some r) : dig m r = clm m h ps := by
  rcases List.eq_nil_or_concat ps with q | ⟨ps', p, q⟩
  · subst q
    cases e
  · subst q
    rw [List.concat_eq_append] at e ⊢
    rw [nodes_snoc, List.getLast?_append] at e
    rw [clm_snoc]
    cases e
    rfl
theorem way_len (m : Mx) : ∀ (es : List Int) (i : Nat), es.length ≤ 4 → (way m es i).length = (trn es.length i).length
  | [], 0, _ => rfl
  | [], i + 1, _ => rfl
  | [a], 0, _ => rfl
  | [a], i + 1, _ => rfl
  | [a, b], 0, _ => rfl
  | [a, b], 1, _ => rfl
  | [a, b], i + 2, _ => rfl
  | [a, b, c], 0, _ => rfl
  | [a, b, c], 1, _ => rfl
  | [a, b, c], 2, _ => rfl
  | [a, b, c], i + 3, _ => rfl
  | [a, b, c, d], 0, _ => rfl
  | [a, b, c, d], 1, _ => rfl
  | [a, b, c, d], 2, _ => rfl
  | [a, b, c, d], 3, _ => rfl
  | [a, b, c, d], i + 4, _ => rfl
  | _ :: _ :: _ :: _ :: _ :: r, _, h => absurd h (by simp only [List.length_cons]; omega)
theorem trn_len : ∀ (n i : Nat), n ≤ 4 → (trn n i).length ≤ 2
  | 0, _, _ => by show 0 ≤ 2; decide
  | 1, _, _ => by show 0 ≤ 2; decide
  | 2, 0, _ => by decide
  | 2, 1, _ => by decide
  | 2, i + 2, _ => by show 0 ≤ 2; decide
  | 3, 0, _ => by decide
  | 3, 1, _ => by decide
  | 3, 2, _ => by decide
  | 3, i + 3, _ => by show 0 ≤ 2; decide
  | 4, 0, _ => by decide
  | 4, 1, _ => by decide
  | 4, 2, _ => by decide
  | 4, 3, _ => by decide
  | 4, i + 4, _ => by show 0 ≤ 2; decide
  | n + 5, _, h => absurd h (by omega)
theorem climb_way (m : Mx) : ∀ (es : List Int) (i : Nat) (x : Int), es.length ≤ 4 → es[i]? = some x → clm m x ((way m es i).zip (trn es.length i)) = root m es
  | [], _, _, _, e => by simp at e
  | [a], 0, x, _, e => by cases e; rfl
  | [a], i + 1, x, _, e => by simp at e
  | [a, b], 0, x, _, e => by cases e; rfl
  | [a, b], 1, x, _, e => by cases e; rfl
  | [a, b], i + 2, x, _, e => by simp at e
  | [a, b, c], 0, x, _, e => by cases e; rfl
  | [a, b, c], 1, x, _, e => by cases e; rfl
  | [a, b, c], 2, x, _, e => by cases e; rfl
  | [a, b, c], i + 3, x, _, e => by simp at e
  | [a, b, c, d], 0, x, _, e => by cases e; rfl
  | [a, b, c, d], 1, x, _, e => by cases e; rfl
  | [a, b, c, d], 2, x, _, e => by cases e; rfl
  | [a, b, c, d], 3, x, _, e => by cases e; rfl
  | [a, b, c, d], i + 4, x, _, e => by simp at e
  | _ :: _ :: _ :: _ :: _ :: r, _, _, h, _ => absurd h (by simp only [List.length_cons]; omega)

/-! ### rounds that a round goes back to -/
def bks : Nat → List Nat
  | 1 => [0]
  | 2 => [1, 0]
  | 3 => [2]
  | 4 => [3, 2, 0]
  | _ => []
/-- the turns of the loop: the number, the power, the rounds so far -/
def btab : List (Nat × Nat × List Nat) := [(0, 1, []), (1, 1, []), (1, 2, [0]), (2, 1, []), (2, 2, [1]), (2, 4, [1, 0]), (3, 1, []), (3, 2, [2]), (4, 1, []), (4, 2, [3]), (4, 4, [3, 2]), (4, 8, [3, 2, 0])]
theorem btab_start : ∀ n, n ≤ 4 → (n, 1, ([] : List Nat)) ∈ btab
  | 0, _ => by decide
  | 1, _ => by decide
  | 2, _ => by decide
  | 3, _ => by decide
  | 4, _ => by decide
  | n + 5, h => absurd h (by omega)
theorem btab_go : ∀ t ∈ btab, t.2.1 ≤ t.1 → t.1 % t.2.1 = 0 → (t.1, t.2.1 * 2, t.2.2 ++ [t.1 - t.2.1]) ∈ btab := by decide
theorem btab_end : ∀ t ∈ btab, ¬ (t.2.1 ≤ t.1 ∧ t.1 % t.2.1 = 0) → t.2.2 = bks t.1 := by decide
theorem btab_pos : ∀ t ∈ btab, 0 < t.2.1 ∧ t.2.1 ≤ 8 ∧ t.2.2.length ≤ 3 := by decide
theorem bks_lt : ∀ (n : Nat), ∀ x ∈ bks n, x < n
  | 0 => by decide
  | 1 => by decide
  | 2 => by decide
  | 3 => by decide
  | 4 => by decide
  | n + 5 => fun x h => by cases h
theorem bks_len (n : Nat) : (bks n).length ≤ 3 := by
  unfold bks
  split <;> decide
/-- the round to which a way back goes on -/
def nxt (s e : Nat) : Nat := ((bks s).filter fun x => decide (e ≤ x)).getLastD 0
theorem nxt_ok : ∀ s, s ≤ 4 → ∀ e, e < s → nxt s e ∈ bks s ∧ e ≤ nxt s e ∧ ∀ y ∈ bks s, e ≤ y → nxt s e ≤ y := by
  intro s hs
  match s, hs with
  | 0, _ => exact fun e h => absurd h (by omega)
  | 1, _ => exact fun e h => match e, h with | 0, _ => by decide
  | 2, _ => exact fun e h => match e, h with | 0, _ => by decide | 1, _ => by decide
  | 3, _ => exact fun e h => match e, h with | 0, _ => by decide | 1, _ => by decide | 2, _ => by decide
  | 4, _ => exact fun e h => match e, h with | 0, _ => by decide | 1, _ => by decide | 2, _ => by decide | 3, _ => by decide
/-- the way back, with fuel -/
def wbk : Nat → Nat → Nat → List Nat
  | 0, s, _ => [s]
  | k + 1, s, e => if e < s then s :: wbk k (nxt s e) e else [s]
def wb (s e : Nat) : List Nat := wbk 4 s e
end SR
set_option maxHeartbeats 0
namespace SR
open PySem PySem.Spec PyProof.Rows L2
def top (i : Nat) : Stmt := PySem.Challenge.pw_sealround_k82_whole_honest_services.main.body.getD i (.Pass ⟨0, 0, 0, 0⟩)
def d_Mixing_init : He.DefD := ⟨("Mixing", some "__init__"), "__init__", "Mixing.__init__", defArgs (inClass (top 3) 0), defBody (inClass (top 3) 0), defScope (inClass (top 3) 0), [], []⟩
def d_digest : He.DefD := ⟨("digest", none), "digest", "digest", defArgs (top 4), defBody (top 4), defScope (top 4), [], []⟩
def d_back_rounds : He.DefD := ⟨("back_rounds", none), "back_rounds", "back_rounds", defArgs (top 17), defBody (top 17), defScope (top 17), [], []⟩
def d_way_back : He.DefD := ⟨("way_back", none), "way_back", "way_back", defArgs (top 18), defBody (top 18), defScope (top 18), [], []⟩
def d_u_is_document : He.DefD := ⟨("_is_document", none), "_is_document", "_is_document", defArgs (top 19), defBody (top 19), defScope (top 19), [], []⟩
def d_u_is_head : He.DefD := ⟨("_is_head", none), "_is_head", "_is_head", defArgs (top 20), defBody (top 20), defScope (top 20), [], []⟩
def d_is_thing : He.DefD := ⟨("is_thing", none), "is_thing", "is_thing", defArgs (top 21), defBody (top 21), defScope (top 21), [], []⟩
def d_is_head : He.DefD := ⟨("is_head", none), "is_head", "is_head", defArgs (top 22), defBody (top 22), defScope (top 22), [], []⟩
def d_head : He.DefD := ⟨("head_things", none), "head", "head", defArgs (top 23), defBody (top 23), defScope (top 23), [], []⟩
def d_half : He.DefD := ⟨("half", none), "half", "half", defArgs (top 26), defBody (top 26), defScope (top 26), [], []⟩
def d_node : He.DefD := ⟨("node", none), "node", "node", defArgs (top 27), defBody (top 27), defScope (top 27), [], []⟩
def d_root_of : He.DefD := ⟨("root_of", none), "root_of", "root_of", defArgs (top 28), defBody (top 28), defScope (top 28), [], []⟩
def d_turns : He.DefD := ⟨("turns", none), "turns", "turns", defArgs (top 29), defBody (top 29), defScope (top 29), [], []⟩
def d_way_of : He.DefD := ⟨("way_of", none), "way_of", "way_of", defArgs (top 30), defBody (top 30), defScope (top 30), [], []⟩
def d_u_nodes : He.DefD := ⟨("_nodes", none), "_nodes", "_nodes", defArgs (top 31), defBody (top 31), defScope (top 31), [], []⟩
def d_climb : He.DefD := ⟨("climb", none), "climb", "climb", defArgs (top 32), defBody (top 32), defScope (top 32), [], []⟩
def d_clash_of_ways : He.DefD := ⟨("clash_of_ways", none), "clash_of_ways", "clash_of_ways", defArgs (top 33), defBody (top 33), defScope (top 33), [], []⟩
def d_held_at : He.DefD := ⟨("held_at", none), "held_at", "held_at", defArgs (top 37), defBody (top 37), defScope (top 37), [], []⟩
def d_has_place : He.DefD := ⟨("has_place", none), "has_place", "has_place", defArgs (top 38), defBody (top 38), defScope (top 38), [], []⟩
def d_holds : He.DefD := ⟨("holds", none), "holds", "holds", defArgs (top 39), defBody (top 39), defScope (top 39), [], []⟩
def d_is_earlier : He.DefD := ⟨("is_earlier", none), "is_earlier", "is_earlier", defArgs (top 40), defBody (top 40), defScope (top 40), [], []⟩
def d_Paper_init : He.DefD := ⟨("Paper", some "__init__"), "__init__", "Paper.__init__", defArgs (inClass (top 42) 0), defBody (inClass (top 42) 0), defScope (inClass (top 42) 0), [], []⟩
def d_rows_of : He.DefD := ⟨("rows_of", none), "rows_of", "rows_of", defArgs (top 43), defBody (top 43), defScope (top 43), [], []⟩
def d_u_why : He.DefD := ⟨("_why", none), "_why", "_why", defArgs (top 44), defBody (top 44), defScope (top 44), [], []⟩
def d_u_refusal : He.DefD := ⟨("_refusal", none), "_refusal", "_refusal", defArgs (top 45), defBody (top 45), defScope (top 45), [], []⟩
def d_is_accepted : He.DefD := ⟨("is_accepted", none), "is_accepted", "is_accepted", defArgs (top 46), defBody (top 46), defScope (top 46), [], []⟩
def d_check : He.DefD := ⟨("check", none), "check", "check", defArgs (top 47), defBody (top 47), defScope (top 47), [], []⟩
def d_joined : He.DefD := ⟨("joined", none), "joined", "joined", defArgs (top 48), defBody (top 48), defScope (top 48), [], []⟩
def d_Service_init : He.DefD := ⟨("Service", some "__init__"), "__init__", "Service.__init__", defArgs (inClass (top 52) 0), defBody (inClass (top 52) 0), defScope (inClass (top 52) 0), [], []⟩
def d_Service_enter : He.DefD := ⟨("Service", some "enter"), "enter", "Service.enter", defArgs (inClass (top 52) 1), defBody (inClass (top 52) 1), defScope (inClass (top 52) 1), [], []⟩
def d_Service_close : He.DefD := ⟨("Service", some "close"), "close", "Service.close", defArgs (inClass (top 52) 2), defBody (inClass (top 52) 2), defScope (inClass (top 52) 2), [], []⟩
def d_Service_head : He.DefD := ⟨("Service", some "head"), "head", "Service.head", defArgs (inClass (top 52) 4), defBody (inClass (top 52) 4), defScope (inClass (top 52) 4), [], []⟩
def d_Service_entries : He.DefD := ⟨("Service", some "entries"), "entries", "Service.entries", defArgs (inClass (top 52) 5), defBody (inClass (top 52) 5), defScope (inClass (top 52) 5), [], []⟩
def d_Service_stamp : He.DefD := ⟨("Service", some "stamp"), "stamp", "Service.stamp", defArgs (inClass (top 52) 6), defBody (inClass (top 52) 6), defScope (inClass (top 52) 6), [], []⟩
def d_Service_back : He.DefD := ⟨("Service", some "back"), "back", "Service.back", defArgs (inClass (top 52) 7), defBody (inClass (top 52) 7), defScope (inClass (top 52) 7), [], []⟩
def d_Library_init : He.DefD := ⟨("Library", some "__init__"), "__init__", "Library.__init__", defArgs (inClass (top 54) 0), defBody (inClass (top 54) 0), defScope (inClass (top 54) 0), [], []⟩
def d_Library_put : He.DefD := ⟨("Library", some "put"), "put", "Library.put", defArgs (inClass (top 54) 1), defBody (inClass (top 54) 1), defScope (inClass (top 54) 1), [], []⟩
def d_Library_row_of : He.DefD := ⟨("Library", some "row_of"), "row_of", "Library.row_of", defArgs (inClass (top 54) 2), defBody (inClass (top 54) 2), defScope (inClass (top 54) 2), [], []⟩
def d_Library_entries_of : He.DefD := ⟨("Library", some "entries_of"), "entries_of", "Library.entries_of", defArgs (inClass (top 54) 3), defBody (inClass (top 54) 3), defScope (inClass (top 54) 3), [], []⟩
def d_u_fits : He.DefD := ⟨("_fits", none), "_fits", "_fits", defArgs (top 55), defBody (top 55), defScope (top 55), [], []⟩
def d_u_tree_clash : He.DefD := ⟨("_tree_clash", none), "_tree_clash", "_tree_clash", defArgs (top 57), defBody (top 57), defScope (top 57), [], []⟩
def d_trace : He.DefD := ⟨("trace", none), "trace", "trace", defArgs (top 58), defBody (top 58), defScope (top 58), [], []⟩
def d_u_law_cell : He.DefD := ⟨("_law_cell", none), "_law_cell", "_law_cell", defArgs (top 60), defBody (top 60), defScope (top 60), [], []⟩
def d_u_law_row : He.DefD := ⟨("_law_row", none), "_law_row", "_law_row", defArgs (top 61), defBody (top 61), defScope (top 61), [], []⟩
def d_u_law_draw : He.DefD := ⟨("_law_draw", none), "_law_draw", "_law_draw", defArgs (top 62), defBody (top 62), defScope (top 62), [], []⟩
def d_u_law_is_integer : He.DefD := ⟨("_law_is_integer", none), "_law_is_integer", "_law_is_integer", defArgs (top 63), defBody (top 63), defScope (top 63), [], []⟩
def d_u_law_digest : He.DefD := ⟨("_law_digest", none), "_law_digest", "_law_digest", defArgs (top 64), defBody (top 64), defScope (top 64), [], []⟩
def d_u_law_number : He.DefD := ⟨("_law_number", none), "_law_number", "_law_number", defArgs (top 65), defBody (top 65), defScope (top 65), [], []⟩
def d_u_law_mixing : He.DefD := ⟨("_law_mixing", none), "_law_mixing", "_law_mixing", defArgs (top 66), defBody (top 66), defScope (top 66), [], []⟩
def d_u_law_same : He.DefD := ⟨("_law_same", none), "_law_same", "_law_same", defArgs (top 67), defBody (top 67), defScope (top 67), [], []⟩
def d_u_law_entered : He.DefD := ⟨("_law_entered", none), "_law_entered", "_law_entered", defArgs (top 68), defBody (top 68), defScope (top 68), [], []⟩
def d_u_law_rounds : He.DefD := ⟨("_law_rounds", none), "_law_rounds", "_law_rounds", defArgs (top 69), defBody (top 69), defScope (top 69), [], []⟩
def d_u_law_service_ok : He.DefD := ⟨("_law_service_ok", none), "_law_service_ok", "_law_service_ok", defArgs (top 70), defBody (top 70), defScope (top 70), [], []⟩
def d_law : He.DefD := ⟨("law", none), "law", "law", defArgs (top 71), defBody (top 71), defScope (top 71), [], []⟩
def fn : List He.DefD := [d_Mixing_init, d_digest, d_back_rounds, d_way_back, d_u_is_document, d_u_is_head, d_is_thing, d_is_head, d_head, d_half, d_node, d_root_of, d_turns, d_way_of, d_u_nodes, d_climb, d_clash_of_ways, d_held_at, d_has_place, d_holds, d_is_earlier, d_Paper_init, d_rows_of, d_u_why, d_u_refusal, d_is_accepted, d_check, d_joined, d_Service_init, d_Service_enter, d_Service_close, d_Service_head, d_Service_entries, d_Service_stamp, d_Service_back, d_Library_init, d_Library_put, d_Library_row_of, d_Library_entries_of, d_u_fits, d_u_tree_clash, d_trace, d_u_law_cell, d_u_law_row, d_u_law_draw, d_u_law_is_integer, d_u_law_digest, d_u_law_number, d_u_law_mixing, d_u_law_same, d_u_law_entered, d_u_law_rounds, d_u_law_service_ok, d_law]
def fa : List He.Fa := [.glo "Mixing", .cls "Mixing", .mkr "Mixing", .noat "Mixing" "bound", .noat "Mixing" "factor", .glo "Paper", .cls "Paper", .mkr "Paper", .noat "Paper" "first", .noat "Paper" "steps", .glo "Service", .cls "Service", .mkr "Service", .noat "Service" "name", .noat "Service" "mixing", .noat "Service" "closed", .noat "Service" "pending", .noat "Service" "written", .meth "Service" "enter", .meth "Service" "close", .meth "Service" "head", .meth "Service" "entries", .meth "Service" "stamp", .meth "Service" "back", .glo "Library", .cls "Library", .mkr "Library", .noat "Library" "mixing", .noat "Library" "things", .noat "Library" "rounds", .meth "Library" "put", .meth "Library" "row_of", .meth "Library" "entries_of", .glo "digest", .glo "back_rounds", .glo "way_back", .glo "_is_document", .glo "_is_head", .glo "is_thing", .glo "is_head", .glo "head_things", .glo "half", .glo "node", .glo "root_of", .glo "turns", .glo "way_of", .glo "_nodes", .glo "climb", .glo "clash_of_ways", .glo "held_at", .glo "has_place", .glo "holds", .glo "is_earlier", .glo "rows_of", .glo "_why", .glo "_refusal", .glo "is_accepted", .glo "check", .glo "joined", .glo "_fits", .glo "_tree_clash", .glo "trace", .glo "_law_cell", .glo "_law_row", .glo "_law_draw", .glo "_law_is_integer", .glo "_law_digest", .glo "_law_number", .glo "_law_mixing", .glo "_law_same", .glo "_law_entered", .glo "_law_rounds", .glo "_law_service_ok", .glo "law", .int "PRIME" 2305843009213693951, .int "BEACON" 1, .int "DOCUMENT" 2, .int "NODE" 3, .int "HEAD" 4, .int "RENEWAL" 5, .int "HEAD_SIZE" 6, .int "ENTER" 1, .int "CLOSE" 2, .free "len", .free "range", .free "abs", .free "int", .free "isinstance", .free "min", .free "enumerate", .free "zip", .free "tuple", .free "list", .free "bool", .free "str"]
def loose0 : List PySem.Str := ["_wall", "__name__", "PRIME", "Mixing", "digest", "SealError", "ThingError", "ServiceError", "PaperError", "BEACON", "DOCUMENT", "NODE", "HEAD", "RENEWAL", "HEAD_SIZE", "back_rounds", "way_back", "_is_document", "_is_head", "is_thing", "is_head", "head", "head_things", "half", "node", "root_of", "turns", "way_of", "_nodes", "climb"]
def loose1 : List PySem.Str := ["clash_of_ways", "_parted", "clash_of_entries", "held_at", "has_place", "holds", "is_earlier", "Paper", "rows_of", "_why", "_refusal", "is_accepted", "check", "joined", "ENTER", "CLOSE", "Service", "Library", "_fits", "_tree_clash", "trace", "_law_cell", "_law_row", "_law_draw", "_law_is_integer", "_law_digest", "_law_number", "_law_mixing", "_law_same", "_law_entered"]
def loose2 : List PySem.Str := ["_law_rounds", "_law_service_ok"]
def loose : List PySem.Str := loose0 ++ loose1 ++ loose2
abbrev R : PySem.W.OpenRow := PySem.W.OpenLaw.row PySem.Challenge.rw_sealround_k82_whole_honest_services
abbrev hk : PySem.W.Hook := He.hookD 5 fa fn
def ob (s : PySem.W.SharedT) : He.AlD := He.obsDG 5 fa fn (HandSHeadRun.getT s)
theorem ob_eq (s : PySem.W.SharedT) : ob s = hk.obs s.abs := He.obsDG_eq (HandSHeadRun.getT_eq s)
theorem run (w : World) : HandSHeadRun.RunEq R (PySem.W.view R.prog [71]) hk ob 20000 loose w := by
  intro os
  kernel_rfl
end SR
set_option maxHeartbeats 4000000
namespace SR
open PySem PySem.Spec PyProof.Rows L2
/-! ### what the top has left, by names -/
structure GD (K : PySem.W.Frag) (mg : Str → Option Value) (x nm : Str) (st : Stmt) : Prop where
  ex : ∃ (f : Addr) (fd : FuncData), FunD K nm nm (defArgs st) (defBody st) (defScope st) [] [] f fd ∧ mg x = some (.ref f)
structure MD (K : PySem.W.Frag) (C : Addr) (m qual : Str) (st : Stmt) : Prop where
  ex : ∃ (f : Addr) (fd : FuncData), FunD K m qual (defArgs st) (defBody st) (defScope st) [] [] f fd ∧ Meth K C m f
structure KD (K : PySem.W.Frag) (mg : Str → Option Value) (x : Str) (C : Addr) (qual : Str) (st : Stmt) : Prop where
  ex : ∃ (f : Addr) (fd : FuncData), FunD K "__init__" qual (defArgs st) (defBody st) (defScope st) [] [] f fd ∧ Mk K C f ∧ mg x = some (.ref C)
abbrev CM (K : PySem.W.Frag) : Addr := He.ga K "Mixing"
abbrev CP (K : PySem.W.Frag) : Addr := He.ga K "Paper"
abbrev CS (K : PySem.W.Frag) : Addr := He.ga K "Service"
abbrev CL (K : PySem.W.Frag) : Addr := He.ga K "Library"
abbrev s_Mixing_init : Stmt := inClass (top 3) 0
abbrev s_digest : Stmt := top 4
abbrev s_back_rounds : Stmt := top 17
abbrev s_way_back : Stmt := top 18
abbrev s__is_document : Stmt := top 19
abbrev s__is_head : Stmt := top 20
abbrev s_is_thing : Stmt := top 21
abbrev s_is_head : Stmt := top 22
abbrev s_head : Stmt := top 23
abbrev s_half : Stmt := top 26
abbrev s_node : Stmt := top 27
abbrev s_root_of : Stmt := top 28
abbrev s_turns : Stmt := top 29
abbrev s_way_of : Stmt := top 30
abbrev s__nodes : Stmt := top 31
abbrev s_climb : Stmt := top 32
abbrev s_clash_of_ways : Stmt := top 33
abbrev s_held_at : Stmt := top 37
abbrev s_has_place : Stmt := top 38
abbrev s_holds : Stmt := top 39
abbrev s_is_earlier : Stmt := top 40
abbrev s_Paper_init : Stmt := inClass (top 42) 0
abbrev s_rows_of : Stmt := top 43
abbrev s__why : Stmt := top 44
abbrev s__refusal : Stmt := top 45
abbrev s_is_accepted : Stmt := top 46
abbrev s_check : Stmt := top 47
abbrev s_joined : Stmt := top 48
abbrev s_Service_init : Stmt := inClass (top 52) 0
abbrev s_Service_enter : Stmt := inClass (top 52) 1
abbrev s_Service_close : Stmt := inClass (top 52) 2
abbrev s_Service_head : Stmt := inClass (top 52) 4
abbrev s_Service_entries : Stmt := inClass (top 52) 5
abbrev s_Service_stamp : Stmt := inClass (top 52) 6
abbrev s_Service_back : Stmt := inClass (top 52) 7
abbrev s_Library_init : Stmt := inClass (top 54) 0
abbrev s_Library_put : Stmt := inClass (top 54) 1
abbrev s_Library_row_of : Stmt := inClass (top 54) 2
abbrev s_Library_entries_of : Stmt := inClass (top 54) 3
abbrev s__fits : Stmt := top 55
abbrev s__tree_clash : Stmt := top 57
abbrev s_trace : Stmt := top 58
abbrev s__law_cell : Stmt := top 60
abbrev s__law_row : Stmt := top 61
abbrev s__law_draw : Stmt := top 62
abbrev s__law_is_integer : Stmt := top 63
abbrev s__law_digest : Stmt := top 64
abbrev s__law_number : Stmt := top 65
abbrev s__law_mixing : Stmt := top 66
abbrev s__law_same : Stmt := top 67
abbrev s__law_entered : Stmt := top 68
abbrev s__law_rounds : Stmt := top 69
abbrev s__law_service_ok : Stmt := top 70
abbrev s_law : Stmt := top 71
structure Bx (K : PySem.W.Frag) (mg : Str → Option Value) : Prop where
  len : mg "len" = none
  range : mg "range" = none
  abs : mg "abs" = none
  int : mg "int" = none
  isinstance : mg "isinstance" = none
  min : mg "min" = none
  enumerate : mg "enumerate" = none
  zip : mg "zip" = none
  tuple : mg "tuple" = none
  list : mg "list" = none
  bool : mg "bool" = none
  str : mg "str" = none
  PRIME : ∃ u, mg "PRIME" = some u ∧ RelV (.int 2305843009213693951) u
  BEACON : ∃ u, mg "BEACON" = some u ∧ RelV (.int 1) u
  DOCUMENT : ∃ u, mg "DOCUMENT" = some u ∧ RelV (.int 2) u
  NODE : ∃ u, mg "NODE" = some u ∧ RelV (.int 3) u
  HEAD : ∃ u, mg "HEAD" = some u ∧ RelV (.int 4) u
  RENEWAL : ∃ u, mg "RENEWAL" = some u ∧ RelV (.int 5) u
  HEAD_SIZE : ∃ u, mg "HEAD_SIZE" = some u ∧ RelV (.int 6) u
  ENTER : ∃ u, mg "ENTER" = some u ∧ RelV (.int 1) u
  CLOSE : ∃ u, mg "CLOSE" = some u ∧ RelV (.int 2) u
  cM : Cls K (CM K)
  nM_bound : NoAttr K (CM K) "bound"
  nM_factor : NoAttr K (CM K) "factor"
  cP : Cls K (CP K)
  nP_first : NoAttr K (CP K) "first"
  nP_steps : NoAttr K (CP K) "steps"
  cS : Cls K (CS K)
  nS_name : NoAttr K (CS K) "name"
  nS_mixing : NoAttr K (CS K) "mixing"
  nS_closed : NoAttr K (CS K) "closed"
  nS_pending : NoAttr K (CS K) "pending"
  nS_written : NoAttr K (CS K) "written"
  cL : Cls K (CL K)
  nL_mixing : NoAttr K (CL K) "mixing"
  nL_things : NoAttr K (CL K) "things"
  nL_rounds : NoAttr K (CL K) "rounds"
structure All (K : PySem.W.Frag) (mg : Str → Option Value) : Prop where
  x : Bx K mg
  Mixing_init : KD K mg "Mixing" (CM K) "Mixing.__init__" s_Mixing_init
  digest : GD K mg "digest" "digest" s_digest
  back_rounds : GD K mg "back_rounds" "back_rounds" s_back_rounds
  way_back : GD K mg "way_back" "way_back" s_way_back
  _is_document : GD K mg "_is_document" "_is_document" s__is_document
  _is_head : GD K mg "_is_head" "_is_head" s__is_head
  is_thing : GD K mg "is_thing" "is_thing" s_is_thing
  is_head : GD K mg "is_head" "is_head" s_is_head
  head : GD K mg "head_things" "head" s_head
  half : GD K mg "half" "half" s_half
  node : GD K mg "node" "node" s_node
  root_of : GD K mg "root_of" "root_of" s_root_of
  turns : GD K mg "turns" "turns" s_turns
  way_of : GD K mg "way_of" "way_of" s_way_of
  _nodes : GD K mg "_nodes" "_nodes" s__nodes
  climb : GD K mg "climb" "climb" s_climb
  clash_of_ways : GD K mg "clash_of_ways" "clash_of_ways" s_clash_of_ways
  held_at : GD K mg "held_at" "held_at" s_held_at
  has_place : GD K mg "has_place" "has_place" s_has_place
  holds : GD K mg "holds" "holds" s_holds
  is_earlier : GD K mg "is_earlier" "is_earlier" s_is_earlier
  Paper_init : KD K mg "Paper" (CP K) "Paper.__init__" s_Paper_init
  rows_of : GD K mg "rows_of" "rows_of" s_rows_of
  _why : GD K mg "_why" "_why" s__why
  _refusal : GD K mg "_refusal" "_refusal" s__refusal
  is_accepted : GD K mg "is_accepted" "is_accepted" s_is_accepted
  check : GD K mg "check" "check" s_check
  joined : GD K mg "joined" "joined" s_joined
  Service_init : KD K mg "Service" (CS K) "Service.__init__" s_Service_init
  Service_enter : MD K (CS K) "enter" "Service.enter" s_Service_enter
  Service_close : MD K (CS K) "close" "Service.close" s_Service_close
  Service_head : MD K (CS K) "head" "Service.head" s_Service_head
  Service_entries : MD K (CS K) "entries" "Service.entries" s_Service_entries
  Service_stamp : MD K (CS K) "stamp" "Service.stamp" s_Service_stamp
  Service_back : MD K (CS K) "back" "Service.back" s_Service_back
  Library_init : KD K mg "Library" (CL K) "Library.__init__" s_Library_init
  Library_put : MD K (CL K) "put" "Library.put" s_Library_put
  Library_row_of : MD K (CL K) "row_of" "Library.row_of" s_Library_row_of
  Library_entries_of : MD K (CL K) "entries_of" "Library.entries_of" s_Library_entries_of
  _fits : GD K mg "_fits" "_fits" s__fits
  _tree_clash : GD K mg "_tree_clash" "_tree_clash" s__tree_clash
  trace : GD K mg "trace" "trace" s_trace
  _law_cell : GD K mg "_law_cell" "_law_cell" s__law_cell
  _law_row : GD K mg "_law_row" "_law_row" s__law_row
  _law_draw : GD K mg "_law_draw" "_law_draw" s__law_draw
  _law_is_integer : GD K mg "_law_is_integer" "_law_is_integer" s__law_is_integer
  _law_digest : GD K mg "_law_digest" "_law_digest" s__law_digest
  _law_number : GD K mg "_law_number" "_law_number" s__law_number
  _law_mixing : GD K mg "_law_mixing" "_law_mixing" s__law_mixing
  _law_same : GD K mg "_law_same" "_law_same" s__law_same
  _law_entered : GD K mg "_law_entered" "_law_entered" s__law_entered
  _law_rounds : GD K mg "_law_rounds" "_law_rounds" s__law_rounds
  _law_service_ok : GD K mg "_law_service_ok" "_law_service_ok" s__law_service_ok
  law : GD K mg "law" "law" s_law

section
variable {P : Program} {w : World} {K : PySem.W.Frag} {mg : Str → Option Value} {base : Heap}
/-- a def's promise, by its body -/
theorem cal {x nm : Str} {st : Stmt} {N ps : List Str} {k : Nat} {sp : Sp} (D : GD K mg x nm st) (S : FnScope N ps (defScope st))
    (hb : ∀ (kV doc pm : Value) (an : Option Addr) (cdv ct : Value) (us : List Value), us.length = ps.length → bindArgs (PySem.W.fnOf nm nm (defArgs st) (defBody st) (defScope st) .none kV doc pm an cdv ct) ⟨us, []⟩ = pure (ps.zip us))
    (len : ∀ vs H Q E, sp vs H Q E → vs.length = ps.length)
    (body : ∀ (f : Addr) (cdv : Value) (A : Around) (outer : List Env) (s : Shared) (H : Hp) (vs : List V) (Q : VK) (E : XK), Room k (A.deeper (envOfC nm (defScope st) s.heap.objs.size f cdv)) → sp vs H Q E →
      ∃ t, PSs (cxOf CX0 P w K mg base N nm (defScope st) f cdv A outer s H E).nox (defBody st) t ∧ t { nx := fun _ H' => Q .non H', rt := Q } (start N vs) H) : C8.Cal P w K mg base (k + 1) x sp [] := by
  obtain ⟨f, fd, F, hm⟩ := D.ex
  refine ⟨f, fd, ps, [], F.ok S len fun cdv A outer s H vs Q E hr h => ?_, hm, F.kp, F.bindsN hb, .nil⟩
  obtain ⟨t, h1, h2⟩ := body f cdv A outer s H vs Q E hr h
  exact ⟨t, h1.nox, h2⟩
theorem met {C : Addr} {m qual : Str} {st : Stmt} {N ps : List Str} {k : Nat} {sp : Sp} (c : Cls K C) (D : MD K C m qual st) (S : FnScope N ps (defScope st))
    (hb : ∀ (kV doc pm : Value) (an : Option Addr) (cdv ct : Value) (us : List Value), us.length = ps.length → bindArgs (PySem.W.fnOf m qual (defArgs st) (defBody st) (defScope st) .none kV doc pm an cdv ct) ⟨us, []⟩ = pure (ps.zip us))
    (len : ∀ vs H Q E, sp vs H Q E → vs.length = ps.length)
    (body : ∀ (f : Addr) (cdv : Value) (A : Around) (outer : List Env) (s : Shared) (H : Hp) (vs : List V) (Q : VK) (E : XK), Room k (A.deeper (envOfC qual (defScope st) s.heap.objs.size f cdv)) → sp vs H Q E →
      ∃ t, PSs (cxOf CX0 P w K mg base N qual (defScope st) f cdv A outer s H E).nox (defBody st) t ∧ t { nx := fun _ H' => Q .non H', rt := Q } (start N vs) H) : C8.Met P w K mg base (k + 1) C m sp [] := by
  obtain ⟨f, fd, F, hm⟩ := D.ex
  refine ⟨f, fd, ps, [], c, hm, F.ok S len fun cdv A outer s H vs Q E hr h => ?_, F.bindsN hb, .nil⟩
  obtain ⟨t, h1, h2⟩ := body f cdv A outer s H vs Q E hr h
  exact ⟨t, h1.nox, h2⟩
theorem mak {x : Str} {C : Addr} {qual : Str} {st : Stmt} {N ps : List Str} {k : Nat} {sp : Sp} (D : KD K mg x C qual st) (S : FnScope N ps (defScope st))
    (hb : ∀ (kV doc pm : Value) (an : Option Addr) (cdv ct : Value) (us : List Value), us.length = ps.length → bindArgs (PySem.W.fnOf "__init__" qual (defArgs st) (defBody st) (defScope st) .none kV doc pm an cdv ct) ⟨us, []⟩ = pure (ps.zip us))
    (len : ∀ vs H Q E, sp vs H Q E → vs.length = ps.length)
    (body : ∀ (f : Addr) (cdv : Value) (A : Around) (outer : List Env) (s : Shared) (H : Hp) (vs : List V) (Q : VK) (E : XK), Room k (A.deeper (envOfC qual (defScope st) s.heap.objs.size f cdv)) → sp vs H Q E →
      ∃ t, PSs (cxOf CX0 P w K mg base N qual (defScope st) f cdv A outer s H E).nox (defBody st) t ∧ t { nx := fun _ H' => Q .non H', rt := Q } (start N vs) H) : C8.Mak P w K mg base (k + 1) x C sp [] := by
  obtain ⟨f, fd, F, hM, hm⟩ := D.ex
  refine ⟨f, fd, ps, [], hM, F.ok S len fun cdv A outer s H vs Q E hr h => ?_, hm, F.bindsN hb, .nil⟩
  obtain ⟨t, h1, h2⟩ := body f cdv A outer s H vs Q E hr h
  exact ⟨t, h1.nox, h2⟩
end
/-! ### promises by their arguments -/
def Sp1 (f : V → Hp → VK → Prop) : Sp := fun vs H Q _ => ∃ a, vs = [a] ∧ f a H Q
def Sp2 (f : V → V → Hp → VK → Prop) : Sp := fun vs H Q _ => ∃ a b, vs = [a, b] ∧ f a b H Q
def Sp3 (f : V → V → V → Hp → VK → Prop) : Sp := fun vs H Q _ => ∃ a b c, vs = [a, b, c] ∧ f a b c H Q
def Sp4 (f : V → V → V → V → Hp → VK → Prop) : Sp := fun vs H Q _ => ∃ a b c d, vs = [a, b, c, d] ∧ f a b c d H Q
def Sp5 (f : V → V → V → V → V → Hp → VK → Prop) : Sp := fun vs H Q _ => ∃ a b c d e, vs = [a, b, c, d, e] ∧ f a b c d e H Q
def Sp6 (f : V → V → V → V → V → V → Hp → VK → Prop) : Sp := fun vs H Q _ => ∃ a b c d e g, vs = [a, b, c, d, e, g] ∧ f a b c d e g H Q
theorem len1 {f : V → Hp → VK → Prop} (vs : List V) (H : Hp) (Q : VK) (E : XK) : Sp1 f vs H Q E → vs.length = 1 := fun ⟨_, e, _⟩ => by rw [e]; rfl
theorem len2 {f : V → V → Hp → VK → Prop} (vs : List V) (H : Hp) (Q : VK) (E : XK) : Sp2 f vs H Q E → vs.length = 2 := fun ⟨_, _, e, _⟩ => by rw [e]; rfl
theorem len3 {f : V → V → V → Hp → VK → Prop} (vs : List V) (H : Hp) (Q : VK) (E : XK) : Sp3 f vs H Q E → vs.length = 3 := fun ⟨_, _, _, e, _⟩ => by rw [e]; rfl
theorem len4 {f : V → V → V → V → Hp → VK → Prop} (vs : List V) (H : Hp) (Q : VK) (E : XK) : Sp4 f vs H Q E → vs.length = 4 := fun ⟨_, _, _, _, e, _⟩ => by rw [e]; rfl
theorem len5 {f : V → V → V → V → V → Hp → VK → Prop} (vs : List V) (H : Hp) (Q : VK) (E : XK) : Sp5 f vs H Q E → vs.length = 5 := fun ⟨_, _, _, _, _, e, _⟩ => by rw [e]; rfl
theorem len6 {f : V → V → V → V → V → V → Hp → VK → Prop} (vs : List V) (H : Hp) (Q : VK) (E : XK) : Sp6 f vs H Q E → vs.length = 6 := fun ⟨_, _, _, _, _, _, e, _⟩ => by rw [e]; rfl
theorem ip_mul {X : Cx} : PIp X .Mult (rI CMul fun i j => .int (i * j)) := fun pins s σ H x y v u Q I r1 r2 h => iop_mul pins s σ H x y v u Q I r1 r2 h
/-! ### heaps -/
theorem Same.new {H : Hp} {p : Addr} {o : HO} (h : H p = none) : Same H (upd H p o) := fun b u e => by
  rw [upd_ne (ne_of_none e h)]
  exact e
/-- all but what stands at the addresses of S is as it was -/
def But (S : List Addr) (H H' : Hp) : Prop := ∀ b o, b ∉ S → H b = some o → H' b = some o
theorem But.refl {S : List Addr} (H : Hp) : But S H H := fun _ _ _ h => h
theorem But.trans {S : List Addr} {H H1 H2 : Hp} (a : But S H H1) (b : But S H1 H2) : But S H H2 := fun c o n h => b c o n (a c o n h)
theorem Same.but {S : List Addr} {H H' : Hp} (s : Same H H') : But S H H' := fun b o _ h => s b o h
theorem But.mono {S T : List Addr} {H H' : Hp} (s : But S H H') (h : ∀ b, b ∈ S → b ∈ T) : But T H H' := fun b o n e => s b o (fun m => n (h b m)) e
theorem But.at {S : List Addr} {H : Hp} {p : Addr} {o : HO} (h : p ∈ S) : But S H (upd H p o) := fun b u n e => by
  rw [upd_ne fun q => n (by rw [q]; exact h)]
  exact e
/-- a tuple of ints -/
abbrev Rw (H : Hp) (a : Addr) (ns : List Int) : Prop := H a = some (.tup (ns.map V.int))
/-- a list of ints -/
abbrev Li (H : Hp) (a : Addr) (ns : List Int) : Prop := H a = some (.lst (ns.map V.int))
theorem small {n : Nat} (h : n ≤ 100000) : n ≤ sizeLine := Nat.le_trans h (by decide)
theorem small1 {n : Nat} (h : n ≤ 100000) : n < sizeLine := Nat.lt_of_le_of_lt h (by decide)
theorem map_at {ns : List Int} {i : Nat} {x : Int} (h : ns[i]? = some x) : (ns.map V.int)[i]? = some (V.int x) := by rw [List.getElem?_map, h]; rfl
theorem at_map {ns : List Int} {i : Nat} {v : V} (h : (ns.map V.int)[i]? = some v) : ∃ x, v = V.int x ∧ ns[i]? = some x := by
  rw [List.getElem?_map] at h
  cases e : ns[i]? with
  | none =>
    rw [e] at h
    cases h
  | some x =>
    rw [e] at h
    exact ⟨x, (Option.some.inj h).symm, rfl⟩
end SR
set_option maxHeartbeats 4000000
namespace SR
open PySem PySem.Spec PyProof.Rows L2
variable {P : Program} {w : World} {K : PySem.W.Frag} {mg : Str → Option Value} {base : Heap}
/-! ### a mixing at an address -/
def mxF (m : Mx) : List (Str × V) := [("bound", .int m.b), ("factor", .int m.f)]
def MxAt (K : PySem.W.Frag) (H : Hp) (a : Addr) (m : Mx) : Prop := ∃ dx, H a = some (.ins (CM K) dx (mxF m))
structure MOk (m : Mx) : Prop where
  b0 : 0 < m.b
  f0 : -(2 ^ 64) < m.f
  f1 : m.f < 2 ^ 64
theorem MxAt.mono {H H' : Hp} {a : Addr} {m : Mx} (s : Same H H') (h : MxAt K H a m) : MxAt K H' a m := by
  obtain ⟨dx, h⟩ := h
  exact ⟨dx, s _ _ h⟩
theorem mxF_b (m : Mx) : (mxF m).lookup ("bound" : Str) = some (.int m.b) := rfl
theorem mxF_f (m : Mx) : (mxF m).lookup ("factor" : Str) = some (.int m.f) := rfl
theorem fold_in (m : Mx) : ∀ (l : List Int) (s : Int), 0 ≤ s → s < PR → 0 ≤ l.foldl (stp m) s ∧ l.foldl (stp m) s < PR
  | [], s, h1, h2 => ⟨h1, h2⟩
  | n :: l, s, _, _ => fold_in m l (stp m s n) (stp_lo m s n) (stp_hi m s n)
theorem fold_ok (m : Mx) (l : List Int) (z : Int) : -(2 ^ 64) < l.foldl (stp m) (z % PR) ∧ l.foldl (stp m) (z % PR) < 2 ^ 64 := by
  obtain ⟨h1, h2⟩ := fold_in m l (z % PR) (Int.emod_nonneg _ (by decide)) (Int.emod_lt_of_pos _ (by decide))
  have h3 : PR < 2 ^ 64 := by decide
  constructor <;> omega
/-! ### digest -/
abbrev N_digest : List Str := ["mixing", "row", "state", "number"]
theorem sc_digest : FnScope N_digest ["mixing", "row"] (defScope s_digest) := ⟨rfl, rfl, rfl, by decide +kernel, rfl, by decide +kernel, by decide +kernel⟩
def spDig (K : PySem.W.Frag) : Sp := Sp2 fun x y H Q => ∃ mx r m ns, x = .ref mx ∧ y = .ref r ∧ MxAt K H mx m ∧ MOk m ∧ Rw H r ns ∧ Q (.int (dig m ns)) H
theorem c_digest (D : All K mg) : C8.Cal P w K mg base 1 "digest" (spDig K) [] := by
  refine cal D.digest sc_digest (fun _ _ _ _ _ _ us hl => match us, hl with | [_, _], _ => rfl) len2 fun f cdv A outer s H vs Q E hr h => ?_
  have sc := sc_digest
  obtain ⟨_, _, rfl, mx, r, m, ns, rfl, rfl, ⟨dx, hM⟩, mo, hR, k⟩ := h
  refine ⟨_, (pss_cons (ps_set (i := 2) sc.nd rfl (.inl rfl) (pe_op op_mod (pe_op op_add (pe_op op_add (pe_fld (pv 0) rfl) (pe_callB call_len_seq (by rfl) D.x.len PySem.boot_len (pa_cons (pv 1) pa_nil))) pe_int) (C8.pe_gc rfl D.x.PRIME)))
    (pss_cons (ps_for PassesOwn.never rfl (pi_tup (pv 1)) (pg_name (i := 3) sc.nd rfl (.inl rfl))
    (pss_one (ps_set (i := 2) sc.nd rfl (.inl rfl) (pe_op op_mod (pe_op op_add (pe_op op_add (pe_op op_mul (pv 2) (pe_fld (pv 0) rfl)) (pv 3)) pe_int) (C8.pe_gc rfl D.x.PRIME)))))
    (pss_one (ps_ret (pe_op op_mod (pe_op op_add (pe_op op_mul (pv 2) pe_int) (pe_op op_fdiv (pv 2) pe_int)) (pe_fld (pv 0) rfl)))))), ?_⟩
  refine ⟨_, rfl, mx, _, dx, _, _, rfl, hM, D.x.cM, D.x.nM_factor, mxF_f m, _, rfl, r, _, rfl, .inr (SqT.of hR), _, _, rfl, rfl, _, _, rfl, rfl, _, _, rfl, rfl, (by show (0 : Int) < 2305843009213693951; decide), ?_⟩
  refine ⟨_, rfl, r, rfl, ⟨_, SqT.of hR⟩, for_tup (K := K) (a := r) (xs := ns.map V.int) (fun i σ H' => H' = H ∧ ∃ v, σ = [some (.ref mx), some (.ref r), some (.int ((ns.take i).foldl (stp m) ((m.f + (ns.length : Int) + 1) % PR))), v])
    ⟨rfl, none, ?_⟩ (fun i σ H' _ ⟨e, _⟩ => by rw [e]; exact SqT.of hR) ?_ ?_⟩
  · rw [List.length_map]
    rfl
  · rintro i y σ H' hi ⟨rfl, v, rfl⟩
    obtain ⟨n, rfl, hn⟩ := at_map hi
    have hlo : -(2 ^ 64) < (ns.take i).foldl (stp m) ((m.f + (ns.length : Int) + 1) % PR) ∧ (ns.take i).foldl (stp m) ((m.f + (ns.length : Int) + 1) % PR) < 2 ^ 64 := fold_ok m _ _
    refine ⟨_, rfl, _, rfl, mx, _, dx, _, _, rfl, hM, D.x.cM, D.x.nM_factor, mxF_f m, _, _, rfl, rfl, .inl hlo, _, rfl, _, _, rfl, rfl, _, _, rfl, rfl, _, _, rfl, rfl, (by show (0 : Int) < 2305843009213693951; decide), ?_⟩
    refine ⟨rfl, some (.int n), ?_⟩
    rw [List.take_succ, hn, List.foldl_append]
    rfl
  · rintro σ H' ⟨rfl, v, rfl⟩
    rw [List.length_map, List.take_length]
    have hlo := fold_ok m ns (m.f + (ns.length : Int) + 1)
    exact ⟨_, rfl, _, _, rfl, rfl, .inl hlo, _, rfl, _, _, rfl, rfl, ⟨by decide, by decide⟩, _, _, rfl, rfl, _, rfl, mx, _, dx, _, _, rfl, hM, D.x.cM, D.x.nM_bound, mxF_b m, _, _, rfl, rfl, mo.b0, k⟩
/-! ### half, node -/
abbrev N_half : List Str := ["count", "power"]
theorem sc_half : FnScope N_half ["count"] (defScope s_half) := ⟨rfl, rfl, rfl, by decide +kernel, rfl, by decide +kernel, by decide +kernel⟩
def spHalf : Sp := Sp1 fun x H Q => ∃ n : Nat, x = .int (n : Int) ∧ 2 ≤ n ∧ n ≤ 4 ∧ Q (.int (hf n : Int)) H
theorem c_half (D : All K mg) : C8.Cal P w K mg base 1 "half" spHalf [] := by
  refine cal D.half sc_half (fun _ _ _ _ _ _ us hl => match us, hl with | [_], _ => rfl) len1 fun f cdv A outer s H vs Q E hr h => ?_
  have sc := sc_half
  obtain ⟨_, rfl, n, rfl, h2, h4, k⟩ := h
  refine ⟨_, (pss_cons (ps_set (i := 1) sc.nd rfl (.inl rfl) pe_int)
    (pss_cons (ps_while PassesOwn.never (pt_cmpR op_lt (pe_op op_mul (pv 1) pe_int) (pv 0) (nomark _))
    (pss_one (ps_aug (i := 1) sc.nd rfl (.inl rfl) pe_int ip_mul)))
    (pss_one (ps_ret (pv 1))))), ?_⟩
  refine ⟨fun m σ H' => H' = H ∧ ∃ p : Nat, σ = [some (.int (n : Int)), some (.int (p : Int))] ∧ (p = 1 ∨ (p = 2 ∧ 2 < n)) ∧ m = 4 - p, ⟨_, rfl, 1, rfl, .inl rfl, rfl⟩, ?_⟩
  rintro m σ H' ⟨rfl, p, rfl, hp, rfl⟩
  refine ⟨_, rfl, _, _, rfl, rfl, .inl (by constructor <;> omega), _, rfl, _, _, rfl, rfl, _, rfl, ?_⟩
  refine ite2 (fun hc => ?_) (fun hc => ?_)
  · have hc : (p : Int) * 2 < (n : Int) := of_decide_eq_true hc
    refine ⟨_, fun σ' H1 z => z, ?_⟩
    refine ⟨_, rfl, _, _, rfl, rfl, .inl (by constructor <;> omega), 4 - p * 2, ?_, rfl, p * 2, rfl, ?_, rfl⟩
    · rcases hp with q | ⟨q, _⟩ <;> subst q <;> omega
    · rcases hp with q | ⟨q, _⟩ <;> subst q <;> omega
  · have hc : ¬ (p : Int) * 2 < (n : Int) := fun q => hc (decide_eq_true q)
    have e : p = hf n := by
      rcases hp with q | ⟨q, _⟩ <;> subst q
      · have : n = 2 := by omega
        subst this
        rfl
      · have : n = 3 ∨ n = 4 := by omega
        rcases this with z | z <;> subst z <;> rfl
    subst e
    exact ⟨_, rfl, k⟩
abbrev N_node : List Str := ["left", "right"]
theorem sc_node : FnScope N_node ["left", "right"] (defScope s_node) := ⟨rfl, rfl, rfl, by decide +kernel, rfl, by decide +kernel, by decide +kernel⟩
def spNode : Sp := Sp2 fun x y H Q => ∃ a b : Int, x = .int a ∧ y = .int b ∧ ∀ p, H p = none → Q (.ref p) (upd H p (.tup [.int 3, .int a, .int b]))
theorem c_node (D : All K mg) : C8.Cal P w K mg base 1 "node" spNode [] := by
  refine cal D.node sc_node (fun _ _ _ _ _ _ us hl => match us, hl with | [_, _], _ => rfl) len2 fun f cdv A outer s H vs Q E hr h => ?_
  have sc := sc_node
  obtain ⟨_, _, rfl, a, b, rfl, rfl, k⟩ := h
  refine ⟨_, (pss_one (ps_ret (pe_tup (pa_cons (C8.pe_gc rfl D.x.NODE) (pa_cons (pv 0) (pa_cons (pv 1) pa_nil)))))), ?_⟩
  exact ⟨_, rfl, _, rfl, small (by show 3 ≤ 100000; decide), k⟩
end SR
set_option maxHeartbeats 4000000
namespace SR
open PySem PySem.Spec PyProof.Rows L2
variable {P : Program} {w : World} {K : PySem.W.Frag} {mg : Str → Option Value} {base : Heap}
/-! ### back_rounds -/
/-- numbers as ints -/
def zs (l : List Nat) : List Int := l.map fun x : Nat => (x : Int)
theorem zs_snoc (l : List Nat) (x : Nat) : zs (l ++ [x]) = zs l ++ [(x : Int)] := by
  unfold zs
  rw [List.map_append]
  rfl
theorem zs_len (l : List Nat) : (zs l).length = l.length := List.length_map ..
theorem zs_at {l : List Nat} {i x : Nat} (h : l[i]? = some x) : (zs l)[i]? = some (x : Int) := by
  unfold zs
  rw [List.getElem?_map, h]
  rfl
theorem int_snoc (l : List Int) (x : Int) : (l ++ [x]).map V.int = l.map V.int ++ [V.int x] := by
  rw [List.map_append]
  rfl
abbrev N_back_rounds : List Str := ["number", "rounds", "power"]
theorem sc_back_rounds : FnScope N_back_rounds ["number"] (defScope s_back_rounds) := ⟨rfl, rfl, rfl, by decide +kernel, rfl, by decide +kernel, by decide +kernel⟩
/-- a new list of these ints -/
def NewL (H : Hp) (ns : List Int) (Q : VK) : Prop := ∀ p H', Same H H' → H p = none → Li H' p ns → Q (.ref p) H'
def spBack : Sp := Sp1 fun x H Q => ∃ n : Nat, x = .int (n : Int) ∧ n ≤ 4 ∧ NewL H (zs (bks n)) Q
theorem c_back_rounds (D : All K mg) : C8.Cal P w K mg base 1 "back_rounds" spBack [] := by
  refine cal D.back_rounds sc_back_rounds (fun _ _ _ _ _ _ us hl => match us, hl with | [_], _ => rfl) len1 fun f cdv A outer s H vs Q E hr h => ?_
  have sc := sc_back_rounds
  obtain ⟨_, rfl, n, rfl, h4, k⟩ := h
  refine ⟨_, (pss_cons (ps_set (i := 1) sc.nd rfl (.inl rfl) (pe_lst pa_nil))
    (pss_cons (ps_set (i := 2) sc.nd rfl (.inl rfl) pe_int)
    (pss_cons (ps_while PassesOwn.never (PW.pt (pw_and (pt_cmpR op_le (pv 2) (pv 0) (nomark _)) (pw_and1 (pt_cmpR op_eq (pe_op op_mod (pv 0) (pv 2)) pe_int (nomark _)))))
    (pss_cons (ps_expr (pe_bm PySem.F.plainAttrs_list PySem.F.slot_list_append PySem.F.type_list_append mt_append (pv 1) (pa_cons (pe_op op_sub (pv 0) (pv 2)) pa_nil)))
      (pss_one (ps_aug (i := 2) sc.nd rfl (.inl rfl) pe_int ip_mul))))
    (pss_one (ps_ret (pv 1)))))), ?_⟩
  refine ⟨Nat.zero_le _, fun p hp => ?_⟩
  refine ⟨fun m σ H' => ∃ (pw : Nat) (rs : List Nat), σ = [some (.int (n : Int)), some (.ref p), some (.int (pw : Int))] ∧ H' = upd H p (.lst ((zs rs).map V.int)) ∧ (n, pw, rs) ∈ btab ∧ m = 16 - pw, ⟨_, 1, [], rfl, rfl, btab_start n h4, rfl⟩, ?_⟩
  rintro m σ H' ⟨pw, rs, rfl, rfl, hb, rfl⟩
  have hp0 : 0 < pw := (btab_pos _ hb).1
  have hp8 : pw ≤ 8 := (btab_pos _ hb).2.1
  have hl3 : rs.length ≤ 3 := (btab_pos _ hb).2.2
  have done : ¬ (pw ≤ n ∧ n % pw = 0) → Q (.ref p) (upd H p (.lst ((zs rs).map V.int))) := fun c => by
    refine k p _ (Same.new hp) hp ?_
    have e := btab_end _ hb c
    have e : rs = bks n := e
    rw [← e]
    exact upd_same
  refine ⟨_, rfl, _, rfl, _, _, rfl, rfl, _, rfl, ite2 (fun hc => ?_) (fun hc => iteF ?_)⟩
  · have hc : (pw : Int) ≤ (n : Int) := of_decide_eq_true hc
    refine ⟨_, rfl, _, rfl, _, _, rfl, rfl, (show (0 : Int) < (pw : Int) by omega), rfl, _, rfl, ite2 (fun hm => ?_) (fun hm => ?_)⟩
    · have hm : V.int ((n : Int) % (pw : Int)) = V.int 0 := of_decide_eq_true hm
      have hm : (n : Int) % (pw : Int) = 0 := V.int.inj hm
      have g := btab_go _ hb (show pw ≤ n by omega) (show n % pw = 0 by omega)
      refine ⟨_, fun σ' H1 z => z, ?_⟩
      refine ⟨_, rfl, .inl ⟨rfl, _, SqL.of upd_same⟩, _, rfl, _, rfl, _, _, rfl, rfl, p, _, _, rfl, rfl, upd_same, small1 ?_, ?_⟩
      · rw [List.length_map, zs_len]
        omega
      refine ⟨_, rfl, _, _, rfl, rfl, .inr ⟨by decide, by decide⟩, 16 - pw * 2, ?_, pw * 2, rs ++ [n - pw], rfl, ?_, g, rfl⟩
      · omega
      · have e : ((n - pw : Nat) : Int) = (n : Int) - (pw : Int) := by omega
        rw [upd_upd, zs_snoc, int_snoc, e]
    · have hm : ¬ (n : Int) % (pw : Int) = 0 := fun q => hm (decide_eq_true (congrArg V.int q))
      exact ⟨_, rfl, done fun q => hm (by omega)⟩
  · have hc : ¬ (pw : Int) ≤ (n : Int) := fun q => hc (decide_eq_true q)
    exact ⟨_, rfl, done fun q => hc (by omega)⟩
/-! ### way_back -/
theorem Same.mut {H H' : Hp} {p : Addr} {o : HO} (e : Same H H') (h : H p = none) : Same H (upd H' p o) := fun a u ha => by
  rw [upd_ne (ne_of_none ha h)]
  exact e a u ha
/-- those of at least e -/
def geq (e : Nat) (l : List Int) : List Int := l.filter fun x => decide ((e : Int) ≤ x)
theorem geq_snoc (e : Nat) (l : List Int) (x : Int) : geq e (l ++ [x]) = if decide ((e : Int) ≤ x) = true then geq e l ++ [x] else geq e l := by
  unfold geq
  rw [List.filter_append, List.filter_cons, List.filter_nil]
  split
  · rfl
  · rw [List.append_nil]
theorem geq_len (e : Nat) (l : List Int) : (geq e l).length ≤ l.length := List.length_filter_le ..
abbrev N_way_back : List Str := ["start", "end", "way", "earlier"]
theorem sc_way_back : FnScope N_way_back ["start", "end"] (defScope s_way_back) := ⟨rfl, rfl, rfl, by decide +kernel, rfl, by decide +kernel, by decide +kernel⟩
def spWayB : Sp := Sp2 fun x y H Q => ∃ s e : Nat, x = .int (s : Int) ∧ y = .int (e : Int) ∧ e ≤ s ∧ s ≤ 4 ∧ NewL H (zs (wb s e)) Q
theorem c_way_back (D : All K mg) : C8.Cal P w K mg base 2 "way_back" spWayB [] := by
  refine cal D.way_back sc_way_back (fun _ _ _ _ _ _ us hl => match us, hl with | [_, _], _ => rfl) len2 fun f cdv A outer s H vs Q E hr h => ?_
  have sc := sc_way_back
  obtain ⟨_, _, rfl, z, e, rfl, rfl, hez, hz4, k⟩ := h
  refine ⟨_, (pss_cons (ps_set (i := 2) sc.nd rfl (.inl rfl) (pe_lst (pa_cons (pv 0) pa_nil)))
    (pss_cons (ps_while PassesOwn.never (pt_cmpR op_gt (pe_ix ix_list (pv 2) (pe_un un_neg pe_int) (fun _ _ => rfl)) (pv 1) (nomark _))
    (pss_one (ps_expr (pe_bm PySem.F.plainAttrs_list PySem.F.slot_list_append PySem.F.type_list_append mt_append (pv 2) (pa_cons (pe_callB (cr_min rfl) (by rfl) D.x.min (by decide +kernel) (pa_cons (pe_lc (own := [("earlier", 3)]) (g := (gName 3)) rfl sc.nd (pi_list (C8.pe_c (c_back_rounds D) hr (by decide) rfl (pa_cons (pe_ix ix_list (pv 2) (pe_un un_neg pe_int) (fun _ _ => rfl)) pa_nil))) (blkOk_by (own := [("earlier", 3)]) (N := N_way_back) (sc := defScope s_way_back) (by decide +kernel)) (fun _ _ _ _ _ => (pg_name (i := 3) sc.nd rfl (.inl rfl))) (fun _ _ _ _ _ => pts_one (pt_cmpR op_ge (pv 3) (pv 1) (nomark _))) (fun _ _ _ _ _ => (pv 3))) pa_nil)) pa_nil)))))
    (pss_one (ps_ret (pv 2))))), ?_⟩
  refine ⟨_, rfl, Nat.le_trans (Nat.le_of_eq rfl) (small (by show 1 ≤ 100000; decide)), fun p hp => ?_⟩
  refine ⟨fun m σ H' => ∃ (j c : Nat) (pre : List Nat), σ = [some (.int (z : Int)), some (.int (e : Int)), some (.ref p), none] ∧ Same H H' ∧ Li H' p (zs (pre ++ [c])) ∧ wb z e = pre ++ wbk j c e ∧ c ≤ 4 ∧ e ≤ c ∧ c ≤ j + e ∧ pre.length + c ≤ 4 ∧ c = m,
    ⟨_, 4, z, [], rfl, Same.new hp, upd_same, rfl, hz4, hez, by omega, by simpa using hz4, rfl⟩, ?_⟩
  rintro m σ H' ⟨j, c, pre, rfl, s1, hL, hw, hc4, hec, hcj, hpl, rfl⟩
  have hL' : H' p = some (.lst ((zs pre).map V.int ++ [V.int (c : Int)])) := by rw [← int_snoc, ← zs_snoc]; exact hL
  refine ⟨_, rfl, _, rfl, p, _, _, _, rfl, rfl, SqL.of hL', atI_last _ _, _, rfl, _, _, rfl, rfl, _, rfl, ite2 (fun hc => ?_) (fun hc => ?_)⟩
  · have hc : (e : Int) < (c : Int) := of_decide_eq_true hc
    have hc : e < c := by omega
    obtain ⟨n1, n2, n3⟩ := nxt_ok c hc4 e hc
    have n4 := bks_lt c _ n1
    refine ⟨_, fun σ' H1 q => q, ?_⟩
    refine ⟨_, rfl, .inl ⟨rfl, _, SqL.of hL⟩, ?_⟩
    refine ⟨_, rfl, _, rfl, p, _, _, _, rfl, rfl, SqL.of hL', atI_last _ _, _, rfl, c, rfl, hc4, fun q H1 s2 nq hq => ?_⟩
    refine ⟨q, rfl, ⟨_, SqL.of hq⟩, fun C nC => lc_list (K := K) (a := q) (xs := (zs (bks c)).map V.int) (fun i H2 => H2 = upd H1 C (.lst ((geq e ((zs (bks c)).take i)).map V.int))) rfl (fun i H2 _ h2 => by rw [h2]; exact SqL.of ((upd_ne (ne_of_none hq nC)).trans hq)) ?_ ?_⟩
    · rintro i x H2 hx rfl
      obtain ⟨y, rfl, hy⟩ := at_map hx
      refine ⟨rfl, _, rfl, _, rfl, _, _, rfl, rfl, _, rfl, ?_⟩
      have et : (zs (bks c)).take (i + 1) = (zs (bks c)).take i ++ [y] := by rw [List.take_succ, hy]; rfl
      refine ite2 (fun hg => ?_) (fun hg => ?_)
      · refine ⟨_, rfl, _, upd_same, small1 ?_, ?_⟩
        · rw [List.length_map]
          refine Nat.le_trans (geq_len _ _) ?_
          rw [List.length_take, zs_len]
          have := bks_len c
          omega
        · rw [upd_upd, et, geq_snoc, if_pos hg, int_snoc]
      · show _ = _
        rw [et, geq_snoc, if_neg hg]
    · rintro H2 rfl
      rw [List.length_map, List.take_length]
      have hmem : ∀ y : Int, y ∈ geq e (zs (bks c)) ↔ ∃ t : Nat, t ∈ bks c ∧ e ≤ t ∧ y = (t : Int) := fun y => by
        unfold geq zs
        rw [List.mem_filter, List.mem_map]
        constructor
        · rintro ⟨⟨t, ht, rfl⟩, hd⟩
          exact ⟨t, ht, by have := of_decide_eq_true hd; omega, rfl⟩
        · rintro ⟨t, ht, h1, rfl⟩
          exact ⟨⟨t, ht, rfl⟩, decide_eq_true (by omega)⟩
      refine ⟨C, _, rfl, SqL.of upd_same, List.length_pos_of_mem ((hmem _).mpr ⟨_, n1, n2, rfl⟩), fun mm hm hle => ?_⟩
      obtain ⟨t, ht, h1, rfl⟩ := (hmem _).mp hm
      have h2 := hle _ ((hmem _).mpr ⟨_, n1, n2, rfl⟩)
      have h3 := n3 t ht h1
      have h4 : t = nxt c e := by omega
      subst h4
      have hp1 : H1 p = some (.lst ((zs (pre ++ [c])).map V.int)) := s2 _ _ hL
      refine ⟨p, _, _, rfl, rfl, (upd_ne (ne_of_none hp1 nC)).trans hp1, small1 ?_, ?_⟩
      · rw [List.length_map, zs_len, List.length_append]
        simp only [List.length_cons, List.length_nil]
        omega
      · obtain ⟨j', rfl⟩ : ∃ j', j = j' + 1 := ⟨j - 1, by omega⟩
        refine ⟨nxt c e, n4, j', nxt c e, pre ++ [c], rfl, Same.mut ((s1.trans s2).trans (Same.new nC)) hp, ?_, ?_, by omega, n2, by omega, ?_, rfl⟩
        · show upd _ p _ p = _
          rw [upd_same, zs_snoc (pre ++ [c]), int_snoc]
        · rw [hw]
          show pre ++ (if e < c then c :: wbk j' (nxt c e) e else [c]) = _
          rw [if_pos hc, List.append_assoc]
          rfl
        · rw [List.length_append]
          simp only [List.length_cons, List.length_nil]
          omega
  · have hc : ¬ (e : Int) < (c : Int) := fun q => hc (decide_eq_true q)
    have hec : c = e := by omega
    refine ⟨_, rfl, k p H' s1 hp ?_⟩
    have e1 : wbk j c e = [c] := by
      cases j with
      | zero => rfl
      | succ j =>
        show (if e < c then _ else [c]) = [c]
        rw [if_neg (by omega)]
    rw [hw, e1]
    exact hL
end SR
set_option maxHeartbeats 4000000
namespace SR
open PySem PySem.Spec PyProof.Rows L2
variable {P : Program} {w : World} {K : PySem.W.Frag} {mg : Str → Option Value} {base : Heap}
/-! ### things -/
/-- a head's row -/
def hdr (s : Int) (n : Nat) (h c rt : Int) (bs : List Int) : List Int := 4 :: s :: (n : Int) :: h :: c :: rt :: bs
def HdOk (ns : List Int) : Prop := ∃ (s : Int) (n : Nat) (h c rt : Int) (bs : List Int), ns = hdr s n h c rt bs ∧ n ≤ 4 ∧ 1 ≤ c ∧ bs.length = (bks n).length
/-- the things that the law enters or closes -/
def TOk (ns : List Int) : Prop := (∃ h v, ns = [1, h, v]) ∨ (∃ v, ns = [2, 0, v]) ∨ HdOk ns
abbrev N_u_is_document : List Str := ["row"]
theorem sc_is_document : FnScope N_u_is_document ["row"] (defScope s__is_document) := ⟨rfl, rfl, rfl, by decide +kernel, rfl, by decide +kernel, by decide +kernel⟩
def spIsDoc : Sp := Sp1 fun x H Q => ∃ r v, x = .ref r ∧ Rw H r [2, 0, v] ∧ Q (.bl true) H
theorem c__is_document (D : All K mg) : C8.Cal P w K mg base 1 "_is_document" spIsDoc [] := by
  refine cal D._is_document sc_is_document (fun _ _ _ _ _ _ us hl => match us, hl with | [_], _ => rfl) len1 fun f cdv A outer s H vs Q E hr h => ?_
  have sc := sc_is_document
  obtain ⟨_, rfl, r, v, rfl, hR, k⟩ := h
  refine ⟨_, (pss_one (ps_ret (pe_and (pe_cmpR op_ge (pe_callB call_len_seq (by rfl) D.x.len PySem.boot_len (pa_cons (pv 0) pa_nil)) pe_int (nomark _)) (pe_one (pe_cmpR op_ge (pe_callB call_len_seq (by rfl) D.x.len PySem.boot_len (pa_cons (pv 0) pa_nil)) (pe_op op_add pe_int (pe_ix ix_tup (pv 0) pe_int (fun _ _ => rfl))) (nomark _)))))), ?_⟩
  refine ⟨_, rfl, r, _, rfl, .inr (SqT.of hR), _, _, rfl, rfl, _, rfl, iteT ?_⟩
  exact ⟨_, rfl, r, _, rfl, .inr (SqT.of hR), _, rfl, r, _, 1, _, rfl, rfl, SqT.of hR, rfl, _, _, rfl, rfl, _, _, rfl, rfl, k⟩
abbrev N_u_is_head : List Str := ["row"]
theorem sc_u_is_head : FnScope N_u_is_head ["row"] (defScope s__is_head) := ⟨rfl, rfl, rfl, by decide +kernel, rfl, by decide +kernel, by decide +kernel⟩
def spIsHd : Sp := Sp1 fun x H Q => ∃ r ns, x = .ref r ∧ Rw H r ns ∧ HdOk ns ∧ ∀ H', Same H H' → Q (.bl true) H'
theorem c__is_head (D : All K mg) : C8.Cal P w K mg base 2 "_is_head" spIsHd [] := by
  refine cal D._is_head sc_u_is_head (fun _ _ _ _ _ _ us hl => match us, hl with | [_], _ => rfl) len1 fun f cdv A outer s H vs Q E hr h => ?_
  have sc := sc_u_is_head
  obtain ⟨_, rfl, r, ns, rfl, hR, ⟨sv, n, h, c, rt, bs, rfl, hn, hc, hl⟩, k⟩ := h
  refine ⟨_, (pss_cons (ps_if (PW.pt (pw_or (pt_cmpR op_lt (pe_callB call_len_seq (by rfl) D.x.len PySem.boot_len (pa_cons (pv 0) pa_nil)) (C8.pe_gc rfl D.x.HEAD_SIZE) (nomark _)) (pw_or1 (pt_cmpR op_lt (pe_ix ix_tup (pv 0) pe_int (fun _ _ => rfl)) pe_int (nomark _)))))
    (pss_one (ps_ret pe_bl))
    pss_nil)
    (pss_one (ps_ret (pe_cmpR op_eq (pe_callB call_len_seq (by rfl) D.x.len PySem.boot_len (pa_cons (pv 0) pa_nil)) (pe_op op_add (C8.pe_gc rfl D.x.HEAD_SIZE) (pe_callB call_len_seq (by rfl) D.x.len PySem.boot_len (pa_cons (C8.pe_c (c_back_rounds D) hr (by decide) rfl (pa_cons (pe_ix ix_tup (pv 0) pe_int (fun _ _ => rfl)) pa_nil)) pa_nil))) (nomark _))))), ?_⟩
  refine ⟨_, rfl, r, _, rfl, .inr (SqT.of hR), _, _, rfl, rfl, _, rfl, ite2 (fun q => ?_) (fun _ => ?_)⟩
  · have q := of_decide_eq_true q
    rw [List.length_map] at q
    simp only [hdr, List.length_cons] at q
    omega
  refine ⟨_, rfl, r, _, 4, _, rfl, rfl, SqT.of hR, at_of (j := 4) rfl rfl, _, _, rfl, rfl, _, rfl, ite2 (fun q => ?_) (fun _ => ?_)⟩
  · have q := of_decide_eq_true q
    omega
  refine ⟨_, rfl, r, _, rfl, .inr (SqT.of hR), _, rfl, r, _, 2, _, rfl, rfl, SqT.of hR, at_of (j := 2) rfl rfl, _, rfl, n, rfl, hn, fun p H1 s1 _ hp => ?_⟩
  refine ⟨p, _, rfl, .inl (SqL.of hp), _, _, rfl, rfl, rfl, ?_⟩
  have e : ((hdr sv n h c rt bs).map V.int).length = 6 + ((zs (bks n)).map V.int).length := by
    rw [List.length_map, List.length_map, zs_len, ← hl]
    simp only [hdr, List.length_cons]
    omega
  have e2 : decide (V.int ((((hdr sv n h c rt bs).map V.int).length : Nat) : Int) = V.int (6 + ((((zs (bks n)).map V.int).length : Nat) : Int))) = true := decide_eq_true (congrArg V.int (by rw [e]; omega))
  show Q (.bl (decide _)) H1
  rw [e2]
  exact k H1 s1
abbrev N_is_thing : List Str := ["row", "kind"]
theorem sc_is_thing : FnScope N_is_thing ["row"] (defScope s_is_thing) := ⟨rfl, rfl, rfl, by decide +kernel, rfl, by decide +kernel, by decide +kernel⟩
def spIsTh : Sp := Sp1 fun x H Q => ∃ r ns, x = .ref r ∧ Rw H r ns ∧ TOk ns ∧ ∀ H', Same H H' → Q (.bl true) H'
theorem c_is_thing (D : All K mg) : C8.Cal P w K mg base 3 "is_thing" spIsTh [] := by
  refine cal D.is_thing sc_is_thing (fun _ _ _ _ _ _ us hl => match us, hl with | [_], _ => rfl) len1 fun f cdv A outer s H vs Q E hr h => ?_
  have sc := sc_is_thing
  obtain ⟨_, rfl, r, ns, rfl, hR, ht, k⟩ := h
  refine ⟨_, (pss_cons (ps_if (pt_cmpR op_eq (pe_callB call_len_seq (by rfl) D.x.len PySem.boot_len (pa_cons (pv 0) pa_nil)) pe_int (nomark _))
    (pss_one (ps_ret pe_bl))
    pss_nil)
    (pss_cons (ps_set (i := 1) sc.nd rfl (.inl rfl) (pe_ix ix_tup (pv 0) pe_int (fun _ _ => rfl)))
    (pss_cons (ps_if (pt_cmpR op_eq (pv 1) (C8.pe_gc rfl D.x.BEACON) (nomark _))
    (pss_one (ps_ret (pe_cmpR op_eq (pe_callB call_len_seq (by rfl) D.x.len PySem.boot_len (pa_cons (pv 0) pa_nil)) pe_int (nomark _))))
    pss_nil)
    (pss_cons (ps_if (pt_cmpR op_eq (pv 1) (C8.pe_gc rfl D.x.DOCUMENT) (nomark _))
    (pss_one (ps_ret (C8.pe_c (c__is_document D) hr (by decide) rfl (pa_cons (pv 0) pa_nil))))
    pss_nil)
    (pss_cons (ps_if (pt_cmpR op_eq (pv 1) (C8.pe_gc rfl D.x.HEAD) (nomark _))
    (pss_one (ps_ret (C8.pe_c (c__is_head D) hr (by decide) rfl (pa_cons (pv 0) pa_nil))))
    pss_nil)
    (pss_one (ps_ret (pe_and (pe_cmpR op_eq (pv 1) (C8.pe_gc rfl D.x.RENEWAL) (nomark _)) (pe_one (pe_cmpR op_eq (pe_callB call_len_seq (by rfl) D.x.len PySem.boot_len (pa_cons (pv 0) pa_nil)) pe_int (nomark _))))))))))), ?_⟩
  rcases ht with ⟨h, v, rfl⟩ | ⟨v, rfl⟩ | ht
  · refine ⟨_, rfl, r, _, rfl, .inr (SqT.of hR), rfl, _, rfl, iteF ?_⟩
    refine ⟨_, rfl, r, _, 0, _, rfl, rfl, SqT.of hR, rfl, ?_⟩
    refine ⟨_, rfl, rfl, _, rfl, iteT ?_⟩
    exact ⟨_, rfl, r, _, rfl, .inr (SqT.of hR), rfl, k H (Same.refl H)⟩
  · refine ⟨_, rfl, r, _, rfl, .inr (SqT.of hR), rfl, _, rfl, iteF ?_⟩
    refine ⟨_, rfl, r, _, 0, _, rfl, rfl, SqT.of hR, rfl, ?_⟩
    refine ⟨_, rfl, rfl, _, rfl, iteF ?_⟩
    refine ⟨_, rfl, rfl, _, rfl, iteT ?_⟩
    exact ⟨_, rfl, _, rfl, r, v, rfl, hR, k H (Same.refl H)⟩
  · have hd := ht
    obtain ⟨sv, n, h, c, rt, bs, rfl, hn, hc, hl⟩ := ht
    refine ⟨_, rfl, r, _, rfl, .inr (SqT.of hR), rfl, _, rfl, ite2 (fun q => ?_) (fun _ => ?_)⟩
    · have q := of_decide_eq_true q
      have q := V.int.inj q
      rw [List.length_map] at q
      simp only [hdr, List.length_cons] at q
      omega
    refine ⟨_, rfl, r, _, 0, _, rfl, rfl, SqT.of hR, at_of (j := 0) rfl rfl, ?_⟩
    refine ⟨_, rfl, rfl, _, rfl, iteF ?_⟩
    refine ⟨_, rfl, rfl, _, rfl, iteF ?_⟩
    refine ⟨_, rfl, rfl, _, rfl, iteT ?_⟩
    exact ⟨_, rfl, _, rfl, r, _, rfl, hR, hd, k⟩
abbrev N_is_head : List Str := ["row"]
theorem sc_is_head : FnScope N_is_head ["row"] (defScope s_is_head) := ⟨rfl, rfl, rfl, by decide +kernel, rfl, by decide +kernel, by decide +kernel⟩
theorem c_is_head (D : All K mg) : C8.Cal P w K mg base 4 "is_head" spIsHd [] := by
  refine cal D.is_head sc_is_head (fun _ _ _ _ _ _ us hl => match us, hl with | [_], _ => rfl) len1 fun f cdv A outer s H vs Q E hr h => ?_
  have sc := sc_is_head
  obtain ⟨_, rfl, r, ns, rfl, hR, hd, k⟩ := h
  refine ⟨_, (pss_one (ps_ret (pe_and (C8.pe_c (c_is_thing D) hr (by decide) rfl (pa_cons (pv 0) pa_nil)) (pe_one (pe_cmpR op_eq (pe_ix ix_tup (pv 0) pe_int (fun _ _ => rfl)) (C8.pe_gc rfl D.x.HEAD) (nomark _)))))), ?_⟩
  refine ⟨_, rfl, _, rfl, r, ns, rfl, hR, .inr (.inr hd), fun H1 s1 => ⟨_, rfl, iteT ?_⟩⟩
  obtain ⟨sv, n, h, c, rt, bs, rfl, hn, hc, hl⟩ := hd
  exact ⟨_, rfl, r, _, 0, _, rfl, rfl, SqT.of (s1 _ _ hR), at_of (j := 0) rfl rfl, rfl, k H1 s1⟩
/-! ### head -/
/-- a new tuple of these ints -/
def NewT (H : Hp) (ns : List Int) (Q : VK) : Prop := ∀ p H', Same H H' → H p = none → Rw H' p ns → Q (.ref p) H'
abbrev N_head : List Str := ["service", "number", "hour", "count", "root", "backs"]
theorem sc_head : FnScope N_head ["service", "number", "hour", "count", "root", "backs"] (defScope s_head) := ⟨rfl, rfl, rfl, by decide +kernel, rfl, by decide +kernel, by decide +kernel⟩
def spHead : Sp := Sp6 fun x1 x2 x3 x4 x5 x6 H Q => ∃ (s : Int) (n : Nat) (h c rt : Int) (b : Addr) (bs : List Int), x1 = .int s ∧ x2 = .int (n : Int) ∧ x3 = .int h ∧ x4 = .int c ∧ x5 = .int rt ∧ x6 = .ref b ∧ Li H b bs ∧ bs.length ≤ 10 ∧ NewT H (hdr s n h c rt bs) Q
theorem c_head_things (D : All K mg) : C8.Cal P w K mg base 1 "head_things" spHead [] := by
  refine cal D.head sc_head (fun _ _ _ _ _ _ us hl => match us, hl with | [_, _, _, _, _, _], _ => rfl) len6 fun f cdv A outer s H vs Q E hr h => ?_
  have sc := sc_head
  obtain ⟨_, _, _, _, _, _, rfl, sv, n, h, c, rt, b, bs, rfl, rfl, rfl, rfl, rfl, rfl, hb, hl, k⟩ := h
  refine ⟨_, (pss_one (ps_ret (pe_op op_catT (pe_tup (pa_cons (C8.pe_gc rfl D.x.HEAD) (pa_cons (pv 0) (pa_cons (pv 1) (pa_cons (pv 2) (pa_cons (pv 3) (pa_cons (pv 4) pa_nil))))))) (pe_callTy call_tuple_of (by rfl) D.x.tuple (by decide +kernel) (pa_cons (pv 5) pa_nil))))), ?_⟩
  refine ⟨_, rfl, _, rfl, _, rfl, _, rfl, _, rfl, small (by show 6 ≤ 100000; decide), fun p hp => ?_⟩
  have hb1 : upd H p (.tup [V.int 4, V.int sv, V.int n, V.int h, V.int c, V.int rt]) b = some (.lst (bs.map V.int)) := (upd_ne (ne_of_none hb hp)).trans hb
  refine ⟨_, rfl, b, _, rfl, .inl ⟨SqL.of hb1, fun q hq => ?_⟩⟩
  have hpq : p ≠ q := fun e => by
    rw [e, upd_same] at hq
    cases hq
  refine ⟨p, q, _, _, rfl, rfl, SqT.of ((upd_ne hpq).trans upd_same), SqT.of upd_same, by simp, small ?_, fun e => ?_, fun _ t ht => ?_⟩
  · rw [List.length_map]
    simp only [List.length_cons, List.length_nil]
    omega
  · have e : bs = [] := List.map_eq_nil_iff.mp e
    subst e
    exact k p _ ((Same.new hp).trans (Same.new hq)) hp ((upd_ne hpq).trans upd_same)
  · have hq0 : H q = none := Same.free (Same.new hp) hq
    have ht0 : H t = none := Same.free ((Same.new hp).trans (Same.new hq)) ht
    exact k t _ (((Same.new hp).trans (Same.new hq)).trans (Same.new ht)) ht0 upd_same
end SR
set_option maxHeartbeats 4000000
namespace SR
open PySem PySem.Spec PyProof.Rows L2
variable {P : Program} {w : World} {K : PySem.W.Frag} {mg : Str → Option Value} {base : Heap}
/-! ### root_of -/
theorem cut_to {es : List Int} {k : Nat} (h : k ≤ es.length) : cutV (es.map V.int) none (some (k : Int)) = (es.take k).map V.int := by
  unfold cutV
  rw [HT.sIx_none, HT.sIx_nat, List.length_map, List.drop_zero, Nat.sub_zero, Nat.min_eq_left h, List.map_take]
theorem cut_from {es : List Int} {k : Nat} (h : k ≤ es.length) : cutV (es.map V.int) (some (k : Int)) none = (es.drop k).map V.int := by
  unfold cutV
  rw [HT.sIx_none, HT.sIx_nat, List.length_map, Nat.min_eq_left h, ← List.map_drop]
  exact List.take_of_length_le (by rw [List.length_map, List.length_drop]; exact Nat.le_refl _)
abbrev N_root_of : List Str := ["mixing", "entries", "k"]
theorem sc_root_of : FnScope N_root_of ["mixing", "entries"] (defScope s_root_of) := ⟨rfl, rfl, rfl, by decide +kernel, rfl, by decide +kernel, by decide +kernel⟩
def spRoot (K : PySem.W.Frag) (n : Nat) : Sp := Sp2 fun x y H Q => ∃ mx l m es, x = .ref mx ∧ y = .ref l ∧ MxAt K H mx m ∧ MOk m ∧ Li H l es ∧ 1 ≤ es.length ∧ es.length ≤ n ∧ es.length ≤ 4 ∧ ∀ H', Same H H' → Q (.int (root m es)) H'
theorem c_root (D : All K mg) : ∀ n : Nat, C8.Cal P w K mg base (n + 2) "root_of" (spRoot K n) []
  | 0 => by
    refine cal D.root_of sc_root_of (fun _ _ _ _ _ _ us hl => match us, hl with | [_, _], _ => rfl) len2 fun f cdv A outer s H vs Q E hr h => ?_
    obtain ⟨_, _, rfl, mx, l, m, es, rfl, rfl, hM, mo, hL, h1, h0, _⟩ := h
    omega
  | n + 1 => by
    have ih := c_root D n
    refine cal D.root_of sc_root_of (fun _ _ _ _ _ _ us hl => match us, hl with | [_, _], _ => rfl) len2 fun f cdv A outer s H vs Q E hr h => ?_
    have sc := sc_root_of
    obtain ⟨_, _, rfl, mx, l, m, es, rfl, rfl, hM, mo, hL, h1, hn, h4, k⟩ := h
    refine ⟨_, (pss_cons (ps_if (pt_cmpR op_eq (pe_callB call_len_seq (by rfl) D.x.len PySem.boot_len (pa_cons (pv 1) pa_nil)) pe_int (nomark _))
    (pss_one (ps_ret (pe_ix ix_list (pv 1) pe_int (fun _ _ => rfl))))
    pss_nil)
    (pss_cons (ps_set (i := 2) sc.nd rfl (.inl rfl) (C8.pe_c (c_half D) hr (by omega) rfl (pa_cons (pe_callB call_len_seq (by rfl) D.x.len PySem.boot_len (pa_cons (pv 1) pa_nil)) pa_nil)))
    (pss_one (ps_ret (C8.pe_c (c_digest D) hr (by omega) rfl (pa_cons (pv 0) (pa_cons (C8.pe_c (c_node D) hr (by omega) rfl (pa_cons (C8.pe_c ih hr (Nat.le_refl _) rfl (pa_cons (pv 0) (pa_cons (pe_slice sl_list (pv 1) po_none (po_some (pv 2))) pa_nil))) (pa_cons (C8.pe_c ih hr (Nat.le_refl _) rfl (pa_cons (pv 0) (pa_cons (pe_slice sl_list (pv 1) (po_some (pv 2)) po_none) pa_nil))) pa_nil))) pa_nil))))))), ?_⟩
    refine ⟨_, rfl, l, _, rfl, .inl (SqL.of hL), rfl, _, rfl, ite2 (fun hc => ?_) (fun hc => ?_)⟩
    · have hc := V.int.inj (of_decide_eq_true hc)
      rw [List.length_map] at hc
      have e := root_one m es (by omega)
      exact ⟨_, rfl, l, _, 0, _, rfl, rfl, SqL.of hL, at_of (j := 0) rfl (map_at e), k H (Same.refl H)⟩
    · have hc : ¬ es.length = 1 := fun q => hc (decide_eq_true (congrArg V.int (by rw [List.length_map, q]; rfl)))
      have h2 : 2 ≤ es.length := by omega
      have lo : 1 ≤ hf es.length := hf_lo
      have hi := hf_hi h2
      refine ⟨_, rfl, l, _, rfl, .inl (SqL.of hL), _, rfl, es.length, by rw [List.length_map], h2, h4, ?_⟩
      refine ⟨_, rfl, _, rfl, _, rfl, _, rfl, _, rfl, l, _, rfl, SqL.of hL, fun p hp => ?_⟩
      rw [cut_to (Nat.le_of_lt hi)]
      refine ⟨_, _, rfl, mx, p, m, es.take (hf es.length), rfl, rfl, hM.mono (Same.new hp), mo, upd_same, by rw [List.length_take]; omega, by rw [List.length_take]; omega, by rw [List.length_take]; omega, fun H1 s1 => ?_⟩
      have t1 : Same H H1 := (Same.new hp).trans s1
      refine ⟨_, rfl, _, rfl, _, rfl, _, rfl, l, _, rfl, SqL.of (t1 _ _ hL), fun q hq => ?_⟩
      rw [cut_from (Nat.le_of_lt hi)]
      refine ⟨_, _, rfl, mx, q, m, es.drop (hf es.length), rfl, rfl, hM.mono (t1.trans (Same.new hq)), mo, upd_same, by rw [List.length_drop]; omega, by rw [List.length_drop]; omega, by rw [List.length_drop]; omega, fun H2 s2 => ?_⟩
      have t2 : Same H H2 := (t1.trans (Same.new hq)).trans s2
      refine ⟨_, _, rfl, _, _, rfl, rfl, fun t ht => ?_⟩
      refine ⟨_, _, rfl, mx, t, m, [3, root m (es.take (hf es.length)), root m (es.drop (hf es.length))], rfl, rfl, hM.mono (t2.trans (Same.new ht)), mo, upd_same, ?_⟩
      have e := root_step m es h2 h4
      show Q (.int (nd m _ _)) _
      rw [← e]
      exact k _ (t2.trans (Same.new ht))
theorem c_root_of (D : All K mg) : C8.Cal P w K mg base 6 "root_of" (spRoot K 4) [] := c_root D 4
/-! ### turns -/
abbrev N_turns : List Str := ["count", "index", "out", "k"]
theorem sc_turns : FnScope N_turns ["count", "index"] (defScope s_turns) := ⟨rfl, rfl, rfl, by decide +kernel, rfl, by decide +kernel, by decide +kernel⟩
def spTurns : Sp := Sp2 fun x y H Q => ∃ n i : Nat, x = .int (n : Int) ∧ y = .int (i : Int) ∧ n ≤ 4 ∧ i < n ∧ ∀ p H', Same H H' → H p = none → H' p = some (.lst ((trn n i).map V.bl)) → Q (.ref p) H'
theorem bl_snoc (l : List Bool) (x : Bool) : (l ++ [x]).map V.bl = l.map V.bl ++ [V.bl x] := by
  rw [List.map_append]
  rfl
theorem c_turns (D : All K mg) : C8.Cal P w K mg base 2 "turns" spTurns [] := by
  refine cal D.turns sc_turns (fun _ _ _ _ _ _ us hl => match us, hl with | [_, _], _ => rfl) len2 fun f cdv A outer s H vs Q E hr h => ?_
  have sc := sc_turns
  obtain ⟨_, _, rfl, n, i, rfl, rfl, h4, hin, k⟩ := h
  refine ⟨_, (pss_cons (ps_set (i := 2) sc.nd rfl (.inl rfl) (pe_lst pa_nil))
    (pss_cons (ps_while PassesOwn.never (pt_cmpR op_gt (pv 0) pe_int (nomark _))
    (pss_cons (ps_set (i := 3) sc.nd rfl (.inl rfl) (C8.pe_c (c_half D) hr (by decide) rfl (pa_cons (pv 0) pa_nil)))
      (pss_cons (ps_expr (pe_bm PySem.F.plainAttrs_list PySem.F.slot_list_append PySem.F.type_list_append mt_append (pv 2) (pa_cons (pe_cmpR op_ge (pv 1) (pv 3) (nomark _)) pa_nil)))
      (pss_one (ps_if (pt_cmpR op_ge (pv 1) (pv 3) (nomark _))
      (pss_one (ps_par (i := 0) (j := 1) (by rfl) sc.nd rfl rfl (by decide) rfl rfl (pa_cons (pe_op op_sub (pv 0) (pv 3)) (pa_cons (pe_op op_sub (pv 1) (pv 3)) pa_nil)) (by rfl)))
      (pss_one (ps_set (i := 0) sc.nd rfl (.inl rfl) (pv 3))))))))
    (pss_one (ps_ret (pe_revL (pv 2)))))), ?_⟩
  refine ⟨Nat.zero_le _, fun p hp => ?_⟩
  refine ⟨fun m σ H' => ∃ (c j : Nat) (acc : List Bool) (v : Option V), σ = [some (.int (c : Int)), some (.int (j : Int)), some (.ref p), v] ∧ Same H H' ∧ H' p = some (.lst (acc.map V.bl)) ∧ trn n i = trn c j ++ acc.reverse ∧ c ≤ 4 ∧ j < c ∧ acc.length + c ≤ 4 ∧ c = m,
    ⟨_, n, i, [], none, rfl, Same.new hp, upd_same, by simp, h4, hin, by simpa using h4, rfl⟩, ?_⟩
  rintro m σ H' ⟨c, j, acc, v, rfl, s1, hL, ht, hc4, hjc, hac, rfl⟩
  refine ⟨_, rfl, _, _, rfl, rfl, _, rfl, ite2 (fun hc => ?_) (fun hc => ?_)⟩
  · have hc : (1 : Int) < (c : Int) := of_decide_eq_true hc
    have h2 : 2 ≤ c := by omega
    have lo : 1 ≤ hf c := hf_lo
    have hi := hf_hi h2
    refine ⟨_, fun σ' H1 q => q, ?_⟩
    refine ⟨_, rfl, _, rfl, c, rfl, h2, hc4, ?_⟩
    refine ⟨_, rfl, .inl ⟨rfl, _, SqL.of hL⟩, _, rfl, _, rfl, _, _, rfl, rfl, p, _, _, rfl, rfl, hL, small1 ?_, ?_⟩
    · rw [List.length_map]
      omega
    refine ⟨_, rfl, _, rfl, _, _, rfl, rfl, _, rfl, ite2 (fun hg => ?_) (fun hg => ?_)⟩
    · have hg' : ((hf c : Nat) : Int) ≤ (j : Int) := of_decide_eq_true hg
      have hg2 : hf c ≤ j := by omega
      refine ⟨_, rfl, _, rfl, _, _, rfl, rfl, _, rfl, _, rfl, _, _, rfl, rfl, _, _, rfl, c - hf c, by omega, c - hf c, j - hf c, acc ++ [true], some (.int (hf c : Int)), ?_, Same.mut s1 hp, ?_, ?_, by omega, by omega, ?_, rfl⟩
      · rw [show ((c - hf c : Nat) : Int) = (c : Int) - ((hf c : Nat) : Int) by omega, show ((j - hf c : Nat) : Int) = (j : Int) - ((hf c : Nat) : Int) by omega]
        rfl
      · rw [upd_same, bl_snoc]
        dsimp only
        rw [hg]
      · rw [ht, trn_hi c j h2 hc4 hg2 hjc, List.reverse_append, List.append_assoc]
        rfl
      · rw [List.length_append]
        simp only [List.length_cons, List.length_nil]
        omega
    · have hg2 : j < hf c := by
        have : ¬ ((hf c : Nat) : Int) ≤ (j : Int) := fun q => hg (decide_eq_true q)
        omega
      refine ⟨_, rfl, hf c, by omega, hf c, j, acc ++ [false], some (.int (hf c : Int)), rfl, Same.mut s1 hp, ?_, ?_, by omega, hg2, ?_, rfl⟩
      · rw [upd_same, bl_snoc]
        dsimp only
        rw [Bool.eq_false_iff.mpr hg]
      · rw [ht, trn_lo c j h2 hc4 hg2, List.reverse_append, List.append_assoc]
        rfl
      · rw [List.length_append]
        simp only [List.length_cons, List.length_nil]
        omega
  · have hc : ¬ (1 : Int) < (c : Int) := fun q => hc (decide_eq_true q)
    refine ⟨_, rfl, p, _, rfl, SqL.of hL, fun q hq => k q _ (s1.trans (Same.new hq)) (Same.free s1 hq) ?_⟩
    rw [upd_same, ht, trn_one c j (by omega), List.nil_append, List.map_reverse]
/-! ### way_of -/
abbrev N_way_of : List Str := ["mixing", "entries", "index", "way", "rest", "k"]
theorem sc_way_of : FnScope N_way_of ["mixing", "entries", "index"] (defScope s_way_of) := ⟨rfl, rfl, rfl, by decide +kernel, rfl, by decide +kernel, by decide +kernel⟩
def spWay (K : PySem.W.Frag) : Sp := Sp3 fun x y z H Q => ∃ mx l m es, ∃ i : Nat, x = .ref mx ∧ y = .ref l ∧ z = .int (i : Int) ∧ MxAt K H mx m ∧ MOk m ∧ Li H l es ∧ es.length ≤ 4 ∧ i < es.length ∧ NewT H (way m es i) Q
theorem c_way_of (D : All K mg) : C8.Cal P w K mg base 7 "way_of" (spWay K) [] := by
  refine cal D.way_of sc_way_of (fun _ _ _ _ _ _ us hl => match us, hl with | [_, _, _], _ => rfl) len3 fun f cdv A outer s H vs Q E hr h => ?_
  have sc := sc_way_of
  obtain ⟨_, _, _, rfl, mx, l, m, es, i, rfl, rfl, rfl, hM, mo, hL, h4, hi, k⟩ := h
  refine ⟨_, (pss_cons (ps_set (i := 3) sc.nd rfl (.inl rfl) (pe_lst pa_nil))
    (pss_cons (ps_set (i := 4) sc.nd rfl (.inl rfl) (pv 1))
    (pss_cons (ps_while PassesOwn.never (pt_cmpR op_gt (pe_callB call_len_seq (by rfl) D.x.len PySem.boot_len (pa_cons (pv 4) pa_nil)) pe_int (nomark _))
    (pss_cons (ps_set (i := 5) sc.nd rfl (.inl rfl) (C8.pe_c (c_half D) hr (by decide) rfl (pa_cons (pe_callB call_len_seq (by rfl) D.x.len PySem.boot_len (pa_cons (pv 4) pa_nil)) pa_nil)))
      (pss_one (ps_if (pt_cmpR op_ge (pv 2) (pv 5) (nomark _))
      (pss_cons (ps_expr (pe_bm PySem.F.plainAttrs_list PySem.F.slot_list_append PySem.F.type_list_append mt_append (pv 3) (pa_cons (C8.pe_c (c_root_of D) hr (by decide) rfl (pa_cons (pv 0) (pa_cons (pe_slice sl_list (pv 4) po_none (po_some (pv 5))) pa_nil))) pa_nil)))
        (pss_one (ps_par (i := 4) (j := 2) (by rfl) sc.nd rfl rfl (by decide) rfl rfl (pa_cons (pe_slice sl_list (pv 4) (po_some (pv 5)) po_none) (pa_cons (pe_op op_sub (pv 2) (pv 5)) pa_nil)) (by rfl))))
      (pss_cons (ps_expr (pe_bm PySem.F.plainAttrs_list PySem.F.slot_list_append PySem.F.type_list_append mt_append (pv 3) (pa_cons (C8.pe_c (c_root_of D) hr (by decide) rfl (pa_cons (pv 0) (pa_cons (pe_slice sl_list (pv 4) (po_some (pv 5)) po_none) pa_nil))) pa_nil)))
        (pss_one (ps_set (i := 4) sc.nd rfl (.inl rfl) (pe_slice sl_list (pv 4) po_none (po_some (pv 5))))))))))
    (pss_one (ps_ret (pe_callTy call_tuple_of (by rfl) D.x.tuple (by decide +kernel) (pa_cons (pe_revL (pv 3)) pa_nil))))))), ?_⟩
  refine ⟨Nat.zero_le _, fun p hp => ?_⟩
  refine ⟨_, rfl, ?_⟩
  refine ⟨fun c σ H' => ∃ (t : Addr) (rs acc : List Int) (j : Nat) (v : Option V), σ = [some (.ref mx), some (.ref l), some (.int (j : Int)), some (.ref p), some (.ref t), v] ∧ Same H H' ∧ Li H' p acc ∧ Li H' t rs ∧ t ≠ p ∧ way m es i = way m rs j ++ acc.reverse ∧ rs.length ≤ 4 ∧ j < rs.length ∧ acc.length + rs.length ≤ 4 ∧ rs.length = c,
    ⟨_, l, es, [], i, none, rfl, Same.new hp, upd_same, (upd_ne (ne_of_none hL hp)).trans hL, ne_of_none hL hp, by simp, h4, hi, by simpa using h4, rfl⟩, ?_⟩
  rintro c σ H' ⟨t, rs, acc, j, v, rfl, s1, hP, hT, ntp, hw, hr4, hj, hac, rfl⟩
  refine ⟨_, rfl, t, _, rfl, .inl (SqL.of hT), _, _, rfl, rfl, _, rfl, ite2 (fun hc => ?_) (fun hc => ?_)⟩
  · have hc := of_decide_eq_true hc
    rw [List.length_map] at hc
    have h2 : 2 ≤ rs.length := by omega
    have lo : 1 ≤ hf rs.length := hf_lo
    have hi := hf_hi h2
    refine ⟨_, fun σ' H1 q => q, ?_⟩
    refine ⟨_, rfl, t, _, rfl, .inl (SqL.of hT), _, rfl, rs.length, by rw [List.length_map], h2, hr4, ?_⟩
    refine ⟨_, rfl, _, rfl, _, _, rfl, rfl, _, rfl, ite2 (fun hg => ?_) (fun hg => ?_)⟩
    · have hg : ((hf rs.length : Nat) : Int) ≤ (j : Int) := of_decide_eq_true hg
      have hg2 : hf rs.length ≤ j := by omega
      refine ⟨_, rfl, .inl ⟨rfl, _, SqL.of hP⟩, _, rfl, _, rfl, _, rfl, _, rfl, t, _, rfl, SqL.of hT, fun q hq => ?_⟩
      rw [cut_to (Nat.le_of_lt hi)]
      refine ⟨_, _, rfl, mx, q, m, rs.take (hf rs.length), rfl, rfl, hM.mono (s1.trans (Same.new hq)), mo, upd_same, by rw [List.length_take]; omega, by rw [List.length_take]; omega, by rw [List.length_take]; omega, fun H1 s2 => ?_⟩
      have t1 : Same H' H1 := (Same.new hq).trans s2
      refine ⟨p, _, _, rfl, rfl, t1 _ _ hP, small1 (by rw [List.length_map]; omega), ?_⟩
      have hT1 : upd H1 p (.lst (acc.map V.int ++ [V.int (root m (rs.take (hf rs.length)))])) t = some (.lst (rs.map V.int)) := (upd_ne ntp).trans (t1 _ _ hT)
      refine ⟨_, rfl, _, rfl, _, rfl, t, _, rfl, SqL.of hT1, fun u hu => ?_⟩
      rw [cut_from (Nat.le_of_lt hi)]
      have nup : u ≠ p := fun e => by
        rw [e, upd_same] at hu
        cases hu
      have hu1 : H1 u = none := by
        rw [upd_ne nup] at hu
        exact hu
      refine ⟨_, rfl, _, rfl, _, _, rfl, rfl, _, _, rfl, (rs.drop (hf rs.length)).length, by rw [List.length_drop]; omega, u, rs.drop (hf rs.length), acc ++ [root m (rs.take (hf rs.length))], j - hf rs.length, some (.int ((hf rs.length : Nat) : Int)), ?_, ?_, ?_, upd_same, nup, ?_, ?_, ?_, ?_, rfl⟩
      · rw [show ((j - hf rs.length : Nat) : Int) = (j : Int) - ((hf rs.length : Nat) : Int) by omega]
        rfl
      · exact Same.mut (Same.mut (s1.trans t1) hp) (Same.free (s1.trans t1) hu1)
      · show upd _ _ _ _ = some (HO.lst _)
        rw [upd_ne (fun e => nup e.symm), upd_same, int_snoc]
      · rw [hw, way_hi m rs j h2 hr4 hg2 hj, List.reverse_append, List.append_assoc]
        rfl
      · rw [List.length_drop]
        omega
      · rw [List.length_drop]
        omega
      · rw [List.length_drop, List.length_append]
        simp only [List.length_cons, List.length_nil]
        omega
    · have hg2 : j < hf rs.length := by
        have : ¬ ((hf rs.length : Nat) : Int) ≤ (j : Int) := fun q => hg (decide_eq_true q)
        omega
      refine ⟨_, rfl, .inl ⟨rfl, _, SqL.of hP⟩, _, rfl, _, rfl, _, rfl, _, rfl, t, _, rfl, SqL.of hT, fun q hq => ?_⟩
      rw [cut_from (Nat.le_of_lt hi)]
      refine ⟨_, _, rfl, mx, q, m, rs.drop (hf rs.length), rfl, rfl, hM.mono (s1.trans (Same.new hq)), mo, upd_same, by rw [List.length_drop]; omega, by rw [List.length_drop]; omega, by rw [List.length_drop]; omega, fun H1 s2 => ?_⟩
      have t1 : Same H' H1 := (Same.new hq).trans s2
      refine ⟨p, _, _, rfl, rfl, t1 _ _ hP, small1 (by rw [List.length_map]; omega), ?_⟩
      have hT1 : upd H1 p (.lst (acc.map V.int ++ [V.int (root m (rs.drop (hf rs.length)))])) t = some (.lst (rs.map V.int)) := (upd_ne ntp).trans (t1 _ _ hT)
      refine ⟨_, rfl, _, rfl, _, rfl, t, _, rfl, SqL.of hT1, fun u hu => ?_⟩
      rw [cut_to (Nat.le_of_lt hi)]
      have nup : u ≠ p := fun e => by
        rw [e, upd_same] at hu
        cases hu
      have hu1 : H1 u = none := by
        rw [upd_ne nup] at hu
        exact hu
      refine ⟨(rs.take (hf rs.length)).length, by rw [List.length_take]; omega, u, rs.take (hf rs.length), acc ++ [root m (rs.drop (hf rs.length))], j, some (.int ((hf rs.length : Nat) : Int)), rfl, ?_, ?_, upd_same, nup, ?_, ?_, ?_, ?_, rfl⟩
      · exact Same.mut (Same.mut (s1.trans t1) hp) (Same.free (s1.trans t1) hu1)
      · show upd _ _ _ _ = some (HO.lst _)
        rw [upd_ne (fun e => nup e.symm), upd_same, int_snoc]
      · rw [hw, way_lo m rs j h2 hr4 hg2, List.reverse_append, List.append_assoc]
        rfl
      · rw [List.length_take]
        omega
      · rw [List.length_take]
        omega
      · rw [List.length_take, List.length_append]
        simp only [List.length_cons, List.length_nil]
        omega
  · have hc : rs.length ≤ 1 := by
      have z : ¬ (1 : Int) < (((rs.map V.int).length : Nat) : Int) := fun q => hc (decide_eq_true q)
      rw [List.length_map] at z
      omega
    refine ⟨_, rfl, p, _, rfl, SqL.of hP, fun q hq => ⟨q, _, rfl, .inl ⟨SqL.of upd_same, fun u hu => ?_⟩⟩⟩
    refine k u _ ((s1.trans (Same.new hq)).trans (Same.new hu)) (Same.free (s1.trans (Same.new hq)) hu) ?_
    show upd _ _ _ _ = some (HO.tup _)
    rw [upd_same, hw, way_one m rs j hc, List.nil_append, List.map_reverse]
end SR
set_option maxHeartbeats 4000000
namespace SR
open PySem PySem.Spec PyProof.Rows L2
/-! ### zip of a tuple and a list of one length -/
def ItM (K : PySem.W.Frag) (a b : Addr) : It where
  go i H := ∃ (us vs : List V) (x y : V), SqT K H a us ∧ SqL K H b vs ∧ us[i]? = some x ∧ vs[i]? = some y
  yld i H v H' := ∃ T x y, v = .ref T ∧ H T = none ∧ H' = upd H T (.tup [x, y]) ∧ (∀ us, SqT K H a us → us[i]? = some x) ∧ ∀ vs, SqL K H b vs → vs[i]? = some y
  stop i H := ∃ us vs : List V, SqT K H a us ∧ SqL K H b vs ∧ us.length = i ∧ vs.length = i
theorem sep_of {z TI TO i1 i2 a b : Addr} (D : ZipApart z TI TO i1 i2 a b) : ZipSep2 z TI TO i1 i2 [i1, a] [i2, b] where
  TIz := D.TIz
  TOz := D.TOz
  TITO := D.TITO
  TIi1 := D.TIi1
  TIi2 := D.TIi2
  mem1 := List.mem_cons_self
  mem2 := List.mem_cons_self
  zf1 := by simp [D.i1z.symm, D.l1z.symm]
  zf2 := by simp [D.i2z.symm, D.l2z.symm]
  Tf1 := by simp [D.TOi1, D.l1TO.symm]
  Tf2 := by simp [D.TOi2, D.l2TO.symm]
  sep1_2 := by simp [D.i12, D.l2i1.symm]
  sep2_1 := by simp [D.i12.symm, D.l1i2.symm]
theorem turnM {P : Program} {w : World} {K : PySem.W.Frag} {elts : List Expr} {kk : Nat} {tpos : Pos} {a b z TI TO i1 i2 : Addr} (D : ZipApart z TI TO i1 i2 a b) :
    Turn P w K (.Tuple elts kk tpos) (ItM K a b) [z, TI, TO, i1, i2] z
      (fun i h => IsZip h z TI TO .none ∧ IsPair h TI (.ref i1) (.ref i2) ∧ (∃ x y, IsPair h TO x y) ∧ h.IsTupleIter i1 a i ∧ h.IsListIter i2 b i) where
  mem := List.mem_cons_self
  obj i h st c hc := by
    obtain ⟨gz, gI, ⟨x, y, gO⟩, ⟨o1, e1, _, d1⟩, ⟨o2, e2, _, d2⟩⟩ := st
    simp only [List.mem_cons, List.not_mem_nil, or_false] at hc
    rcases hc with rfl | rfl | rfl | rfl | rfl
    · exact ⟨_, gz, fun _ q => by cases q⟩
    · exact ⟨_, gI, fun _ q => by cases q⟩
    · exact ⟨_, gO, fun _ q => by cases q⟩
    · exact ⟨o1, e1, fun _ q => by rw [d1] at q; cases q⟩
    · exact ⟨o2, e2, fun _ q => by rw [d2] at q; cases q⟩
  keep i h h' st k := by
    obtain ⟨gz, gI, ⟨x, y, gO⟩, t1, t2⟩ := st
    have kk : ∀ c, c = z ∨ c = TI ∨ c = TO ∨ c = i1 ∨ c = i2 → ∀ o, h.get? c = some o → h'.get? c = some o := fun c m o e => k c (by simpa using m) o e
    exact ⟨kk z (by simp) _ gz, kk TI (by simp) _ gI, ⟨x, y, kk TO (by simp) _ gO⟩, t1.at (kk i1 (by simp)), t2.at (kk i2 (by simp))⟩
  item := by
    intro X hP hw hK hc i pins s σ H E I hfp st go
    subst hP; subst hw; subst hK
    obtain ⟨gz, gI, ⟨x0, y0, gO⟩, t1, t2⟩ := st
    obtain ⟨us, vs, x, y, qa, qb, hx, hy⟩ := go
    obtain ⟨ws, ra, pa, _⟩ := I.tuple qa
    obtain ⟨xs, rb, pb, _⟩ := I.list qb
    have zl : z < s.heap.objs.size := Heap.lt_size gz
    have hd : X.A.in1.handled = none := I.ok.hd hc
    have l1 : i < ws.toArray.size := by
      have := ra.length
      have := (List.getElem?_eq_some_iff.mp hx).1
      simp
      omega
    have l2 : i < xs.toArray.size := by
      have := rb.length
      have := (List.getElem?_eq_some_iff.mp hy).1
      simp
      omega
    refine wpAny_pyNext_zipD2_item (sep_of D) (Draws.tuple hd i1 a D.l1i1 ws.toArray) (Draws.list hd i2 b D.l2i2 xs.toArray) gz gI gO ⟨t1, pa⟩ ⟨t2, pb.isList⟩ l1 l2
      fun x1 x2 h' tk w1 w2 z' TO' st1 st2 hT hsz hk => ?_
    obtain ⟨n1, hn1, ru1⟩ := ra.get hx
    obtain ⟨n2, hn2, ru2⟩ := rb.get hy
    have ex1 : x1 = n1 := by
      have q : ws.toArray[i]? = some x1 := w1
      rw [List.getElem?_toArray, hn1] at q
      exact (Option.some.inj q).symm
    have ex2 : x2 = n2 := by
      have q : xs.toArray[i]? = some x2 := w2
      rw [List.getElem?_toArray, hn2] at q
      exact (Option.some.inj q).symm
    subst ex1; subst ex2
    refine ⟨_, rfl, wpAny_letOwnedTupleGo_zip (s := { s with heap := h', toks := tk }) z' fun h2 z2 sb => ?_⟩
    have nz : s.heap.objs.size ≠ z := Nat.ne_of_gt zl
    have hT2 : h2.get? s.heap.objs.size = some { cls := .type "tuple", data := .seq #[x1, x2] } := (sb.2 _ nz).trans hT
    have new : ObjOk X.prog X.w (upd H s.heap.objs.size (.tup [x, y])) h2 s.heap.objs.size (.tup [x, y]) :=
      ⟨small (by show 2 ≤ 100000; decide), [x1, x2], .cons ru1 (.cons ru2 .nil), _, hT2, rfl, _, rfl⟩
    have step : ∀ c o, c ∉ [z, TI, TO, i1, i2] → s.heap.get? c = some o → h2.get? c = some o := fun c o m e => by
      simp only [List.mem_cons, List.not_mem_nil, or_false, not_or] at m
      exact (sb.2 c m.1).trans (hk c o m.1 m.2.2.1 m.2.2.2.1 m.2.2.2.2 e)
    have I1 : Inv X pins σ (upd H s.heap.objs.size (.tup [x, y])) { s with heap := h2, toks := tk } := I.turnedNew (t' := tk) (ch := [z, TI, TO, i1, i2]) (fun c o m e => step c o m e) hfp (Nat.le_refl _) new
    have fr : H s.heap.objs.size = none := I.hok.fresh (Nat.le_refl _)
    refine ⟨.ref s.heap.objs.size, _, I1, rfl, ⟨_, x, y, rfl, fr, rfl, fun l hl => by rw [I.tuple_inj hl qa]; exact hx, fun l hl => by rw [I.list_inj hl qb]; exact hy⟩, ⟨z2, ?_, ⟨x1, x2, ?_⟩, ?_, ?_⟩, fun c m => ?_⟩
    · exact (sb.2 _ D.TIz).trans (hk _ _ D.TIz D.TITO D.TIi1 D.TIi2 gI)
    · exact (sb.2 _ D.TOz).trans TO'
    · exact st1.1.at fun o e => (sb.2 _ D.i1z).trans e
    · exact st2.1.at fun o e => (sb.2 _ D.i2z).trans e
    · have lt : c < s.heap.objs.size := by
        simp only [List.mem_cons, List.not_mem_nil, or_false] at m
        rcases m with rfl | rfl | rfl | rfl | rfl
        · exact zl
        · exact Heap.lt_size gI
        · exact Heap.lt_size gO
        · obtain ⟨_, e, _⟩ := t1
          exact Heap.lt_size e
        · obtain ⟨_, e, _⟩ := t2
          exact Heap.lt_size e
      exact (upd_ne (Nat.ne_of_lt lt)).trans (hfp c m).1
  done := by
    intro X hP hw hK hc i pins s σ H E I hfp st stop
    subst hP; subst hw; subst hK
    obtain ⟨gz, gI, ⟨x0, y0, gO⟩, t1, t2⟩ := st
    obtain ⟨us, vs, qa, qb, ea, eb⟩ := stop
    obtain ⟨ws, ra, pa, _⟩ := I.tuple qa
    obtain ⟨xs, rb, pb, _⟩ := I.list qb
    have hd : X.A.in1.handled = none := I.ok.hd hc
    have l1 : i = ws.toArray.size := by
      have := ra.length
      simp
      omega
    have l2 : i = xs.toArray.size := by
      have := rb.length
      simp
      omega
    refine wpAny_pyNext_zipD2_end (sep_of D) (Draws.tuple hd i1 a D.l1i1 ws.toArray) (Draws.list hd i2 b D.l2i2 xs.toArray) gz gI gO ⟨t1, pa⟩ ⟨t2, pb.isList⟩ (Nat.le_of_eq l1) (Nat.le_of_eq l2) (.inl l1) fun h' tk hk => ⟨rfl, ?_⟩
    refine I.turnedL (t' := tk) (ch := [z, TI, TO, i1, i2]) (fun c o m e => ?_) hfp
    simp only [List.mem_cons, List.not_mem_nil, or_false, not_or] at m
    exact hk c o m.1 m.2.2.1 m.2.2.2.1 m.2.2.2.2 e
  self A i s Q E st h := wpAny_pyIter_zip st.1 h
def iZipM (K : PySem.W.Frag) (ta : TA) : TI := fun σ H R => ta σ H fun vs H1 => ∃ a b us ws, vs = [.ref a, .ref b] ∧ SqT K H1 a us ∧ SqL K H1 b ws ∧ R (ItM K a b) H1
theorem pi_zipM {X : Cx} {e e2 : Expr} {ta : TA} {p pos tpos : Pos} {elts : List Expr} {kk : Nat} (hg : Gl X "zip") (hm : X.mg "zip" = none) (ha : PA X [e, e2] ta)
    (hs : starEach [e, e2] X.env = (false, eval e X.env) :: starEach [e2] X.env := by rfl) (hpl : (backTo pos (starEach [e2] X.env)).any (·.1) = false := by rfl) : PI X (.Tuple elts kk tpos) (.Call (.Name "zip" p) [e, e2] [] pos) (iZipM X.K ta) := by
  refine ⟨fun pins s σ H R I h => ?_⟩
  refine Call_ (ld_blt I hg hm PyProof.Rows.boot_zip (PyProof.Rows.callWith_type1 (thn (ha.run pos pins s σ H _ I h) fun us s1 ⟨vs, H1, I1, rr, q1⟩ => ?_) hs hpl))
  obtain ⟨a, b, ua, ub, rfl, qa, qb, q⟩ := q1
  cases rr with
  | cons r1 rr =>
    cases rr with
    | cons r2 rr =>
      cases rr; cases r1; cases r2
      obtain ⟨ws, ra, pa, _⟩ := I1.tuple qa
      obtain ⟨xs, rb, pb, _⟩ := I1.list qb
      have la : a < s1.heap.objs.size := by
        obtain ⟨_, e, _⟩ := id pa
        exact Heap.lt_size e
      refine zip_begins2 (begins_tuple a ws.toArray) (begins_list b xs.toArray) pa pb.isList fun h' gz gI gO g1 g2 hsz hk => wpAny_pyIter_zip gz ?_
      refine ⟨s1.heap.objs.size + 4, [s1.heap.objs.size + 4, s1.heap.objs.size + 2, s1.heap.objs.size + 3, s1.heap.objs.size, s1.heap.objs.size + 1], _, _, H1, rfl, I1.kept (t' := s1.toks) hk, turnM (PySem.W.ktu_apart s1.heap.objs.size a b la pb.lt), ⟨gz, gI, ⟨_, _, gO⟩, ⟨_, g1, rfl, rfl⟩, ⟨_, g2, rfl, rfl⟩⟩, fun c m => ?_, q⟩
      have le : s1.heap.objs.size ≤ c := by
        simp only [List.mem_cons, List.not_mem_nil, or_false] at m
        rcases m with rfl | rfl | rfl | rfl | rfl <;> first | exact Nat.le_refl _ | exact Nat.le_add_right _ _
      exact I1.fpOk le (I1.hok.fresh le)
/-- a loop over such a zip -/
theorem for_zipM {K : PySem.W.Frag} {a b : Addr} {us vs : List V} {g : TG} {tb : TS} {D : Ends} {σ : L2.St} {H : Hp} (hl : us.length = vs.length) (Pv : Nat → L2.St → Hp → Prop) (h0 : Pv 0 σ H) (hq : ∀ i σ H, Pv i σ H → SqT K H a us ∧ SqL K H b vs)
    (hs : ∀ (i : Nat) (x y : V) (T : Addr) (σ : L2.St) (H : Hp), us[i]? = some x → vs[i]? = some y → Pv i σ H → H T = none → g (.ref T) σ (upd H T (.tup [x, y])) fun σ2 H2 => tb { D with nx := Pv (i + 1), ct := Pv (i + 1), bk := D.nx } σ2 H2)
    (hd : ∀ σ H, Pv us.length σ H → D.nx σ H) :
    ∃ W : Nat → Nat → L2.St → Hp → Prop, (∃ m, W 0 m σ H) ∧ ∀ i m σ H, W i m σ H →
      ((ItM K a b).stop i H ∧ D.nx σ H) ∨ ((ItM K a b).go i H ∧ ∃ N : L2.St → Hp → Prop, (∀ σ' H', N σ' H' → ∃ m', m' < m ∧ W (i + 1) m' σ' H') ∧ ∀ v H', (ItM K a b).yld i H v H' → g v σ H' fun σ2 H2 => tb { D with nx := N, ct := N, bk := D.nx } σ2 H2) := by
  refine ⟨fun i m σ H => m = us.length - i ∧ i ≤ us.length ∧ Pv i σ H, ⟨us.length, rfl, Nat.zero_le _, h0⟩, ?_⟩
  rintro i m σ H ⟨rfl, hi, p⟩
  obtain ⟨qa, qb⟩ := hq i σ H p
  by_cases lt : i < us.length
  · have lt2 : i < vs.length := hl ▸ lt
    refine .inr ⟨⟨us, vs, us[i], vs[i], qa, qb, List.getElem?_eq_getElem lt, List.getElem?_eq_getElem lt2⟩, Pv (i + 1), fun σ' H' p' => ⟨us.length - (i + 1), by omega, rfl, lt, p'⟩, ?_⟩
    rintro v H' ⟨T, x, y, rfl, hT, rfl, f1, f2⟩
    exact hs i x y T σ H (f1 us qa) (f2 vs qb) p hT
  · have e : i = us.length := by omega
    subst e
    exact .inl ⟨⟨us, vs, qa, qb, rfl, hl.symm⟩, hd σ H p⟩
end SR
set_option maxHeartbeats 4000000
namespace SR
open PySem PySem.Spec PyProof.Rows L2
variable {P : Program} {w : World} {K : PySem.W.Frag} {mg : Str → Option Value} {base : Heap}
/-! ### rows compared -/
def rowD (ns : List Int) : PyData := .tuple (ns.map PyData.int)
theorem lay_ints : ∀ ns : List Int, PyData.canLayAll0 (ns.map PyData.int) = true
  | [] => by simp [PyData.canLayAll0]
  | n :: ns => by simp [PyData.canLayAll0, PyData.canLay0, lay_ints ns]
theorem depth_ints : ∀ ns : List Int, PyData.depthAll (ns.map PyData.int) = 0
  | [] => by simp [PyData.depthAll]
  | n :: ns => by simp [PyData.depthAll, PyData.depth, depth_ints ns]
theorem rowD_shaped (ns : List Int) : SeqAt.shaped (rowD ns) = true := by
  unfold SeqAt.shaped rowD
  simp [PyData.canLay0, PyData.depth, lay_ints, depth_ints]
theorem eqv_ints : ∀ ns ms : List Int, PyData.eqvAll (ns.map PyData.int) (ms.map PyData.int) = decide (ns = ms)
  | [], [] => by simp [PyData.eqvAll]
  | [], m :: ms => by simp [PyData.eqvAll]
  | n :: ns, [] => by simp [PyData.eqvAll]
  | n :: ns, m :: ms => by
    rw [List.map_cons, List.map_cons]
    simp only [PyData.eqvAll, PyData.eqv, eqv_ints ns ms]
    by_cases h1 : n = m <;> by_cases h2 : ns = ms <;> simp [h1, h2]
theorem rowD_eqv (ns ms : List Int) : PyData.eqv (rowD ns) (rowD ms) = decide (ns = ms) := by
  unfold rowD
  simp only [PyData.eqv, eqv_ints]
theorem dp_ints (H : Hp) : ∀ ns : List Int, DpAll K H (ns.map V.int) (ns.map PyData.int)
  | [] => .nil
  | n :: ns => .cons (.int n) (dp_ints H ns)
theorem dp_row {H : Hp} {a : Addr} {ns : List Int} (h : Rw H a ns) : Dp K H (.ref a) (rowD ns) := .tup (SqT.of h) (dp_ints H ns)
/-! ### rows at addresses -/
def RowsAt (H : Hp) (qs : List Addr) (rs : List (List Int)) : Prop := qs.length = rs.length ∧ ∀ (j : Nat) (q : Addr) (r : List Int), qs[j]? = some q → rs[j]? = some r → Rw H q r
theorem RowsAt.mono {H H' : Hp} {qs : List Addr} {rs : List (List Int)} (s : Same H H') (h : RowsAt H qs rs) : RowsAt H' qs rs := ⟨h.1, fun j q r a b => s _ _ (h.2 j q r a b)⟩
theorem RowsAt.snoc {H : Hp} {qs : List Addr} {rs : List (List Int)} {q : Addr} {r : List Int} (h : RowsAt H qs rs) (hq : Rw H q r) : RowsAt H (qs ++ [q]) (rs ++ [r]) := by
  refine ⟨by rw [List.length_append, List.length_append, h.1]; rfl, fun j q' r' a b => ?_⟩
  by_cases hj : j < qs.length
  · rw [List.getElem?_append_left hj] at a
    rw [List.getElem?_append_left (h.1 ▸ hj)] at b
    exact h.2 j q' r' a b
  · have hj : qs.length ≤ j := Nat.le_of_not_lt hj
    rw [List.getElem?_append_right hj] at a
    rw [List.getElem?_append_right (h.1 ▸ hj), ← h.1] at b
    cases e : j - qs.length with
    | zero =>
      rw [e] at a b
      cases a
      cases b
      exact hq
    | succ n =>
      rw [e] at a
      cases a
/-- a list's write leaves the rows -/
theorem RowsAt.lst {H : Hp} {qs : List Addr} {rs : List (List Int)} {p : Addr} {xs ys : List V} (h : RowsAt H qs rs) (hp : H p = some (.lst xs)) : RowsAt (upd H p (.lst ys)) qs rs :=
  ⟨h.1, fun j q r a b => by
    have e := h.2 j q r a b
    show upd H p _ q = _
    rw [upd_ne (ne_of e hp (by intro z; cases z))]
    exact e⟩
theorem But.same {H H1 H' : Hp} {p : Addr} (s : Same H H1) (hp : H p = none) (b : But [p] H1 H') : Same H H' := fun c o e => b c o (by
  intro m
  have m : c = p := by simpa using m
  rw [m, hp] at e
  cases e) (s c o e)
theorem ref_snoc (l : List Addr) (x : Addr) : (l ++ [x]).map V.ref = l.map V.ref ++ [V.ref x] := by
  rw [List.map_append]
  rfl
/-! ### _nodes -/
abbrev N__nodes : List Str := ["mixing", "count", "index", "entry", "way", "rows", "here", "number", "second", "row"]
theorem sc_nodes : FnScope N__nodes ["mixing", "count", "index", "entry", "way"] (defScope s__nodes) := ⟨rfl, rfl, rfl, by decide +kernel, rfl, by decide +kernel, by decide +kernel⟩
def spNodes (K : PySem.W.Frag) : Sp := Sp5 fun x1 x2 x3 x4 x5 H Q => ∃ (mx wy : Addr) (m : Mx) (n i : Nat) (e : Int) (ws : List Int), x1 = .ref mx ∧ x2 = .int (n : Int) ∧ x3 = .int (i : Int) ∧ x4 = .int e ∧ x5 = .ref wy ∧ MxAt K H mx m ∧ MOk m ∧ n ≤ 4 ∧ i < n ∧ Rw H wy ws ∧ ws.length = (trn n i).length ∧
  ∀ p qs H', Same H H' → H p = none → H' p = some (.lst (qs.map V.ref)) → RowsAt H' qs (nodes m e (ws.zip (trn n i))) → Q (.ref p) H'
theorem c__nodes (D : All K mg) : C8.Cal P w K mg base 3 "_nodes" (spNodes K) [] := by
  refine cal D._nodes sc_nodes (fun _ _ _ _ _ _ us hl => match us, hl with | [_, _, _, _, _], _ => rfl) len5 fun f cdv A outer s H vs Q E hr h => ?_
  have sc := sc_nodes
  obtain ⟨_, _, _, _, _, rfl, mx, wy, m, n, i, e, ws, rfl, rfl, rfl, rfl, rfl, hM, mo, h4, hin, hW, hwl, k⟩ := h
  refine ⟨_, (pss_cons (ps_set (i := 5) sc.nd rfl (.inl rfl) (pe_lst pa_nil))
    (pss_cons (ps_set (i := 6) sc.nd rfl (.inl rfl) (pv 3))
    (pss_cons (ps_for PassesOwn.never rfl (pi_zipM (by rfl) D.x.zip (pa_cons (pv 4) (pa_cons (C8.pe_c (c_turns D) hr (by decide) rfl (pa_cons (pv 1) (pa_cons (pv 2) pa_nil))) pa_nil))) (pg_tup rfl (pgs_cons (pg_name (i := 7) sc.nd rfl (.inl rfl)) (pgs_cons (pg_name (i := 8) sc.nd rfl (.inl rfl)) pgs_nil)))
    (pss_cons (ps_set (i := 9) sc.nd rfl (.inl rfl) (pe_ifExp (pt_val (pv 8)) (C8.pe_c (c_node D) hr (by decide) rfl (pa_cons (pv 7) (pa_cons (pv 6) pa_nil))) (C8.pe_c (c_node D) hr (by decide) rfl (pa_cons (pv 6) (pa_cons (pv 7) pa_nil)))))
      (pss_cons (ps_expr (pe_bm PySem.F.plainAttrs_list PySem.F.slot_list_append PySem.F.type_list_append mt_append (pv 5) (pa_cons (pv 9) pa_nil)))
      (pss_one (ps_set (i := 6) sc.nd rfl (.inl rfl) (C8.pe_c (c_digest D) hr (by decide) rfl (pa_cons (pv 0) (pa_cons (pv 9) pa_nil))))))))
    (pss_one (ps_ret (pv 5)))))), ?_⟩
  refine ⟨Nat.zero_le _, fun p hp => ?_⟩
  refine ⟨_, rfl, ?_⟩
  refine ⟨_, rfl, _, rfl, _, rfl, _, _, rfl, n, i, rfl, rfl, h4, hin, fun tl H1 s1 ntl htl => ?_⟩
  have sH1 : Same H H1 := (Same.new hp).trans s1
  have hp1 : H1 p = some (.lst []) := s1 _ _ upd_same
  have ntp : tl ≠ p := (ne_of_none (show upd H p (.lst []) p = _ from upd_same) ntl).symm
  have nwp : wy ≠ p := ne_of_none hW hp
  have hl : (ws.map V.int).length = ((trn n i).map V.bl).length := by rw [List.length_map, List.length_map, hwl]
  refine ⟨wy, tl, _, _, rfl, SqT.of (sH1 _ _ hW), SqL.of htl, for_zipM (K := K) (a := wy) (b := tl) (us := ws.map V.int) (vs := (trn n i).map V.bl) hl
    (fun j σ H' => ∃ (qs : List Addr) (v7 v8 v9 : Option V), σ = [some (.ref mx), some (.int (n : Int)), some (.int (i : Int)), some (.int e), some (.ref wy), some (.ref p), some (.int (clm m e ((ws.zip (trn n i)).take j))), v7, v8, v9] ∧ But [p] H1 H' ∧ H' p = some (.lst (qs.map V.ref)) ∧ RowsAt H' qs (nodes m e ((ws.zip (trn n i)).take j)))
    ⟨[], none, none, none, rfl, But.refl H1, hp1, rfl, fun j q r a => by cases a⟩ (fun j σ H' ⟨_, _, _, _, _, b, _⟩ => ⟨SqT.of (b _ _ (by simpa using nwp) (sH1 _ _ hW)), SqL.of (b _ _ (by simpa using ntp) htl)⟩) ?_ ?_⟩
  · rintro j x y T σ H' hx hy ⟨qs, v7, v8, v9, rfl, b, hP, hR⟩ hT
    obtain ⟨a, rfl, ha⟩ := at_map hx
    obtain ⟨c, rfl, hc⟩ : ∃ c, y = V.bl c ∧ (trn n i)[j]? = some c := by
      rw [List.getElem?_map] at hy
      cases q : (trn n i)[j]? with
      | none =>
        rw [q] at hy
        cases hy
      | some c =>
        rw [q] at hy
        exact ⟨c, (Option.some.inj hy).symm, rfl⟩
    have hz : (ws.zip (trn n i)).take (j + 1) = (ws.zip (trn n i)).take j ++ [(a, c)] := by
      have z : (ws.zip (trn n i))[j]? = some (a, c) := List.getElem?_zip_eq_some.mpr ⟨ha, hc⟩
      rw [List.take_succ, z]
      rfl
    have sH' : Same H H' := But.same sH1 hp b
    refine ⟨T, _, rfl, SqT.of upd_same, rfl, _, _, rfl, _, _, rfl, rfl, ?_⟩
    -- the row's tuple, either way
    have fin : ∀ t, upd H' T (.tup [V.int a, V.bl c]) t = none → ∀ row, row = row1 (clm m e ((ws.zip (trn n i)).take j)) (a, c) → ∀ H2, H2 = upd (upd H' T (.tup [V.int a, V.bl c])) t (.tup (row.map V.int)) →
        But [p] H1 H2 ∧ H2 p = some (.lst (qs.map V.ref)) ∧ RowsAt H2 qs (nodes m e ((ws.zip (trn n i)).take j)) ∧ Rw H2 t row ∧ Same H H2 := fun t ht row hrow H2 e2 => by
      have s2 : Same H' H2 := by
        rw [e2]
        exact (Same.new hT).trans (Same.new ht)
      refine ⟨b.trans (Same.but s2), s2 _ _ hP, hR.mono s2, by rw [e2]; exact upd_same, sH'.trans s2⟩
    have len : qs.length ≤ 2 := by
      rw [hR.1, nodes_len, List.length_take, List.length_zip]
      have := trn_len n i h4
      omega
    have last : ∀ t, upd H' T (.tup [V.int a, V.bl c]) t = none → ∀ row, row = row1 (clm m e ((ws.zip (trn n i)).take j)) (a, c) → ∀ H2, H2 = upd (upd H' T (.tup [V.int a, V.bl c])) t (.tup (row.map V.int)) →
        But [p] H1 (upd H2 p (.lst (qs.map V.ref ++ [V.ref t]))) ∧ upd H2 p (.lst (qs.map V.ref ++ [V.ref t])) p = some (.lst ((qs ++ [t]).map V.ref)) ∧ RowsAt (upd H2 p (.lst (qs.map V.ref ++ [V.ref t]))) (qs ++ [t]) (nodes m e ((ws.zip (trn n i)).take (j + 1))) ∧
          MxAt K (upd H2 p (.lst (qs.map V.ref ++ [V.ref t]))) mx m ∧ Rw (upd H2 p (.lst (qs.map V.ref ++ [V.ref t]))) t row := fun t ht row hrow H2 e2 => by
      obtain ⟨f1, f2, f3, f4, f5⟩ := fin t ht row hrow H2 e2
      have f6 : RowsAt H2 (qs ++ [t]) (nodes m e ((ws.zip (trn n i)).take (j + 1))) := by
        rw [hz, nodes_snoc, ← hrow]
        exact f3.snoc f4
      refine ⟨f1.trans (But.at (by simp)), by rw [upd_same, ref_snoc], f6.lst f2, hM.mono (Same.mut f5 hp), ?_⟩
      show upd H2 p _ t = _
      rw [upd_ne (ne_of f4 f2 (by intro z; cases z))]
      exact f4
    cases c with
    | true =>
      refine ⟨_, rfl, _, rfl, iteT ⟨_, rfl, _, rfl, _, _, rfl, a, _, rfl, rfl, fun t ht => ?_⟩⟩
      have f := fin t ht [3, a, clm m e ((ws.zip (trn n i)).take j)] rfl _ rfl
      obtain ⟨g1, g2, g3, g4, g5⟩ := last t ht [3, a, clm m e ((ws.zip (trn n i)).take j)] rfl _ rfl
      refine ⟨_, rfl, .inl ⟨rfl, _, SqL.of f.2.1⟩, _, rfl, p, _, _, rfl, rfl, f.2.1, small1 (by rw [List.length_map]; omega), ?_⟩
      refine ⟨_, rfl, _, rfl, _, _, rfl, mx, t, m, _, rfl, rfl, g4, mo, g5, qs ++ [t], some (.int a), some (.bl true), some (.ref t), ?_, g1, g2, g3⟩
      rw [hz, clm_snoc]
      rfl
    | false =>
      refine ⟨_, rfl, _, rfl, iteF ⟨_, rfl, _, rfl, _, _, rfl, _, a, rfl, rfl, fun t ht => ?_⟩⟩
      have f := fin t ht [3, clm m e ((ws.zip (trn n i)).take j), a] rfl _ rfl
      obtain ⟨g1, g2, g3, g4, g5⟩ := last t ht [3, clm m e ((ws.zip (trn n i)).take j), a] rfl _ rfl
      refine ⟨_, rfl, .inl ⟨rfl, _, SqL.of f.2.1⟩, _, rfl, p, _, _, rfl, rfl, f.2.1, small1 (by rw [List.length_map]; omega), ?_⟩
      refine ⟨_, rfl, _, rfl, _, _, rfl, mx, t, m, _, rfl, rfl, g4, mo, g5, qs ++ [t], some (.int a), some (.bl false), some (.ref t), ?_, g1, g2, g3⟩
      rw [hz, clm_snoc]
      rfl
  · rintro σ H' ⟨qs, v7, v8, v9, rfl, b, hP, hR⟩
    refine ⟨_, rfl, k p qs H' (But.same sH1 hp b) hp hP ?_⟩
    rw [List.take_of_length_le (by rw [List.length_zip, List.length_map]; exact Nat.min_le_left _ _)] at hR
    exact hR
/-! ### climb -/
abbrev N_climb : List Str := ["mixing", "count", "index", "entry", "way", "rows"]
theorem sc_climb : FnScope N_climb ["mixing", "count", "index", "entry", "way"] (defScope s_climb) := ⟨rfl, rfl, rfl, by decide +kernel, rfl, by decide +kernel, by decide +kernel⟩
def spClimb (K : PySem.W.Frag) : Sp := Sp5 fun x1 x2 x3 x4 x5 H Q => ∃ (mx wy : Addr) (m : Mx) (n i : Nat) (e : Int) (ws : List Int), x1 = .ref mx ∧ x2 = .int (n : Int) ∧ x3 = .int (i : Int) ∧ x4 = .int e ∧ x5 = .ref wy ∧ MxAt K H mx m ∧ MOk m ∧ n ≤ 4 ∧ i < n ∧ Rw H wy ws ∧ ws.length = (trn n i).length ∧
  ∀ H', Same H H' → Q (.int (clm m e (ws.zip (trn n i)))) H'
theorem c_climb (D : All K mg) : C8.Cal P w K mg base 4 "climb" (spClimb K) [] := by
  refine cal D.climb sc_climb (fun _ _ _ _ _ _ us hl => match us, hl with | [_, _, _, _, _], _ => rfl) len5 fun f cdv A outer s H vs Q E hr h => ?_
  have sc := sc_climb
  obtain ⟨_, _, _, _, _, rfl, mx, wy, m, n, i, e, ws, rfl, rfl, rfl, rfl, rfl, hM, mo, h4, hin, hW, hwl, k⟩ := h
  refine ⟨_, (pss_cons (ps_if (pt_cmpR op_ne (pe_callB call_len_seq (by rfl) D.x.len PySem.boot_len (pa_cons (pv 4) pa_nil)) (pe_callB call_len_seq (by rfl) D.x.len PySem.boot_len (pa_cons (C8.pe_c (c_turns D) hr (by decide) rfl (pa_cons (pv 1) (pa_cons (pv 2) pa_nil))) pa_nil)) (nomark _))
    (pss_one (ps_ret pe_non))
    pss_nil)
    (pss_cons (ps_set (i := 5) sc.nd rfl (.inl rfl) (C8.pe_c (c__nodes D) hr (by decide) rfl (pa_cons (pv 0) (pa_cons (pv 1) (pa_cons (pv 2) (pa_cons (pv 3) (pa_cons (pv 4) pa_nil)))))))
    (pss_cons (ps_if (pt_truth (pv 5) (by intro _; rfl))
    (pss_one (ps_ret (C8.pe_c (c_digest D) hr (by decide) rfl (pa_cons (pv 0) (pa_cons (pe_ix ix_list (pv 5) (pe_un un_neg pe_int) (fun _ _ => rfl)) pa_nil)))))
    pss_nil)
    (pss_one (ps_ret (pv 3)))))), ?_⟩
  refine ⟨_, rfl, wy, _, rfl, .inr (SqT.of hW), _, rfl, _, rfl, _, _, rfl, n, i, rfl, rfl, h4, hin, fun tl H1 s1 ntl htl => ?_⟩
  refine ⟨tl, _, rfl, .inl (SqL.of htl), rfl, _, rfl, ite2 (fun q => ?_) (fun _ => ?_)⟩
  · have z : (ws.map V.int).length = ((trn n i).map V.bl).length := by rw [List.length_map, List.length_map, hwl]
    rw [z] at q
    simp at q
  refine ⟨_, rfl, _, rfl, _, rfl, _, rfl, _, rfl, _, _, _, _, _, rfl, mx, wy, m, n, i, e, ws, rfl, rfl, rfl, rfl, rfl, hM.mono s1, mo, h4, hin, s1 _ _ hW, hwl, fun p qs H2 s2 np hp hR => ?_⟩
  rcases List.eq_nil_or_concat qs with q | ⟨qs', q, q'⟩
  · subst q
    have z : nodes m e (ws.zip (trn n i)) = [] := List.length_eq_zero_iff.mp hR.1.symm
    have z2 : ws.zip (trn n i) = [] := by
      have := nodes_len m (ws.zip (trn n i)) e
      rw [z] at this
      exact List.length_eq_zero_iff.mp this.symm
    refine ⟨_, rfl, false, .inl ⟨_, SqL.of hp, rfl⟩, iteF ⟨_, rfl, ?_⟩⟩
    have k := k H2 (s1.trans s2)
    rw [z2] at k
    exact k
  · rw [List.concat_eq_append] at q'
    subst q'
    obtain ⟨rs, r, hrs⟩ : ∃ rs r, nodes m e (ws.zip (trn n i)) = rs ++ [r] := by
      rcases List.eq_nil_or_concat (nodes m e (ws.zip (trn n i))) with z | ⟨rs, r, z⟩
      · have := hR.1
        rw [z] at this
        simp at this
      · exact ⟨rs, r, by rw [z, List.concat_eq_append]⟩
    have hlen : qs'.length = rs.length := by
      have := hR.1
      rw [hrs, List.length_append, List.length_append] at this
      simpa using this
    have hq : Rw H2 q r := hR.2 qs'.length q r (by simp) (by rw [hrs, hlen]; simp)
    have hd := nodes_last m (ws.zip (trn n i)) e r (by rw [hrs]; simp)
    have hp' : H2 p = some (.lst (qs'.map V.ref ++ [V.ref q])) := by rw [← ref_snoc]; exact hp
    refine ⟨_, rfl, true, .inl ⟨_, SqL.of hp, ?_⟩, iteT ?_⟩
    · rw [ref_snoc]
      simp
    refine ⟨_, rfl, _, rfl, _, rfl, p, _, _, _, rfl, rfl, SqL.of hp', atI_last _ _, _, _, rfl, mx, q, m, r, rfl, rfl, hM.mono (s1.trans s2), mo, hq, ?_⟩
    show Q (.int (dig m r)) H2
    rw [hd]
    exact k H2 (s1.trans s2)
end SR
set_option maxHeartbeats 4000000
namespace SR
open PySem PySem.Spec PyProof.Rows L2
variable {P : Program} {w : World} {K : PySem.W.Frag} {mg : Str → Option Value} {base : Heap}
/-! ### clash_of_ways, of two equal ways -/
theorem ifF {c : Bool} {A B : Prop} (e : c = false) (h : B) : if c = true then A else B := by
  rw [e]
  exact iteF h
theorem ifT {c : Bool} {A B : Prop} (e : c = true) (h : A) : if c = true then A else B := by
  rw [e]
  exact iteT h
theorem RowsAt.rev {H : Hp} {qs : List Addr} {rs : List (List Int)} (h : RowsAt H qs rs) : RowsAt H qs.reverse rs.reverse := by
  refine ⟨by rw [List.length_reverse, List.length_reverse, h.1], fun j q r a b => ?_⟩
  have hj : j < qs.length := by
    have := (List.getElem?_eq_some_iff.mp a).1
    rw [List.length_reverse] at this
    exact this
  rw [List.getElem?_reverse hj] at a
  rw [List.getElem?_reverse (h.1 ▸ hj), ← h.1] at b
  exact h.2 _ q r a b
abbrev N_clash_of_ways : List Str := ["mixing", "count", "index", "one", "two", "first", "second", "a", "b"]
theorem sc_clash_of_ways : FnScope N_clash_of_ways ["mixing", "count", "index", "one", "two"] (defScope s_clash_of_ways) := ⟨rfl, rfl, rfl, by decide +kernel, rfl, by decide +kernel, by decide +kernel⟩
def spCow (K : PySem.W.Frag) : Sp := Sp5 fun x1 x2 x3 x4 x5 H Q => ∃ (mx o1 o2 w1 w2 : Addr) (m : Mx) (n i : Nat) (e : Int) (ws : List Int), x1 = .ref mx ∧ x2 = .int (n : Int) ∧ x3 = .int (i : Int) ∧ x4 = .ref o1 ∧ x5 = .ref o2 ∧ MxAt K H mx m ∧ MOk m ∧ n ≤ 4 ∧ i < n ∧
  H o1 = some (.tup [.int e, .ref w1]) ∧ H o2 = some (.tup [.int e, .ref w2]) ∧ Rw H w1 ws ∧ Rw H w2 ws ∧ ws.length = (trn n i).length ∧ ∀ H', Same H H' → Q .non H'
theorem c_clash_of_ways (D : All K mg) : C8.Cal P w K mg base 4 "clash_of_ways" (spCow K) [] := by
  refine cal D.clash_of_ways sc_clash_of_ways (fun _ _ _ _ _ _ us hl => match us, hl with | [_, _, _, _, _], _ => rfl) len5 fun f cdv A outer s H vs Q E hr h => ?_
  have sc := sc_clash_of_ways
  obtain ⟨_, _, _, _, _, rfl, mx, o1, o2, w1, w2, m, n, i, e, ws, rfl, rfl, rfl, rfl, rfl, hM, mo, h4, hin, h1, h2, hw1, hw2, hwl, k⟩ := h
  refine ⟨_, (pss_cons (ps_set (i := 5) sc.nd rfl (.inl rfl) (C8.pe_c (c__nodes D) hr (by decide) rfl (pa_cons (pv 0) (pa_cons (pv 1) (pa_cons (pv 2) (pa_cons (pe_ix ix_tup (pv 3) pe_int (fun _ _ => rfl)) (pa_cons (pe_ix ix_tup (pv 3) pe_int (fun _ _ => rfl)) pa_nil)))))))
    (pss_cons (ps_set (i := 6) sc.nd rfl (.inl rfl) (C8.pe_c (c__nodes D) hr (by decide) rfl (pa_cons (pv 0) (pa_cons (pv 1) (pa_cons (pv 2) (pa_cons (pe_ix ix_tup (pv 4) pe_int (fun _ _ => rfl)) (pa_cons (pe_ix ix_tup (pv 4) pe_int (fun _ _ => rfl)) pa_nil)))))))
    (pss_cons (ps_for PassesOwn.never rfl (pi_zip (by rfl) D.x.zip (pa_cons (pe_revL (pv 5)) (pa_cons (pe_revL (pv 6)) pa_nil))) (pg_tup rfl (pgs_cons (pg_name (i := 7) sc.nd rfl (.inl rfl)) (pgs_cons (pg_name (i := 8) sc.nd rfl (.inl rfl)) pgs_nil)))
    (pss_one (ps_if (pt_cmpR (op_neD hr.units) (pv 7) (pv 8) (nomark _))
      (pss_one (ps_ret (pe_tup (pa_cons (pv 7) (pa_cons (pv 8) pa_nil)))))
      pss_nil)))
    (pss_one (ps_ret pe_non))))), ?_⟩
  refine ⟨_, rfl, _, rfl, _, rfl, _, rfl, o1, _, 0, _, rfl, rfl, SqT.of h1, rfl, _, rfl, o1, _, 1, _, rfl, rfl, SqT.of h1, rfl, ?_⟩
  refine ⟨_, _, _, _, _, rfl, mx, w1, m, n, i, e, ws, rfl, rfl, rfl, rfl, rfl, hM, mo, h4, hin, hw1, hwl, fun p ps H1 s1 np hp rp => ?_⟩
  refine ⟨_, rfl, _, rfl, _, rfl, _, rfl, o2, _, 0, _, rfl, rfl, SqT.of (s1 _ _ h2), rfl, _, rfl, o2, _, 1, _, rfl, rfl, SqT.of (s1 _ _ h2), rfl, ?_⟩
  refine ⟨_, _, _, _, _, rfl, mx, w2, m, n, i, e, ws, rfl, rfl, rfl, rfl, rfl, hM.mono s1, mo, h4, hin, s1 _ _ hw2, hwl, fun q qs H2 s2 nq hq rq => ?_⟩
  refine ⟨_, rfl, p, _, rfl, SqL.of (s2 _ _ hp), fun u hu => ?_⟩
  refine ⟨_, rfl, q, _, rfl, SqL.of (Same.new hu _ _ hq), fun v hv => ?_⟩
  have sU : Same H2 (upd (upd H2 u (.lst (ps.map V.ref).reverse)) v (.lst (qs.map V.ref).reverse)) := (Same.new hu).trans (Same.new hv)
  have hu' : upd (upd H2 u (.lst (ps.map V.ref).reverse)) v (.lst (qs.map V.ref).reverse) u = some (.lst (ps.reverse.map V.ref)) := by
    rw [List.map_reverse]
    exact Same.new hv _ _ upd_same
  have hv' : upd (upd H2 u (.lst (ps.map V.ref).reverse)) v (.lst (qs.map V.ref).reverse) v = some (.lst (qs.reverse.map V.ref)) := by
    rw [List.map_reverse]
    exact upd_same
  have r1 := ((rp.mono s2).mono sU).rev
  have r2 := (rq.mono sU).rev
  revert hu' hv' r1 r2 sU
  generalize upd (upd H2 u (.lst (ps.map V.ref).reverse)) v (.lst (qs.map V.ref).reverse) = H3
  intro sU hu' hv' r1 r2
  have hl : (ps.reverse.map V.ref).length = (qs.reverse.map V.ref).length := by rw [List.length_map, List.length_map, r1.1, r2.1]
  refine ⟨u, v, _, _, rfl, SqL.of hu', SqL.of hv', RZ.for_zipL (K := K) (a := u) (b := v) (xs := ps.reverse.map V.ref) (ys := qs.reverse.map V.ref) hl
    (fun j σ H' => Same H3 H' ∧ ∃ a b : Option V, σ = [some (.ref mx), some (.int (n : Int)), some (.int (i : Int)), some (.ref o1), some (.ref o2), some (.ref p), some (.ref q), a, b])
    ⟨Same.refl _, none, none, rfl⟩ (fun j σ H' ⟨s, _⟩ => ⟨SqL.of (s _ _ hu'), SqL.of (s _ _ hv')⟩) ?_ ?_⟩
  · rintro j x y T σ H' hx hy ⟨s3, a, b, rfl⟩ hT
    rw [List.getElem?_map] at hx hy
    obtain ⟨xa, hxa, rfl⟩ := Option.map_eq_some_iff.mp hx
    obtain ⟨ya, hya, rfl⟩ := Option.map_eq_some_iff.mp hy
    have hj : j < (nodes m e (ws.zip (trn n i))).reverse.length := by
      rw [← r1.1]
      exact (List.getElem?_eq_some_iff.mp hxa).1
    have hn := List.getElem?_eq_getElem hj
    have s4 : Same H3 (upd H' T (.tup [.ref xa, .ref ya])) := s3.trans (Same.new hT)
    have e1 := s4 _ _ (r1.2 j xa _ hxa hn)
    have e2 := s4 _ _ (r2.2 j ya _ hya hn)
    refine ⟨T, _, rfl, SqT.of upd_same, rfl, _, _, rfl, _, _, rfl, rfl, ?_⟩
    refine ⟨_, rfl, _, rfl, _, _, dp_row e1, dp_row e2, rowD_shaped _, rowD_shaped _, _, rfl, ifF ?_ ⟨s4, _, _, rfl⟩⟩
    rw [rowD_eqv]
    simp
  · rintro σ H' ⟨s3, a, b, rfl⟩
    exact k H' (((s1.trans s2).trans sU).trans s3)
/-! ### heads, places, steps -/
structure Hd where
  s : Int
  n : Nat
  h : Int
  c : Nat
  rt : Int
  bs : List Int
def Hd.row (d : Hd) : List Int := hdr d.s d.n d.h (d.c : Int) d.rt d.bs
structure Hd.ok (d : Hd) : Prop where
  n4 : d.n ≤ 4
  c1 : 1 ≤ d.c
  c4 : d.c ≤ 4
  bl : d.bs.length = (bks d.n).length
theorem Hd.ok.hd {d : Hd} (h : d.ok) : HdOk d.row := ⟨d.s, d.n, d.h, d.c, d.rt, d.bs, rfl, h.n4, by have := h.c1; omega, h.bl⟩
inductive Pl where
  | ent (i : Nat) (ws : List Int)
  | bk (i : Nat)
def PlAt (H : Hp) (a : Addr) : Pl → Prop
  | .ent i ws => ∃ wa, H a = some (.tup [.str "entry", .int (i : Int), .ref wa]) ∧ Rw H wa ws
  | .bk i => H a = some (.tup [.str "back", .int (i : Int)])
theorem PlAt.mono {H H' : Hp} {a : Addr} {pl : Pl} (s : Same H H') (h : PlAt H a pl) : PlAt H' a pl := by
  cases pl with
  | ent i ws =>
    obtain ⟨wa, h1, h2⟩ := h
    exact ⟨wa, s _ _ h1, s _ _ h2⟩
  | bk i => exact s _ _ h
def PlIn (d : Hd) : Pl → Prop
  | .ent i _ => i < d.c
  | .bk i => i < d.bs.length
theorem eCE : decide (V.str "entry" = V.str "cite") = false := by decide +kernel
theorem eBE : decide (V.str "entry" = V.str "back") = false := by decide +kernel
theorem eEE : decide (V.str "entry" = V.str "entry") = true := by decide +kernel
theorem eCB : decide (V.str "back" = V.str "cite") = false := by decide +kernel
theorem eBB : decide (V.str "back" = V.str "back") = true := by decide +kernel
theorem eEB : decide (V.str "back" = V.str "entry") = false := by decide +kernel
abbrev N_has_place : List Str := ["row", "place", "kind", "at"]
theorem sc_has_place : FnScope N_has_place ["row", "place"] (defScope s_has_place) := ⟨rfl, rfl, rfl, by decide +kernel, rfl, by decide +kernel, by decide +kernel⟩
def spHasP : Sp := Sp2 fun x y H Q => ∃ r d pa pl, x = .ref r ∧ y = .ref pa ∧ Rw H r (Hd.row d) ∧ PlAt H pa pl ∧ PlIn d pl ∧ Q (.bl true) H
theorem c_has_place (D : All K mg) : C8.Cal P w K mg base 1 "has_place" spHasP [] := by
  refine cal D.has_place sc_has_place (fun _ _ _ _ _ _ us hl => match us, hl with | [_, _], _ => rfl) len2 fun f cdv A outer s H vs Q E hr h => ?_
  have sc := sc_has_place
  obtain ⟨_, _, rfl, r, d, pa, pl, rfl, rfl, hR, hP, hi, k⟩ := h
  refine ⟨_, (pss_cons (ps_par (i := 2) (j := 3) (by rfl) sc.nd rfl rfl (by decide) rfl rfl (pa_cons (pe_ix ix_tup (pv 1) pe_int (fun _ _ => rfl)) (pa_cons (pe_ix ix_tup (pv 1) pe_int (fun _ _ => rfl)) pa_nil)) (by rfl))
    (pss_cons (ps_if (pt_cmpR op_eq (pv 2) pe_str (nomark _))
    (pss_one (ps_ret (pe_and (pe_cmpR op_eq (pe_ix ix_tup (pv 0) pe_int (fun _ _ => rfl)) (C8.pe_gc rfl D.x.DOCUMENT) (nomark _)) (pe_one (pe_cmpR op_lt (pv 3) (pe_ix ix_tup (pv 0) pe_int (fun _ _ => rfl)) (nomark _))))))
    pss_nil)
    (pss_cons (ps_if (pt_cmpR op_eq (pv 2) pe_str (nomark _))
    (pss_one (ps_ret (pe_and (pe_cmpR op_eq (pe_ix ix_tup (pv 0) pe_int (fun _ _ => rfl)) (C8.pe_gc rfl D.x.HEAD) (nomark _)) (pe_one (pe_cmpR op_lt (pv 3) (pe_op op_sub (pe_callB call_len_seq (by rfl) D.x.len PySem.boot_len (pa_cons (pv 0) pa_nil)) (C8.pe_gc rfl D.x.HEAD_SIZE)) (nomark _))))))
    pss_nil)
    (pss_one (ps_ret (pe_and (pe_cmpR op_eq (pe_ix ix_tup (pv 0) pe_int (fun _ _ => rfl)) (C8.pe_gc rfl D.x.HEAD) (nomark _)) (pe_one (pe_cmpR op_lt (pv 3) (pe_ix ix_tup (pv 0) pe_int (fun _ _ => rfl)) (nomark _))))))))), ?_⟩
  cases pl with
  | ent i ws =>
    obtain ⟨wa, hP, hW⟩ := hP
    have hi : i < d.c := hi
    refine ⟨_, rfl, pa, _, 0, _, rfl, rfl, SqT.of hP, rfl, _, rfl, pa, _, 1, _, rfl, rfl, SqT.of hP, rfl, _, _, rfl, ?_⟩
    refine ⟨_, rfl, rfl, _, rfl, ifF eCE ?_⟩
    refine ⟨_, rfl, rfl, _, rfl, ifF eBE ?_⟩
    refine ⟨_, rfl, r, _, 0, _, rfl, rfl, SqT.of hR, at_of (j := 0) rfl rfl, rfl, _, rfl, iteT ?_⟩
    refine ⟨_, rfl, _, rfl, r, _, 4, _, rfl, rfl, SqT.of hR, at_of (j := 4) rfl rfl, _, _, rfl, rfl, ?_⟩
    show Q (.bl (decide ((i : Int) < (d.c : Int)))) H
    rw [decide_eq_true (by omega)]
    exact k
  | bk i =>
    have hi : i < d.bs.length := hi
    have hP : H pa = some (.tup [.str "back", .int (i : Int)]) := hP
    refine ⟨_, rfl, pa, _, 0, _, rfl, rfl, SqT.of hP, rfl, _, rfl, pa, _, 1, _, rfl, rfl, SqT.of hP, rfl, _, _, rfl, ?_⟩
    refine ⟨_, rfl, rfl, _, rfl, ifF eCB ?_⟩
    refine ⟨_, rfl, rfl, _, rfl, ifT eBB ?_⟩
    refine ⟨_, rfl, r, _, 0, _, rfl, rfl, SqT.of hR, at_of (j := 0) rfl rfl, rfl, _, rfl, iteT ?_⟩
    refine ⟨_, rfl, _, rfl, r, _, rfl, .inr (SqT.of hR), _, _, rfl, rfl, _, _, rfl, rfl, ?_⟩
    show Q (.bl (decide ((i : Int) < (((d.row.map V.int).length : Nat) : Int) - 6))) H
    rw [decide_eq_true (by
      rw [List.length_map]
      simp only [Hd.row, hdr, List.length_cons]
      omega)]
    exact k
abbrev N_held_at : List Str := ["mixing", "row", "place", "kind", "at"]
theorem sc_held_at : FnScope N_held_at ["mixing", "row", "place"] (defScope s_held_at) := ⟨rfl, rfl, rfl, by decide +kernel, rfl, by decide +kernel, by decide +kernel⟩
def spHeld : Sp := Sp3 fun x0 x y H Q => ∃ r d pa, ∃ (i : Nat) (z : Int), x = .ref r ∧ y = .ref pa ∧ Rw H r (Hd.row d) ∧ PlAt H pa (.bk i) ∧ d.bs[i]? = some z ∧ Q (.int z) H
theorem c_held_at (D : All K mg) : C8.Cal P w K mg base 1 "held_at" spHeld [] := by
  refine cal D.held_at sc_held_at (fun _ _ _ _ _ _ us hl => match us, hl with | [_, _, _], _ => rfl) len3 fun f cdv A outer s H vs Q E hr h => ?_
  have sc := sc_held_at
  obtain ⟨x0, _, _, rfl, r, d, pa, i, z, rfl, rfl, hR, hP, hz, k⟩ := h
  refine ⟨_, (pss_cons (ps_par (i := 3) (j := 4) (by rfl) sc.nd rfl rfl (by decide) rfl rfl (pa_cons (pe_ix ix_tup (pv 2) pe_int (fun _ _ => rfl)) (pa_cons (pe_ix ix_tup (pv 2) pe_int (fun _ _ => rfl)) pa_nil)) (by rfl))
    (pss_cons (ps_if (PW.pt (pw_and (pt_cmpR op_eq (pv 3) pe_str (nomark _)) (pw_and (pt_cmpR op_eq (pe_ix ix_tup (pv 1) pe_int (fun _ _ => rfl)) (C8.pe_gc rfl D.x.DOCUMENT) (nomark _)) (pw_and1 (pt_cmpR op_lt (pv 4) (pe_ix ix_tup (pv 1) pe_int (fun _ _ => rfl)) (nomark _))))))
    (pss_one (ps_ret (pe_ix ix_tup (pv 1) (pe_op op_add pe_int (pv 4)) (fun _ _ => rfl))))
    pss_nil)
    (pss_cons (ps_if (PW.pt (pw_and (pt_cmpR op_eq (pv 3) pe_str (nomark _)) (pw_and (pt_cmpR op_eq (pe_ix ix_tup (pv 1) pe_int (fun _ _ => rfl)) (C8.pe_gc rfl D.x.HEAD) (nomark _)) (pw_and1 (pt_cmpR op_lt (pv 4) (pe_op op_sub (pe_callB call_len_seq (by rfl) D.x.len PySem.boot_len (pa_cons (pv 1) pa_nil)) (C8.pe_gc rfl D.x.HEAD_SIZE)) (nomark _))))))
    (pss_one (ps_ret (pe_ix ix_tup (pv 1) (pe_op op_add (C8.pe_gc rfl D.x.HEAD_SIZE) (pv 4)) (fun _ _ => rfl))))
    pss_nil)
    (pss_one (ps_ret pe_non))))), ?_⟩
  have hP : H pa = some (.tup [.str "back", .int (i : Int)]) := hP
  have hi : i < d.bs.length := (List.getElem?_eq_some_iff.mp hz).1
  have hrow : (d.row.map V.int)[6 + i]? = some (V.int z) := map_at (by
    show (hdr d.s d.n d.h (d.c : Int) d.rt d.bs)[6 + i]? = some z
    rw [show 6 + i = i + 1 + 1 + 1 + 1 + 1 + 1 by omega]
    exact hz)
  refine ⟨_, rfl, pa, _, 0, _, rfl, rfl, SqT.of hP, rfl, _, rfl, pa, _, 1, _, rfl, rfl, SqT.of hP, rfl, _, _, rfl, ?_⟩
  refine ⟨_, rfl, rfl, _, rfl, ifF eCB (iteF ?_)⟩
  refine ⟨_, rfl, rfl, _, rfl, ifT eBB ?_⟩
  refine ⟨_, rfl, r, _, 0, _, rfl, rfl, SqT.of hR, at_of (j := 0) rfl rfl, rfl, _, rfl, iteT ?_⟩
  refine ⟨_, rfl, _, rfl, r, _, rfl, .inr (SqT.of hR), _, _, rfl, rfl, _, _, rfl, rfl, _, rfl, ifT (decide_eq_true (by
      rw [List.length_map]
      simp only [Hd.row, hdr, List.length_cons]
      omega)) ?_⟩
  exact ⟨_, rfl, _, rfl, _, _, rfl, rfl, r, _, _, _, rfl, rfl, SqT.of hR, at_of (j := 6 + i) (by omega) hrow, k⟩
end SR
set_option maxHeartbeats 4000000
namespace SR
open PySem PySem.Spec PyProof.Rows L2
variable {P : Program} {w : World} {K : PySem.W.Frag} {mg : Str → Option Value} {base : Heap}
/-! ### holds, is_earlier -/
/-- a head holds a digest at a place -/
def HoldsP (m : Mx) (d : Hd) (z : Int) : Pl → Prop
  | .ent i ws => i < d.c ∧ ws.length = (trn d.c i).length ∧ clm m z (ws.zip (trn d.c i)) = d.rt
  | .bk i => d.bs[i]? = some z
theorem HoldsP.pl {m : Mx} {d : Hd} {z : Int} {pl : Pl} (h : HoldsP m d z pl) : PlIn d pl := by
  cases pl with
  | ent i ws => exact h.1
  | bk i => exact (List.getElem?_eq_some_iff.mp (show d.bs[i]? = some z from h)).1
abbrev N_holds : List Str := ["mixing", "row", "place", "number"]
theorem sc_holds : FnScope N_holds ["mixing", "row", "place", "number"] (defScope s_holds) := ⟨rfl, rfl, rfl, by decide +kernel, rfl, by decide +kernel, by decide +kernel⟩
def spHolds (K : PySem.W.Frag) : Sp := Sp4 fun x0 x y t H Q => ∃ mx r pa m d pl z, x0 = .ref mx ∧ x = .ref r ∧ y = .ref pa ∧ t = .int z ∧ MxAt K H mx m ∧ MOk m ∧ Rw H r (Hd.row d) ∧ d.ok ∧ PlAt H pa pl ∧ HoldsP m d z pl ∧ ∀ H', Same H H' → Q (.bl true) H'
theorem c_holds (D : All K mg) : C8.Cal P w K mg base 5 "holds" (spHolds K) [] := by
  refine cal D.holds sc_holds (fun _ _ _ _ _ _ us hl => match us, hl with | [_, _, _, _], _ => rfl) len4 fun f cdv A outer s H vs Q E hr h => ?_
  have sc := sc_holds
  obtain ⟨_, _, _, _, rfl, mx, r, pa, m, d, pl, z, rfl, rfl, rfl, rfl, hM, mo, hR, ok, hP, hh, k⟩ := h
  refine ⟨_, (pss_cons (ps_if (pt_not (pt_val (C8.pe_c (c_has_place D) hr (by decide) rfl (pa_cons (pv 1) (pa_cons (pv 2) pa_nil)))))
    (pss_one (ps_ret pe_bl))
    pss_nil)
    (pss_cons (ps_if (pt_cmpR op_eq (pe_ix ix_tup (pv 2) pe_int (fun _ _ => rfl)) pe_str (nomark _))
    (pss_one (ps_ret (pe_cmpR op_eq (C8.pe_c (c_climb D) hr (by decide) rfl (pa_cons (pv 0) (pa_cons (pe_ix ix_tup (pv 1) pe_int (fun _ _ => rfl)) (pa_cons (pe_ix ix_tup (pv 2) pe_int (fun _ _ => rfl)) (pa_cons (pv 3) (pa_cons (pe_ix ix_tup (pv 2) pe_int (fun _ _ => rfl)) pa_nil)))))) (pe_ix ix_tup (pv 1) pe_int (fun _ _ => rfl)) (nomark _))))
    pss_nil)
    (pss_one (ps_ret (pe_cmpR op_eq (C8.pe_c (c_held_at D) hr (by decide) rfl (pa_cons (pv 0) (pa_cons (pv 1) (pa_cons (pv 2) pa_nil)))) (pv 3) (nomark _)))))), ?_⟩
  refine ⟨_, rfl, _, rfl, _, _, rfl, r, d, pa, pl, rfl, rfl, hR, hP, hh.pl, _, rfl, iteF ?_⟩
  cases pl with
  | ent i ws =>
    obtain ⟨h1, h2, h3⟩ := hh
    obtain ⟨wa, hP, hW⟩ := hP
    refine ⟨_, rfl, pa, _, 0, _, rfl, rfl, SqT.of hP, rfl, rfl, _, rfl, ifT eEE ?_⟩
    refine ⟨_, rfl, _, rfl, r, _, 4, _, rfl, rfl, SqT.of hR, at_of (j := 4) rfl rfl, _, rfl, pa, _, 1, _, rfl, rfl, SqT.of hP, rfl, _, rfl, _, rfl, pa, _, 2, _, rfl, rfl, SqT.of hP, rfl, ?_⟩
    refine ⟨_, _, _, _, _, rfl, mx, wa, m, d.c, i, z, ws, rfl, rfl, rfl, rfl, rfl, hM, mo, ok.c4, h1, hW, h2, fun H1 s1 => ?_⟩
    refine ⟨_, rfl, r, _, 5, _, rfl, rfl, SqT.of (s1 _ _ hR), at_of (j := 5) rfl rfl, rfl, ?_⟩
    show Q (.bl (decide (V.int (clm m z (ws.zip (trn d.c i))) = V.int d.rt))) H1
    rw [h3, decide_eq_true rfl]
    exact k H1 s1
  | bk i =>
    have h1 : d.bs[i]? = some z := hh
    have hP' : H pa = some (.tup [.str "back", .int (i : Int)]) := hP
    refine ⟨_, rfl, pa, _, 0, _, rfl, rfl, SqT.of hP', rfl, rfl, _, rfl, ifF eEB ?_⟩
    refine ⟨_, rfl, _, rfl, _, rfl, _, _, _, rfl, r, d, pa, i, z, rfl, rfl, hR, hP, h1, _, rfl, rfl, ?_⟩
    show Q (.bl (decide (V.int z = V.int z))) H
    rw [decide_eq_true rfl]
    exact k H (Same.refl H)
abbrev N_is_earlier : List Str := ["before", "row", "at"]
theorem sc_is_earlier : FnScope N_is_earlier ["before", "row", "at"] (defScope s_is_earlier) := ⟨rfl, rfl, rfl, by decide +kernel, rfl, by decide +kernel, by decide +kernel⟩
/-- b is the head of the round to which d goes back at i -/
structure Earl (b d : Hd) (i : Nat) : Prop where
  s : b.s = d.s
  h : b.h < d.h
  n : (bks d.n)[i]? = some b.n
def spEarl : Sp := Sp3 fun x y t H Q => ∃ q r b d, ∃ i : Nat, x = .ref q ∧ y = .ref r ∧ t = .int (i : Int) ∧ Rw H q (Hd.row b) ∧ Rw H r (Hd.row d) ∧ b.ok ∧ d.ok ∧ Earl b d i ∧ ∀ H', Same H H' → Q (.bl true) H'
theorem c_is_earlier (D : All K mg) : C8.Cal P w K mg base 5 "is_earlier" spEarl [] := by
  refine cal D.is_earlier sc_is_earlier (fun _ _ _ _ _ _ us hl => match us, hl with | [_, _, _], _ => rfl) len3 fun f cdv A outer s H vs Q E hr h => ?_
  have sc := sc_is_earlier
  obtain ⟨_, _, _, rfl, q, r, b, d, i, rfl, rfl, rfl, hB, hR, okb, okd, he, k⟩ := h
  refine ⟨_, (pss_cons (ps_if (PW.pt (pw_or (pt_not (pt_val (C8.pe_c (c_is_head D) hr (by decide) rfl (pa_cons (pv 0) pa_nil)))) (pw_or (pt_cmpR op_ne (pe_ix ix_tup (pv 0) pe_int (fun _ _ => rfl)) (pe_ix ix_tup (pv 1) pe_int (fun _ _ => rfl)) (nomark _)) (pw_or1 (pt_cmpR op_ge (pe_ix ix_tup (pv 0) pe_int (fun _ _ => rfl)) (pe_ix ix_tup (pv 1) pe_int (fun _ _ => rfl)) (nomark _))))))
    (pss_one (ps_ret pe_bl))
    pss_nil)
    (pss_one (ps_ret (pe_cmpR op_eq (pe_ix ix_tup (pv 0) pe_int (fun _ _ => rfl)) (pe_ix ix_list (C8.pe_c (c_back_rounds D) hr (by decide) rfl (pa_cons (pe_ix ix_tup (pv 1) pe_int (fun _ _ => rfl)) pa_nil)) (pv 2) (fun _ _ => rfl)) (nomark _))))), ?_⟩
  refine ⟨_, rfl, _, rfl, q, _, rfl, hB, okb.hd, fun H1 s1 => ⟨_, rfl, iteF ?_⟩⟩
  have hB1 := s1 _ _ hB
  have hR1 := s1 _ _ hR
  refine ⟨_, rfl, q, _, 1, _, rfl, rfl, SqT.of hB1, at_of (j := 1) rfl rfl, _, rfl, r, _, 1, _, rfl, rfl, SqT.of hR1, at_of (j := 1) rfl rfl, rfl, _, rfl, ifF (by
    show (!decide (V.int b.s = V.int d.s)) = false
    rw [he.s, decide_eq_true rfl]
    rfl) ?_⟩
  refine ⟨_, rfl, q, _, 3, _, rfl, rfl, SqT.of hB1, at_of (j := 3) rfl rfl, _, rfl, r, _, 3, _, rfl, rfl, SqT.of hR1, at_of (j := 3) rfl rfl, _, _, rfl, rfl, _, rfl, ifF (decide_eq_false (by have := he.h; omega)) ?_⟩
  refine ⟨_, rfl, q, _, 2, _, rfl, rfl, SqT.of hB1, at_of (j := 2) rfl rfl, ?_⟩
  refine ⟨_, rfl, r, _, 2, _, rfl, rfl, SqT.of hR1, at_of (j := 2) rfl rfl, _, rfl, d.n, rfl, okd.n4, fun p H2 s2 _ hp => ?_⟩
  refine ⟨_, rfl, p, _, i, _, rfl, rfl, SqL.of hp, at_of rfl (map_at (zs_at he.n)), rfl, ?_⟩
  show Q (.bl (decide (V.int (b.n : Int) = V.int (b.n : Int)))) H2
  rw [decide_eq_true rfl]
  exact k H2 (s1.trans s2)
/-! ### papers -/
structure Stp where
  t : Addr
  ra : Addr
  pa : Addr
  hd : Hd
  pl : Pl
structure StAt (H : Hp) (s : Stp) : Prop where
  t : H s.t = some (.tup [.ref s.ra, .ref s.pa])
  r : Rw H s.ra s.hd.row
  p : PlAt H s.pa s.pl
theorem StAt.mono {H H' : Hp} {x : Stp} (s : Same H H') (h : StAt H x) : StAt H' x := ⟨s _ _ h.t, s _ _ h.r, h.p.mono s⟩
def papF (f l : Addr) : List (Str × V) := [("first", .ref f), ("steps", .ref l)]
def tsOf (ss : List Stp) : List V := ss.map fun s => V.ref s.t
/-- a paper at p -/
structure PapAt (K : PySem.W.Frag) (H : Hp) (p f : Addr) (fn : List Int) (ss : List Stp) : Prop where
  o : ∃ dx l, H p = some (.ins (CP K) dx (papF f l)) ∧ H l = some (.lst (tsOf ss))
  f : Rw H f fn
  st : ∀ s ∈ ss, StAt H s
  len : ss.length ≤ 100
theorem PapAt.mono {H H' : Hp} {p f : Addr} {fn : List Int} {ss : List Stp} (s : Same H H') (h : PapAt K H p f fn ss) : PapAt K H' p f fn ss := by
  obtain ⟨⟨dx, l, h1, h2⟩, h3, h4, h5⟩ := h
  exact ⟨⟨dx, l, s _ _ h1, s _ _ h2⟩, s _ _ h3, fun x hx => (h4 x hx).mono s, h5⟩
theorem put_steps (f l : Addr) : putF "steps" (.ref l) [(("first" : Str), V.ref f)] = papF f l := by
  show (if ("first" : Str) = "steps" then _ else (("first" : Str), V.ref f) :: putF "steps" (.ref l) []) = papF f l
  rw [if_neg (by decide +kernel)]
  rfl
abbrev N_Paper_init : List Str := ["self", "first", "steps"]
theorem sc_Paper_init : FnScope N_Paper_init ["self", "first", "steps"] (defScope s_Paper_init) := ⟨rfl, rfl, rfl, by decide +kernel, rfl, by decide +kernel, by decide +kernel⟩
def spPapI (K : PySem.W.Frag) : Sp := Sp3 fun x y t H Q => ∃ (p dx f l : Addr) (xs : List V), x = .ref p ∧ y = .ref f ∧ t = .ref l ∧ H p = some (.ins (CP K) dx []) ∧ H l = some (.lst xs) ∧
  ∀ u H', (∀ b o, H b = some o → b ≠ p → H' b = some o) → H u = none → H' p = some (.ins (CP K) dx (papF f u)) → H' u = some (.lst xs) → Q .non H'
theorem c_Paper_init (D : All K mg) : C8.Mak P w K mg base 1 "Paper" (CP K) (spPapI K) [] := by
  refine mak D.Paper_init sc_Paper_init (fun _ _ _ _ _ _ us hl => match us, hl with | [_, _, _], _ => rfl) len3 fun fa cdv A outer s H vs Q E hr h => ?_
  have sc := sc_Paper_init
  obtain ⟨_, _, _, rfl, p, dx, f, l, xs, rfl, rfl, rfl, hp, hl, k⟩ := h
  refine ⟨_, (pss_cons (ps_fld (pv 0) (pv 1) rfl)
    (pss_one (ps_fld (pv 0) (pe_callTy call_list_of (by rfl) D.x.list (by decide +kernel) (pa_cons (pv 2) pa_nil)) rfl))), ?_⟩
  refine ⟨_, rfl, _, rfl, p, _, dx, _, rfl, hp, D.x.cP, D.x.nP_first, (by show 0 < 1000; decide), ?_⟩
  have nlp : l ≠ p := ne_of hl hp (by intro z; cases z)
  refine ⟨_, rfl, l, _, rfl, .inl (SqL.of ((upd_ne nlp).trans hl)), fun u hu => ?_⟩
  have nup : u ≠ p := fun e => by
    rw [e, upd_same] at hu
    cases hu
  have hu0 : H u = none := by
    rw [upd_ne nup] at hu
    exact hu
  refine ⟨_, rfl, p, _, dx, _, rfl, (upd_ne nup.symm).trans upd_same, D.x.cP, D.x.nP_steps, (by show 1 < 1000; decide), ?_⟩
  refine k u _ (fun b o e nb => ?_) hu0 ?_ ((upd_ne nup).trans upd_same)
  · rw [upd_ne nb, upd_ne (ne_of_none e hu0), upd_ne nb]
    exact e
  · rw [upd_same]
    exact congrArg some (congrArg (HO.ins (CP K) dx) (put_steps f u))
/-- a new paper -/
theorem pap_made {H H' : Hp} {p dx f u : Addr} {fn : List Int} {ss : List Stp} (np : H p = none) (nd : H dx = none) (hf : Rw H f fn) (hs : ∀ s ∈ ss, StAt H s) (hl : ss.length ≤ 100)
    (k : ∀ b o, upd (upd H dx (.own p)) p (.ins (CP K) dx []) b = some o → b ≠ p → H' b = some o) (h1 : H' p = some (.ins (CP K) dx (papF f u))) (h2 : H' u = some (.lst (tsOf ss))) : Same H H' ∧ PapAt K H' p f fn ss := by
  have s : Same H H' := Same.made np nd k
  exact ⟨s, ⟨dx, u, h1, h2⟩, s _ _ hf, fun x hx => (hs x hx).mono s, hl⟩
/-! ### rows_of -/
abbrev N_rows_of : List Str := ["paper", "row", "place"]
theorem sc_rows_of : FnScope N_rows_of ["paper"] (defScope s_rows_of) := ⟨rfl, rfl, rfl, by decide +kernel, rfl, by decide +kernel, by decide +kernel⟩
def rasOf (ss : List Stp) : List V := ss.map fun s => V.ref s.ra
def spRows (K : PySem.W.Frag) : Sp := Sp1 fun x H Q => ∃ p f fn ss, x = .ref p ∧ PapAt K H p f fn ss ∧ ∀ q H', Same H H' → H q = none → H' q = some (.lst (V.ref f :: rasOf ss)) → Q (.ref q) H'
theorem c_rows_of (D : All K mg) : C8.Cal P w K mg base 1 "rows_of" (spRows K) [] := by
  refine cal D.rows_of sc_rows_of (fun _ _ _ _ _ _ us hl => match us, hl with | [_], _ => rfl) len1 fun fa cdv A outer s H vs Q E hr h => ?_
  have sc := sc_rows_of
  obtain ⟨_, rfl, p, f, fn, ss, rfl, pp, k⟩ := h
  obtain ⟨dx, l, hp, hl⟩ := pp.o
  refine ⟨_, (pss_one (ps_ret (pe_op op_cat (pe_lst (pa_cons (pe_fld (pv 0) rfl) pa_nil)) (pe_lc (own := [("row", 1), ("place", 2)]) (g := (gTup K 2 (gCons (gName 1) (gCons (gName 2) gNil)))) (tt := tYes) rfl sc.nd (pi_list (pe_fld (pv 0) rfl)) (blkOk_by (own := [("row", 1), ("place", 2)]) (N := N_rows_of) (sc := defScope s_rows_of) (by decide +kernel)) (fun _ _ _ _ _ => (pg_tup rfl (pgs_cons (pg_name (i := 1) sc.nd rfl (.inl rfl)) (pgs_cons (pg_name (i := 2) sc.nd rfl (.inl rfl)) pgs_nil)))) (fun _ _ _ _ _ => pts_nil) (fun _ _ _ _ _ => (pv 1)))))), ?_⟩
  refine ⟨_, rfl, p, _, dx, _, _, rfl, hp, D.x.cP, D.x.nP_first, rfl, small (by show 1 ≤ 100000; decide), fun u hu => ?_⟩
  have hl1 : upd H u (.lst [V.ref f]) l = some (.lst (tsOf ss)) := Same.new hu _ _ hl
  refine ⟨_, rfl, p, _, dx, _, _, rfl, Same.new hu _ _ hp, D.x.cP, D.x.nP_steps, rfl, l, rfl, ⟨_, SqL.of hl1⟩, fun C nC => lc_list (K := K) (a := l) (xs := tsOf ss)
    (fun i H2 => H2 = upd (upd H u (.lst [V.ref f])) C (.lst (rasOf (ss.take i)))) rfl (fun i H2 _ e => by rw [e]; exact SqL.of (Same.new nC _ _ hl1)) ?_ ?_⟩
  · rintro i x H2 hx rfl
    obtain ⟨z, hz, rfl⟩ := Option.map_eq_some_iff.mp ((List.getElem?_map ..).symm.trans hx)
    have hi : i < ss.length := (List.getElem?_eq_some_iff.mp hz).1
    have ht := Same.new nC (o := .lst (rasOf (ss.take i))) _ _ (Same.new hu (o := .lst [V.ref f]) _ _ (pp.st z (List.mem_of_getElem? hz)).t)
    refine ⟨z.t, _, rfl, SqT.of ht, rfl, _, _, rfl, _, _, rfl, rfl, rfl, _, rfl, _, upd_same, small1 ?_, ?_⟩
    · unfold rasOf
      rw [List.length_map, List.length_take]
      have := pp.len
      omega
    · rw [upd_upd, List.take_succ, hz]
      unfold rasOf
      rw [List.map_append]
      rfl
  · rintro H2 rfl
    have e : ss.take (tsOf ss).length = ss := List.take_of_length_le (by unfold tsOf; rw [List.length_map]; exact Nat.le_refl _)
    rw [e]
    have nuC : u ≠ C := (ne_of_none (show upd H u (.lst [V.ref f]) u = _ from upd_same) nC)
    refine ⟨u, C, _, _, rfl, rfl, (upd_ne nuC).trans upd_same, upd_same, small ?_, fun q hq => ?_⟩
    · unfold rasOf
      rw [List.length_map]
      have := pp.len
      simp only [List.length_cons, List.length_nil]
      omega
    · exact k q _ (((Same.new hu).trans (Same.new nC)).trans (Same.new hq)) (Same.free ((Same.new hu).trans (Same.new nC)) hq) upd_same
end SR
set_option maxHeartbeats 4000000
namespace SR
open PySem PySem.Spec PyProof.Rows L2
variable {P : Program} {w : World} {K : PySem.W.Frag} {mg : Str → Option Value} {base : Heap}
/-! ### what is accepted -/
/-- a step that is accepted behind the row bn -/
structure Gd (m : Mx) (bn : List Int) (s : Stp) : Prop where
  ok : s.hd.ok
  h : HoldsP m s.hd (dig m bn) s.pl
  e : ∀ i, s.pl = .bk i → ∃ b : Hd, bn = b.row ∧ b.ok ∧ Earl b s.hd i
def Good (m : Mx) : List Int → List Stp → Prop
  | _, [] => True
  | bn, s :: ss => Gd m bn s ∧ Good m s.hd.row ss
theorem Good.at {m : Mx} : ∀ {bn : List Int} {ss : List Stp} {i : Nat} {s : Stp}, Good m bn ss → ss[i]? = some s → Gd m (match i with | 0 => bn | j + 1 => ((ss[j]?).map fun z => z.hd.row).getD []) s
  | _, _ :: _, 0, _, h, e => by
    cases e
    exact h.1
  | bn, x :: ss, i + 1, s, h, e => by
    have q := Good.at (i := i) h.2 e
    cases i with
    | zero => exact q
    | succ j => exact q
theorem Good.append {m : Mx} : ∀ {bn : List Int} {s1 s2 : List Stp}, Good m bn s1 → Good m ((s1.getLast?.map fun z => z.hd.row).getD bn) s2 → Good m bn (s1 ++ s2)
  | _, [], _, _, h => h
  | bn, [x], s2, h1, h2 => ⟨h1.1, h2⟩
  | bn, x :: y :: s1, s2, h1, h2 => ⟨h1.1, Good.append (s1 := y :: s1) h1.2 (by
      rw [List.getLast?_cons_cons] at h2
      cases q : (y :: s1).getLast? with
      | none => simp at q
      | some z =>
        rw [q] at h2
        exact h2)⟩
abbrev N__why : List Str := ["mixing", "before", "row", "place"]
theorem sc_why : FnScope N__why ["mixing", "before", "row", "place"] (defScope s__why) := ⟨rfl, rfl, rfl, by decide +kernel, rfl, by decide +kernel, by decide +kernel⟩
def spWhy (K : PySem.W.Frag) : Sp := Sp4 fun x0 x y t H Q => ∃ mx q m bn s, x0 = .ref mx ∧ x = .ref q ∧ y = .ref (Stp.ra s) ∧ t = .ref s.pa ∧ MxAt K H mx m ∧ MOk m ∧ Rw H q bn ∧ StAt H s ∧ Gd m bn s ∧ ∀ H', Same H H' → Q .non H'
theorem c__why (D : All K mg) : C8.Cal P w K mg base 6 "_why" (spWhy K) [] := by
  refine cal D._why sc_why (fun _ _ _ _ _ _ us hl => match us, hl with | [_, _, _, _], _ => rfl) len4 fun f cdv A outer s H vs Q E hr h => ?_
  have sc := sc_why
  obtain ⟨_, _, _, _, rfl, mx, q, m, bn, z, rfl, rfl, rfl, rfl, hM, mo, hB, hz, g, k⟩ := h
  refine ⟨_, (pss_cons (ps_if (pt_not (pt_val (C8.pe_c (c_is_thing D) hr (by decide) rfl (pa_cons (pv 2) pa_nil))))
    (pss_one (ps_ret pe_str))
    pss_nil)
    (pss_cons (ps_if (pt_not (pt_val (C8.pe_c (c_has_place D) hr (by decide) rfl (pa_cons (pv 2) (pa_cons (pv 3) pa_nil)))))
    (pss_one (ps_ret pe_str))
    pss_nil)
    (pss_cons (ps_if (pt_not (pt_val (C8.pe_c (c_holds D) hr (by decide) rfl (pa_cons (pv 0) (pa_cons (pv 2) (pa_cons (pv 3) (pa_cons (C8.pe_c (c_digest D) hr (by decide) rfl (pa_cons (pv 0) (pa_cons (pv 1) pa_nil))) pa_nil)))))))
    (pss_one (ps_ret pe_str))
    pss_nil)
    (pss_cons (ps_if (PW.pt (pw_and (pt_cmpR op_eq (pe_ix ix_tup (pv 3) pe_int (fun _ _ => rfl)) pe_str (nomark _)) (pw_and1 (pt_not (pt_val (C8.pe_c (c_is_earlier D) hr (by decide) rfl (pa_cons (pv 1) (pa_cons (pv 2) (pa_cons (pe_ix ix_tup (pv 3) pe_int (fun _ _ => rfl)) pa_nil)))))))))
    (pss_one (ps_ret pe_str))
    pss_nil)
    (pss_one (ps_ret pe_non)))))), ?_⟩
  refine ⟨_, rfl, _, rfl, z.ra, _, rfl, hz.r, .inr (.inr g.ok.hd), fun H1 s1 => ⟨_, rfl, iteF ?_⟩⟩
  refine ⟨_, rfl, _, rfl, _, _, rfl, z.ra, z.hd, z.pa, z.pl, rfl, rfl, (hz.mono s1).r, (hz.mono s1).p, g.h.pl, _, rfl, iteF ?_⟩
  refine ⟨_, rfl, _, rfl, _, rfl, _, rfl, _, rfl, _, _, rfl, mx, q, m, bn, rfl, rfl, hM.mono s1, mo, s1 _ _ hB, ?_⟩
  refine ⟨_, _, _, _, rfl, mx, z.ra, z.pa, m, z.hd, z.pl, _, rfl, rfl, rfl, rfl, hM.mono s1, mo, (hz.mono s1).r, g.ok, (hz.mono s1).p, g.h, fun H2 s2 => ⟨_, rfl, iteF ?_⟩⟩
  have t2 := s1.trans s2
  have hp := (hz.mono t2).p
  have ge := g.e
  cases e : z.pl with
  | ent i ws =>
    rw [e] at hp
    obtain ⟨wa, hp, _⟩ := hp
    refine ⟨_, rfl, z.pa, _, 0, _, rfl, rfl, SqT.of hp, rfl, rfl, _, rfl, ifF eBE (iteF ?_)⟩
    exact k H2 t2
  | bk i =>
    rw [e] at hp
    have hp : H2 z.pa = some (.tup [.str "back", .int (i : Int)]) := hp
    obtain ⟨b, eb, okb, he⟩ := ge i e
    subst eb
    refine ⟨_, rfl, z.pa, _, 0, _, rfl, rfl, SqT.of hp, rfl, rfl, _, rfl, ifT eBB ?_⟩
    refine ⟨_, rfl, _, rfl, _, rfl, z.pa, _, 1, _, rfl, rfl, SqT.of hp, rfl, ?_⟩
    refine ⟨_, _, _, rfl, q, z.ra, b, z.hd, i, rfl, rfl, rfl, t2 _ _ hB, (hz.mono t2).r, okb, g.ok, he, fun H3 s3 => ⟨_, rfl, iteF ?_⟩⟩
    exact k H3 (t2.trans s3)
/-- the row ahead of the i-th step -/
def aheadA (f : Addr) (ss : List Stp) : Nat → Addr
  | 0 => f
  | j + 1 => ((ss[j]?).map fun z => z.ra).getD 0
def aheadN (fn : List Int) (ss : List Stp) : Nat → List Int
  | 0 => fn
  | j + 1 => ((ss[j]?).map fun z => z.hd.row).getD []
theorem ahead_at {H : Hp} {f : Addr} {fn : List Int} {ss : List Stp} (hf : Rw H f fn) (hs : ∀ s ∈ ss, StAt H s) (i : Nat) (hi : i ≤ ss.length) : Rw H (aheadA f ss i) (aheadN fn ss i) := by
  cases i with
  | zero => exact hf
  | succ j =>
    have e := List.getElem?_eq_getElem (show j < ss.length by omega)
    show H (((ss[j]?).map fun z => z.ra).getD 0) = some (.tup ((((ss[j]?).map fun z => z.hd.row).getD []).map V.int))
    rw [e]
    exact (hs _ (List.getElem_mem _)).r
abbrev N__refusal : List Str := ["mixing", "paper", "before", "at", "row", "place", "why"]
theorem sc_refusal : FnScope N__refusal ["mixing", "paper"] (defScope s__refusal) := ⟨rfl, rfl, rfl, by decide +kernel, rfl, by decide +kernel, by decide +kernel⟩
def spRef (K : PySem.W.Frag) (Z : V) : Sp := Sp2 fun x y H Q => ∃ mx p m f fn ss, x = .ref mx ∧ y = .ref p ∧ MxAt K H mx m ∧ MOk m ∧ PapAt K H p f fn ss ∧ TOk fn ∧ Good m fn ss ∧ ∀ H', Same H H' → Q Z H'
theorem c__refusal (D : All K mg) : C8.Cal P w K mg base 7 "_refusal" (spRef K .non) [] := by
  refine cal D._refusal sc_refusal (fun _ _ _ _ _ _ us hl => match us, hl with | [_, _], _ => rfl) len2 fun fa cdv A outer s H vs Q E hr h => ?_
  have sc := sc_refusal
  obtain ⟨_, _, rfl, mx, p, m, f, fn, ss, rfl, rfl, hM, mo, pp, tk, g, k⟩ := h
  obtain ⟨dx, l, hp, hl⟩ := pp.o
  refine ⟨_, (pss_cons (ps_if (pt_not (pt_val (C8.pe_c (c_is_thing D) hr (by decide) rfl (pa_cons (pe_fld (pv 1) rfl) pa_nil))))
    (pss_one (ps_ret (pe_tup (pa_cons pe_int (pa_cons pe_str pa_nil)))))
    pss_nil)
    (pss_cons (ps_set (i := 2) sc.nd rfl (.inl rfl) (pe_fld (pv 1) rfl))
    (pss_cons (ps_for PassesOwn.never rfl (pi_enum (by rfl) D.x.enumerate (pa_cons (pe_fld (pv 1) rfl) pa_nil)) (pg_tup rfl (pgs_cons (pg_name (i := 3) sc.nd rfl (.inl rfl)) (pgs_cons (pg_tup rfl (pgs_cons (pg_name (i := 4) sc.nd rfl (.inl rfl)) (pgs_cons (pg_name (i := 5) sc.nd rfl (.inl rfl)) pgs_nil))) pgs_nil)))
    (pss_cons (ps_set (i := 6) sc.nd rfl (.inl rfl) (C8.pe_c (c__why D) hr (by decide) rfl (pa_cons (pv 0) (pa_cons (pv 2) (pa_cons (pv 4) (pa_cons (pv 5) pa_nil))))))
      (pss_cons (ps_if (pt_cmp (pc_notN (pv 6)))
      (pss_one (ps_ret (pe_tup (pa_cons (pe_op op_add (pv 3) pe_int) (pa_cons (pv 6) pa_nil)))))
      pss_nil)
      (pss_one (ps_set (i := 2) sc.nd rfl (.inl rfl) (pv 4))))))
    (pss_one (ps_ret pe_non))))), ?_⟩
  refine ⟨_, rfl, p, _, dx, _, _, rfl, hp, D.x.cP, D.x.nP_first, rfl, _, rfl, f, fn, rfl, pp.f, tk, fun H1 s1 => ⟨_, rfl, iteF ?_⟩⟩
  refine ⟨_, rfl, p, _, dx, _, _, rfl, s1 _ _ hp, D.x.cP, D.x.nP_first, rfl, ?_⟩
  refine ⟨_, rfl, p, _, dx, _, _, rfl, s1 _ _ hp, D.x.cP, D.x.nP_steps, rfl, l, _, rfl, SqL.of (s1 _ _ hl), for_it (walk_enum (K := K) (a := l) (xs := tsOf ss))
    (fun i σ H' => Same H H' ∧ ∃ v3 v4 v5 v6 : Option V, σ = [some (.ref mx), some (.ref p), some (.ref (aheadA f ss i)), v3, v4, v5, v6]) ⟨s1, none, none, none, none, rfl⟩ (fun i σ H' _ ⟨s, _⟩ => SqL.of (s _ _ hl)) ?_ ?_⟩
  · rintro i x σ H' H2 hi ⟨t, v3, v4, v5, v6, rfl⟩ ⟨T, _, y, rfl, hT, rfl, hx0, hy⟩
    cases hx0
    obtain ⟨z, hz, rfl⟩ := Option.map_eq_some_iff.mp ((List.getElem?_map ..).symm.trans hy)
    have hil : i < ss.length := (List.getElem?_eq_some_iff.mp hz).1
    have s2 : Same H (upd H' T (.tup [.int (i : Nat), .ref z.t])) := t.trans (Same.new hT)
    have pp2 := pp.mono s2
    have hst := pp2.st z (List.mem_of_getElem? hz)
    refine ⟨T, _, rfl, SqT.of upd_same, rfl, _, _, rfl, _, _, rfl, z.t, _, rfl, SqT.of hst.t, rfl, _, _, rfl, _, _, rfl, rfl, rfl, ?_⟩
    have gz := g.at hz
    have ha := ahead_at pp2.f pp2.st i (by omega)
    refine ⟨_, rfl, _, rfl, _, rfl, _, rfl, _, _, _, _, rfl, mx, aheadA f ss i, m, aheadN fn ss i, z, rfl, rfl, rfl, rfl, hM.mono s2, mo, ha, hst, ?_, fun H3 s3 => ?_⟩
    · cases i with
      | zero => exact gz
      | succ j => exact gz
    refine ⟨_, rfl, _, rfl, iteF ⟨_, rfl, s2.trans s3, some (.int (i : Nat)), some (.ref z.ra), some (.ref z.pa), some .non, ?_⟩⟩
    have e : aheadA f ss (i + 1) = z.ra := by
      show ((ss[i]?).map fun z => z.ra).getD 0 = z.ra
      rw [hz]
      rfl
    rw [e]
    rfl
  · rintro σ H' ⟨t, v3, v4, v5, v6, rfl⟩
    exact k H' t
/-! ### is_accepted, check -/
abbrev N_is_accepted : List Str := ["mixing", "paper"]
theorem sc_is_accepted : FnScope N_is_accepted ["mixing", "paper"] (defScope s_is_accepted) := ⟨rfl, rfl, rfl, by decide +kernel, rfl, by decide +kernel, by decide +kernel⟩
theorem c_is_accepted (D : All K mg) : C8.Cal P w K mg base 8 "is_accepted" (spRef K (.bl true)) [] := by
  refine cal D.is_accepted sc_is_accepted (fun _ _ _ _ _ _ us hl => match us, hl with | [_, _], _ => rfl) len2 fun fa cdv A outer s H vs Q E hr h => ?_
  have sc := sc_is_accepted
  obtain ⟨_, _, rfl, mx, p, m, f, fn, ss, rfl, rfl, hM, mo, pp, tk, g, k⟩ := h
  refine ⟨_, (pss_one (ps_ret (pe_cmp (pc_isN (C8.pe_c (c__refusal D) hr (by decide) rfl (pa_cons (pv 0) (pa_cons (pv 1) pa_nil)))) rfl))), ?_⟩
  exact ⟨_, rfl, _, rfl, _, _, rfl, mx, p, m, f, fn, ss, rfl, rfl, hM, mo, pp, tk, g, fun H1 s1 => k H1 s1⟩
def lastN (fn : List Int) (ss : List Stp) : List Int := (ss.getLast?.map fun z => z.hd.row).getD fn
theorem last_at {H : Hp} {f : Addr} {fn : List Int} {ss : List Stp} (hf : Rw H f fn) (hs : ∀ s ∈ ss, StAt H s) : ∃ (xs : List V) (a : Addr), V.ref f :: rasOf ss = xs ++ [V.ref a] ∧ Rw H a (lastN fn ss) := by
  rcases List.eq_nil_or_concat ss with e | ⟨ss', z, e⟩
  · subst e
    exact ⟨[], f, rfl, hf⟩
  · rw [List.concat_eq_append] at e
    subst e
    refine ⟨V.ref f :: rasOf ss', z.ra, ?_, ?_⟩
    · unfold rasOf
      rw [List.map_append]
      rfl
    · unfold lastN
      rw [List.getLast?_append]
      exact (hs z (by simp)).r
abbrev N_check : List Str := ["mixing", "paper", "refusal", "step", "reason"]
theorem sc_check : FnScope N_check ["mixing", "paper"] (defScope s_check) := ⟨rfl, rfl, rfl, by decide +kernel, rfl, by decide +kernel, by decide +kernel⟩
def spChk (K : PySem.W.Frag) : Sp := Sp2 fun x y H Q => ∃ mx p m f fn ss, x = .ref mx ∧ y = .ref p ∧ MxAt K H mx m ∧ MOk m ∧ PapAt K H p f fn ss ∧ TOk fn ∧ Good m fn ss ∧ NewT H [dig m fn, dig m (lastN fn ss)] Q
theorem c_check (D : All K mg) : C8.Cal P w K mg base 8 "check" (spChk K) [] := by
  refine cal D.check sc_check (fun _ _ _ _ _ _ us hl => match us, hl with | [_, _], _ => rfl) len2 fun fa cdv A outer s H vs Q E hr h => ?_
  have sc := sc_check
  obtain ⟨_, _, rfl, mx, p, m, f, fn, ss, rfl, rfl, hM, mo, pp, tk, g, k⟩ := h
  refine ⟨_, (pss_cons (ps_set (i := 2) sc.nd rfl (.inl rfl) (C8.pe_c (c__refusal D) hr (by decide) rfl (pa_cons (pv 0) (pa_cons (pv 1) pa_nil))))
    (pss_cons (ps_if (pt_cmp (pc_notN (pv 2)))
    (pss_cons (ps_asg (pv 2) (pg_tup rfl (pgs_cons (pg_name (i := 3) sc.nd rfl (.inl rfl)) (pgs_cons (pg_name (i := 4) sc.nd rfl (.inl rfl)) pgs_nil))))
      (pss_one ps_never))
    pss_nil)
    (pss_one (ps_ret (pe_tup (pa_cons (C8.pe_c (c_digest D) hr (by decide) rfl (pa_cons (pv 0) (pa_cons (pe_fld (pv 1) rfl) pa_nil))) (pa_cons (C8.pe_c (c_digest D) hr (by decide) rfl (pa_cons (pv 0) (pa_cons (pe_ix ix_list (C8.pe_c (c_rows_of D) hr (by decide) rfl (pa_cons (pv 1) pa_nil)) (pe_un un_neg pe_int) (fun _ _ => rfl)) pa_nil))) pa_nil))))))), ?_⟩
  refine ⟨_, rfl, _, rfl, _, _, rfl, mx, p, m, f, fn, ss, rfl, rfl, hM, mo, pp, tk, g, fun H1 s1 => ?_⟩
  refine ⟨_, rfl, _, rfl, iteF ?_⟩
  have pp1 := pp.mono s1
  obtain ⟨dx, l, hp, hl⟩ := pp1.o
  refine ⟨_, rfl, _, rfl, p, _, dx, _, _, rfl, hp, D.x.cP, D.x.nP_first, rfl, _, _, rfl, mx, f, m, fn, rfl, rfl, hM.mono s1, mo, pp1.f, ?_⟩
  refine ⟨_, rfl, _, rfl, _, rfl, p, f, fn, ss, rfl, pp1, fun q H2 s2 nq hq => ?_⟩
  have pp2 := pp1.mono s2
  obtain ⟨xs, a, ex, ha⟩ := last_at pp2.f pp2.st
  rw [ex] at hq
  refine ⟨_, rfl, q, _, _, _, rfl, rfl, SqL.of hq, atI_last _ _, _, _, rfl, mx, a, m, _, rfl, rfl, (hM.mono s1).mono s2, mo, ha, small (by show 2 ≤ 100000; decide), fun t ht => ?_⟩
  have s3 := s1.trans s2
  exact k t _ (s3.trans (Same.new ht)) (Same.free s3 ht) upd_same
/-! ### joined -/
abbrev N_joined : List Str := ["one", "two"]
theorem sc_joined : FnScope N_joined ["one", "two"] (defScope s_joined) := ⟨rfl, rfl, rfl, by decide +kernel, rfl, by decide +kernel, by decide +kernel⟩
/-- a new paper -/
def NewP (K : PySem.W.Frag) (H : Hp) (f : Addr) (fn : List Int) (ss : List Stp) (Q : VK) : Prop := ∀ p H', Same H H' → PapAt K H' p f fn ss → Q (.ref p) H'
def spJoin (K : PySem.W.Frag) : Sp := Sp2 fun x y H Q => ∃ p q f g fn gn s1 s2, x = .ref p ∧ y = .ref q ∧ PapAt K H p f fn s1 ∧ PapAt K H q g gn s2 ∧ s1.length + s2.length ≤ 100 ∧ NewP K H f fn (s1 ++ s2) Q
theorem c_joined (D : All K mg) : C8.Cal P w K mg base 3 "joined" (spJoin K) [] := by
  refine cal D.joined sc_joined (fun _ _ _ _ _ _ us hl => match us, hl with | [_, _], _ => rfl) len2 fun fa cdv A outer s H vs Q E hr h => ?_
  have sc := sc_joined
  obtain ⟨_, _, rfl, p, q, f, g, fn, gn, s1, s2, rfl, rfl, p1, p2, hlen, k⟩ := h
  obtain ⟨dx, l, hp, hl⟩ := p1.o
  obtain ⟨dy, l2, hq, hl2⟩ := p2.o
  refine ⟨_, (pss_one (ps_ret (C8.pe_mk (c_Paper_init D) hr (by decide) rfl (pa_cons (pe_fld (pv 0) rfl) (pa_cons (pe_op op_cat (pe_fld (pv 0) rfl) (pe_fld (pv 1) rfl)) pa_nil))))), ?_⟩
  refine ⟨_, rfl, p, _, dx, _, _, rfl, hp, D.x.cP, D.x.nP_first, rfl, _, rfl, p, _, dx, _, _, rfl, hp, D.x.cP, D.x.nP_steps, rfl, _, rfl, q, _, dy, _, _, rfl, hq, D.x.cP, D.x.nP_steps, rfl, l, l2, _, _, rfl, rfl, hl, hl2, small ?_, fun u hu => ?_⟩
  · unfold tsOf
    rw [List.length_map, List.length_map]
    omega
  intro x dz nx ndz nex
  have su : Same H (upd H u (.lst (tsOf s1 ++ tsOf s2))) := Same.new hu
  refine ⟨_, _, _, rfl, x, dz, f, u, tsOf s1 ++ tsOf s2, rfl, rfl, rfl, upd_same, ?_, fun u2 H' kp nu2 h1 h2 => ⟨rfl, ?_⟩⟩
  · have hu1 : upd H u (.lst (tsOf s1 ++ tsOf s2)) u = some (.lst (tsOf s1 ++ tsOf s2)) := upd_same
    rw [upd_ne (ne_of_none hu1 nx), upd_ne (ne_of_none hu1 ndz)]
    exact hu1
  · have e : tsOf s1 ++ tsOf s2 = tsOf (s1 ++ s2) := by unfold tsOf; rw [List.map_append]
    rw [e] at h2
    obtain ⟨sm, pm⟩ := pap_made (fn := fn) (ss := s1 ++ s2) nx ndz (su _ _ p1.f) (fun z hz => by
      rcases List.mem_append.mp hz with y | y
      · exact (p1.st z y).mono su
      · exact (p2.st z y).mono su) (by rw [List.length_append]; exact hlen) kp h1 h2
    exact k x H' (su.trans sm) pm
end SR
set_option maxHeartbeats 4000000
namespace SR
open PySem PySem.Spec PyProof.Rows L2
variable {P : Program} {w : World} {K : PySem.W.Frag} {mg : Str → Option Value} {base : Heap}
/-! ### services -/
/-- a closed round: its head, where it stands, its pair, its entries -/
structure Rnd where
  hd : Hd
  ha : Addr
  pr : Addr
  ea : Addr
  es : List Int
structure RndAt (H : Hp) (r : Rnd) : Prop where
  pr : H r.pr = some (.tup [.ref r.ha, .ref r.ea])
  ha : Rw H r.ha r.hd.row
  ea : Rw H r.ea r.es
theorem RndAt.mono {H H' : Hp} {r : Rnd} (s : Same H H') (h : RndAt H r) : RndAt H' r := ⟨s _ _ h.pr, s _ _ h.ha, s _ _ h.ea⟩
def svF (nm : Int) (mx c p w : Addr) : List (Str × V) := [("name", .int nm), ("mixing", .ref mx), ("closed", .ref c), ("pending", .ref p), ("written", .ref w)]
structure Sv where
  x : Addr
  dx : Addr
  mx : Addr
  c : Addr
  p : Addr
  w : Addr
  nm : Int
  rs : List Rnd
  ps : List Int
  wl : Nat
def prsOf (rs : List Rnd) : List V := rs.map fun r => V.ref r.pr
/-- a service at S.x -/
structure SvAt (K : PySem.W.Frag) (H : Hp) (S : Sv) : Prop where
  o : H S.x = some (.ins (CS K) S.dx (svF S.nm S.mx S.c S.p S.w))
  c : H S.c = some (.lst (prsOf S.rs))
  p : Li H S.p S.ps
  w : ∃ ws, H S.w = some (.lst ws) ∧ ws.length ≤ S.wl
  r : ∀ r ∈ S.rs, RndAt H r
  wp : S.w ≠ S.p
  wc : S.w ≠ S.c
  pc : S.p ≠ S.c
theorem SvAt.mono {H H' : Hp} {S : Sv} (s : Same H H') (h : SvAt K H S) : SvAt K H' S := by
  obtain ⟨ws, h1, h2⟩ := h.w
  exact ⟨s _ _ h.o, s _ _ h.c, s _ _ h.p, ⟨ws, s _ _ h1, h2⟩, fun r hr => (h.r r hr).mono s, h.wp, h.wc, h.pc⟩
/-- a tuple stands behind a change of lists and instances -/
theorem But.tup {S : List Addr} {H H' : Hp} {a : Addr} {xs : List V} (b : But S H H') (h : H a = some (.tup xs)) (n : ∀ c ∈ S, ∀ ys, H c ≠ some (.tup ys)) : H' a = some (.tup xs) := b _ _ (fun m => n a m xs h) h
theorem putF_new (f : Str) (v : V) : ∀ fs : List (Str × V), (fs.map (·.1)).contains f = false → putF f v fs = fs ++ [(f, v)]
  | [], _ => rfl
  | (g, x) :: r, h => by
    rw [List.map_cons, List.contains_cons, Bool.or_eq_false_iff] at h
    show (if g = f then (g, v) :: r else (g, x) :: putF f v r) = _
    rw [if_neg (fun e => by rw [e] at h; simp at h), putF_new f v r h.2]
    rfl
theorem svF_pending (nm : Int) (mx c p w q : Addr) : putF "pending" (.ref q) (svF nm mx c p w) = svF nm mx c q w := by
  show (if ("name" : Str) = "pending" then _ else (("name" : Str), V.int nm) :: (if ("mixing" : Str) = "pending" then _ else (("mixing" : Str), V.ref mx) :: (if ("closed" : Str) = "pending" then _ else (("closed" : Str), V.ref c) :: (if ("pending" : Str) = "pending" then (("pending" : Str), V.ref q) :: [(("written" : Str), V.ref w)] else _)))) = _
  rw [if_neg (by decide +kernel), if_neg (by decide +kernel), if_neg (by decide +kernel), if_pos rfl]
  rfl
abbrev N_Service_init : List Str := ["self", "name", "mixing"]
theorem sc_Service_init : FnScope N_Service_init ["self", "name", "mixing"] (defScope s_Service_init) := ⟨rfl, rfl, rfl, by decide +kernel, rfl, by decide +kernel, by decide +kernel⟩
def spSvI (K : PySem.W.Frag) : Sp := Sp3 fun x y t H Q => ∃ (a dx mx : Addr) (nm : Int), x = .ref a ∧ y = .int nm ∧ t = .ref mx ∧ H a = some (.ins (CS K) dx []) ∧
  ∀ c p u H', (∀ b o, H b = some o → b ≠ a → H' b = some o) → H c = none → H p = none → H u = none → SvAt K H' ⟨a, dx, mx, c, p, u, nm, [], [], 0⟩ → Q .non H'
theorem c_Service_init (D : All K mg) : C8.Mak P w K mg base 1 "Service" (CS K) (spSvI K) [] := by
  refine mak D.Service_init sc_Service_init (fun _ _ _ _ _ _ us hl => match us, hl with | [_, _, _], _ => rfl) len3 fun fa cdv A outer s H vs Q E hr h => ?_
  have sc := sc_Service_init
  obtain ⟨_, _, _, rfl, a, dx, mx, nm, rfl, rfl, rfl, ho, k⟩ := h
  refine ⟨_, (pss_cons (ps_fld (pv 0) (pv 1) rfl)
    (pss_cons (ps_fld (pv 0) (pv 2) rfl)
    (pss_cons (ps_fld (pv 0) (pe_lst pa_nil) rfl)
    (pss_cons (ps_fld (pv 0) (pe_lst pa_nil) rfl)
    (pss_one (ps_fld (pv 0) (pe_lst pa_nil) rfl)))))), ?_⟩
  have e2 : putF "mixing" (.ref mx) [(("name" : Str), V.int nm)] = [(("name" : Str), V.int nm), (("mixing" : Str), V.ref mx)] := putF_new _ _ _ (by show (["name"] : List Str).contains "mixing" = false; decide +kernel)
  have e3 : ∀ c, putF "closed" (.ref c) [(("name" : Str), V.int nm), (("mixing" : Str), V.ref mx)] = [(("name" : Str), V.int nm), (("mixing" : Str), V.ref mx), (("closed" : Str), V.ref c)] := fun c => putF_new _ _ _ (by show (["name", "mixing"] : List Str).contains "closed" = false; decide +kernel)
  have e4 : ∀ c p, putF "pending" (.ref p) [(("name" : Str), V.int nm), (("mixing" : Str), V.ref mx), (("closed" : Str), V.ref c)] = [(("name" : Str), V.int nm), (("mixing" : Str), V.ref mx), (("closed" : Str), V.ref c), (("pending" : Str), V.ref p)] := fun c p => putF_new _ _ _ (by show (["name", "mixing", "closed"] : List Str).contains "pending" = false; decide +kernel)
  have e5 : ∀ c p u, putF "written" (.ref u) [(("name" : Str), V.int nm), (("mixing" : Str), V.ref mx), (("closed" : Str), V.ref c), (("pending" : Str), V.ref p)] = svF nm mx c p u := fun c p u => putF_new _ _ _ (by show (["name", "mixing", "closed", "pending"] : List Str).contains "written" = false; decide +kernel)
  refine ⟨_, rfl, _, rfl, a, _, dx, _, rfl, ho, D.x.cS, D.x.nS_name, (by show 0 < 1000; decide), ?_⟩
  refine ⟨_, rfl, _, rfl, a, _, dx, _, rfl, upd_same, D.x.cS, D.x.nS_mixing, (by show 1 < 1000; decide), ?_⟩
  refine ⟨Nat.zero_le _, fun c hc => ?_⟩
  have eN : putF "name" (.int nm) [] = [(("name" : Str), V.int nm)] := rfl
  rw [eN, e2, upd_upd] at hc ⊢
  have nac : a ≠ c := (ne_of_none (show upd H a _ a = _ from upd_same) hc)
  refine ⟨_, rfl, a, _, dx, _, rfl, (upd_ne nac).trans upd_same, D.x.cS, D.x.nS_closed, (by show 2 < 1000; decide), ?_⟩
  rw [e3]
  refine ⟨Nat.zero_le _, fun p hp => ?_⟩
  have nap : a ≠ p := (ne_of_none (show upd _ a _ a = _ from upd_same) hp)
  refine ⟨_, rfl, a, _, dx, _, rfl, (upd_ne nap).trans upd_same, D.x.cS, D.x.nS_pending, (by show 3 < 1000; decide), ?_⟩
  rw [e4]
  refine ⟨Nat.zero_le _, fun u hu => ?_⟩
  have nau : a ≠ u := (ne_of_none (show upd _ a _ a = _ from upd_same) hu)
  refine ⟨_, rfl, a, _, dx, _, rfl, (upd_ne nau).trans upd_same, D.x.cS, D.x.nS_written, (by show 4 < 1000; decide), ?_⟩
  rw [e5]
  have hc0 : H c = none := by
    rw [upd_ne nac.symm] at hc
    exact hc
  have npc : p ≠ c := fun e => by
    rw [e, upd_ne nac.symm, upd_same] at hp
    cases hp
  have hp0 : H p = none := by
    rw [upd_ne nap.symm, upd_ne npc, upd_ne nap.symm] at hp
    exact hp
  have nup : u ≠ p := fun e => by
    rw [e, upd_ne nap.symm, upd_same] at hu
    cases hu
  have nuc : u ≠ c := fun e => by
    rw [e, upd_ne nac.symm, upd_ne npc.symm, upd_ne nac.symm, upd_same] at hu
    cases hu
  have hu0 : H u = none := by
    rw [upd_ne nau.symm, upd_ne nup, upd_ne nau.symm, upd_ne nuc, upd_ne nau.symm] at hu
    exact hu
  refine k c p u _ (fun b o e nb => ?_) hc0 hp0 hu0 ⟨upd_same, ?_, ?_, ⟨[], ?_, Nat.le_refl _⟩, fun r hr => (by cases hr), nup, nuc, npc⟩
  · rw [upd_ne nb, upd_ne (ne_of_none e hu0), upd_ne nb, upd_ne (ne_of_none e hp0), upd_ne nb, upd_ne (ne_of_none e hc0), upd_ne nb]
    exact e
  · show upd _ _ _ c = _
    rw [upd_ne nac.symm, upd_ne nuc.symm, upd_ne nac.symm, upd_ne npc.symm, upd_ne nac.symm, upd_same]
    rfl
  · show upd _ _ _ p = _
    rw [upd_ne nap.symm, upd_ne nup.symm, upd_ne nap.symm, upd_same]
    rfl
  · show upd _ _ _ u = _
    rw [upd_ne nau.symm, upd_same]
/-! ### enter -/
abbrev N_Service_enter : List Str := ["self", "number"]
theorem sc_Service_enter : FnScope N_Service_enter ["self", "number"] (defScope s_Service_enter) := ⟨rfl, rfl, rfl, by decide +kernel, rfl, by decide +kernel, by decide +kernel⟩
def spEnter (K : PySem.W.Frag) : Sp := Sp2 fun x y H Q => ∃ (S : Sv) (z : Int), x = .ref S.x ∧ y = .int z ∧ SvAt K H S ∧ S.wl ≤ 1000 ∧ S.ps.length ≤ 100 ∧ ∀ H', But [S.w, S.p] H H' → SvAt K H' { S with ps := S.ps ++ [z], wl := S.wl + 2 } → Q (.int (S.ps.length : Int)) H'
theorem c_Service_enter (D : All K mg) : C8.Met P w K mg base 1 (CS K) "enter" (spEnter K) [] := by
  refine met D.x.cS D.Service_enter sc_Service_enter (fun _ _ _ _ _ _ us hl => match us, hl with | [_, _], _ => rfl) len2 fun fa cdv A outer s H vs Q E hr h => ?_
  have sc := sc_Service_enter
  obtain ⟨_, _, rfl, S, z, rfl, rfl, hS, hw, hp, k⟩ := h
  obtain ⟨ws, hW, hwl⟩ := hS.w
  refine ⟨_, (pss_cons (ps_expr (pe_bm PySem.F.plainAttrs_list PySem.F.slot_list_extend PySem.F.type_list_extend mt_extend (pe_fld (pv 0) rfl) (pa_cons (pe_lst (pa_cons (C8.pe_gc rfl D.x.ENTER) (pa_cons (pv 1) pa_nil))) pa_nil)))
    (pss_cons (ps_expr (pe_bm PySem.F.plainAttrs_list PySem.F.slot_list_append PySem.F.type_list_append mt_append (pe_fld (pv 0) rfl) (pa_cons (pv 1) pa_nil)))
    (pss_one (ps_ret (pe_op op_sub (pe_callB call_len_seq (by rfl) D.x.len PySem.boot_len (pa_cons (pe_fld (pv 0) rfl) pa_nil)) pe_int))))), ?_⟩
  refine ⟨_, rfl, S.x, _, S.dx, _, _, rfl, hS.o, D.x.cS, D.x.nS_written, rfl, .inl ⟨rfl, _, SqL.of hW⟩, _, rfl, small (by show 2 ≤ 100000; decide), fun u hu => ?_⟩
  have sU : Same H (upd H u (.lst [V.int 1, V.int z])) := Same.new hu
  refine ⟨S.w, u, _, _, rfl, rfl, sU _ _ hW, upd_same, small ?_, ?_⟩
  · simp only [List.length_cons, List.length_nil]
    omega
  have nxw : S.x ≠ S.w := ne_of hS.o hW (by intro q; cases q)
  have nxp : S.x ≠ S.p := ne_of hS.o hS.p (by intro q; cases q)
  have hP2 : upd (upd H u (.lst [V.int 1, V.int z])) S.w (.lst (ws ++ [V.int 1, V.int z])) S.p = some (.lst (S.ps.map V.int)) := (upd_ne hS.wp.symm).trans (sU _ _ hS.p)
  have hO2 : upd (upd H u (.lst [V.int 1, V.int z])) S.w (.lst (ws ++ [V.int 1, V.int z])) S.x = some (.ins (CS K) S.dx (svF S.nm S.mx S.c S.p S.w)) := (upd_ne nxw).trans (sU _ _ hS.o)
  refine ⟨_, rfl, S.x, _, S.dx, _, _, rfl, hO2, D.x.cS, D.x.nS_pending, rfl, .inl ⟨rfl, _, SqL.of hP2⟩, _, rfl, S.p, _, _, rfl, rfl, hP2, small1 (by rw [List.length_map]; omega), ?_⟩
  have bt : But [S.w, S.p] H (upd (upd (upd H u (.lst [V.int 1, V.int z])) S.w (.lst (ws ++ [V.int 1, V.int z]))) S.p (.lst (S.ps.map V.int ++ [V.int z]))) :=
    ((Same.but sU).trans (But.at (by simp))).trans (But.at (by simp))
  refine ⟨_, rfl, S.x, _, S.dx, _, _, rfl, (upd_ne nxp).trans hO2, D.x.cS, D.x.nS_pending, rfl, S.p, _, rfl, .inl (SqL.of upd_same), _, _, rfl, rfl, ?_⟩
  have ek : ((((S.ps.map V.int ++ [V.int z]).length : Nat) : Int) - 1) = (S.ps.length : Int) := by
    rw [List.length_append, List.length_map]
    simp only [List.length_cons, List.length_nil]
    omega
  show Q (.int _) _
  rw [ek]
  have nt : ∀ c ∈ [S.w, S.p], ∀ ys, H c ≠ some (.tup ys) := fun c hc ys e => by
    simp only [List.mem_cons, List.not_mem_nil, or_false] at hc
    rcases hc with q | q
    · rw [q, hW] at e
      cases e
    · rw [q, hS.p] at e
      cases e
  refine k _ bt ⟨(upd_ne nxp).trans hO2, ?_, ?_, ⟨ws ++ [V.int 1, V.int z], (upd_ne hS.wp).trans upd_same, ?_⟩, fun r hr => ?_, hS.wp, hS.wc, hS.pc⟩
  · exact bt _ _ (by simp [hS.wc.symm, hS.pc.symm]) hS.c
  · show upd _ _ _ S.p = _
    rw [upd_same, int_snoc]
  · rw [List.length_append]
    simp only [List.length_cons, List.length_nil]
    omega
  · have q := hS.r r hr
    exact ⟨bt.tup q.pr nt, bt.tup q.ha nt, bt.tup q.ea nt⟩
/-! ### head, entries -/
theorem pr_at {rs : List Rnd} {i : Nat} {r : Rnd} (h : rs[i]? = some r) : (prsOf rs)[i]? = some (V.ref r.pr) := by
  unfold prsOf
  rw [List.getElem?_map, h]
  rfl
abbrev N_Service_head : List Str := ["self", "number"]
theorem sc_Service_head : FnScope N_Service_head ["self", "number"] (defScope s_Service_head) := ⟨rfl, rfl, rfl, by decide +kernel, rfl, by decide +kernel, by decide +kernel⟩
def spSvHead (K : PySem.W.Frag) : Sp := Sp2 fun x y H Q => ∃ (S : Sv) (i : Nat) (r : Rnd), x = .ref S.x ∧ y = .int (i : Int) ∧ SvAt K H S ∧ S.rs[i]? = some r ∧ Q (.ref r.ha) H
theorem c_Service_head (D : All K mg) : C8.Met P w K mg base 1 (CS K) "head" (spSvHead K) [] := by
  refine met D.x.cS D.Service_head sc_Service_head (fun _ _ _ _ _ _ us hl => match us, hl with | [_, _], _ => rfl) len2 fun fa cdv A outer s H vs Q E hr h => ?_
  have sc := sc_Service_head
  obtain ⟨_, _, rfl, S, i, r, rfl, rfl, hS, hi, k⟩ := h
  refine ⟨_, (pss_one (ps_ret (pe_ix ix_tup (pe_ix ix_list (pe_fld (pv 0) rfl) (pv 1) (fun _ _ => rfl)) pe_int (fun _ _ => rfl)))), ?_⟩
  exact ⟨_, rfl, S.x, _, S.dx, _, _, rfl, hS.o, D.x.cS, D.x.nS_closed, rfl, _, rfl, S.c, _, _, _, rfl, rfl, SqL.of hS.c, at_of rfl (pr_at hi), r.pr, _, 0, _, rfl, rfl, SqT.of (hS.r r (List.mem_of_getElem? hi)).pr, rfl, k⟩
abbrev N_Service_entries : List Str := ["self", "number"]
theorem sc_Service_entries : FnScope N_Service_entries ["self", "number"] (defScope s_Service_entries) := ⟨rfl, rfl, rfl, by decide +kernel, rfl, by decide +kernel, by decide +kernel⟩
def spSvEnt (K : PySem.W.Frag) : Sp := Sp2 fun x y H Q => ∃ (S : Sv) (i : Nat) (r : Rnd), x = .ref S.x ∧ y = .int (i : Int) ∧ SvAt K H S ∧ S.rs[i]? = some r ∧ NewL H r.es Q
theorem c_Service_entries (D : All K mg) : C8.Met P w K mg base 1 (CS K) "entries" (spSvEnt K) [] := by
  refine met D.x.cS D.Service_entries sc_Service_entries (fun _ _ _ _ _ _ us hl => match us, hl with | [_, _], _ => rfl) len2 fun fa cdv A outer s H vs Q E hr h => ?_
  have sc := sc_Service_entries
  obtain ⟨_, _, rfl, S, i, r, rfl, rfl, hS, hi, k⟩ := h
  refine ⟨_, (pss_cons (ps_if (pt_cmpR op_eq (pv 1) (pe_callB call_len_seq (by rfl) D.x.len PySem.boot_len (pa_cons (pe_fld (pv 0) rfl) pa_nil)) (nomark _))
    (pss_one (ps_ret (pe_callTy call_list_of (by rfl) D.x.list (by decide +kernel) (pa_cons (pe_fld (pv 0) rfl) pa_nil))))
    pss_nil)
    (pss_one (ps_ret (pe_callTy call_list_of (by rfl) D.x.list (by decide +kernel) (pa_cons (pe_ix ix_tup (pe_ix ix_list (pe_fld (pv 0) rfl) (pv 1) (fun _ _ => rfl)) pe_int (fun _ _ => rfl)) pa_nil))))), ?_⟩
  have hlt : i < S.rs.length := (List.getElem?_eq_some_iff.mp hi).1
  refine ⟨_, rfl, _, rfl, S.x, _, S.dx, _, _, rfl, hS.o, D.x.cS, D.x.nS_closed, rfl, S.c, _, rfl, .inl (SqL.of hS.c), rfl, _, rfl, ifF (decide_eq_false fun e => ?_) ?_⟩
  · have e := V.int.inj e
    unfold prsOf at e
    rw [List.length_map] at e
    omega
  have q := hS.r r (List.mem_of_getElem? hi)
  refine ⟨_, rfl, S.x, _, S.dx, _, _, rfl, hS.o, D.x.cS, D.x.nS_closed, rfl, _, rfl, S.c, _, _, _, rfl, rfl, SqL.of hS.c, at_of rfl (pr_at hi), r.pr, _, 1, _, rfl, rfl, SqT.of q.pr, rfl, r.ea, _, rfl, .inr (SqT.of q.ea), fun l hl => ?_⟩
  exact k l _ (Same.new hl) hl upd_same
end SR
set_option maxHeartbeats 4000000
namespace SR
open PySem PySem.Spec PyProof.Rows L2
variable {P : Program} {w : World} {K : PySem.W.Frag} {mg : Str → Option Value} {base : Heap}
/-! ### close -/
theorem st_nn {t u : TS} {D : Ends} {r : VK} {b c : L2.St → Hp → Prop} {σ : L2.St} {H : Hp} (h : t { D with nx := u D } σ H) : tNext { nx := tSeq t u D, rt := r, bk := b, ct := c } σ H := h
/-- tuples stand -/
def Tq (H H' : Hp) : Prop := ∀ a xs, H a = some (.tup xs) → H' a = some (.tup xs)
theorem Tq.trans {H H1 H2 : Hp} (a : Tq H H1) (b : Tq H1 H2) : Tq H H2 := fun c xs h => b c xs (a c xs h)
theorem Tq.of {H H' : Hp} (s : Same H H') : Tq H H' := fun a xs h => s a _ h
theorem Tq.at {H : Hp} {p : Addr} {o u : HO} (h : H p = some o) (n : ∀ xs, o ≠ .tup xs) : Tq H (upd H p u) := fun a xs e => by
  rw [upd_ne (ne_of e h fun q => n xs q.symm)]
  exact e
theorem RndAt.tq {H H' : Hp} {r : Rnd} (t : Tq H H') (h : RndAt H r) : RndAt H' r := ⟨t _ _ h.pr, t _ _ h.ha, t _ _ h.ea⟩
/-- the digests of the heads to whose rounds it goes back -/
def rowOf (rs : List Rnd) (e : Nat) : List Int := (rs[e]?.map fun r => r.hd.row).getD []
def nbs (m : Mx) (rs : List Rnd) (n : Nat) : List Int := (bks n).map fun e => dig m (rowOf rs e)
theorem nbs_len (m : Mx) (rs : List Rnd) (n : Nat) : (nbs m rs n).length = (bks n).length := by
  unfold nbs
  rw [List.length_map]
def newHd (m : Mx) (S : Sv) (hour : Int) : Hd := ⟨S.nm, S.rs.length, hour, S.ps.length, root m S.ps, nbs m S.rs S.rs.length⟩
abbrev N_Service_close : List Str := ["self", "hour", "number", "backs", "row", "earlier"]
theorem sc_Service_close : FnScope N_Service_close ["self", "hour"] (defScope s_Service_close) := ⟨rfl, rfl, rfl, by decide +kernel, rfl, by decide +kernel, by decide +kernel⟩
def spClose (K : PySem.W.Frag) : Sp := Sp2 fun x y H Q => ∃ (S : Sv) (m : Mx) (hour : Int), x = .ref S.x ∧ y = .int hour ∧ SvAt K H S ∧ MxAt K H S.mx m ∧ MOk m ∧ 1 ≤ S.ps.length ∧ S.ps.length ≤ 4 ∧ S.rs.length ≤ 4 ∧ S.wl ≤ 1000 ∧ (∀ r ∈ S.rs, r.hd.h < hour) ∧
  ∀ (r : Rnd) (p : Addr) (H' : Hp), But [S.w, S.c, S.x] H H' → H p = none → r.hd = newHd m S hour → r.es = S.ps → SvAt K H' { S with p := p, ps := [], rs := S.rs ++ [r], wl := S.wl + 2 } → Q (.ref r.ha) H'
theorem c_Service_close (D : All K mg) : C8.Met P w K mg base 7 (CS K) "close" (spClose K) [] := by
  refine met D.x.cS D.Service_close sc_Service_close (fun _ _ _ _ _ _ us hl => match us, hl with | [_, _], _ => rfl) len2 fun fa cdv A outer s H vs Q E hr h => ?_
  have sc := sc_Service_close
  obtain ⟨_, _, rfl, S, m, hour, rfl, rfl, hS, hM, mo, hp1, hp4, hr4, hwl, hh, k⟩ := h
  refine ⟨_, (pss_cons (ps_if (pt_not (pt_truth (pe_fld (pv 0) rfl) (by intro _; rfl)))
    (pss_one ps_never)
    pss_nil)
    (pss_cons (ps_if (PW.pt (pw_and (pt_truth (pe_fld (pv 0) rfl) (by intro _; rfl)) (pw_and1 (pt_cmpR op_le (pv 1) (pe_ix ix_tup (pe_ix ix_tup (pe_ix ix_list (pe_fld (pv 0) rfl) (pe_un un_neg pe_int) (fun _ _ => rfl)) pe_int (fun _ _ => rfl)) pe_int (fun _ _ => rfl)) (nomark _)))))
    (pss_one ps_never)
    pss_nil)
    (pss_cons (ps_set (i := 2) sc.nd rfl (.inl rfl) (pe_callB call_len_seq (by rfl) D.x.len PySem.boot_len (pa_cons (pe_fld (pv 0) rfl) pa_nil)))
    (pss_cons (ps_setLc (i := 3) (own := [("earlier", 5)]) (g := (gName 5)) (tt := tYes) (te := tCall (spDig K) [] C8.E0 (tCons (tFld K (tVar 0) "mixing") (tCons (tOp (rIxT K) (tOp (rIxL K) (tFld K (tVar 0) "closed") (tVar 5)) (tC (.int 0))) tNil))) rfl sc.nd rfl rfl (sw_true rfl rfl rfl (by decide +kernel)) (pi_list (C8.pe_c (c_back_rounds D) hr (by decide) rfl (pa_cons (pv 2) pa_nil))) (blkOk_by (own := [("earlier", 5)]) (N := N_Service_close) (sc := defScope s_Service_close) (by decide +kernel)) (fun _ _ _ _ _ => (pg_name (i := 5) sc.nd rfl (.inl rfl))) (fun _ _ _ _ _ => pts_nil) (fun _ _ _ _ _ => by exact (C8.pe_c (c_digest D) hr (by decide) rfl (pa_cons (pe_fld (pv 0) rfl) (pa_cons (pe_ix ix_tup (pe_ix ix_list (pe_fld (pv 0) rfl) (pv 5) (fun _ _ => rfl)) pe_int (fun _ _ => rfl)) pa_nil)))))
    (pss_cons (ps_set (i := 4) sc.nd rfl (.inl rfl) (C8.pe_c (c_head_things D) hr (by decide) rfl (pa_cons (pe_fld (pv 0) rfl) (pa_cons (pv 2) (pa_cons (pv 1) (pa_cons (pe_callB call_len_seq (by rfl) D.x.len PySem.boot_len (pa_cons (pe_fld (pv 0) rfl) pa_nil)) (pa_cons (C8.pe_c (c_root_of D) hr (by decide) rfl (pa_cons (pe_fld (pv 0) rfl) (pa_cons (pe_fld (pv 0) rfl) pa_nil))) (pa_cons (pv 3) pa_nil))))))))
    (pss_cons (ps_expr (pe_bm PySem.F.plainAttrs_list PySem.F.slot_list_extend PySem.F.type_list_extend mt_extend (pe_fld (pv 0) rfl) (pa_cons (pe_lst (pa_cons (C8.pe_gc rfl D.x.CLOSE) (pa_cons (pv 1) pa_nil))) pa_nil)))
    (pss_cons (ps_expr (pe_bm PySem.F.plainAttrs_list PySem.F.slot_list_append PySem.F.type_list_append mt_append (pe_fld (pv 0) rfl) (pa_cons (pe_tup (pa_cons (pv 4) (pa_cons (pe_callTy call_tuple_of (by rfl) D.x.tuple (by decide +kernel) (pa_cons (pe_fld (pv 0) rfl) pa_nil)) pa_nil))) pa_nil)))
    (pss_cons (ps_fld (pv 0) (pe_lst pa_nil) rfl)
    (pss_one (ps_ret (pv 4))))))))))), ?_⟩
  -- if not self.pending
  refine ⟨_, rfl, S.x, _, S.dx, _, _, rfl, hS.o, D.x.cS, D.x.nS_pending, rfl, true, .inl ⟨_, SqL.of hS.p, ?_⟩, iteF ?_⟩
  · cases e : S.ps with
    | nil =>
      rw [e] at hp1
      exact absurd hp1 (by decide)
    | cons a l => rfl
  -- if self.closed and hour <= ..
  refine st_nn (st_no (fun Q q => ?_) ?_)
  · rcases List.eq_nil_or_concat S.rs with e | ⟨rs', r0, e⟩
    · exact ⟨_, rfl, S.x, _, S.dx, _, _, rfl, hS.o, D.x.cS, D.x.nS_closed, rfl, false, .inl ⟨_, SqL.of hS.c, by rw [e]; rfl⟩, iteF q⟩
    · rw [List.concat_eq_append] at e
      have hc' : H S.c = some (.lst (prsOf rs' ++ [V.ref r0.pr])) := by
        rw [hS.c, e]
        unfold prsOf
        rw [List.map_append]
        rfl
      have h0 := hS.r r0 (by rw [e]; simp)
      have h1 := hh r0 (by rw [e]; simp)
      refine ⟨_, rfl, S.x, _, S.dx, _, _, rfl, hS.o, D.x.cS, D.x.nS_closed, rfl, true, .inl ⟨_, SqL.of hc', by simp⟩, iteT ?_⟩
      refine ⟨_, rfl, _, rfl, S.x, _, S.dx, _, _, rfl, hS.o, D.x.cS, D.x.nS_closed, rfl, _, rfl, S.c, _, _, _, rfl, rfl, SqL.of hc', atI_last _ _, r0.pr, _, 0, _, rfl, rfl, SqT.of h0.pr, rfl, r0.ha, _, 3, _, rfl, rfl, SqT.of h0.ha, at_of (j := 3) rfl rfl, _, _, rfl, rfl, _, rfl, ?_⟩
      show Q (decide (hour ≤ r0.hd.h)) H
      rw [decide_eq_false (by omega)]
      exact q
  -- number, backs
  refine ⟨_, rfl, S.x, _, S.dx, _, _, rfl, hS.o, D.x.cS, D.x.nS_closed, rfl, S.c, _, rfl, .inl (SqL.of hS.c), ?_⟩
  have en : (prsOf S.rs).length = S.rs.length := by unfold prsOf; rw [List.length_map]
  rw [en]
  refine ⟨_, rfl, _, rfl, S.rs.length, rfl, hr4, fun q H1 s1 nq hq => ⟨q, rfl, ⟨_, SqL.of hq⟩, fun C nC => ?_⟩⟩
  refine lc_list (K := K) (a := q) (xs := (zs (bks S.rs.length)).map V.int) (fun i H2 => H2 = upd H1 C (.lst (((nbs m S.rs S.rs.length).take i).map V.int))) rfl (fun i H2 _ e => by rw [e]; exact SqL.of (Same.new nC _ _ hq)) ?_ ?_
  · rintro i x H2 hx rfl
    obtain ⟨y, rfl, hy⟩ := at_map hx
    unfold zs at hy
    obtain ⟨e, he, rfl⟩ := Option.map_eq_some_iff.mp ((List.getElem?_map ..).symm.trans hy)
    have hlt : e < S.rs.length := bks_lt _ _ (List.mem_of_getElem? he)
    have hre : S.rs[e]? = some S.rs[e] := List.getElem?_eq_getElem hlt
    have s2 : Same H (upd H1 C (.lst (((nbs m S.rs S.rs.length).take i).map V.int))) := s1.trans (Same.new nC)
    have S2 := hS.mono s2
    have r2 := S2.r _ (List.getElem_mem hlt)
    refine ⟨rfl, _, rfl, S.x, _, S.dx, _, _, rfl, S2.o, D.x.cS, D.x.nS_mixing, rfl, _, rfl, S.x, _, S.dx, _, _, rfl, S2.o, D.x.cS, D.x.nS_closed, rfl, _, rfl, S.c, _, _, _, rfl, rfl, SqL.of S2.c, at_of rfl (pr_at hre), S.rs[e].pr, _, 0, _, rfl, rfl, SqT.of r2.pr, rfl, ?_⟩
    refine ⟨_, _, rfl, S.mx, S.rs[e].ha, m, _, rfl, rfl, hM.mono s2, mo, r2.ha, _, upd_same, small1 ?_, ?_⟩
    · rw [List.length_map, List.length_take, nbs_len]
      have := bks_len S.rs.length
      omega
    · have en : (nbs m S.rs S.rs.length)[i]? = some (dig m S.rs[e].hd.row) := by
        unfold nbs
        rw [List.getElem?_map, he]
        show some (dig m (rowOf S.rs e)) = _
        unfold rowOf
        rw [hre]
        rfl
      rw [upd_upd, List.take_succ, en]
      show _ = upd H1 C (.lst ((_ ++ [_]).map V.int))
      rw [int_snoc]
  rintro H2 rfl
  have e0 : (nbs m S.rs S.rs.length).take ((zs (bks S.rs.length)).map V.int).length = nbs m S.rs S.rs.length := List.take_of_length_le (by rw [List.length_map, zs_len, nbs_len]; exact Nat.le_refl _)
  rw [e0]
  have s2 : Same H (upd H1 C (.lst ((nbs m S.rs S.rs.length).map V.int))) := s1.trans (Same.new nC)
  have hC : Li (upd H1 C (.lst ((nbs m S.rs S.rs.length).map V.int))) C (nbs m S.rs S.rs.length) := upd_same
  revert s2 hC
  generalize upd H1 C (.lst ((nbs m S.rs S.rs.length).map V.int)) = H2
  intro s2 hC
  have S2 := hS.mono s2
  -- row
  refine ⟨_, rfl, S.x, _, S.dx, _, _, rfl, S2.o, D.x.cS, D.x.nS_name, rfl, _, rfl, _, rfl, _, rfl, S.x, _, S.dx, _, _, rfl, S2.o, D.x.cS, D.x.nS_pending, rfl, S.p, _, rfl, .inl (SqL.of S2.p), ?_⟩
  refine ⟨_, rfl, S.x, _, S.dx, _, _, rfl, S2.o, D.x.cS, D.x.nS_mixing, rfl, _, rfl, S.x, _, S.dx, _, _, rfl, S2.o, D.x.cS, D.x.nS_pending, rfl, ?_⟩
  refine ⟨_, _, rfl, S.mx, S.p, m, S.ps, rfl, rfl, hM.mono s2, mo, S2.p, hp1, hp4, hp4, fun H3 s3 => ⟨_, rfl, ?_⟩⟩
  refine ⟨_, _, _, _, _, _, rfl, S.nm, S.rs.length, hour, _, _, C, nbs m S.rs S.rs.length, rfl, rfl, rfl, rfl, rfl, rfl, s3 _ _ hC, ?_, fun t H4 s4 nt ht => ?_⟩
  · rw [nbs_len]
    have := bks_len S.rs.length
    omega
  have s5 := (s2.trans s3).trans s4
  have ht : Rw H4 t (newHd m S hour).row := by
    have e : (((S.ps.map V.int).length : Nat) : Int) = (S.ps.length : Int) := by rw [List.length_map]
    rw [e] at ht
    exact ht
  have S4 := hS.mono s5
  obtain ⟨ws, hW, hwl2⟩ := S4.w
  -- self.written.extend
  refine ⟨_, rfl, S.x, _, S.dx, _, _, rfl, S4.o, D.x.cS, D.x.nS_written, rfl, .inl ⟨rfl, _, SqL.of hW⟩, _, rfl, small (by show 2 ≤ 100000; decide), fun u hu => ?_⟩
  have sU : Same H4 (upd H4 u (.lst [V.int 2, V.int hour])) := Same.new hu
  refine ⟨S.w, u, _, _, rfl, rfl, sU _ _ hW, upd_same, small ?_, ?_⟩
  · simp only [List.length_cons, List.length_nil]
    omega
  have nxw : S.x ≠ S.w := ne_of S4.o hW (by intro q; cases q)
  have nxp : S.x ≠ S.p := ne_of S4.o S4.p (by intro q; cases q)
  have nxc : S.x ≠ S.c := ne_of S4.o S4.c (by intro q; cases q)
  have o6 : upd (upd H4 u (.lst [V.int 2, V.int hour])) S.w (.lst (ws ++ [V.int 2, V.int hour])) S.x = some (.ins (CS K) S.dx (svF S.nm S.mx S.c S.p S.w)) := (upd_ne nxw).trans (sU _ _ S4.o)
  have c6 : upd (upd H4 u (.lst [V.int 2, V.int hour])) S.w (.lst (ws ++ [V.int 2, V.int hour])) S.c = some (.lst (prsOf S.rs)) := (upd_ne S4.wc.symm).trans (sU _ _ S4.c)
  have p6 : upd (upd H4 u (.lst [V.int 2, V.int hour])) S.w (.lst (ws ++ [V.int 2, V.int hour])) S.p = some (.lst (S.ps.map V.int)) := (upd_ne S4.wp.symm).trans (sU _ _ S4.p)
  have w6 : upd (upd H4 u (.lst [V.int 2, V.int hour])) S.w (.lst (ws ++ [V.int 2, V.int hour])) S.w = some (.lst (ws ++ [V.int 2, V.int hour])) := upd_same
  have b6 : But [S.w, S.c, S.x] H (upd (upd H4 u (.lst [V.int 2, V.int hour])) S.w (.lst (ws ++ [V.int 2, V.int hour]))) := ((Same.but (s5.trans sU)).trans (But.at (by simp)))
  have t6 : Tq H4 (upd (upd H4 u (.lst [V.int 2, V.int hour])) S.w (.lst (ws ++ [V.int 2, V.int hour]))) := (Tq.of sU).trans (Tq.at (sU _ _ hW) (fun _ q => by cases q))
  revert o6 c6 p6 w6 b6 t6
  generalize upd (upd H4 u (.lst [V.int 2, V.int hour])) S.w (.lst (ws ++ [V.int 2, V.int hour])) = H6
  intro o6 c6 p6 w6 b6 t6
  -- self.closed.append
  refine ⟨_, rfl, S.x, _, S.dx, _, _, rfl, o6, D.x.cS, D.x.nS_closed, rfl, .inl ⟨rfl, _, SqL.of c6⟩, _, rfl, _, rfl, S.x, _, S.dx, _, _, rfl, o6, D.x.cS, D.x.nS_pending, rfl, S.p, _, rfl, .inl ⟨SqL.of p6, fun e he => ?_⟩⟩
  refine ⟨small (by show 2 ≤ 100000; decide), fun pr hpr => ?_⟩
  have s7 : Same H6 (upd (upd H6 e (.tup (S.ps.map V.int))) pr (.tup [V.ref t, V.ref e])) := (Same.new he).trans (Same.new hpr)
  refine ⟨S.c, _, _, rfl, rfl, s7 _ _ c6, small1 (by rw [en]; omega), ?_⟩
  have e7 : upd (upd H6 e (.tup (S.ps.map V.int))) pr (.tup [V.ref t, V.ref e]) e = some (.tup (S.ps.map V.int)) := Same.new hpr _ _ upd_same
  have pr7 : upd (upd H6 e (.tup (S.ps.map V.int))) pr (.tup [V.ref t, V.ref e]) pr = some (.tup [V.ref t, V.ref e]) := upd_same
  have t7 := t6.trans (Tq.of s7)
  have b7 : But [S.w, S.c, S.x] H (upd (upd H6 e (.tup (S.ps.map V.int))) pr (.tup [V.ref t, V.ref e])) := b6.trans (Same.but s7)
  have o7 := s7 _ _ o6
  have c7 := s7 _ _ c6
  have w7 := s7 _ _ w6
  revert e7 pr7 t7 b7 o7 c7 w7
  generalize upd (upd H6 e (.tup (S.ps.map V.int))) pr (.tup [V.ref t, V.ref e]) = H7
  intro e7 pr7 t7 b7 o7 c7 w7
  have t8 : Tq H4 (upd H7 S.c (.lst (prsOf S.rs ++ [V.ref pr]))) := t7.trans (Tq.at c7 (fun _ q => by cases q))
  have t8' : Tq H7 (upd H7 S.c (.lst (prsOf S.rs ++ [V.ref pr]))) := Tq.at c7 (fun _ q => by cases q)
  have b8 : But [S.w, S.c, S.x] H (upd H7 S.c (.lst (prsOf S.rs ++ [V.ref pr]))) := b7.trans (But.at (by simp))
  have o8 : upd H7 S.c (.lst (prsOf S.rs ++ [V.ref pr])) S.x = _ := (upd_ne nxc).trans o7
  have w8 : upd H7 S.c (.lst (prsOf S.rs ++ [V.ref pr])) S.w = _ := (upd_ne hS.wc).trans w7
  have c8 : upd H7 S.c (.lst (prsOf S.rs ++ [V.ref pr])) S.c = some (.lst (prsOf S.rs ++ [V.ref pr])) := upd_same
  have e8 := t8' _ _ e7
  have pr8 := t8' _ _ pr7
  have ht8 := t8 _ _ ht
  revert t8 b8 o8 w8 c8 e8 pr8 ht8 t8'
  generalize upd H7 S.c (.lst (prsOf S.rs ++ [V.ref pr])) = H8
  intro t8 t8' b8 o8 w8 c8 e8 pr8 ht8
  -- self.pending = []
  refine ⟨Nat.zero_le _, fun p' hp' => ⟨_, rfl, S.x, _, S.dx, _, rfl, Same.new hp' _ _ o8, D.x.cS, D.x.nS_pending, (by show 5 < 1000; decide), ?_⟩⟩
  rw [svF_pending]
  have nxp' : S.x ≠ p' := ne_of_none o8 hp'
  have s9 : Same H8 (upd H8 p' (.lst [])) := Same.new hp'
  have t9 : Tq H8 (upd (upd H8 p' (.lst [])) S.x (.ins (CS K) S.dx (svF S.nm S.mx S.c p' S.w))) := (Tq.of s9).trans (Tq.at (s9 _ _ o8) (fun _ q => by cases q))
  have hp0 : H p' = none := by
    cases q : H p' with
    | none => rfl
    | some o =>
      by_cases hm : p' ∈ [S.w, S.c, S.x]
      · simp only [List.mem_cons, List.not_mem_nil, or_false] at hm
        rcases hm with z | z | z
        · rw [z, w8] at hp'
          cases hp'
        · rw [z, c8] at hp'
          cases hp'
        · rw [z, o8] at hp'
          cases hp'
      · rw [b8 _ _ hm q] at hp'
        cases hp'
  refine ⟨_, rfl, k ⟨newHd m S hour, t, pr, e, S.ps⟩ p' _ ((b8.trans (Same.but s9)).trans (But.at (by simp))) hp0 rfl rfl ⟨upd_same, ?_, ?_, ⟨ws ++ [V.int 2, V.int hour], ?_, ?_⟩, fun r hr => ?_, ?_, hS.wc, ?_⟩⟩
  · show upd _ _ _ S.c = _
    rw [upd_ne nxc.symm, s9 _ _ c8]
    unfold prsOf
    rw [List.map_append]
    rfl
  · show upd _ _ _ p' = _
    rw [upd_ne nxp'.symm, upd_same]
    rfl
  · show upd _ _ _ S.w = _
    rw [upd_ne nxw.symm]
    exact s9 _ _ w8
  · rw [List.length_append]
    simp only [List.length_cons, List.length_nil]
    omega
  · rcases List.mem_append.mp hr with y | y
    · exact (S4.r r y).tq (t8.trans t9)
    · simp only [List.mem_singleton] at y
      subst y
      exact ⟨t9 _ _ pr8, t9 _ _ ht8, t9 _ _ e8⟩
  · exact ne_of_none w8 hp'
  · exact (ne_of_none c8 hp').symm
end SR
set_option maxHeartbeats 4000000
namespace SR
open PySem PySem.Spec PyProof.Rows L2
variable {P : Program} {w : World} {K : PySem.W.Frag} {mg : Str → Option Value} {base : Heap}
/-! ### the way from an earlier round to a later one -/
def wy (s e : Nat) : List Nat := (wb s e).reverse
theorem wy_all : ∀ s : Fin 5, ∀ e : Fin 5, e ≤ s → (((wy s e).zip (wy s e).tail).all fun p => decide (p.1 ∈ bks p.2) && decide (p.2 ≤ s.val)) = true := by decide
theorem wy_ends : ∀ s : Fin 5, ∀ e : Fin 5, e ≤ s → (wy s e)[0]? = some e.val ∧ (wy s e)[(wy s e).length - 1]? = some s.val ∧ 1 ≤ (wy s e).length ∧ (wy s e).length ≤ 5 := by decide
theorem wy_step {s e : Nat} (hs : s ≤ 4) (he : e ≤ s) {i a b : Nat} (h1 : (wy s e)[i]? = some a) (h2 : (wy s e)[i + 1]? = some b) : a ∈ bks b ∧ b ≤ s := by
  have q := wy_all ⟨s, by omega⟩ ⟨e, by omega⟩ (by show e ≤ s; exact he)
  have h3 : ((wy s e).zip (wy s e).tail)[i]? = some (a, b) := List.getElem?_zip_eq_some.mpr ⟨h1, by rw [List.getElem?_tail]; exact h2⟩
  have q2 := List.all_eq_true.mp q (a, b) (List.mem_of_getElem? h3)
  rw [Bool.and_eq_true] at q2
  exact ⟨of_decide_eq_true q2.1, of_decide_eq_true q2.2⟩
/-- where a round stands among those that another goes back to -/
def bix (n p : Nat) : Nat := (bks n).idxOf p
theorem bix_all : ∀ n : Fin 5, ∀ p ∈ bks n, (bks n)[bix n p]? = some p ∧ ∀ m : Fin 3, m.val < bix n p → (bks n)[m.val]? ≠ some p := by decide
theorem bix_ok {n p : Nat} (hn : n ≤ 4) (hp : p ∈ bks n) : (bks n)[bix n p]? = some p ∧ ∀ m z, m < bix n p → (bks n)[m]? = some z → z ≠ p := by
  obtain ⟨q1, q2⟩ := bix_all ⟨n, by omega⟩ p hp
  have q1 : (bks n)[bix n p]? = some p := q1
  refine ⟨q1, fun m z hm hz e => ?_⟩
  have l1 := (List.getElem?_eq_some_iff.mp q1).1
  have l2 := bks_len n
  have q3 := q2 ⟨m, by omega⟩ hm
  rw [e] at hz
  exact q3 hz
/-! ### stamp -/
theorem PlAt.tq {H H' : Hp} {a : Addr} {pl : Pl} (t : Tq H H') (h : PlAt H a pl) : PlAt H' a pl := by
  cases pl with
  | ent i ws =>
    obtain ⟨wa, h1, h2⟩ := h
    exact ⟨wa, t _ _ h1, t _ _ h2⟩
  | bk i => exact t _ _ h
theorem StAt.tq {H H' : Hp} {x : Stp} (t : Tq H H') (h : StAt H x) : StAt H' x := ⟨t _ _ h.t, t _ _ h.r, h.p.tq t⟩
abbrev N_Service_stamp : List Str := ["self", "row", "number", "index", "way"]
theorem sc_Service_stamp : FnScope N_Service_stamp ["self", "row", "number", "index"] (defScope s_Service_stamp) := ⟨rfl, rfl, rfl, by decide +kernel, rfl, by decide +kernel, by decide +kernel⟩
def spStamp (K : PySem.W.Frag) : Sp := Sp4 fun x1 x2 x3 x4 H Q => ∃ (S : Sv) (m : Mx) (ra : Addr) (rn : List Int) (i j : Nat) (r : Rnd), x1 = .ref S.x ∧ x2 = .ref ra ∧ x3 = .int (i : Int) ∧ x4 = .int (j : Int) ∧ SvAt K H S ∧ MxAt K H S.mx m ∧ MOk m ∧ S.rs[i]? = some r ∧ r.es.length ≤ 4 ∧ j < r.es.length ∧ Rw H ra rn ∧
  ∀ (st : Stp) (p : Addr) (H' : Hp), Same H H' → st.ra = r.ha → st.hd = r.hd → st.pl = .ent j (way m r.es j) → PapAt K H' p ra rn [st] → Q (.ref p) H'
theorem c_Service_stamp (D : All K mg) : C8.Met P w K mg base 8 (CS K) "stamp" (spStamp K) [] := by
  refine met D.x.cS D.Service_stamp sc_Service_stamp (fun _ _ _ _ _ _ us hl => match us, hl with | [_, _, _, _], _ => rfl) len4 fun fa cdv A outer s H vs Q E hr h => ?_
  have sc := sc_Service_stamp
  obtain ⟨_, _, _, _, rfl, S, m, ra, rn, i, j, r, rfl, rfl, rfl, rfl, hS, hM, mo, hi, h4, hj, hR, k⟩ := h
  refine ⟨_, (pss_cons (ps_set (i := 4) sc.nd rfl (.inl rfl) (C8.pe_c (c_way_of D) hr (by decide) rfl (pa_cons (pe_fld (pv 0) rfl) (pa_cons (C8.pe_mt (c_Service_entries D) hr (by decide) (pv 0) (pa_cons (pv 2) pa_nil)) (pa_cons (pv 3) pa_nil)))))
    (pss_one (ps_ret (C8.pe_mk (c_Paper_init D) hr (by decide) rfl (pa_cons (pv 1) (pa_cons (pe_lst (pa_cons (pe_tup (pa_cons (C8.pe_mt (c_Service_head D) hr (by decide) (pv 0) (pa_cons (pv 2) pa_nil)) (pa_cons (pe_tup (pa_cons pe_str (pa_cons (pv 3) (pa_cons (pv 4) pa_nil)))) pa_nil))) pa_nil)) pa_nil)))))), ?_⟩
  refine ⟨_, rfl, S.x, _, S.dx, _, _, rfl, hS.o, D.x.cS, D.x.nS_mixing, rfl, _, rfl, S.x, S.dx, _, rfl, hS.o, rfl, _, rfl, _, _, rfl, S, i, r, rfl, rfl, hS, hi, fun l H1 s1 _ hl => ⟨_, rfl, ?_⟩⟩
  refine ⟨_, _, _, rfl, S.mx, l, m, r.es, j, rfl, rfl, rfl, hM.mono s1, mo, hl, h4, hj, fun wa H2 s2 _ hw => ?_⟩
  have t2 := s1.trans s2
  have S2 := hS.mono t2
  have r2 := S2.r r (List.mem_of_getElem? hi)
  refine ⟨_, rfl, _, rfl, S.x, S.dx, _, rfl, S2.o, rfl, _, rfl, _, _, rfl, S, i, r, rfl, rfl, S2, hi, _, rfl, _, rfl, small (by show 3 ≤ 100000; decide), fun pa hpa => ?_⟩
  refine ⟨small (by show 2 ≤ 100000; decide), fun t ht => ⟨small (by show 1 ≤ 100000; decide), fun l2 hl2 => ?_⟩⟩
  intro x dz nx ndz nex
  have s5 : Same H2 (upd (upd (upd H2 pa (.tup [V.str "entry", V.int (j : Int), V.ref wa])) t (.tup [V.ref r.ha, V.ref pa])) l2 (.lst [V.ref t])) := ((Same.new hpa).trans (Same.new ht)).trans (Same.new hl2)
  have hst : StAt (upd (upd (upd H2 pa (.tup [V.str "entry", V.int (j : Int), V.ref wa])) t (.tup [V.ref r.ha, V.ref pa])) l2 (.lst [V.ref t])) ⟨t, r.ha, pa, r.hd, .ent j (way m r.es j)⟩ :=
    ⟨Same.new hl2 _ _ upd_same, s5 _ _ r2.ha, wa, Same.new hl2 _ _ (Same.new ht _ _ upd_same), s5 _ _ hw⟩
  have hl3 : upd (upd (upd H2 pa (.tup [V.str "entry", V.int (j : Int), V.ref wa])) t (.tup [V.ref r.ha, V.ref pa])) l2 (.lst [V.ref t]) l2 = some (.lst (tsOf [⟨t, r.ha, pa, r.hd, .ent j (way m r.es j)⟩])) := upd_same
  revert s5 hst hl3 nx ndz
  generalize upd (upd (upd H2 pa (.tup [V.str "entry", V.int (j : Int), V.ref wa])) t (.tup [V.ref r.ha, V.ref pa])) l2 (.lst [V.ref t]) = H5
  intro nx ndz s5 hst hl3
  refine ⟨_, _, _, rfl, x, dz, ra, l2, tsOf [⟨t, r.ha, pa, r.hd, .ent j (way m r.es j)⟩], rfl, rfl, rfl, upd_same, ?_, fun u H' kp nu h1 h2 => ⟨rfl, ?_⟩⟩
  · rw [upd_ne (ne_of_none hl3 nx), upd_ne (ne_of_none hl3 ndz)]
    exact hl3
  · obtain ⟨sm, pm⟩ := pap_made (fn := rn) (ss := [⟨t, r.ha, pa, r.hd, .ent j (way m r.es j)⟩]) nx ndz ((t2.trans s5) _ _ hR) (fun z hz => by
      rw [List.mem_singleton.mp hz]
      exact hst) (by show 1 ≤ 100; decide) kp h1 h2
    exact k _ x H' ((t2.trans s5).trans sm) rfl rfl rfl pm
/-! ### back -/
/-- steps back along a way -/
structure BkAt (rs : List Rnd) (wl : List Nat) (ss : List Stp) : Prop where
  at_ : ∀ (i : Nat) (st : Stp), ss[i]? = some st → ∃ (a b : Nat) (r : Rnd), wl[i]? = some a ∧ wl[i + 1]? = some b ∧ rs[b]? = some r ∧ st.ra = r.ha ∧ st.hd = r.hd ∧ st.pl = .bk (bix b a)
abbrev N_Service_back : List Str := ["self", "start", "end", "way", "steps", "at", "place"]
theorem sc_Service_back : FnScope N_Service_back ["self", "start", "end"] (defScope s_Service_back) := ⟨rfl, rfl, rfl, by decide +kernel, rfl, by decide +kernel, by decide +kernel⟩
def spBackP (K : PySem.W.Frag) : Sp := Sp3 fun x1 x2 x3 H Q => ∃ (S : Sv) (z e : Nat) (r : Rnd), x1 = .ref S.x ∧ x2 = .int (z : Int) ∧ x3 = .int (e : Int) ∧ SvAt K H S ∧ e ≤ z ∧ z ≤ 4 ∧ z < S.rs.length ∧ S.rs[e]? = some r ∧
  ∀ (ss : List Stp) (p : Addr) (H' : Hp), Same H H' → PapAt K H' p r.ha r.hd.row ss → BkAt S.rs (wy z e) ss → ss.length + 1 = (wb z e).length → Q (.ref p) H'
theorem flat_ints (l : List Int) : (l.map V.int).all flatV = true := by
  rw [List.all_eq_true]
  intro v hv
  obtain ⟨x, _, rfl⟩ := List.mem_map.mp hv
  rfl
theorem c_Service_back (D : All K mg) : C8.Met P w K mg base 4 (CS K) "back" (spBackP K) [] := by
  refine met D.x.cS D.Service_back sc_Service_back (fun _ _ _ _ _ _ us hl => match us, hl with | [_, _, _], _ => rfl) len3 fun fa cdv A outer s H vs Q E hr h => ?_
  have sc := sc_Service_back
  obtain ⟨_, _, _, rfl, S, z, e, r, rfl, rfl, rfl, hS, hez, hz4, hzl, he, k⟩ := h
  refine ⟨_, (pss_cons (ps_set (i := 3) sc.nd rfl (.inl rfl) (pe_revL (C8.pe_c (c_way_back D) hr (by decide) rfl (pa_cons (pv 1) (pa_cons (pv 2) pa_nil)))))
    (pss_cons (ps_set (i := 4) sc.nd rfl (.inl rfl) (pe_lst pa_nil))
    (pss_cons (ps_for PassesOwn.never rfl (pi_range2 (by rfl) D.x.range (pa_cons pe_int (pa_cons (pe_callB call_len_seq (by rfl) D.x.len PySem.boot_len (pa_cons (pv 3) pa_nil)) pa_nil))) (pg_name (i := 5) sc.nd rfl (.inl rfl))
    (pss_cons (ps_set (i := 6) sc.nd rfl (.inl rfl) (pe_tup (pa_cons pe_str (pa_cons (pe_bm PySem.F.plainAttrs_list PySem.F.slot_list_index PySem.F.type_list_index mt_index (C8.pe_c (c_back_rounds D) hr (by decide) rfl (pa_cons (pe_ix ix_list (pv 3) (pv 5) (fun _ _ => rfl)) pa_nil)) (pa_cons (pe_ix ix_list (pv 3) (pe_op op_sub (pv 5) pe_int) (fun _ _ => rfl)) pa_nil)) pa_nil))))
      (pss_one (ps_expr (pe_bm PySem.F.plainAttrs_list PySem.F.slot_list_append PySem.F.type_list_append mt_append (pv 4) (pa_cons (pe_tup (pa_cons (C8.pe_mt (c_Service_head D) hr (by decide) (pv 0) (pa_cons (pe_ix ix_list (pv 3) (pv 5) (fun _ _ => rfl)) pa_nil)) (pa_cons (pv 6) pa_nil))) pa_nil))))))
    (pss_one (ps_ret (C8.pe_mk (c_Paper_init D) hr (by decide) rfl (pa_cons (C8.pe_mt (c_Service_head D) hr (by decide) (pv 0) (pa_cons (pv 2) pa_nil)) (pa_cons (pv 4) pa_nil)))))))), ?_⟩
  refine ⟨_, rfl, _, rfl, _, _, rfl, z, e, rfl, rfl, hez, hz4, fun q H1 s1 _ hq => ⟨q, _, rfl, SqL.of hq, fun wq hwq => ?_⟩⟩
  have s2 : Same H (upd H1 wq (.lst ((zs (wb z e)).map V.int).reverse)) := s1.trans (Same.new hwq)
  have hW : upd H1 wq (.lst ((zs (wb z e)).map V.int).reverse) wq = some (.lst ((zs (wy z e)).map V.int)) := by
    rw [upd_same]
    unfold wy zs
    rw [List.map_reverse, List.map_reverse]
  revert s2 hW
  generalize upd H1 wq (.lst ((zs (wb z e)).map V.int).reverse) = H2
  intro s2 hW
  have hlw : ((zs (wy z e)).map V.int).length = (wy z e).length := by rw [List.length_map, zs_len]
  obtain ⟨w1, w2, w3, w4⟩ := wy_ends ⟨z, by omega⟩ ⟨e, by omega⟩ (by show e ≤ z; exact hez)
  have w3 : 1 ≤ (wy z e).length := w3
  have w4 : (wy z e).length ≤ 5 := w4
  refine ⟨Nat.zero_le _, fun p hp => ?_⟩
  have hW' := Same.new hp (o := .lst []) _ _ hW
  refine ⟨_, rfl, wq, _, rfl, .inl (SqL.of hW'), 1, _, rfl, by rw [hlw]; omega, ?_⟩
  refine for_range (lo := 1) (n := ((((zs (wy z e)).map V.int).length : Int) - 1).toNat) (fun i σ H' => ∃ (ss : List Stp) (v5 v6 : Option V), σ = [some (.ref S.x), some (.int (z : Int)), some (.int (e : Int)), some (.ref wq), some (.ref p), v5, v6] ∧ Same H2 H' ∧ H' p = some (.lst (tsOf ss)) ∧ (∀ st ∈ ss, StAt H' st) ∧ BkAt S.rs (wy z e) ss ∧ ss.length = i)
    ⟨[], none, none, rfl, Same.new hp, upd_same, fun st hst => (by cases hst), ⟨fun i st hst => (by cases hst)⟩, rfl⟩ ?_ ?_
  · rintro i σ H' hi ⟨ss, v5, v6, rfl, s3, hP, hst, hb, hlen⟩
    rw [hlw] at hi
    have hi1 : i + 1 < (wy z e).length := by omega
    have ha : (wy z e)[i]? = some (wy z e)[i] := List.getElem?_eq_getElem (by omega)
    have hb2 : (wy z e)[i + 1]? = some (wy z e)[i + 1] := List.getElem?_eq_getElem hi1
    obtain ⟨hm, hbs⟩ := wy_step hz4 hez ha hb2
    revert ha hb2 hm hbs
    generalize (wy z e)[i] = a
    generalize (wy z e)[i + 1] = b
    intro ha hb2 hm hbs
    obtain ⟨x1, x2⟩ := bix_ok (show b ≤ 4 by omega) hm
    have t3 := s2.trans s3
    have S3 := hS.mono t3
    have hlt : b < S.rs.length := by omega
    have hrb : S.rs[b]? = some S.rs[b] := List.getElem?_eq_getElem hlt
    have hA := map_at (zs_at ha)
    have hB := map_at (zs_at hb2)
    -- place
    refine ⟨_, rfl, _, rfl, wq, _, _, _, rfl, rfl, SqL.of (s3 _ _ hW), at_of (j := i + 1) (by omega) hB, _, rfl, b, rfl, by omega, fun q2 H3 s4 _ hq2 => ?_⟩
    refine ⟨.inl ⟨rfl, _, SqL.of hq2⟩, _, rfl, _, rfl, _, _, rfl, rfl, wq, _, _, _, rfl, rfl, SqL.of ((s3.trans s4) _ _ hW), at_of (j := i) (by omega) hA, ?_⟩
    refine ⟨q2, _, _, bix b a, _, rfl, rfl, SqL.of hq2, rfl, flat_ints _, map_at (zs_at x1), ?_, fun m z' hm hz' => ?_, small (by show 2 ≤ 100000; decide), fun pa hpa => ?_⟩
    · show decide _ = true
      exact decide_eq_true rfl
    · obtain ⟨y, rfl, hy⟩ := at_map hz'
      unfold zs at hy
      obtain ⟨n, hn, rfl⟩ := Option.map_eq_some_iff.mp ((List.getElem?_map ..).symm.trans hy)
      have := x2 m n hm hn
      show decide _ = false
      exact decide_eq_false (by omega)
    have s5 : Same H' (upd H3 pa (.tup [V.str "back", V.int ((bix b a : Nat) : Int)])) := s4.trans (Same.new hpa)
    have hP5 := s5 _ _ hP
    have S5 := S3.mono s5
    have r5 := S5.r _ (List.getElem_mem hlt)
    have hpa5 : upd H3 pa (.tup [V.str "back", V.int ((bix b a : Nat) : Int)]) pa = some (.tup [V.str "back", V.int ((bix b a : Nat) : Int)]) := upd_same
    revert s5 hP5 S5 r5 hpa5
    generalize upd H3 pa (.tup [V.str "back", V.int ((bix b a : Nat) : Int)]) = H5
    intro s5 hP5 S5 r5 hpa5
    refine ⟨_, rfl, .inl ⟨rfl, _, SqL.of hP5⟩, _, rfl, S.x, S.dx, _, rfl, S5.o, rfl, _, rfl, _, rfl, wq, _, _, _, rfl, rfl, SqL.of ((s3.trans s5) _ _ hW), at_of (j := i + 1) (by omega) hB, ?_⟩
    refine ⟨_, _, rfl, S, b, S.rs[b], rfl, rfl, S5, hrb, _, rfl, small (by show 2 ≤ 100000; decide), fun t ht => ?_⟩
    have s6 : Same H5 (upd H5 t (.tup [V.ref S.rs[b].ha, V.ref pa])) := Same.new ht
    have hP6 := s6 _ _ hP5
    refine ⟨p, _, _, rfl, rfl, hP6, small1 (by unfold tsOf; rw [List.length_map]; omega), ss ++ [⟨t, S.rs[b].ha, pa, S.rs[b].hd, .bk (bix b a)⟩], some (.int (1 + (i : Int))), some (.ref pa), rfl, Same.mut ((s3.trans s5).trans s6) hp, ?_, ?_, ⟨?_⟩, ?_⟩
    · rw [upd_same]
      unfold tsOf
      rw [List.map_append]
      rfl
    · have tq : Tq (upd H5 t (.tup [V.ref S.rs[b].ha, V.ref pa])) (upd (upd H5 t (.tup [V.ref S.rs[b].ha, V.ref pa])) p (.lst (tsOf ss ++ [V.ref t]))) := Tq.at hP6 (fun _ q => by cases q)
      intro st hm2
      rcases List.mem_append.mp hm2 with y | y
      · exact ((hst st y).mono (s5.trans s6)).tq tq
      · rw [List.mem_singleton.mp y]
        exact ⟨tq _ _ upd_same, tq _ _ (s6 _ _ r5.ha), tq _ _ (s6 _ _ hpa5)⟩
    · intro j st hj
      by_cases hlt2 : j < ss.length
      · rw [List.getElem?_append_left hlt2] at hj
        exact hb.at_ j st hj
      · rw [List.getElem?_append_right (by omega)] at hj
        have ej : j - ss.length = 0 := by
          cases q : j - ss.length with
          | zero => rfl
          | succ n =>
            rw [q] at hj
            cases hj
        rw [ej] at hj
        cases hj
        have : j = i := by omega
        subst this
        exact ⟨a, b, S.rs[b], ha, hb2, hrb, rfl, rfl, rfl⟩
    · rw [List.length_append, hlen]
      rfl
  · rintro σ H' ⟨ss, v5, v6, rfl, s3, hP, hst, hb, hlen⟩
    have t3 := s2.trans s3
    have S3 := hS.mono t3
    refine ⟨_, rfl, S.x, S.dx, _, rfl, S3.o, rfl, _, rfl, _, _, rfl, S, e, r, rfl, rfl, S3, he, _, rfl, ?_⟩
    intro x dz nx ndz nex
    rw [hlw] at hlen
    refine ⟨_, _, _, rfl, x, dz, r.ha, p, tsOf ss, rfl, rfl, rfl, upd_same, ?_, fun u H4 kp nu h1 h2 => ⟨rfl, ?_⟩⟩
    · rw [upd_ne (ne_of_none hP nx), upd_ne (ne_of_none hP ndz)]
      exact hP
    · obtain ⟨sm, pm⟩ := pap_made (fn := r.hd.row) (ss := ss) nx ndz (S3.r r (List.mem_of_getElem? he)).ha hst (by omega) kp h1 h2
      refine k ss x H4 (t3.trans sm) pm hb ?_
      have : (wy z e).length = (wb z e).length := List.length_reverse
      omega
end SR
set_option maxHeartbeats 4000000
namespace SR
open PySem PySem.Spec PyProof.Rows L2
variable {P : Program} {w : World} {K : PySem.W.Frag} {mg : Str → Option Value} {base : Heap}
/-! ### libraries -/
def lbF (mx t r : Addr) : List (Str × V) := [("mixing", .ref mx), ("things", .ref t), ("rounds", .ref r)]
structure Lb where
  a : Addr
  dx : Addr
  mx : Addr
  t : Addr
  r : Addr
  T : List (Key × V)
  R : List (Key × V)
structure LbAt (K : PySem.W.Frag) (H : Hp) (L : Lb) : Prop where
  o : H L.a = some (.ins (CL K) L.dx (lbF L.mx L.t L.r))
  t : H L.t = some (.dK L.T)
  r : H L.r = some (.dK L.R)
  tl : L.T.length ≤ 1000
  rl : L.R.length ≤ 1000
  ne : L.t ≠ L.r
theorem LbAt.mono {H H' : Hp} {L : Lb} (s : Same H H') (h : LbAt K H L) : LbAt K H' L := ⟨s _ _ h.o, s _ _ h.t, s _ _ h.r, h.tl, h.rl, h.ne⟩
abbrev N_Library_init : List Str := ["self", "mixing"]
theorem sc_Library_init : FnScope N_Library_init ["self", "mixing"] (defScope s_Library_init) := ⟨rfl, rfl, rfl, by decide +kernel, rfl, by decide +kernel, by decide +kernel⟩
def spLbI (K : PySem.W.Frag) : Sp := Sp2 fun x y H Q => ∃ (a dx mx : Addr), x = .ref a ∧ y = .ref mx ∧ H a = some (.ins (CL K) dx []) ∧
  ∀ t r H', (∀ b o, H b = some o → b ≠ a → H' b = some o) → H t = none → H r = none → LbAt K H' ⟨a, dx, mx, t, r, [], []⟩ → Q .non H'
theorem c_Library_init (D : All K mg) : C8.Mak P w K mg base 1 "Library" (CL K) (spLbI K) [] := by
  refine mak D.Library_init sc_Library_init (fun _ _ _ _ _ _ us hl => match us, hl with | [_, _], _ => rfl) len2 fun fa cdv A outer s H vs Q E hr h => ?_
  have sc := sc_Library_init
  obtain ⟨_, _, rfl, a, dx, mx, rfl, rfl, ho, k⟩ := h
  refine ⟨_, (pss_cons (ps_fld (pv 0) (pv 1) rfl)
    (pss_cons (ps_fld (pv 0) pe_dnewK rfl)
    (pss_one (ps_fld (pv 0) pe_dnewK rfl)))), ?_⟩
  have e2 : ∀ t, putF "things" (.ref t) [(("mixing" : Str), V.ref mx)] = [(("mixing" : Str), V.ref mx), (("things" : Str), V.ref t)] := fun t => putF_new _ _ _ (by show (["mixing"] : List Str).contains "things" = false; decide +kernel)
  have e3 : ∀ t r, putF "rounds" (.ref r) [(("mixing" : Str), V.ref mx), (("things" : Str), V.ref t)] = lbF mx t r := fun t r => putF_new _ _ _ (by show (["mixing", "things"] : List Str).contains "rounds" = false; decide +kernel)
  have eN : putF "mixing" (.ref mx) [] = [(("mixing" : Str), V.ref mx)] := rfl
  refine ⟨_, rfl, _, rfl, a, _, dx, _, rfl, ho, D.x.cL, D.x.nL_mixing, (by show 0 < 1000; decide), fun t ht => ?_⟩
  rw [eN] at ht ⊢
  have nat' : a ≠ t := ne_of_none (show upd H a _ a = _ from upd_same) ht
  refine ⟨_, rfl, a, _, dx, _, rfl, (upd_ne nat').trans upd_same, D.x.cL, D.x.nL_things, (by show 1 < 1000; decide), fun r hr' => ?_⟩
  rw [e2] at hr' ⊢
  have nar : a ≠ r := ne_of_none (show upd _ a _ a = _ from upd_same) hr'
  refine ⟨_, rfl, a, _, dx, _, rfl, (upd_ne nar).trans upd_same, D.x.cL, D.x.nL_rounds, (by show 2 < 1000; decide), ?_⟩
  rw [e3]
  have ht0 : H t = none := by
    rw [upd_ne nat'.symm] at ht
    exact ht
  have nrt : r ≠ t := fun e => by
    rw [e, upd_ne nat'.symm, upd_same] at hr'
    cases hr'
  have hr0 : H r = none := by
    rw [upd_ne nar.symm, upd_ne nrt, upd_ne nar.symm] at hr'
    exact hr'
  refine k t r _ (fun b o e nb => ?_) ht0 hr0 ⟨upd_same, ?_, ?_, Nat.zero_le _, Nat.zero_le _, nrt.symm⟩
  · rw [upd_ne nb, upd_ne (ne_of_none e hr0), upd_ne nb, upd_ne (ne_of_none e ht0), upd_ne nb]
    exact e
  · show upd _ _ _ t = _
    rw [upd_ne nat'.symm, upd_ne nrt.symm, upd_ne nat'.symm, upd_same]
  · show upd _ _ _ r = _
    rw [upd_ne nar.symm, upd_same]
/-! ### _fits -/
def Simple (ns : List Int) : Prop := (∃ h v, ns = [1, h, v]) ∨ (∃ v, ns = [2, 0, v])
/-- entries belong to a row -/
def Fit (m : Mx) (ns es : List Int) : Prop := (Simple ns ∧ es = []) ∨ ∃ d : Hd, ns = d.row ∧ d.ok ∧ d.c = es.length ∧ d.rt = root m es
theorem Fit.tok {m : Mx} {ns es : List Int} (h : Fit m ns es) : TOk ns := by
  rcases h with ⟨h, _⟩ | ⟨d, e, ok, _⟩
  · rcases h with h | h
    · exact .inl h
    · exact .inr (.inl h)
  · rw [e]
    exact .inr (.inr ok.hd)
abbrev N__fits : List Str := ["mixing", "row", "entries"]
theorem sc_fits : FnScope N__fits ["mixing", "row", "entries"] (defScope s__fits) := ⟨rfl, rfl, rfl, by decide +kernel, rfl, by decide +kernel, by decide +kernel⟩
def spFits (K : PySem.W.Frag) : Sp := Sp3 fun x y t H Q => ∃ mx a l m ns es, x = .ref mx ∧ y = .ref a ∧ t = .ref l ∧ MxAt K H mx m ∧ MOk m ∧ Rw H a ns ∧ Li H l es ∧ Fit m ns es ∧ ∀ H', Same H H' → Q (.bl true) H'
theorem c__fits (D : All K mg) : C8.Cal P w K mg base 7 "_fits" (spFits K) [] := by
  refine cal D._fits sc_fits (fun _ _ _ _ _ _ us hl => match us, hl with | [_, _, _], _ => rfl) len3 fun fa cdv A outer s H vs Q E hr h => ?_
  have sc := sc_fits
  obtain ⟨_, _, _, rfl, mx, a, l, m, ns, es, rfl, rfl, rfl, hM, mo, hR, hL, ft, k⟩ := h
  refine ⟨_, (pss_cons (ps_if (pt_cmpR op_ne (pe_ix ix_tup (pv 1) pe_int (fun _ _ => rfl)) (C8.pe_gc rfl D.x.HEAD) (nomark _))
    (pss_one (ps_ret (pe_cmpR op_eq (pe_callB call_len_seq (by rfl) D.x.len PySem.boot_len (pa_cons (pv 2) pa_nil)) pe_int (nomark _))))
    pss_nil)
    (pss_one (ps_ret (pe_and (pe_cmpR op_eq (pe_callB call_len_seq (by rfl) D.x.len PySem.boot_len (pa_cons (pv 2) pa_nil)) (pe_ix ix_tup (pv 1) pe_int (fun _ _ => rfl)) (nomark _)) (pe_one (pe_cmpR op_eq (C8.pe_c (c_root_of D) hr (by decide) rfl (pa_cons (pv 0) (pa_cons (pv 2) pa_nil))) (pe_ix ix_tup (pv 1) pe_int (fun _ _ => rfl)) (nomark _))))))), ?_⟩
  rcases ft with ⟨sm, rfl⟩ | ⟨d, rfl, ok, ec, er⟩
  · rcases sm with ⟨h, v, rfl⟩ | ⟨v, rfl⟩
    · refine ⟨_, rfl, a, _, 0, _, rfl, rfl, SqT.of hR, rfl, rfl, _, rfl, iteT ?_⟩
      exact ⟨_, rfl, l, _, rfl, .inl (SqL.of hL), rfl, k H (Same.refl H)⟩
    · refine ⟨_, rfl, a, _, 0, _, rfl, rfl, SqT.of hR, rfl, rfl, _, rfl, iteT ?_⟩
      exact ⟨_, rfl, l, _, rfl, .inl (SqL.of hL), rfl, k H (Same.refl H)⟩
  · refine ⟨_, rfl, a, _, 0, _, rfl, rfl, SqT.of hR, at_of (j := 0) rfl rfl, rfl, _, rfl, iteF ?_⟩
    have h1 := ok.c1
    have h4 := ok.c4
    refine ⟨_, rfl, l, _, rfl, .inl (SqL.of hL), _, rfl, a, _, 4, _, rfl, rfl, SqT.of hR, at_of (j := 4) rfl rfl, rfl, _, rfl, ifT (decide_eq_true (congrArg V.int (by rw [List.length_map, ec]))) ?_⟩
    refine ⟨_, rfl, _, rfl, _, _, rfl, mx, l, m, es, rfl, rfl, hM, mo, hL, by omega, by omega, by omega, fun H1 s1 => ?_⟩
    refine ⟨_, rfl, a, _, 5, _, rfl, rfl, SqT.of (s1 _ _ hR), at_of (j := 5) rfl rfl, rfl, ?_⟩
    show Q (.bl (decide (V.int (root m es) = V.int d.rt))) H1
    rw [er, decide_eq_true rfl]
    exact k H1 s1
/-! ### put -/
/-- the rows of the things -/
def TRows (H : Hp) (T : List (Key × V)) : Prop := ∀ (k : Key) (v : V), valV T k = some v → ∃ a ns, v = .ref a ∧ Rw H a ns
theorem TRows.mono {H H' : Hp} {T : List (Key × V)} (t : Tq H H') (h : TRows H T) : TRows H' T := fun k v e => by
  obtain ⟨a, ns, e1, e2⟩ := h k v e
  exact ⟨a, ns, e1, t _ _ e2⟩
/-- what the rounds are behind a put -/
def rAft (H : Hp) (R : List (Key × V)) (n : Int) (ns es : List Int) (R' : List (Key × V)) : Prop := (Simple ns ∧ R' = R) ∨ ∃ (u : Addr) (d : Hd), ns = d.row ∧ Rw H u es ∧ R' = putK R (.inl n) (.ref u)
abbrev N_Library_put : List Str := ["self", "row", "entries", "number", "known", "kept"]
theorem sc_Library_put : FnScope N_Library_put ["self", "row", "entries"] (defScope s_Library_put) := ⟨rfl, rfl, rfl, by decide +kernel, rfl, by decide +kernel, by decide +kernel⟩
def spPut (K : PySem.W.Frag) : Sp := Sp3 fun x y t H Q => ∃ (L : Lb) (a l : Addr) (m : Mx) (ns es : List Int), x = .ref L.a ∧ y = .ref a ∧ t = .ref l ∧ LbAt K H L ∧ MxAt K H L.mx m ∧ MOk m ∧ Rw H a ns ∧ Li H l es ∧ Fit m ns es ∧ TRows H L.T ∧ L.T.length ≤ 900 ∧ L.R.length ≤ 900 ∧
  (∀ v, valV L.R (.inl (dig m ns)) = some v → ∃ a0 ns0, valV L.T (.inl (dig m ns)) = some (.ref a0) ∧ Rw H a0 ns0 ∧ ns0 ≠ ns) ∧
  (∀ q H', Same H H' → (∃ a0 ns0, valV L.T (.inl (dig m ns)) = some (.ref a0) ∧ Rw H a0 ns0 ∧ ns0 ≠ ns) → Q (.ref q) H') ∧
  (∀ R' H', But [L.t, L.r] H H' → (∀ v, valV L.T (.inl (dig m ns)) = some v → ∃ a0, v = .ref a0 ∧ Rw H a0 ns) → rAft H' L.R (dig m ns) ns es R' → LbAt K H' { L with T := putK L.T (.inl (dig m ns)) (.ref a), R := R' } → Q .non H')
theorem putK_len (T : List (Key × V)) (k : Key) (v : V) : (putK T k v).length ≤ T.length + 1 := by
  unfold putK
  split
  · rw [List.length_map]
    omega
  · rw [List.length_append]
    simp
theorem c_Library_put (D : All K mg) : C8.Met P w K mg base 8 (CL K) "put" (spPut K) [] := by
  refine met D.x.cL D.Library_put sc_Library_put (fun _ _ _ _ _ _ us hl => match us, hl with | [_, _, _], _ => rfl) len3 fun fa cdv A outer s H vs Q E hr h => ?_
  have sc := sc_Library_put
  obtain ⟨_, _, _, rfl, L, a, l, m, ns, es, rfl, rfl, rfl, hL, hM, mo, hR, hE, ft, tr, tl, rl, hr0, kA, kB⟩ := h
  refine ⟨_, (pss_cons (ps_if (pt_not (pt_val (C8.pe_c (c_is_thing D) hr (by decide) rfl (pa_cons (pv 1) pa_nil))))
    (pss_one ps_never)
    pss_nil)
    (pss_cons (ps_if (pt_not (pt_val (C8.pe_c (c__fits D) hr (by decide) rfl (pa_cons (pe_fld (pv 0) rfl) (pa_cons (pv 1) (pa_cons (pv 2) pa_nil))))))
    (pss_one ps_never)
    pss_nil)
    (pss_cons (ps_set (i := 3) sc.nd rfl (.inl rfl) (C8.pe_c (c_digest D) hr (by decide) rfl (pa_cons (pe_fld (pv 0) rfl) (pa_cons (pv 1) pa_nil))))
    (pss_cons (ps_set (i := 4) sc.nd rfl (.inl rfl) (pe_dget2 (hu_of hr) (pe_fld (pv 0) rfl) (pv 3) (pv 1) ⟨by rfl, by rfl, by rfl, by rfl⟩))
    (pss_cons (ps_if (pt_cmpR (op_neD hr.units) (pv 4) (pv 1) (nomark _))
    (pss_one (ps_ret (pe_tup (pa_cons (pv 4) (pa_cons (pv 1) pa_nil)))))
    pss_nil)
    (pss_cons (ps_if (pt_cmpR op_eq (pe_ix ix_tup (pv 1) pe_int (fun _ _ => rfl)) (C8.pe_gc rfl D.x.HEAD) (nomark _))
    (pss_cons (ps_set (i := 5) sc.nd rfl (.inl rfl) (pe_dsetd (pe_fld (pv 0) rfl) (pv 3) (pe_callTy call_tuple_of (by rfl) D.x.tuple (by decide +kernel) (pa_cons (pv 2) pa_nil)) ⟨by rfl, by rfl, by rfl, by rfl⟩))
      (pss_one (ps_if (pt_cmpR (op_neD hr.units) (pv 5) (pe_callTy call_tuple_of (by rfl) D.x.tuple (by decide +kernel) (pa_cons (pv 2) pa_nil)) (nomark _))
      (pss_one ps_never)
      pss_nil)))
    pss_nil)
    (pss_cons (ps_dput (hu_of hr) (pe_fld (pv 0) rfl) (pv 3) (pv 1) rfl)
    (pss_one (ps_ret pe_non))))))))), ?_⟩
  refine ⟨_, rfl, _, rfl, a, ns, rfl, hR, ft.tok, fun H1 s1 => ⟨_, rfl, iteF ?_⟩⟩
  have L1 := hL.mono s1
  refine ⟨_, rfl, L.a, _, L.dx, _, _, rfl, L1.o, D.x.cL, D.x.nL_mixing, rfl, _, rfl, _, rfl, _, _, _, rfl, L.mx, a, l, m, ns, es, rfl, rfl, rfl, hM.mono s1, mo, s1 _ _ hR, s1 _ _ hE, ft, fun H2 s2 => ⟨_, rfl, iteF ?_⟩⟩
  have t2 := s1.trans s2
  have L2' := hL.mono t2
  refine ⟨_, rfl, L.a, _, L.dx, _, _, rfl, L2'.o, D.x.cL, D.x.nL_mixing, rfl, _, rfl, _, _, rfl, L.mx, a, m, ns, rfl, rfl, hM.mono t2, mo, t2 _ _ hR, ?_⟩
  refine ⟨_, rfl, L.a, _, L.dx, _, _, rfl, L2'.o, D.x.cL, D.x.nL_things, rfl, L.t, rfl, .inl ⟨_, Rd.of L2'.t⟩, _, rfl, _, rfl, _, DGet.k (k := Sum.inl (dig m ns)) L2'.t, ?_⟩
  -- what is known by this digest
  obtain ⟨a0, ns0, ev, h0, hcase⟩ : ∃ a0 ns0, (valV L.T (Sum.inl (dig m ns))).getD (V.ref a) = V.ref a0 ∧ Rw H a0 ns0 ∧ (valV L.T (Sum.inl (dig m ns)) = some (.ref a0) ∨ (valV L.T (Sum.inl (dig m ns)) = none ∧ ns0 = ns)) := by
    cases q : valV L.T (Sum.inl (dig m ns)) with
    | none => exact ⟨a, ns, rfl, hR, .inr ⟨rfl, rfl⟩⟩
    | some v =>
      obtain ⟨a0, ns0, rfl, h0⟩ := tr _ _ q
      exact ⟨a0, ns0, rfl, h0, .inl rfl⟩
  rw [ev]
  refine ⟨_, rfl, _, rfl, _, _, dp_row (t2 _ _ h0), dp_row (t2 _ _ hR), rowD_shaped _, rowD_shaped _, _, rfl, ?_⟩
  rw [rowD_eqv]
  by_cases hns : ns0 = ns
  · refine ifF (by simp [hns]) ?_
    subst hns
    have hRn : valV L.R (.inl (dig m ns0)) = none := by
      cases q : valV L.R (.inl (dig m ns0)) with
      | none => rfl
      | some v =>
        obtain ⟨b0, ms0, e1, e2, e3⟩ := hr0 v q
        rcases hcase with hc | ⟨hc, _⟩
        · rw [hc] at e1
          cases e1
          have e2' : H a0 = some (.tup (ms0.map V.int)) := e2
          rw [show H a0 = some (.tup (ns0.map V.int)) from h0] at e2'
          have := HO.tup.inj (Option.some.inj e2')
          exact absurd ((List.map_inj_right (fun x y z => V.int.inj z)).mp this).symm e3
        · rw [hc] at e1
          cases e1
    have hT : ∀ v, valV L.T (.inl (dig m ns0)) = some v → ∃ a1, v = .ref a1 ∧ Rw H a1 ns0 := fun v q => by
      rcases hcase with hc | ⟨hc, _⟩
      · rw [hc] at q
        cases q
        exact ⟨a0, rfl, h0⟩
      · rw [hc] at q
        cases q
    rcases ft with ⟨sm, rfl⟩ | ⟨d, ed, ok, ec, er⟩
    · -- no head
      have nh : ∃ x r, ns0 = x :: r ∧ x ≠ 4 := by
        rcases sm with ⟨h, v, e⟩ | ⟨v, e⟩
        · exact ⟨1, [h, v], e, by decide⟩
        · exact ⟨2, [0, v], e, by decide⟩
      obtain ⟨x, r, en, nx⟩ := nh
      have hR2 : H2 a = some (.tup ((x :: r).map V.int)) := by
        rw [← en]
        exact t2 _ _ hR
      refine ⟨_, rfl, a, _, 0, _, rfl, rfl, SqT.of hR2, at_of (j := 0) rfl rfl, rfl, _, rfl, ifF (decide_eq_false fun e => nx (V.int.inj e)) ?_⟩
      refine ⟨_, rfl, _, rfl, L.a, _, L.dx, _, _, rfl, L2'.o, D.x.cL, D.x.nL_things, rfl, _, rfl, L.t, _, rfl, DPut.k (k := Sum.inl (dig m ns0)) L2'.t (small1 (by omega)), ?_⟩
      refine kB L.R _ ((Same.but t2).trans (But.at (by simp))) hT (.inl ⟨sm, rfl⟩) ⟨(upd_ne (ne_of hL.o hL.t (by intro q; cases q))).trans L2'.o, upd_same, (upd_ne hL.ne.symm).trans L2'.r, ?_, hL.rl, hL.ne⟩
      exact Nat.le_trans (putK_len _ _ _) (by omega)
    · have hR2 : Rw H2 a d.row := by
        rw [← ed]
        exact t2 _ _ hR
      have hE2 : Li H2 l es := t2 _ _ hE
      refine ⟨_, rfl, a, _, 0, _, rfl, rfl, SqT.of hR2, at_of (j := 0) rfl rfl, rfl, _, rfl, iteT ?_⟩
      refine ⟨_, rfl, L.a, _, L.dx, _, _, rfl, L2'.o, D.x.cL, D.x.nL_rounds, rfl, L.r, rfl, .inl ⟨_, Rd.of L2'.r⟩, _, rfl, _, rfl, l, _, rfl, .inl ⟨SqL.of hE2, fun u hu => ?_⟩⟩
      have su : Same H2 (upd H2 u (.tup (es.map V.int))) := Same.new hu
      refine ⟨L.R, Sum.inl (dig m ns0), su _ _ L2'.r, rfl, small1 (by omega), fun v q => (by rw [hRn] at q; cases q), fun _ => ?_⟩
      have nar : L.a ≠ L.r := ne_of hL.o hL.r (by intro q; cases q)
      have nat' : L.a ≠ L.t := ne_of hL.o hL.t (by intro q; cases q)
      have nlr : l ≠ L.r := ne_of hE hL.r (by intro q; cases q)
      have tb : Tq H2 (upd (upd H2 u (.tup (es.map V.int))) L.r (.dK (putK L.R (.inl (dig m ns0)) (.ref u)))) := (Tq.of su).trans (Tq.at (su _ _ L2'.r) (fun _ q => by cases q))
      have hu3 : upd (upd H2 u (.tup (es.map V.int))) L.r (.dK (putK L.R (.inl (dig m ns0)) (.ref u))) u = some (.tup (es.map V.int)) := (Tq.at (su _ _ L2'.r) (fun _ q => by cases q)) _ _ upd_same
      have bb : But [L.t, L.r] H (upd (upd H2 u (.tup (es.map V.int))) L.r (.dK (putK L.R (.inl (dig m ns0)) (.ref u)))) := (Same.but (t2.trans su)).trans (But.at (by simp))
      have oo : upd (upd H2 u (.tup (es.map V.int))) L.r (.dK (putK L.R (.inl (dig m ns0)) (.ref u))) L.a = _ := (upd_ne nar).trans (su _ _ L2'.o)
      have tt : upd (upd H2 u (.tup (es.map V.int))) L.r (.dK (putK L.R (.inl (dig m ns0)) (.ref u))) L.t = _ := (upd_ne hL.ne).trans (su _ _ L2'.t)
      have rr : upd (upd H2 u (.tup (es.map V.int))) L.r (.dK (putK L.R (.inl (dig m ns0)) (.ref u))) L.r = some (.dK (putK L.R (.inl (dig m ns0)) (.ref u))) := upd_same
      have ll : upd (upd H2 u (.tup (es.map V.int))) L.r (.dK (putK L.R (.inl (dig m ns0)) (.ref u))) l = some (.lst (es.map V.int)) := (upd_ne nlr).trans (su _ _ hE2)
      revert tb hu3 bb oo tt rr ll
      generalize upd (upd H2 u (.tup (es.map V.int))) L.r (.dK (putK L.R (.inl (dig m ns0)) (.ref u))) = H3
      intro tb hu3 bb oo tt rr ll
      refine ⟨_, rfl, _, rfl, l, _, rfl, .inl ⟨SqL.of ll, fun u2 hu2 => ?_⟩⟩
      have s4 : Same H3 (upd H3 u2 (.tup (es.map V.int))) := Same.new hu2
      refine ⟨_, _, dp_row (s4 _ _ hu3), dp_row (show Rw (upd H3 u2 (.tup (es.map V.int))) u2 es from upd_same), rowD_shaped _, rowD_shaped _, _, rfl, ifF (by rw [rowD_eqv]; simp) ?_⟩
      refine ⟨_, rfl, _, rfl, L.a, _, L.dx, _, _, rfl, s4 _ _ oo, D.x.cL, D.x.nL_things, rfl, _, rfl, L.t, _, rfl, DPut.k (k := Sum.inl (dig m ns0)) (s4 _ _ tt) (small1 (by omega)), ?_⟩
      have t5 : Tq (upd H3 u2 (.tup (es.map V.int))) (upd (upd H3 u2 (.tup (es.map V.int))) L.t (.dK (putK L.T (.inl (dig m ns0)) (.ref a)))) := Tq.at (s4 _ _ tt) (fun _ q => by cases q)
      refine kB (putK L.R (.inl (dig m ns0)) (.ref u)) _ ((bb.trans (Same.but s4)).trans (But.at (by simp))) hT (.inr ⟨u, d, ed, t5 _ _ (s4 _ _ hu3), rfl⟩) ⟨(upd_ne nat').trans (s4 _ _ oo), upd_same, (upd_ne hL.ne.symm).trans (s4 _ _ rr), ?_, ?_, hL.ne⟩
      · exact Nat.le_trans (putK_len _ _ _) (by omega)
      · exact Nat.le_trans (putK_len _ _ _) (by omega)
  · refine ifT (by simp [hns]) ?_
    refine ⟨_, rfl, _, rfl, small (by show 2 ≤ 100000; decide), fun q hq => ?_⟩
    rcases hcase with hc | ⟨_, hc⟩
    · exact kA q _ (t2.trans (Same.new hq)) ⟨a0, ns0, hc, h0, hns⟩
    · exact absurd hc hns
/-! ### row_of, entries_of -/
abbrev N_Library_row_of : List Str := ["self", "number"]
theorem sc_Library_row_of : FnScope N_Library_row_of ["self", "number"] (defScope s_Library_row_of) := ⟨rfl, rfl, rfl, by decide +kernel, rfl, by decide +kernel, by decide +kernel⟩
def spRowOf (K : PySem.W.Frag) : Sp := Sp2 fun x y H Q => ∃ (L : Lb) (n : Int) (v : V), x = .ref L.a ∧ y = .int n ∧ LbAt K H L ∧ valV L.T (.inl n) = some v ∧ Q v H
theorem c_Library_row_of (D : All K mg) : C8.Met P w K mg base 1 (CL K) "row_of" (spRowOf K) [] := by
  refine met D.x.cL D.Library_row_of sc_Library_row_of (fun _ _ _ _ _ _ us hl => match us, hl with | [_, _], _ => rfl) len2 fun fa cdv A outer s H vs Q E hr h => ?_
  have sc := sc_Library_row_of
  obtain ⟨_, _, rfl, L, n, v, rfl, rfl, hL, hv, k⟩ := h
  refine ⟨_, (pss_one (ps_ret (pe_dget1 (hu_of hr) (pe_fld (pv 0) rfl) (pv 1) ⟨by rfl, by rfl, by rfl, by rfl⟩))), ?_⟩
  refine ⟨_, rfl, L.a, _, L.dx, _, _, rfl, hL.o, D.x.cL, D.x.nL_things, rfl, L.t, rfl, .inl ⟨_, Rd.of hL.t⟩, _, rfl, _, DGet.k (k := Sum.inl n) hL.t, ?_⟩
  rw [hv]
  exact k
abbrev N_Library_entries_of : List Str := ["self", "number"]
theorem sc_Library_entries_of : FnScope N_Library_entries_of ["self", "number"] (defScope s_Library_entries_of) := ⟨rfl, rfl, rfl, by decide +kernel, rfl, by decide +kernel, by decide +kernel⟩
def spEntOf (K : PySem.W.Frag) : Sp := Sp2 fun x y H Q => ∃ (L : Lb) (n : Int) (u : Addr) (es : List Int), x = .ref L.a ∧ y = .int n ∧ LbAt K H L ∧ valV L.R (.inl n) = some (.ref u) ∧ Rw H u es ∧ NewL H es Q
theorem c_Library_entries_of (D : All K mg) : C8.Met P w K mg base 1 (CL K) "entries_of" (spEntOf K) [] := by
  refine met D.x.cL D.Library_entries_of sc_Library_entries_of (fun _ _ _ _ _ _ us hl => match us, hl with | [_, _], _ => rfl) len2 fun fa cdv A outer s H vs Q E hr h => ?_
  have sc := sc_Library_entries_of
  obtain ⟨_, _, rfl, L, n, u, es, rfl, rfl, hL, hv, hU, k⟩ := h
  refine ⟨_, (pss_cons (ps_if (pt_cmp (pc_dnotin (hu_of hr) (pv 1) (pe_fld (pv 0) rfl)))
    (pss_one (ps_ret pe_non))
    pss_nil)
    (pss_one (ps_ret (pe_callTy call_list_of (by rfl) D.x.list (by decide +kernel) (pa_cons (pe_dget (hu_of hr) (pe_fld (pv 0) rfl) (pv 1) (fun _ _ => rfl)) pa_nil))))), ?_⟩
  have g : DGet H L.r (kV (Sum.inl n)) (some (.ref u)) := by
    rw [← hv]
    exact DGet.k (k := Sum.inl n) hL.r
  refine ⟨_, rfl, _, rfl, L.a, _, L.dx, _, _, rfl, hL.o, D.x.cL, D.x.nL_rounds, rfl, L.r, _, rfl, g, _, rfl, iteF ?_⟩
  refine ⟨_, rfl, L.a, _, L.dx, _, _, rfl, hL.o, D.x.cL, D.x.nL_rounds, rfl, _, rfl, L.r, _, rfl, g, u, _, rfl, .inr (SqT.of hU), fun l hl => ?_⟩
  exact k l _ (Same.new hl) hl upd_same
end SR
set_option maxHeartbeats 4000000
namespace SR
open PySem PySem.Spec PyProof.Rows L2
variable {P : Program} {w : World} {K : PySem.W.Frag} {mg : Str → Option Value} {base : Heap}
/-! ### traces -/
abbrev N__tree_clash : List Str := ["library", "before", "row", "place", "mixing", "entries", "own"]
theorem sc_tree_clash : FnScope N__tree_clash ["library", "before", "row", "place"] (defScope s__tree_clash) := ⟨rfl, rfl, rfl, by decide +kernel, rfl, by decide +kernel, by decide +kernel⟩
/-- the library knows the entries of a head as they were when the row bn was entered -/
def EntK (H : Hp) (m : Mx) (R : List (Key × V)) (d : Hd) (bn : List Int) (i : Nat) (ws : List Int) : Prop := ∃ u es, valV R (.inl (dig m d.row)) = some (.ref u) ∧ Rw H u es ∧ es.length = d.c ∧ es[i]? = some (dig m bn) ∧ ws = way m es i
theorem EntK.mono {H H' : Hp} {m : Mx} {R : List (Key × V)} {d : Hd} {bn : List Int} {i : Nat} {ws : List Int} (s : Same H H') (h : EntK H m R d bn i ws) : EntK H' m R d bn i ws := by
  obtain ⟨u, es, h1, h2, h3⟩ := h
  exact ⟨u, es, h1, s _ _ h2, h3⟩
def spTC (K : PySem.W.Frag) : Sp := Sp4 fun x1 x2 x3 x4 H Q => ∃ (L : Lb) (m : Mx) (ba ra pa : Addr) (bn ws : List Int) (d : Hd) (i : Nat), x1 = .ref L.a ∧ x2 = .ref ba ∧ x3 = .ref ra ∧ x4 = .ref pa ∧ LbAt K H L ∧ MxAt K H L.mx m ∧ MOk m ∧ Rw H ba bn ∧ Rw H ra d.row ∧ d.ok ∧ PlAt H pa (.ent i ws) ∧ EntK H m L.R d bn i ws ∧ ∀ H', Same H H' → Q .non H'
theorem c__tree_clash (D : All K mg) : C8.Cal P w K mg base 8 "_tree_clash" (spTC K) [] := by
  refine cal D._tree_clash sc_tree_clash (fun _ _ _ _ _ _ us hl => match us, hl with | [_, _, _, _], _ => rfl) len4 fun fa cdv A outer s H vs Q E hr h => ?_
  have sc := sc_tree_clash
  obtain ⟨_, _, _, _, rfl, L, m, ba, ra, pa, bn, ws, d, i, rfl, rfl, rfl, rfl, hL, hM, mo, hB, hR, ok, ⟨wa, hP, hW⟩, ⟨u, es, hv, hU, el, ei, rfl⟩, k⟩ := h
  refine ⟨_, (pss_cons (ps_set (i := 4) sc.nd rfl (.inl rfl) (pe_fld (pv 0) rfl))
    (pss_cons (ps_set (i := 5) sc.nd rfl (.inl rfl) (C8.pe_mt (c_Library_entries_of D) hr (by decide) (pv 0) (pa_cons (C8.pe_c (c_digest D) hr (by decide) rfl (pa_cons (pv 4) (pa_cons (pv 2) pa_nil))) pa_nil)))
    (pss_cons (ps_set (i := 6) sc.nd rfl (.inl rfl) (pe_tup (pa_cons (pe_ix ix_list (pv 5) (pe_ix ix_tup (pv 3) pe_int (fun _ _ => rfl)) (fun _ _ => rfl)) (pa_cons (C8.pe_c (c_way_of D) hr (by decide) rfl (pa_cons (pv 4) (pa_cons (pv 5) (pa_cons (pe_ix ix_tup (pv 3) pe_int (fun _ _ => rfl)) pa_nil)))) pa_nil))))
    (pss_one (ps_ret (C8.pe_c (c_clash_of_ways D) hr (by decide) rfl (pa_cons (pv 4) (pa_cons (pe_ix ix_tup (pv 2) pe_int (fun _ _ => rfl)) (pa_cons (pe_ix ix_tup (pv 3) pe_int (fun _ _ => rfl)) (pa_cons (pv 6) (pa_cons (pe_tup (pa_cons (C8.pe_c (c_digest D) hr (by decide) rfl (pa_cons (pv 4) (pa_cons (pv 1) pa_nil))) (pa_cons (pe_callTy call_tuple_of (by rfl) D.x.tuple (by decide +kernel) (pa_cons (pe_ix ix_tup (pv 3) pe_int (fun _ _ => rfl)) pa_nil)) pa_nil))) pa_nil))))))))))), ?_⟩
  have hil : i < es.length := (List.getElem?_eq_some_iff.mp ei).1
  have c4 := ok.c4
  refine ⟨_, rfl, L.a, _, L.dx, _, _, rfl, hL.o, D.x.cL, D.x.nL_mixing, rfl, ?_⟩
  refine ⟨_, rfl, L.a, L.dx, _, rfl, hL.o, rfl, _, rfl, _, rfl, _, _, rfl, L.mx, ra, m, _, rfl, rfl, hM, mo, hR, _, _, rfl, L, _, u, es, rfl, rfl, hL, hv, hU, fun l H1 s1 _ hl => ?_⟩
  have hP1 := s1 _ _ hP
  refine ⟨_, rfl, _, rfl, pa, _, 1, _, rfl, rfl, SqT.of hP1, rfl, l, _, _, _, rfl, rfl, SqL.of hl, at_of rfl (map_at ei), ?_⟩
  refine ⟨_, rfl, _, rfl, _, rfl, pa, _, 1, _, rfl, rfl, SqT.of hP1, rfl, _, _, _, rfl, L.mx, l, m, es, i, rfl, rfl, rfl, hM.mono s1, mo, hl, by omega, hil, fun w1 H2 s2 _ hw1 => ⟨small (by show 2 ≤ 100000; decide), fun o1 ho1 => ?_⟩⟩
  have s3 : Same H2 (upd H2 o1 (.tup [V.int (dig m bn), V.ref w1])) := Same.new ho1
  have t3 := (s1.trans s2).trans s3
  have o13 : upd H2 o1 (.tup [V.int (dig m bn), V.ref w1]) o1 = some (.tup [V.int (dig m bn), V.ref w1]) := upd_same
  have w13 := s3 _ _ hw1
  revert t3 o13 w13
  generalize upd H2 o1 (.tup [V.int (dig m bn), V.ref w1]) = H3
  intro t3 o13 w13
  have hP3 := t3 _ _ hP
  refine ⟨_, rfl, _, rfl, ra, _, 4, _, rfl, rfl, SqT.of (t3 _ _ hR), at_of (j := 4) rfl rfl, _, rfl, pa, _, 1, _, rfl, rfl, SqT.of hP3, rfl, _, rfl, _, rfl, _, rfl, _, _, rfl, L.mx, ba, m, bn, rfl, rfl, hM.mono t3, mo, t3 _ _ hB, ?_⟩
  refine ⟨_, rfl, pa, _, 2, _, rfl, rfl, SqT.of hP3, rfl, wa, _, rfl, .inr ⟨SqT.of (t3 _ _ hW), small (by show 2 ≤ 100000; decide), fun o2 ho2 => ?_⟩⟩
  have s4 : Same H3 (upd H3 o2 (.tup [V.int (dig m bn), V.ref wa])) := Same.new ho2
  refine ⟨_, _, _, _, _, rfl, L.mx, o1, o2, w1, wa, m, d.c, i, dig m bn, way m es i, rfl, rfl, rfl, rfl, rfl, hM.mono (t3.trans s4), mo, c4, by omega, s4 _ _ o13, upd_same, s4 _ _ w13, s4 _ _ (t3 _ _ hW), ?_, fun H5 s5 => k H5 ((t3.trans s4).trans s5)⟩
  rw [way_len m es i (by omega), el]
abbrev N_trace : List Str := ["library", "paper", "rows", "at", "before", "row", "place", "clash", "known"]
theorem sc_trace : FnScope N_trace ["library", "paper"] (defScope s_trace) := ⟨rfl, rfl, rfl, by decide +kernel, rfl, by decide +kernel, by decide +kernel⟩
/-- the library knows a row -/
def KnowR (H : Hp) (m : Mx) (T : List (Key × V)) (bn : List Int) : Prop := ∃ a, valV T (.inl (dig m bn)) = some (.ref a) ∧ Rw H a bn
theorem KnowR.mono {H H' : Hp} {m : Mx} {T : List (Key × V)} {bn : List Int} (s : Same H H') (h : KnowR H m T bn) : KnowR H' m T bn := by
  obtain ⟨a, h1, h2⟩ := h
  exact ⟨a, h1, s _ _ h2⟩
structure TrOk (H : Hp) (m : Mx) (L : Lb) (bn : List Int) (st : Stp) : Prop where
  ok : st.hd.ok
  k : KnowR H m L.T bn
  e : ∀ i ws, st.pl = .ent i ws → EntK H m L.R st.hd bn i ws
theorem TrOk.mono {H H' : Hp} {m : Mx} {L : Lb} {bn : List Int} {st : Stp} (s : Same H H') (h : TrOk H m L bn st) : TrOk H' m L bn st := ⟨h.ok, h.k.mono s, fun i ws e => (h.e i ws e).mono s⟩
theorem ahead_row {f : Addr} {ss : List Stp} {i : Nat} (hi : i ≤ ss.length) : (V.ref f :: rasOf ss)[i]? = some (V.ref (aheadA f ss i)) := by
  cases i with
  | zero => rfl
  | succ j =>
    have e := List.getElem?_eq_getElem (show j < ss.length by omega)
    show (rasOf ss)[j]? = some (V.ref (((ss[j]?).map fun z => z.ra).getD 0))
    unfold rasOf
    rw [List.getElem?_map, e]
    rfl
def spTrace (K : PySem.W.Frag) : Sp := Sp2 fun x1 x2 H Q => ∃ (L : Lb) (m : Mx) (p f : Addr) (fn : List Int) (ss : List Stp), x1 = .ref L.a ∧ x2 = .ref p ∧ LbAt K H L ∧ MxAt K H L.mx m ∧ MOk m ∧ PapAt K H p f fn ss ∧ (∀ i st, ss[i]? = some st → TrOk H m L (aheadN fn ss i) st) ∧
  ∀ q H', Same H H' → H' q = some (.tup [.str "known"]) → Q (.ref q) H'
theorem c_trace (D : All K mg) : C8.Cal P w K mg base 9 "trace" (spTrace K) [] := by
  refine cal D.trace sc_trace (fun _ _ _ _ _ _ us hl => match us, hl with | [_, _], _ => rfl) len2 fun fa cdv A outer s H vs Q E hr h => ?_
  have sc := sc_trace
  obtain ⟨_, _, rfl, L, m, p, f, fn, ss, rfl, rfl, hL, hM, mo, pp, ht, k⟩ := h
  refine ⟨_, (pss_cons (ps_set (i := 2) sc.nd rfl (.inl rfl) (C8.pe_c (c_rows_of D) hr (by decide) rfl (pa_cons (pv 1) pa_nil)))
    (pss_cons (ps_for PassesOwn.never rfl (pi_range3 (by rfl) D.x.range (pa_cons (pe_callB call_len_seq (by rfl) D.x.len PySem.boot_len (pa_cons (pe_fld (pv 1) rfl) pa_nil)) (pa_cons pe_int (pa_cons (pe_un un_neg pe_int) pa_nil)))) (pg_name (i := 3) sc.nd rfl (.inl rfl))
    (pss_cons (ps_set (i := 4) sc.nd rfl (.inl rfl) (pe_ix ix_list (pv 2) (pe_op op_sub (pv 3) pe_int) (fun _ _ => rfl)))
      (pss_cons (ps_asg (pe_ix ix_list (pe_fld (pv 1) rfl) (pe_op op_sub (pv 3) pe_int) (fun _ _ => rfl)) (pg_tup rfl (pgs_cons (pg_name (i := 5) sc.nd rfl (.inl rfl)) (pgs_cons (pg_name (i := 6) sc.nd rfl (.inl rfl)) pgs_nil))))
      (pss_cons (ps_if (pt_cmpR op_eq (pe_ix ix_tup (pv 6) pe_int (fun _ _ => rfl)) pe_str (nomark _))
      (pss_cons (ps_set (i := 7) sc.nd rfl (.inl rfl) (C8.pe_c (c__tree_clash D) hr (by decide) rfl (pa_cons (pv 0) (pa_cons (pv 4) (pa_cons (pv 5) (pa_cons (pv 6) pa_nil))))))
        (pss_one (ps_if (pt_cmp (pc_notN (pv 7)))
        (pss_one (ps_ret (pe_op op_catT (pe_tup (pa_cons pe_str pa_nil)) (pv 7))))
        pss_nil)))
      pss_nil)
      (pss_cons (ps_set (i := 8) sc.nd rfl (.inl rfl) (C8.pe_mt (c_Library_row_of D) hr (by decide) (pv 0) (pa_cons (C8.pe_c (c_digest D) hr (by decide) rfl (pa_cons (pe_fld (pv 0) rfl) (pa_cons (pv 4) pa_nil))) pa_nil)))
      (pss_cons (ps_if (pt_cmp (pc_isN (pv 8)))
      (pss_one (ps_ret (pe_tup (pa_cons pe_str (pa_cons (pv 3) pa_nil)))))
      pss_nil)
      (pss_one (ps_if (pt_cmpR (op_neD hr.units) (pv 8) (pv 4) (nomark _))
      (pss_one (ps_ret (pe_tup (pa_cons pe_str (pa_cons (pv 8) (pa_cons (pv 4) pa_nil))))))
      pss_nil))))))))
    (pss_one (ps_ret (pe_tup (pa_cons pe_str pa_nil)))))), ?_⟩
  refine ⟨_, rfl, _, rfl, p, f, fn, ss, rfl, pp, fun q H1 s1 _ hq => ?_⟩
  have pp1 := pp.mono s1
  obtain ⟨dx, l, hp, hl⟩ := pp1.o
  have len : (tsOf ss).length = ss.length := by unfold tsOf; rw [List.length_map]
  have l100 := pp.len
  refine ⟨_, rfl, p, _, dx, _, _, rfl, hp, D.x.cP, D.x.nP_steps, rfl, l, _, rfl, .inl (SqL.of hl), _, rfl, _, _, _, _, rfl, RgC.neg (by omega) (by rw [len]; omega) (by decide) (by decide), ?_⟩
  refine for_rangeC (lo := (((tsOf ss).length : Nat) : Int)) (c := -1) (n := ((((tsOf ss).length : Nat) : Int) - 0).toNat) (fun i σ H' => Same H H' ∧ Same H1 H' ∧ ∃ v3 v4 v5 v6 v7 v8 : Option V, σ = [some (.ref L.a), some (.ref p), some (.ref q), v3, v4, v5, v6, v7, v8])
    ⟨s1, Same.refl _, _, _, _, _, _, _, rfl⟩ ?_ ?_
  · rintro i σ H' hi ⟨t, t1, v3, v4, v5, v6, v7, v8, rfl⟩
    rw [len] at hi
    obtain ⟨j, hj⟩ : ∃ j, j + i + 1 = ss.length := ⟨ss.length - i - 1, by omega⟩
    have hjl : j < ss.length := by omega
    have hst : ss[j]? = some ss[j] := List.getElem?_eq_getElem hjl
    have tr := (ht j _ hst).mono t
    have ps := (pp.st _ (List.getElem_mem hjl)).mono t
    revert hst tr ps
    generalize ss[j] = st
    intro hst tr ps
    obtain ⟨a0, ha1, ha2⟩ := tr.k
    have hbef := ahead_at (pp.mono t).f (pp.mono t).st j (by omega)
    have ht2 : (tsOf ss)[j]? = some (V.ref st.t) := by
      unfold tsOf
      rw [List.getElem?_map, hst]
      rfl
    refine ⟨_, rfl, _, rfl, _, _, rfl, rfl, q, _, _, _, rfl, rfl, SqL.of (t1 _ _ hq), at_of (j := j) (by rw [len]; omega) (ahead_row (by omega)), ?_⟩
    refine ⟨_, rfl, p, _, dx, _, _, rfl, t1 _ _ hp, D.x.cP, D.x.nP_steps, rfl, _, rfl, _, _, rfl, rfl, l, _, _, _, rfl, rfl, SqL.of (t1 _ _ hl), at_of (j := j) (by rw [len]; omega) ht2, ?_⟩
    refine ⟨st.t, _, rfl, SqT.of ps.t, rfl, _, _, rfl, _, _, rfl, rfl, ?_⟩
    -- behind the entry's look
    have rest : ∀ (v : Option V) (H2 : Hp), Same H' H2 → tSeq (tAsg (tMeth (CL K) "row_of" (spRowOf K) [] C8.E0 (tVar 0) (tCons (tCall (spDig K) [] C8.E0 (tCons (tFld K (tVar 0) "mixing") (tCons (tVar 4) tNil))) tNil)) (gName 8))
        (tSeq (tIfS (tB (tIsN (tVar 8))) (tRet (tTup (tCons (tC (.str "unknown")) (tCons (tVar 3) tNil)))) tNext)
          (tIfS (tTest (tOp (rNeD K) (tVar 8) (tVar 4))) (tRet (tTup (tCons (tC (.str "clash")) (tCons (tVar 8) (tCons (tVar 4) tNil))))) tNext))
        { nx := fun σ H' => Same H H' ∧ Same H1 H' ∧ ∃ v3 v4 v5 v6 v7 v8 : Option V, σ = [some (.ref L.a), some (.ref p), some (.ref q), v3, v4, v5, v6, v7, v8],
          ct := fun σ H' => Same H H' ∧ Same H1 H' ∧ ∃ v3 v4 v5 v6 v7 v8 : Option V, σ = [some (.ref L.a), some (.ref p), some (.ref q), v3, v4, v5, v6, v7, v8],
          bk := fun σ H' => tRet (tTup (tCons (tC (.str "known")) tNil)) { nx := fun _ H' => Q .non H', rt := Q } σ H', rt := Q }
        [some (.ref L.a), some (.ref p), some (.ref q), some (.int ((((tsOf ss).length : Nat) : Int) + (i : Nat) * -1)), some (.ref (aheadA f ss j)), some (.ref st.ra), some (.ref st.pa), v, v8] H2 := fun v H2 s2 => by
      have t2 := t.trans s2
      refine ⟨_, rfl, L.a, L.dx, _, rfl, (hL.mono t2).o, rfl, _, rfl, L.a, _, L.dx, _, _, rfl, (hL.mono t2).o, D.x.cL, D.x.nL_mixing, rfl, _, rfl, _, _, rfl, L.mx, aheadA f ss j, m, aheadN fn ss j, rfl, rfl, hM.mono t2, mo, s2 _ _ hbef, ?_⟩
      refine ⟨_, _, rfl, L, _, _, rfl, rfl, hL.mono t2, ha1, ?_⟩
      refine ⟨_, rfl, _, rfl, iteF ?_⟩
      refine ⟨_, rfl, _, rfl, _, _, dp_row (s2 _ _ ha2), dp_row (s2 _ _ hbef), rowD_shaped _, rowD_shaped _, _, rfl, ifF (by rw [rowD_eqv]; simp) ?_⟩
      exact ⟨t2, t1.trans s2, _, _, _, _, _, _, rfl⟩
    have hpl := ps.p
    have he := tr.e
    cases e : st.pl with
    | ent a ws =>
      rw [e] at hpl
      obtain ⟨wa, hpa, hwa⟩ := hpl
      refine ⟨_, rfl, st.pa, _, 0, _, rfl, rfl, SqT.of hpa, rfl, rfl, _, rfl, ifT eEE ?_⟩
      refine ⟨_, rfl, _, rfl, _, rfl, _, rfl, _, _, _, _, rfl, L, m, aheadA f ss j, st.ra, st.pa, aheadN fn ss j, ws, st.hd, a, rfl, rfl, rfl, rfl, hL.mono t, hM.mono t, mo, hbef, ps.r, tr.ok, ⟨wa, hpa, hwa⟩, he a ws e, fun H2 s2 => ?_⟩
      refine ⟨_, rfl, _, rfl, iteF ?_⟩
      exact rest (some .non) H2 s2
    | bk a =>
      rw [e] at hpl
      have hpa : H' st.pa = some (.tup [.str "back", .int (a : Int)]) := hpl
      refine ⟨_, rfl, st.pa, _, 0, _, rfl, rfl, SqT.of hpa, rfl, rfl, _, rfl, ifF eEB ?_⟩
      exact rest v7 H' (Same.refl _)
  · rintro σ H' ⟨t, t1, v3, v4, v5, v6, v7, v8, rfl⟩
    exact ⟨small (by show 1 ≤ 100000; decide), fun u hu => k u _ (t.trans (Same.new hu)) upd_same⟩
end SR
set_option maxHeartbeats 4000000
namespace SR
open PySem PySem.Spec PyProof.Rows L2
variable {P : Program} {w : World} {K : PySem.W.Frag} {mg : Str → Option Value} {base : Heap}
/-! ### the law's cells and draws -/
abbrev N__law_cell : List Str := ["_law_script", "_law_k"]
theorem sc_law_cell : FnScope N__law_cell ["_law_script", "_law_k"] (defScope s__law_cell) := ⟨rfl, rfl, rfl, by decide +kernel, rfl, by decide +kernel, by decide +kernel⟩
def spLCell (K : PySem.W.Frag) : Sp := Sp2 fun x y H Q => ∃ (a : Addr) (ns : List Int) (k : Nat), x = .ref a ∧ y = .int (k : Int) ∧ SqL K H a (ns.map V.int) ∧ ∀ z, Q (.int z) H
theorem c__law_cell (D : All K mg) : C8.Cal P w K mg base 1 "_law_cell" (spLCell K) [] := by
  refine cal D._law_cell sc_law_cell (fun _ _ _ _ _ _ us hl => match us, hl with | [_, _], _ => rfl) len2 fun fa cdv A outer s H vs Q E hr h => ?_
  have sc := sc_law_cell
  obtain ⟨_, _, rfl, a, ns, k, rfl, rfl, hS, q⟩ := h
  refine ⟨_, (pss_cons (ps_if (pt_cmpR op_lt (pv 1) (pe_callB call_len_seq (by rfl) D.x.len PySem.boot_len (pa_cons (pv 0) pa_nil)) (nomark _))
    (pss_one (ps_ret (pe_ix ix_list (pv 0) (pv 1) (fun _ _ => rfl))))
    pss_nil)
    (pss_one (ps_ret pe_int))), ?_⟩
  refine ⟨_, rfl, _, rfl, a, _, rfl, .inl hS, _, _, rfl, rfl, _, rfl, ite2 (fun hc => ?_) (fun _ => ?_)⟩
  · have hc := of_decide_eq_true hc
    rw [List.length_map] at hc
    have hk : k < ns.length := by omega
    exact ⟨_, rfl, _, rfl, a, _, _, _, rfl, rfl, hS, at_of rfl (map_at (List.getElem?_eq_getElem hk)), q _⟩
  · exact q 0
abbrev N__law_row : List Str := ["_law_script", "_law_first", "_law_last", "_law_row_here", "_law_k", "_law_cell_here", "_law_turn"]
theorem sc_law_row : FnScope N__law_row ["_law_script", "_law_first", "_law_last"] (defScope s__law_row) := ⟨rfl, rfl, rfl, by decide +kernel, rfl, by decide +kernel, by decide +kernel⟩
def spLRow (K : PySem.W.Frag) : Sp := Sp3 fun x y t H Q => ∃ (a : Addr) (ns : List Int), x = .ref a ∧ y = .int 0 ∧ t = .int 63 ∧ SqL K H a (ns.map V.int) ∧ ∀ p rs H', Same H H' → H p = none → Li H' p rs → rs.length ≤ 4000 → Q (.ref p) H'
theorem c__law_row (D : All K mg) : C8.Cal P w K mg base 2 "_law_row" (spLRow K) [] := by
  refine cal D._law_row sc_law_row (fun _ _ _ _ _ _ us hl => match us, hl with | [_, _, _], _ => rfl) len3 fun fa cdv A outer s H vs Q E hr h => ?_
  have sc := sc_law_row
  obtain ⟨_, _, _, rfl, a, ns, rfl, rfl, rfl, hS, k⟩ := h
  refine ⟨_, (pss_cons (ps_set (i := 3) sc.nd rfl (.inl rfl) (pe_lst pa_nil))
    (pss_cons (ps_for PassesOwn.never rfl (pi_range2 (by rfl) D.x.range (pa_cons (pv 1) (pa_cons (pv 2) pa_nil))) (pg_name (i := 4) sc.nd rfl (.inl rfl))
    (pss_cons (ps_set (i := 5) sc.nd rfl (.inl rfl) (C8.pe_c (c__law_cell D) hr (by decide) rfl (pa_cons (pv 0) (pa_cons (pv 4) pa_nil))))
      (pss_cons (ps_set (i := 5) sc.nd rfl (.inl rfl) (pe_op op_add (pe_callB call_abs (by rfl) D.x.abs (by decide +kernel) (pa_cons (pe_op op_mul pe_int (pv 5)) pa_nil)) (pe_callTy call_int1 (by rfl) D.x.int (by decide +kernel) (pa_cons (pe_cmpR op_lt (pv 5) pe_int (nomark _)) pa_nil))))
      (pss_one (ps_if (pt_cmpR op_gt (pv 5) (pe_op op_pow pe_int pe_int) (nomark _))
      (pss_one (ps_for PassesOwn.never rfl (pi_range1 (by rfl) D.x.range (pa_cons pe_int pa_nil)) (pg_name (i := 6) sc.nd rfl (.inl rfl))
        (pss_one (ps_if (pt_cmpR op_gt (pv 5) pe_int (nomark _))
          (pss_cons (ps_expr (pe_bm PySem.F.plainAttrs_list PySem.F.slot_list_append PySem.F.type_list_append mt_append (pv 3) (pa_cons (pe_op op_mod (pe_callTy call_int1 (by rfl) D.x.int (by decide +kernel) (pa_cons (pv 5) pa_nil)) pe_int) pa_nil)))
            (pss_one (ps_set (i := 5) sc.nd rfl (.inl rfl) (pe_op op_fdiv (pv 5) pe_int))))
          pss_nil))))
      (pss_one (ps_for PassesOwn.never rfl (pi_range1 (by rfl) D.x.range (pa_cons pe_int pa_nil)) (pg_name (i := 6) sc.nd rfl (.inl rfl))
        (pss_cons (ps_set (i := 5) sc.nd rfl (.inl rfl) (pe_op op_mod (pe_callTy call_int1 (by rfl) D.x.int (by decide +kernel) (pa_cons (pe_op op_add (pe_op op_add (pe_op op_mul (pv 5) pe_int) (pe_op op_mul pe_int (pe_op op_add (pv 4) (pv 6)))) pe_int) pa_nil)) pe_int))
          (pss_one (ps_expr (pe_bm PySem.F.plainAttrs_list PySem.F.slot_list_append PySem.F.type_list_append mt_append (pv 3) (pa_cons (pe_op op_mod (pe_callTy call_int1 (by rfl) D.x.int (by decide +kernel) (pa_cons (pe_op op_fdiv (pv 5) pe_int) pa_nil)) pe_int) pa_nil))))))))))))
    (pss_one (ps_ret (pv 3))))), ?_⟩
  refine ⟨Nat.zero_le _, fun p hp => ?_⟩
  refine ⟨_, rfl, _, rfl, 0, 63, rfl, ⟨by decide, by decide, by decide, by decide⟩, ?_⟩
  refine for_range (lo := 0) (n := 63) (fun i σ H' => Same H H' ∧ ∃ (rs : List Int) (v4 v5 v6 : Option V), σ = [some (.ref a), some (.int 0), some (.int 63), some (.ref p), v4, v5, v6] ∧ Li H' p rs ∧ rs.length ≤ 60 * i)
    ⟨Same.new hp, [], none, none, none, rfl, upd_same, Nat.zero_le _⟩ ?_ ?_
  · rintro i σ H' hi ⟨s1, rs, v4, v5, v6, rfl, hP, hlen⟩
    have ei : (0 : Int) + (i : Int) = (i : Int) := by omega
    refine ⟨_, rfl, _, rfl, _, _, rfl, a, ns, i, rfl, by rw [ei], s1.seq hS, fun z => ?_⟩
    refine ⟨_, rfl, _, _, rfl, rfl, .inl ⟨by decide, by decide⟩, _, rfl, _, rfl, _, _, rfl, rfl, .inr ⟨_, rfl, _, _, rfl, rfl, ?_⟩⟩
    refine ⟨_, rfl, _, _, rfl, rfl, ⟨by decide, by decide, by decide⟩, _, _, rfl, rfl, _, rfl, ite2 (fun _ => ?_) (fun _ => ?_)⟩
    · refine ⟨60, rfl, by decide, by decide, ?_⟩
      refine for_range (lo := 0) (n := 60) (fun t σ H' => Same H H' ∧ ∃ (rs : List Int) (c : Int) (v6 : Option V), σ = [some (.ref a), some (.int 0), some (.int 63), some (.ref p), some (.int (0 + (i : Int))), some (.int c), v6] ∧ Li H' p rs ∧ rs.length ≤ 60 * i + t)
        ⟨s1, rs, _, v6, rfl, hP, hlen⟩ ?_ ?_
      · rintro t σ H2 ht ⟨s2, rs, c, v6, rfl, hP, hlen⟩
        refine ⟨_, rfl, _, _, rfl, rfl, _, rfl, ite2 (fun _ => ?_) (fun _ => ?_)⟩
        · refine ⟨_, rfl, .inl ⟨rfl, _, SqL.of hP⟩, _, rfl, .inl ⟨_, rfl, _, _, rfl, rfl, (by show (0 : Int) < 840; decide), p, _, _, rfl, rfl, hP, small1 (by rw [List.length_map]; omega), ?_⟩⟩
          refine ⟨_, rfl, _, _, rfl, rfl, ⟨by decide, by decide⟩, Same.mut s2 hp, rs ++ [c % 840], _, some (.int (0 + (t : Int))), rfl, ?_, ?_⟩
          · show upd _ _ _ p = _
            rw [upd_same, int_snoc]
          · rw [List.length_append]
            simp only [List.length_cons, List.length_nil]
            omega
        · exact ⟨s2, rs, c, some (.int (0 + (t : Int))), rfl, hP, by omega⟩
      · rintro σ H2 ⟨s2, rs, c, v6, rfl, hP, hlen⟩
        exact ⟨s2, rs, _, _, _, rfl, hP, by omega⟩
    · refine ⟨10, rfl, by decide, by decide, ?_⟩
      refine for_range (lo := 0) (n := 10) (fun t σ H' => Same H H' ∧ ∃ (rs : List Int) (c : Int) (v6 : Option V), σ = [some (.ref a), some (.int 0), some (.int 63), some (.ref p), some (.int (0 + (i : Int))), some (.int c), v6] ∧ Li H' p rs ∧ rs.length ≤ 60 * i + t)
        ⟨s1, rs, _, v6, rfl, hP, hlen⟩ ?_ ?_
      · rintro t σ H2 ht ⟨s2, rs, c, v6, rfl, hP, hlen⟩
        refine ⟨_, rfl, _, _, rfl, rfl, .inr ⟨by decide, by decide⟩, _, rfl, _, rfl, _, _, rfl, rfl, _, _, rfl, rfl, .inl ⟨by decide, by decide⟩, _, _, rfl, rfl, _, _, rfl, rfl, .inl ⟨_, rfl, _, _, rfl, rfl, (by show (0 : Int) < 4294967291; decide), ?_⟩⟩
        refine ⟨_, rfl, .inl ⟨rfl, _, SqL.of hP⟩, _, rfl, _, _, rfl, rfl, ⟨by decide, by decide⟩, .inl ⟨_, rfl, _, _, rfl, rfl, (by show (0 : Int) < 840; decide), p, _, _, rfl, rfl, hP, small1 (by rw [List.length_map]; omega), Same.mut s2 hp, rs ++ [(c * 69069 + 104729 * (0 + (i : Int) + (0 + (t : Int))) + 1) % 4294967291 / 5003 % 840], _, some (.int (0 + (t : Int))), rfl, ?_, ?_⟩⟩
        · show upd _ _ _ p = _
          rw [upd_same, int_snoc]
        · rw [List.length_append]
          simp only [List.length_cons, List.length_nil]
          omega
      · rintro σ H2 ⟨s2, rs, c, v6, rfl, hP, hlen⟩
        exact ⟨s2, rs, _, _, _, rfl, hP, by omega⟩
  · rintro σ H' ⟨s1, rs, v4, v5, v6, rfl, hP, hlen⟩
    exact ⟨_, rfl, k p rs H' s1 hp hP (by omega)⟩
/-- the law's box: its row of digits, the place in it -/
def BoxAt (H : Hp) (b r : Addr) : Prop := ∃ (p : Int) (ns : List Int), H b = some (.lst [.ref r, .int p]) ∧ Li H r ns ∧ 0 ≤ p ∧ r ≠ b
theorem BoxAt.mono {H H' : Hp} {b r : Addr} (s : Same H H') (h : BoxAt H b r) : BoxAt H' b r := by
  obtain ⟨p, ns, h1, h2, h3, h4⟩ := h
  exact ⟨p, ns, s _ _ h1, s _ _ h2, h3, h4⟩
abbrev N__law_draw : List Str := ["_law_box", "_law_many", "_law_at"]
theorem sc_law_draw : FnScope N__law_draw ["_law_box", "_law_many"] (defScope s__law_draw) := ⟨rfl, rfl, rfl, by decide +kernel, rfl, by decide +kernel, by decide +kernel⟩
def spDraw : Sp := Sp2 fun x y H Q => ∃ (b r : Addr) (n : Int), x = .ref b ∧ y = .int n ∧ BoxAt H b r ∧ 0 < n ∧ ∀ z H', 0 ≤ z → z < n → But [b] H H' → BoxAt H' b r → Q (.int z) H'
theorem c__law_draw (D : All K mg) : C8.Cal P w K mg base 1 "_law_draw" spDraw [] := by
  refine cal D._law_draw sc_law_draw (fun _ _ _ _ _ _ us hl => match us, hl with | [_, _], _ => rfl) len2 fun fa cdv A outer s H vs Q E hr h => ?_
  have sc := sc_law_draw
  obtain ⟨_, _, rfl, b, r, n, rfl, rfl, ⟨p, ns, hb, hR, hp, nrb⟩, hn, k⟩ := h
  refine ⟨_, (pss_cons (ps_set (i := 2) sc.nd rfl (.inl rfl) (pe_ix ix_list (pv 0) pe_int (fun _ _ => rfl)))
    (pss_cons (ps_asg (pe_op op_add (pv 2) pe_int) (pg_sub (pv 0) pe_int set_list))
    (pss_cons (ps_if (pt_cmpR op_lt (pv 2) (pe_callB call_len_seq (by rfl) D.x.len PySem.boot_len (pa_cons (pe_ix ix_list (pv 0) pe_int (fun _ _ => rfl)) pa_nil)) (nomark _))
    (pss_one (ps_ret (pe_op op_mod (pe_callTy call_int1 (by rfl) D.x.int (by decide +kernel) (pa_cons (pe_ix ix_list (pe_ix ix_list (pv 0) pe_int (fun _ _ => rfl)) (pv 2) (fun _ _ => rfl)) pa_nil)) (pv 1))))
    pss_nil)
    (pss_one (ps_ret (pe_op op_mod (pe_callTy call_int1 (by rfl) D.x.int (by decide +kernel) (pa_cons (pe_op op_add (pe_op op_mul (pv 2) pe_int) pe_int) pa_nil)) (pv 1))))))), ?_⟩
  refine ⟨_, rfl, b, _, 1, _, rfl, rfl, SqL.of hb, rfl, ?_⟩
  refine ⟨_, rfl, _, _, rfl, rfl, _, rfl, b, _, 1, 1, rfl, rfl, hb, rfl, ?_⟩
  have b1 : But [b] H (upd H b (.lst [V.ref r, V.int (p + 1)])) := But.at (by simp)
  have x1 : upd H b (.lst [V.ref r, V.int (p + 1)]) b = some (.lst [V.ref r, V.int (p + 1)]) := upd_same
  have hR1 : Li (upd H b (.lst [V.ref r, V.int (p + 1)])) r ns := (upd_ne nrb).trans hR
  have bx : BoxAt (upd H b (.lst [V.ref r, V.int (p + 1)])) b r := ⟨p + 1, ns, x1, hR1, by omega, nrb⟩
  refine ⟨_, rfl, _, rfl, b, _, 0, _, rfl, rfl, SqL.of x1, rfl, r, _, rfl, .inl (SqL.of hR1), _, _, rfl, rfl, _, rfl, ite2 (fun hc => ?_) (fun _ => ?_)⟩
  · have hc := of_decide_eq_true hc
    rw [List.length_map] at hc
    have hj : p.toNat < ns.length := by omega
    refine ⟨_, rfl, b, _, 0, _, rfl, rfl, SqL.of x1, rfl, _, rfl, r, _, _, _, rfl, rfl, SqL.of hR1, at_of (j := p.toNat) (by omega) (map_at (List.getElem?_eq_getElem hj)), .inl ⟨_, rfl, _, rfl, _, _, rfl, rfl, hn, ?_⟩⟩
    exact k _ _ (Int.emod_nonneg _ (by omega)) (Int.emod_lt_of_pos _ hn) b1 bx
  · refine ⟨_, rfl, _, _, rfl, rfl, .inr ⟨by decide, by decide⟩, _, _, rfl, rfl, .inl ⟨_, rfl, _, rfl, _, _, rfl, rfl, hn, ?_⟩⟩
    exact k _ _ (Int.emod_nonneg _ (by omega)) (Int.emod_lt_of_pos _ hn) b1 bx
end SR
set_option maxHeartbeats 4000000
namespace SR
open PySem PySem.Spec PyProof.Rows L2
variable {P : Program} {w : World} {K : PySem.W.Frag} {mg : Str → Option Value} {base : Heap}
/-! ### the law's digest, numbers, mixing -/
theorem foldl_len (m : Mx) (ns : List Int) : (((ns.length : Nat) : Int) :: ns).foldl (stp m) 1 = ns.foldl (stp m) ((m.f + (ns.length : Int) + 1) % PR) := by
  rw [List.foldl_cons, stp_one]
abbrev N__law_digest : List Str := ["_law_m", "_law_row_here", "_law_state", "_law_n"]
theorem sc_law_digest : FnScope N__law_digest ["_law_m", "_law_row_here"] (defScope s__law_digest) := ⟨rfl, rfl, rfl, by decide +kernel, rfl, by decide +kernel, by decide +kernel⟩
/-- a mixing as the law holds it -/
abbrev MtAt (H : Hp) (a : Addr) (m : Mx) : Prop := H a = some (.tup [.int m.b, .int m.f])
def spLDig : Sp := Sp2 fun x y H Q => ∃ mt r m ns, x = .ref mt ∧ y = .ref r ∧ MtAt H mt m ∧ MOk m ∧ Rw H r ns ∧ ns.length ≤ 100 ∧ ∀ H', Same H H' → Q (.int (dig m ns)) H'
theorem c__law_digest (D : All K mg) : C8.Cal P w K mg base 1 "_law_digest" spLDig [] := by
  refine cal D._law_digest sc_law_digest (fun _ _ _ _ _ _ us hl => match us, hl with | [_, _], _ => rfl) len2 fun fa cdv A outer s H vs Q E hr h => ?_
  have sc := sc_law_digest
  obtain ⟨_, _, rfl, mt, r, m, ns, rfl, rfl, hM, mo, hR, hlen, k⟩ := h
  refine ⟨_, (pss_cons (ps_set (i := 2) sc.nd rfl (.inl rfl) pe_int)
    (pss_cons (ps_for PassesOwn.never rfl (pi_list (pe_op op_cat (pe_lst (pa_cons (pe_callB call_len_seq (by rfl) D.x.len PySem.boot_len (pa_cons (pv 1) pa_nil)) pa_nil)) (pe_callTy call_list_of (by rfl) D.x.list (by decide +kernel) (pa_cons (pv 1) pa_nil)))) (pg_name (i := 3) sc.nd rfl (.inl rfl))
    (pss_one (ps_set (i := 2) sc.nd rfl (.inl rfl) (pe_op op_mod (pe_callTy call_int1 (by rfl) D.x.int (by decide +kernel) (pa_cons (pe_op op_add (pe_op op_add (pe_op op_mul (pv 2) (pe_ix ix_tup (pv 0) pe_int (fun _ _ => rfl))) (pv 3)) pe_int) pa_nil)) pe_int))))
    (pss_one (ps_ret (pe_op op_mod (pe_callTy call_int1 (by rfl) D.x.int (by decide +kernel) (pa_cons (pe_op op_add (pe_op op_mul (pv 2) pe_int) (pe_op op_fdiv (pv 2) pe_int)) pa_nil)) (pe_ix ix_tup (pv 0) pe_int (fun _ _ => rfl))))))), ?_⟩
  refine ⟨_, rfl, r, _, rfl, .inr (SqT.of hR), small (by show 1 ≤ 100000; decide), fun u hu => ?_⟩
  have s1 : Same H (upd H u (.lst [V.int (((ns.map V.int).length : Nat) : Int)])) := Same.new hu
  refine ⟨_, rfl, r, _, rfl, .inr (SqT.of (s1 _ _ hR)), fun u2 hu2 => ?_⟩
  have s2 := s1.trans (Same.new hu2 (o := .lst (ns.map V.int)))
  refine ⟨u, u2, _, _, rfl, rfl, Same.new hu2 _ _ upd_same, upd_same, small ?_, fun q hq => ?_⟩
  · rw [List.length_map]
    simp only [List.length_cons, List.length_nil]
    omega
  have s3 := s2.trans (Same.new hq (o := .lst ([V.int (((ns.map V.int).length : Nat) : Int)] ++ ns.map V.int)))
  have hq3 : upd (upd (upd H u (.lst [V.int (((ns.map V.int).length : Nat) : Int)])) u2 (.lst (ns.map V.int))) q (.lst ([V.int (((ns.map V.int).length : Nat) : Int)] ++ ns.map V.int)) q = some (.lst ((((ns.length : Nat) : Int) :: ns).map V.int)) := by
    rw [upd_same, List.length_map]
    rfl
  revert s3 hq3
  generalize upd (upd (upd H u (.lst [V.int (((ns.map V.int).length : Nat) : Int)])) u2 (.lst (ns.map V.int))) q (.lst ([V.int (((ns.map V.int).length : Nat) : Int)] ++ ns.map V.int)) = H3
  intro s3 hq3
  refine ⟨q, rfl, ⟨_, SqL.of hq3⟩, for_list (K := K) (a := q) (xs := (((ns.length : Nat) : Int) :: ns).map V.int) (fun i σ H' => H' = H3 ∧ ∃ (z : Int) (v : Option V), σ = [some (.ref mt), some (.ref r), some (.int z), v] ∧ z = ((((ns.length : Nat) : Int) :: ns).take i).foldl (stp m) 1 ∧ -(2 ^ 64) < z ∧ z < 2 ^ 64)
    ⟨rfl, 1, none, rfl, rfl, by decide, by decide⟩ (fun i σ H' _ ⟨e, _⟩ => by rw [e]; exact SqL.of hq3) ?_ ?_⟩
  · rintro i y σ H' hi ⟨rfl, z, v, rfl, ez, z1, z2⟩
    obtain ⟨n, rfl, hn⟩ := at_map hi
    refine ⟨_, rfl, _, rfl, mt, _, 1, _, rfl, rfl, SqT.of (s3 _ _ hM), rfl, _, _, rfl, rfl, .inl ⟨z1, z2⟩, _, rfl, _, _, rfl, rfl, _, _, rfl, rfl, .inl ⟨_, rfl, _, _, rfl, rfl, (by show (0 : Int) < 2305843009213693951; decide), ?_⟩⟩
    have e : (z * m.f + n + 1) % 2305843009213693951 = stp m z n := rfl
    have l1 := stp_lo m z n
    have l2 := stp_hi m z n
    have l3 : PR < 2 ^ 64 := by decide
    refine ⟨rfl, stp m z n, some (.int n), rfl, ?_, by omega, by omega⟩
    rw [List.take_succ, hn, List.foldl_append, ← ez]
    rfl
  · rintro σ H' ⟨rfl, z, v, rfl, ez, z1, z2⟩
    rw [List.length_map, List.take_length, foldl_len] at ez
    refine ⟨_, rfl, _, _, rfl, rfl, .inl ⟨z1, z2⟩, _, rfl, _, _, rfl, rfl, ⟨by decide, by decide⟩, _, _, rfl, rfl, .inl ⟨_, rfl, _, rfl, mt, _, 0, _, rfl, rfl, SqT.of (s3 _ _ hM), rfl, _, _, rfl, rfl, mo.b0, ?_⟩⟩
    subst ez
    exact k H' s3
abbrev N__law_number : List Str := ["_law_box", "_law_kind", "_law_n", "_law_turn"]
theorem sc_law_number : FnScope N__law_number ["_law_box"] (defScope s__law_number) := ⟨rfl, rfl, rfl, by decide +kernel, rfl, by decide +kernel, by decide +kernel⟩
def spNum : Sp := Sp1 fun x H Q => ∃ (b br : Addr), x = .ref b ∧ BoxAt H b br ∧ ∀ z H', But [b] H H' → BoxAt H' b br → Q (.int z) H'
theorem c__law_number (D : All K mg) : C8.Cal P w K mg base 2 "_law_number" spNum [] := by
  refine cal D._law_number sc_law_number (fun _ _ _ _ _ _ us hl => match us, hl with | [_], _ => rfl) len1 fun fa cdv A outer s H vs Q E hr h => ?_
  have sc := sc_law_number
  obtain ⟨_, rfl, b, br, rfl, bx, k⟩ := h
  refine ⟨_, (pss_cons (ps_set (i := 1) sc.nd rfl (.inl rfl) (C8.pe_c (c__law_draw D) hr (by decide) rfl (pa_cons (pv 0) (pa_cons pe_int pa_nil))))
    (pss_cons (ps_if (pt_cmpR op_lt (pv 1) pe_int (nomark _))
    (pss_one (ps_ret (C8.pe_c (c__law_draw D) hr (by decide) rfl (pa_cons (pv 0) (pa_cons pe_int pa_nil)))))
    pss_nil)
    (pss_cons (ps_set (i := 2) sc.nd rfl (.inl rfl) pe_int)
    (pss_cons (ps_for PassesOwn.never rfl (pi_range1 (by rfl) D.x.range (pa_cons (pe_op op_add pe_int (C8.pe_c (c__law_draw D) hr (by decide) rfl (pa_cons (pv 0) (pa_cons pe_int pa_nil)))) pa_nil)) (pg_name (i := 3) sc.nd rfl (.inl rfl))
    (pss_one (ps_set (i := 2) sc.nd rfl (.inl rfl) (pe_op op_add (pe_op op_mul (pv 2) pe_int) (C8.pe_c (c__law_draw D) hr (by decide) rfl (pa_cons (pv 0) (pa_cons pe_int pa_nil)))))))
    (pss_one (ps_ret (pv 2))))))), ?_⟩
  refine ⟨_, rfl, _, _, rfl, b, br, 6, rfl, rfl, bx, by decide, fun z H1 _ _ b1 bx1 => ?_⟩
  refine ⟨_, rfl, _, _, rfl, rfl, _, rfl, ite2 (fun _ => ?_) (fun _ => ?_)⟩
  · exact ⟨_, rfl, _, _, rfl, b, br, 7, rfl, rfl, bx1, by decide, fun z2 H2 _ _ b2 bx2 => k z2 H2 (b1.trans b2) bx2⟩
  · refine ⟨_, rfl, _, _, rfl, b, br, 7, rfl, rfl, bx1, by decide, fun z2 H2 z0 z7 b2 bx2 => ?_⟩
    refine ⟨_, _, rfl, rfl, 1 + z2, rfl, by omega, by omega, ?_⟩
    refine for_range (lo := 0) (n := (1 + z2).toNat) (fun i σ H' => But [b] H H' ∧ BoxAt H' b br ∧ ∃ (n : Int) (v : Option V), σ = [some (.ref b), some (.int z), some (.int n), v]) ⟨b1.trans b2, bx2, 0, none, rfl⟩ ?_ ?_
    · rintro i σ H' hi ⟨b3, bx3, n, v, rfl⟩
      refine ⟨_, rfl, _, _, rfl, rfl, .inr ⟨by decide, by decide⟩, _, rfl, _, _, rfl, b, br, 840, rfl, rfl, bx3, by decide, fun z3 H4 _ _ b4 bx4 => ⟨_, _, rfl, rfl, b3.trans b4, bx4, _, _, rfl⟩⟩
    · rintro σ H' ⟨b3, bx3, n, v, rfl⟩
      exact ⟨_, rfl, k n H' b3 bx3⟩
abbrev N__law_mixing : List Str := ["_law_box", "_law_bound", "_law_factor"]
theorem sc_law_mixing : FnScope N__law_mixing ["_law_box"] (defScope s__law_mixing) := ⟨rfl, rfl, rfl, by decide +kernel, rfl, by decide +kernel, by decide +kernel⟩
def spMix : Sp := Sp1 fun x H Q => ∃ (b br : Addr), x = .ref b ∧ BoxAt H b br ∧ ∀ (m : Mx) p H', MOk m → But [b] H H' → BoxAt H' b br → MtAt H' p m → Q (.ref p) H'
theorem bounds_at (z : Int) (h0 : 0 ≤ z) (h8 : z < 8) : ∃ b : Int, 0 < b ∧ atI [V.int 2, V.int 3, V.int 5, V.int 16, V.int 50, V.int (840 * 840), V.int 2305843009213693951, V.int (2 ^ (64 : Int).toNat)] z = some (V.int b) := by
  have : z = 0 ∨ z = 1 ∨ z = 2 ∨ z = 3 ∨ z = 4 ∨ z = 5 ∨ z = 6 ∨ z = 7 := by omega
  rcases this with h | h | h | h | h | h | h | h <;> subst h
  · exact ⟨2, by decide, rfl⟩
  · exact ⟨3, by decide, rfl⟩
  · exact ⟨5, by decide, rfl⟩
  · exact ⟨16, by decide, rfl⟩
  · exact ⟨50, by decide, rfl⟩
  · exact ⟨840 * 840, by decide, rfl⟩
  · exact ⟨2305843009213693951, by decide, rfl⟩
  · exact ⟨2 ^ (64 : Int).toNat, by decide, rfl⟩
theorem c__law_mixing (D : All K mg) : C8.Cal P w K mg base 3 "_law_mixing" spMix [] := by
  refine cal D._law_mixing sc_law_mixing (fun _ _ _ _ _ _ us hl => match us, hl with | [_], _ => rfl) len1 fun fa cdv A outer s H vs Q E hr h => ?_
  have sc := sc_law_mixing
  obtain ⟨_, rfl, b, br, rfl, bx, k⟩ := h
  refine ⟨_, (pss_cons (ps_set (i := 1) sc.nd rfl (.inl rfl) (pe_ix ix_list (pe_lst (pa_cons pe_int (pa_cons pe_int (pa_cons pe_int (pa_cons pe_int (pa_cons pe_int (pa_cons (pe_op op_mul pe_int pe_int) (pa_cons pe_int (pa_cons (pe_op op_pow pe_int pe_int) pa_nil))))))))) (C8.pe_c (c__law_draw D) hr (by decide) rfl (pa_cons (pv 0) (pa_cons pe_int pa_nil))) (fun _ _ => rfl)))
    (pss_cons (ps_set (i := 2) sc.nd rfl (.inl rfl) (pe_op op_add pe_int (pe_op op_mod (pe_callTy call_int1 (by rfl) D.x.int (by decide +kernel) (pa_cons (pe_op op_add (C8.pe_c (c__law_draw D) hr (by decide) rfl (pa_cons (pv 0) (pa_cons pe_int pa_nil))) (pe_op op_mul pe_int (C8.pe_c (c__law_number D) hr (by decide) rfl (pa_cons (pv 0) pa_nil)))) pa_nil)) pe_int)))
    (pss_one (ps_ret (pe_tup (pa_cons (pv 1) (pa_cons (pv 2) pa_nil))))))), ?_⟩
  refine ⟨_, _, rfl, rfl, .inl ⟨by decide, by decide⟩, _, _, rfl, rfl, ⟨by decide, by decide, by decide⟩, small (by show 8 ≤ 100000; decide), fun u hu => ?_⟩
  have bx0 := bx.mono (Same.new hu (o := .lst [V.int 2, V.int 3, V.int 5, V.int 16, V.int 50, V.int (840 * 840), V.int 2305843009213693951, V.int (2 ^ (64 : Int).toNat)]))
  have nub : u ≠ b := by
    obtain ⟨p, ns, hb, _⟩ := bx
    exact (ne_of_none hb hu).symm
  refine ⟨_, rfl, _, _, rfl, b, br, 8, rfl, rfl, bx0, by decide, fun z H1 z0 z8 b1 bx1 => ?_⟩
  have hu1 : H1 u = some (.lst [V.int 2, V.int 3, V.int 5, V.int 16, V.int 50, V.int (840 * 840), V.int 2305843009213693951, V.int (2 ^ (64 : Int).toNat)]) := b1 _ _ (by simpa using nub) upd_same
  obtain ⟨bb, hb0, hbb⟩ := bounds_at z z0 z8
  refine ⟨u, _, z, _, rfl, rfl, SqL.of hu1, hbb, ?_⟩
  refine ⟨_, rfl, _, _, rfl, b, br, 840, rfl, rfl, bx1, by decide, fun y H2 y0 y8 b2 bx2 => ?_⟩
  refine ⟨_, rfl, _, rfl, b, br, rfl, bx2, fun n H3 b3 bx3 => ?_⟩
  refine ⟨_, _, rfl, rfl, .inl ⟨by decide, by decide⟩, _, _, rfl, rfl, .inl ⟨_, rfl, _, _, rfl, rfl, (by show (0 : Int) < 2305843009213693949; decide), _, _, rfl, rfl, ?_⟩⟩
  have f0 : 0 ≤ (y + 840 * n) % 2305843009213693949 := Int.emod_nonneg _ (by decide)
  have f1 : (y + 840 * n) % 2305843009213693949 < 2305843009213693949 := Int.emod_lt_of_pos _ (by decide)
  have bt : But [b] H H3 := (((Same.but (Same.new hu)).trans b1).trans b2).trans b3
  refine ⟨_, rfl, _, rfl, small (by show 2 ≤ 100000; decide), fun p hp => ?_⟩
  refine k ⟨bb, 2 + (y + 840 * n) % 2305843009213693949⟩ p _ ⟨hb0, ?_, ?_⟩ (bt.trans (Same.but (Same.new hp))) (bx3.mono (Same.new hp)) upd_same
  · show -(2 ^ 64) < 2 + (y + 840 * n) % 2305843009213693949
    omega
  · show 2 + (y + 840 * n) % 2305843009213693949 < 2 ^ 64
    omega
/-! ### the law's sameness -/
abbrev N__law_is_integer : List Str := ["_law_told"]
theorem sc_law_is_integer : FnScope N__law_is_integer ["_law_told"] (defScope s__law_is_integer) := ⟨rfl, rfl, rfl, by decide +kernel, rfl, by decide +kernel, by decide +kernel⟩
def spIsI : Sp := Sp1 fun x H Q => ∃ z : Int, x = .int z ∧ Q (.bl true) H
theorem kII {K : PySem.W.Frag} : PySem.W.kitOne K (.type "int") (.type "int") = some true := kit_ty (by decide +kernel)
theorem kIB {K : PySem.W.Frag} : PySem.W.kitOne K (.type "int") (.type "bool") = some false := kit_ty (by decide +kernel)
theorem kTB {K : PySem.W.Frag} : PySem.W.kitOne K (.type "tuple") (.type "bool") = some false := kit_ty (by decide +kernel)
theorem kTI {K : PySem.W.Frag} : PySem.W.kitOne K (.type "tuple") (.type "int") = some false := kit_ty (by decide +kernel)
theorem kTS {K : PySem.W.Frag} : PySem.W.kitOne K (.type "tuple") (.type "str") = some false := kit_ty (by decide +kernel)
theorem kTT {K : PySem.W.Frag} : PySem.W.kitOne K (.type "tuple") (.type "tuple") = some true := kit_ty (by decide +kernel)
theorem kTL {K : PySem.W.Frag} : PySem.W.kitOne K (.type "tuple") (.type "list") = some false := kit_ty (by decide +kernel)
theorem c__law_is_integer (D : All K mg) : C8.Cal P w K mg base 1 "_law_is_integer" spIsI [] := by
  refine cal D._law_is_integer sc_law_is_integer (fun _ _ _ _ _ _ us hl => match us, hl with | [_], _ => rfl) len1 fun fa cdv A outer s H vs Q E hr h => ?_
  have sc := sc_law_is_integer
  obtain ⟨_, rfl, z, rfl, k⟩ := h
  refine ⟨_, (pss_one (ps_ret (pe_and (pe_callB call_isi (by rfl) D.x.isinstance (by decide +kernel) (pa_cons (pv 0) (pa_cons (pe_bltn (v := .ty "int") (by rfl) D.x.int (by decide +kernel) rfl) pa_nil))) (pe_one (pe_not (pe_callB call_isi (by rfl) D.x.isinstance (by decide +kernel) (pa_cons (pv 0) (pa_cons (pe_bltn (v := .ty "bool") (by rfl) D.x.bool (by decide +kernel) rfl) pa_nil)))))))), ?_⟩
  exact ⟨_, rfl, _, _, _, _, _, rfl, .ty _, .base (.int z), kII, _, rfl, iteT ⟨_, rfl, _, _, _, _, _, rfl, .ty _, .base (.int z), kIB, _, rfl, k⟩⟩
abbrev N__law_same : List Str := ["_law_told", "_law_due", "_law_k"]
theorem sc_law_same : FnScope N__law_same ["_law_told", "_law_due"] (defScope s__law_same) := ⟨rfl, rfl, rfl, by decide +kernel, rfl, by decide +kernel, by decide +kernel⟩
def spSam0 : Sp := Sp2 fun x y H Q => ∃ z : Int, x = .int z ∧ y = .int z ∧ Q (.bl true) H
theorem c_law_same0 (D : All K mg) : C8.Cal P w K mg base 2 "_law_same" spSam0 [] := by
  refine cal D._law_same sc_law_same (fun _ _ _ _ _ _ us hl => match us, hl with | [_, _], _ => rfl) len2 fun fa cdv A outer s H vs Q E hr h => ?_
  have sc := sc_law_same
  obtain ⟨_, _, rfl, z, rfl, rfl, k⟩ := h
  refine ⟨_, (pss_cons (ps_if (pt_cmp (pc_isN (pv 1)))
    (pss_one (ps_ret (pe_cmp (pc_isN (pv 0)) rfl)))
    pss_nil)
    (pss_cons (ps_if (pt_val (pe_callB call_isi (by rfl) D.x.isinstance (by decide +kernel) (pa_cons (pv 1) (pa_cons (pe_bltn (v := .ty "bool") (by rfl) D.x.bool (by decide +kernel) rfl) pa_nil))))
    (pss_one (ps_ret (pe_and (pe_callB call_isi (by rfl) D.x.isinstance (by decide +kernel) (pa_cons (pv 0) (pa_cons (pe_bltn (v := .ty "bool") (by rfl) D.x.bool (by decide +kernel) rfl) pa_nil))) (pe_one (pe_cmpR (op_eqD hr.units) (pv 0) (pv 1) (nomark _))))))
    pss_nil)
    (pss_cons (ps_if (pt_val (pe_callB call_isi (by rfl) D.x.isinstance (by decide +kernel) (pa_cons (pv 1) (pa_cons (pe_bltn (v := .ty "int") (by rfl) D.x.int (by decide +kernel) rfl) pa_nil))))
    (pss_one (ps_ret (pe_and (C8.pe_c (c__law_is_integer D) hr (by decide) rfl (pa_cons (pv 0) pa_nil)) (pe_one (pe_cmpR (op_eqD hr.units) (pv 0) (pv 1) (nomark _))))))
    pss_nil)
    (pss_cons (ps_if (pt_val (pe_callB call_isi (by rfl) D.x.isinstance (by decide +kernel) (pa_cons (pv 1) (pa_cons (pe_bltn (v := .ty "str") (by rfl) D.x.str (by decide +kernel) rfl) pa_nil))))
    (pss_one (ps_ret (pe_and (pe_callB call_isi (by rfl) D.x.isinstance (by decide +kernel) (pa_cons (pv 0) (pa_cons (pe_bltn (v := .ty "str") (by rfl) D.x.str (by decide +kernel) rfl) pa_nil))) (pe_one (pe_cmpR (op_eqD hr.units) (pv 0) (pv 1) (nomark _))))))
    pss_nil)
    (pss_cons (ps_if (PW.pt (pw_and (pt_val (pe_callB call_isi (by rfl) D.x.isinstance (by decide +kernel) (pa_cons (pv 1) (pa_cons (pe_bltn (v := .ty "tuple") (by rfl) D.x.tuple (by decide +kernel) rfl) pa_nil)))) (pw_and1 (pt_not (pt_val (pe_callB call_isi (by rfl) D.x.isinstance (by decide +kernel) (pa_cons (pv 0) (pa_cons (pe_bltn (v := .ty "tuple") (by rfl) D.x.tuple (by decide +kernel) rfl) pa_nil))))))))
    (pss_one (ps_ret pe_bl))
    pss_nil)
    (pss_cons (ps_if (PW.pt (pw_and (pt_val (pe_callB call_isi (by rfl) D.x.isinstance (by decide +kernel) (pa_cons (pv 1) (pa_cons (pe_bltn (v := .ty "list") (by rfl) D.x.list (by decide +kernel) rfl) pa_nil)))) (pw_and1 (pt_not (pt_val (pe_callB call_isi (by rfl) D.x.isinstance (by decide +kernel) (pa_cons (pv 0) (pa_cons (pe_bltn (v := .ty "list") (by rfl) D.x.list (by decide +kernel) rfl) pa_nil))))))))
    (pss_one (ps_ret pe_bl))
    pss_nil)
    (pss_cons (ps_if (pt_cmpR op_ne (pe_callB call_len_seq (by rfl) D.x.len PySem.boot_len (pa_cons (pv 0) pa_nil)) (pe_callB call_len_seq (by rfl) D.x.len PySem.boot_len (pa_cons (pv 1) pa_nil)) (nomark _))
    (pss_one (ps_ret pe_bl))
    pss_nil)
    (pss_cons ps_never
    (pss_one (ps_ret pe_bl)))))))))), ?_⟩
  refine ⟨_, rfl, _, rfl, iteF ?_⟩
  refine ⟨_, rfl, _, _, _, _, _, rfl, .ty _, .base (.int z), kIB, _, rfl, iteF ?_⟩
  refine ⟨_, rfl, _, _, _, _, _, rfl, .ty _, .base (.int z), kII, _, rfl, iteT ?_⟩
  refine ⟨_, rfl, _, rfl, z, rfl, _, rfl, iteT ⟨_, rfl, _, rfl, _, _, .int z, .int z, by simp [SeqAt.shaped, PyData.canLay0, PyData.depth], by simp [SeqAt.shaped, PyData.canLay0, PyData.depth], ?_⟩⟩
  have e : PyData.eqv (.int z) (.int z) = true := by simp [PyData.eqv]
  rw [e]
  exact k
def spSam : Sp := Sp2 fun x y H Q => ∃ (a b : Addr) (ns : List Int), x = .ref a ∧ y = .ref b ∧ Rw H a ns ∧ Rw H b ns ∧ ns.length ≤ 100 ∧ Q (.bl true) H
theorem c__law_same (D : All K mg) : C8.Cal P w K mg base 3 "_law_same" spSam [] := by
  refine cal D._law_same sc_law_same (fun _ _ _ _ _ _ us hl => match us, hl with | [_, _], _ => rfl) len2 fun fa cdv A outer s H vs Q E hr h => ?_
  have sc := sc_law_same
  obtain ⟨_, _, rfl, a, b, ns, rfl, rfl, hA, hB, hl, k⟩ := h
  refine ⟨_, (pss_cons (ps_if (pt_cmp (pc_isN (pv 1)))
    (pss_one (ps_ret (pe_cmp (pc_isN (pv 0)) rfl)))
    pss_nil)
    (pss_cons (ps_if (pt_val (pe_callB call_isi (by rfl) D.x.isinstance (by decide +kernel) (pa_cons (pv 1) (pa_cons (pe_bltn (v := .ty "bool") (by rfl) D.x.bool (by decide +kernel) rfl) pa_nil))))
    (pss_one (ps_ret (pe_and (pe_callB call_isi (by rfl) D.x.isinstance (by decide +kernel) (pa_cons (pv 0) (pa_cons (pe_bltn (v := .ty "bool") (by rfl) D.x.bool (by decide +kernel) rfl) pa_nil))) (pe_one (pe_cmpR (op_eqD hr.units) (pv 0) (pv 1) (nomark _))))))
    pss_nil)
    (pss_cons (ps_if (pt_val (pe_callB call_isi (by rfl) D.x.isinstance (by decide +kernel) (pa_cons (pv 1) (pa_cons (pe_bltn (v := .ty "int") (by rfl) D.x.int (by decide +kernel) rfl) pa_nil))))
    (pss_one (ps_ret (pe_and (C8.pe_c (c__law_is_integer D) hr (by decide) rfl (pa_cons (pv 0) pa_nil)) (pe_one (pe_cmpR (op_eqD hr.units) (pv 0) (pv 1) (nomark _))))))
    pss_nil)
    (pss_cons (ps_if (pt_val (pe_callB call_isi (by rfl) D.x.isinstance (by decide +kernel) (pa_cons (pv 1) (pa_cons (pe_bltn (v := .ty "str") (by rfl) D.x.str (by decide +kernel) rfl) pa_nil))))
    (pss_one (ps_ret (pe_and (pe_callB call_isi (by rfl) D.x.isinstance (by decide +kernel) (pa_cons (pv 0) (pa_cons (pe_bltn (v := .ty "str") (by rfl) D.x.str (by decide +kernel) rfl) pa_nil))) (pe_one (pe_cmpR (op_eqD hr.units) (pv 0) (pv 1) (nomark _))))))
    pss_nil)
    (pss_cons (ps_if (PW.pt (pw_and (pt_val (pe_callB call_isi (by rfl) D.x.isinstance (by decide +kernel) (pa_cons (pv 1) (pa_cons (pe_bltn (v := .ty "tuple") (by rfl) D.x.tuple (by decide +kernel) rfl) pa_nil)))) (pw_and1 (pt_not (pt_val (pe_callB call_isi (by rfl) D.x.isinstance (by decide +kernel) (pa_cons (pv 0) (pa_cons (pe_bltn (v := .ty "tuple") (by rfl) D.x.tuple (by decide +kernel) rfl) pa_nil))))))))
    (pss_one (ps_ret pe_bl))
    pss_nil)
    (pss_cons (ps_if (PW.pt (pw_and (pt_val (pe_callB call_isi (by rfl) D.x.isinstance (by decide +kernel) (pa_cons (pv 1) (pa_cons (pe_bltn (v := .ty "list") (by rfl) D.x.list (by decide +kernel) rfl) pa_nil)))) (pw_and1 (pt_not (pt_val (pe_callB call_isi (by rfl) D.x.isinstance (by decide +kernel) (pa_cons (pv 0) (pa_cons (pe_bltn (v := .ty "list") (by rfl) D.x.list (by decide +kernel) rfl) pa_nil))))))))
    (pss_one (ps_ret pe_bl))
    pss_nil)
    (pss_cons (ps_if (pt_cmpR op_ne (pe_callB call_len_seq (by rfl) D.x.len PySem.boot_len (pa_cons (pv 0) pa_nil)) (pe_callB call_len_seq (by rfl) D.x.len PySem.boot_len (pa_cons (pv 1) pa_nil)) (nomark _))
    (pss_one (ps_ret pe_bl))
    pss_nil)
    (pss_cons (ps_for PassesOwn.never rfl (pi_range1 (by rfl) D.x.range (pa_cons (pe_callB call_len_seq (by rfl) D.x.len PySem.boot_len (pa_cons (pv 1) pa_nil)) pa_nil)) (pg_name (i := 2) sc.nd rfl (.inl rfl))
    (pss_one (ps_if (pt_not (pt_val (C8.pe_c (c_law_same0 D) hr (by decide) rfl (pa_cons (pe_ix ix_tup (pv 0) (pv 2) (fun _ _ => rfl)) (pa_cons (pe_ix ix_tup (pv 1) (pv 2) (fun _ _ => rfl)) pa_nil)))))
      (pss_one (ps_ret pe_bl))
      pss_nil)))
    (pss_one (ps_ret pe_bl)))))))))), ?_⟩
  refine ⟨_, rfl, _, rfl, iteF ?_⟩
  refine ⟨_, rfl, _, _, _, _, _, rfl, .ty _, .base (.tup hB), kTB, _, rfl, iteF ?_⟩
  refine ⟨_, rfl, _, _, _, _, _, rfl, .ty _, .base (.tup hB), kTI, _, rfl, iteF ?_⟩
  refine ⟨_, rfl, _, _, _, _, _, rfl, .ty _, .base (.tup hB), kTS, _, rfl, iteF ?_⟩
  refine ⟨_, rfl, _, _, _, _, _, rfl, .ty _, .base (.tup hB), kTT, _, rfl, iteT ⟨_, rfl, _, _, _, _, _, rfl, .ty _, .base (.tup hA), kTT, _, rfl, iteF ?_⟩⟩
  refine ⟨_, rfl, _, _, _, _, _, rfl, .ty _, .base (.tup hB), kTL, _, rfl, iteF (iteF ?_)⟩
  refine ⟨_, rfl, a, _, rfl, .inr (SqT.of hA), _, rfl, b, _, rfl, .inr (SqT.of hB), rfl, _, rfl, ifF (by simp) ?_⟩
  have len : (ns.map V.int).length = ns.length := List.length_map ..
  refine ⟨_, rfl, b, _, rfl, .inr (SqT.of hB), _, rfl, by omega, by rw [len]; omega, ?_⟩
  refine for_range (lo := 0) (n := (((ns.map V.int).length : Nat) : Int).toNat) (fun i σ H' => H' = H ∧ ∃ v : Option V, σ = [some (.ref a), some (.ref b), v]) ⟨rfl, none, rfl⟩ ?_ ?_
  · rintro i σ H' hi ⟨rfl, v, rfl⟩
    rw [len] at hi
    have hi : i < ns.length := by omega
    have e := map_at (List.getElem?_eq_getElem hi)
    refine ⟨_, rfl, _, rfl, a, _, _, _, rfl, rfl, SqT.of hA, at_of (j := i) (by omega) e, _, rfl, _, rfl, b, _, _, _, rfl, rfl, SqT.of hB, at_of (j := i) (by omega) e, _, _, rfl, _, rfl, rfl, _, rfl, iteF ⟨rfl, _, rfl⟩⟩
  · rintro σ H' ⟨rfl, v, rfl⟩
    exact k
/-! ### what is entered -/
abbrev N__law_entered : List Str := ["_law_box", "_law_m", "_law_others", "_law_kind"]
theorem sc_law_entered : FnScope N__law_entered ["_law_box", "_law_m", "_law_others"] (defScope s__law_entered) := ⟨rfl, rfl, rfl, by decide +kernel, rfl, by decide +kernel, by decide +kernel⟩
def spEntd : Sp := Sp3 fun x y t H Q => ∃ (b br o : Addr) (os : List Addr), x = .ref b ∧ t = .ref o ∧ BoxAt H b br ∧ H o = some (.lst (os.map V.ref)) ∧ o ≠ b ∧
  ∀ u H', But [b] H H' → BoxAt H' b br → (u ∈ os ∨ ∃ ns, Simple ns ∧ Rw H' u ns ∧ H u = none) → Q (.ref u) H'
theorem c__law_entered (D : All K mg) : C8.Cal P w K mg base 3 "_law_entered" spEntd [] := by
  refine cal D._law_entered sc_law_entered (fun _ _ _ _ _ _ us hl => match us, hl with | [_, _, _], _ => rfl) len3 fun fa cdv A outer s H vs Q E hr h => ?_
  have sc := sc_law_entered
  obtain ⟨_, vm, _, rfl, b, br, o, os, rfl, rfl, bx, hO, nob, k⟩ := h
  refine ⟨_, (pss_cons (ps_set (i := 3) sc.nd rfl (.inl rfl) (C8.pe_c (c__law_draw D) hr (by decide) rfl (pa_cons (pv 0) (pa_cons pe_int pa_nil))))
    (pss_cons (ps_if (PW.pt (pw_and (pt_cmpR op_eq (pv 3) pe_int (nomark _)) (pw_and1 (pt_cmpR op_gt (pe_callB call_len_seq (by rfl) D.x.len PySem.boot_len (pa_cons (pv 2) pa_nil)) pe_int (nomark _)))))
    (pss_one (ps_ret (pe_ix ix_list (pv 2) (C8.pe_c (c__law_draw D) hr (by decide) rfl (pa_cons (pv 0) (pa_cons (pe_callB call_len_seq (by rfl) D.x.len PySem.boot_len (pa_cons (pv 2) pa_nil)) pa_nil))) (fun _ _ => rfl))))
    pss_nil)
    (pss_cons (ps_if (pt_cmpR op_eq (pv 3) pe_int (nomark _))
    (pss_one (ps_ret (pe_tup (pa_cons pe_int (pa_cons (C8.pe_c (c__law_draw D) hr (by decide) rfl (pa_cons (pv 0) (pa_cons pe_int pa_nil))) (pa_cons (C8.pe_c (c__law_number D) hr (by decide) rfl (pa_cons (pv 0) pa_nil)) pa_nil))))))
    pss_nil)
    (pss_one (ps_ret (pe_tup (pa_cons pe_int (pa_cons pe_int (pa_cons (C8.pe_c (c__law_number D) hr (by decide) rfl (pa_cons (pv 0) pa_nil)) pa_nil))))))))), ?_⟩
  refine ⟨_, rfl, _, _, rfl, b, br, 3, rfl, rfl, bx, by decide, fun z H1 _ _ b1 bx1 => ?_⟩
  have hO1 := b1 _ _ (by simpa using nob) hO
  have fresh : ∀ {H2 : Hp} {q : Addr}, But [b] H H2 → BoxAt H2 b br → H2 q = none → H q = none := fun {H2 q} b2 bx2 hq => by
    cases e : H q with
    | none => rfl
    | some u =>
      by_cases hm : q = b
      · obtain ⟨p, ns, hb, _⟩ := bx2
        rw [hm, hb] at hq
        cases hq
      · rw [b2 _ _ (by simpa using hm) e] at hq
        cases hq
  -- behind the first test
  have rest : tSeq (tIfS (tTest (tOp rEq (tVar 3) (tC (.int 1)))) (tRet (tTup (tCons (tC (.int 1)) (tCons (tCall spDraw [] C8.E0 (tCons (tVar 0) (tCons (tC (.int 9)) tNil))) (tCons (tCall spNum [] C8.E0 (tCons (tVar 0) tNil)) tNil))))) tNext)
      (tRet (tTup (tCons (tC (.int 2)) (tCons (tC (.int 0)) (tCons (tCall spNum [] C8.E0 (tCons (tVar 0) tNil)) tNil))))) { nx := fun _ H' => Q .non H', rt := Q } [some (.ref b), some vm, some (.ref o), some (.int z)] H1 := by
    refine ⟨_, rfl, rfl, _, rfl, ite2 (fun _ => ?_) (fun _ => ?_)⟩
    · refine ⟨_, rfl, _, _, rfl, b, br, 9, rfl, rfl, bx1, by decide, fun h9 H2 _ _ b2 bx2 => ?_⟩
      refine ⟨_, rfl, _, rfl, b, br, rfl, bx2, fun n H3 b3 bx3 => ⟨small (by show 3 ≤ 100000; decide), fun q hq => ?_⟩⟩
      have bt := (b1.trans b2).trans b3
      exact k q _ (bt.trans (Same.but (Same.new hq))) (bx3.mono (Same.new hq)) (.inr ⟨[1, h9, n], .inl ⟨h9, n, rfl⟩, upd_same, fresh bt bx3 hq⟩)
    · refine ⟨_, rfl, _, rfl, b, br, rfl, bx1, fun n H3 b3 bx3 => ⟨small (by show 3 ≤ 100000; decide), fun q hq => ?_⟩⟩
      have bt := b1.trans b3
      exact k q _ (bt.trans (Same.but (Same.new hq))) (bx3.mono (Same.new hq)) (.inr ⟨[2, 0, n], .inr ⟨n, rfl⟩, upd_same, fresh bt bx3 hq⟩)
  refine ⟨_, rfl, rfl, _, rfl, ite2 (fun _ => ?_) (fun _ => iteF rest)⟩
  refine ⟨_, rfl, o, _, rfl, .inl (SqL.of hO1), _, _, rfl, rfl, _, rfl, ite2 (fun hc => ?_) (fun _ => rest)⟩
  have hc := of_decide_eq_true hc
  have hl : (os.map V.ref).length = os.length := List.length_map ..
  rw [hl] at hc
  refine ⟨_, rfl, _, rfl, _, rfl, o, _, rfl, .inl (SqL.of hO1), _, _, rfl, b, br, _, rfl, rfl, bx1, by rw [hl]; omega, fun i H2 i0 i1 b2 bx2 => ?_⟩
  rw [hl] at i1
  have hO2 := b2 _ _ (by simpa using nob) hO1
  have hj : i.toNat < os.length := by omega
  have ho : (os.map V.ref)[i.toNat]? = some (V.ref os[i.toNat]) := by
    rw [List.getElem?_map, List.getElem?_eq_getElem hj]
    rfl
  exact ⟨o, _, i, _, rfl, rfl, SqL.of hO2, at_of (j := i.toNat) (by omega) ho, k _ H2 (b1.trans b2) bx2 (.inl (List.getElem_mem hj))⟩
end SR
set_option maxHeartbeats 4000000
namespace SR
open PySem PySem.Spec PyProof.Rows L2
variable {P : Program} {w : World} {K : PySem.W.Frag} {mg : Str → Option Value} {base : Heap}
/-! ### a round of the law -/
theorem But.free {S : List Addr} {H H' : Hp} {p : Addr} (b : But S H H') (n : ∀ s ∈ S, H' s ≠ none) (h : H' p = none) : H p = none := by
  cases e : H p with
  | none => rfl
  | some o =>
    by_cases m : p ∈ S
    · exact absurd h (n p m)
    · rw [b p o m e] at h
      cases h
theorem But.mut {S : List Addr} {H H' : Hp} {p : Addr} {o : HO} (b : But S H H') (h : H p = none) : But S H (upd H' p o) := fun c u n e => by
  rw [upd_ne (ne_of_none e h)]
  exact b c u n e
theorem BoxAt.but {S : List Addr} {H H' : Hp} {b r : Addr} (s : But S H H') (hb : b ∉ S) (hr : r ∉ S) (h : BoxAt H b r) : BoxAt H' b r := by
  obtain ⟨p, ns, h1, h2, h3, h4⟩ := h
  exact ⟨p, ns, s _ _ hb h1, s _ _ hr h2, h3, h4⟩
theorem BoxAt.some {H : Hp} {b r : Addr} (h : BoxAt H b r) : H b ≠ none ∧ H r ≠ none := by
  obtain ⟨p, ns, h1, h2, _⟩ := h
  exact ⟨by rw [h1]; simp, by rw [h2]; simp⟩
theorem But.step {S T : List Addr} {H H1 H2 : Hp} (b : But S H H1) (c : But T H1 H2) (h : ∀ t ∈ T, t ∈ S ∨ H t = none) : But S H H2 := fun a o n e => c a o (fun m => (h a m).elim n (fun z => by
  rw [z] at e
  cases e)) (b a o n e)
/-- a list that is none of the service's changes -/
theorem SvAt.upd {H : Hp} {S : Sv} {a : Addr} {xs ys : List V} (h : SvAt K H S) (ha : H a = some (.lst xs)) (n1 : a ≠ S.c) (n2 : a ≠ S.p) (n3 : a ≠ S.w) : SvAt K (upd H a (.lst ys)) S := by
  have t : Tq H (L2.upd H a (.lst ys)) := Tq.at ha (fun _ q => by cases q)
  obtain ⟨ws, h1, h2⟩ := h.w
  exact ⟨(upd_ne (ne_of h.o ha (by intro q; cases q))).trans h.o, (upd_ne n1.symm).trans h.c, (upd_ne n2.symm).trans h.p, ⟨ws, (upd_ne n3.symm).trans h1, h2⟩, fun r hr => (h.r r hr).tq t, h.wp, h.wc, h.pc⟩
theorem SvAt.wlm {H : Hp} {S : Sv} {n : Nat} (h : SvAt K H S) (hn : S.wl ≤ n) : SvAt K H { S with wl := n } := by
  obtain ⟨ws, h1, h2⟩ := h.w
  exact ⟨h.o, h.c, h.p, ⟨ws, h1, Nat.le_trans h2 hn⟩, h.r, h.wp, h.wc, h.pc⟩
/-- a round as the law holds it: what was entered, the lists -/
structure Rl where
  r : Rnd
  li : Addr
  th : Addr
  ts : List (Addr × List Int)
def lisOf (xs : List Rl) : List V := xs.map fun x => V.ref x.li
def refsOf (ts : List (Addr × List Int)) : List V := ts.map fun t => V.ref t.1
structure RlAt (H : Hp) (x : Rl) : Prop where
  hr : RndAt H x.r
  hi : H x.li = some (.lst [.ref x.r.ha, .ref x.th])
  ht : H x.th = some (.lst (refsOf x.ts))
  hs : ∀ t ∈ x.ts, Rw H t.1 t.2
theorem RlAt.mono {H H' : Hp} {x : Rl} (s : Same H H') (h : RlAt H x) : RlAt H' x := ⟨h.hr.mono s, s _ _ h.hi, s _ _ h.ht, fun t m => s _ _ (h.hs t m)⟩
def digs (m : Mx) (ts : List (Addr × List Int)) : List Int := ts.map fun t => dig m t.2
theorem digs_snoc (m : Mx) (ts : List (Addr × List Int)) (t : Addr × List Int) : digs m (ts ++ [t]) = digs m ts ++ [dig m t.2] := by
  unfold digs
  rw [List.map_append]
  rfl
theorem digs_len (m : Mx) (ts : List (Addr × List Int)) : (digs m ts).length = ts.length := List.length_map ..
theorem refs_snoc (ts : List (Addr × List Int)) (t : Addr × List Int) : refsOf (ts ++ [t]) = refsOf ts ++ [V.ref t.1] := by
  unfold refsOf
  rw [List.map_append]
  rfl
theorem refs_len (ts : List (Addr × List Int)) : (refsOf ts).length = ts.length := List.length_map ..
/-- what a round does to the service A, whose list is at l -/
structure RdPre (K : PySem.W.Frag) (H : Hp) (b br mt o l : Addr) (A : Sv) (m : Mx) (xs : List Rl) (os : List (Addr × List Int)) : Prop where
  bx : BoxAt H b br
  mt : MtAt H mt m
  mx : MxAt K H A.mx m
  mo : MOk m
  sv : SvAt K H A
  ps : A.ps = []
  rs : A.rs = xs.map fun x => x.r
  hl : H l = some (.lst (lisOf xs))
  len : xs.length ≤ 4
  wl : A.wl ≤ 500
  ho : H o = some (.lst (refsOf os))
  os : ∀ t ∈ os, Rw H t.1 t.2 ∧ t.2.length ≤ 100
  hh : ∀ (i : Nat) (r : Rnd), A.rs[i]? = some r → r.hd.h ≤ 10 * (i : Int) + 9
  nb : b ∉ [A.w, A.p, A.c, A.x, l]
  nr : br ∉ [A.w, A.p, A.c, A.x, l]
  nl : l ∉ [A.w, A.p, A.c, A.x]
  no : o ≠ b
structure RdPost (K : PySem.W.Frag) (H H' : Hp) (b br l : Addr) (A : Sv) (m : Mx) (xs : List Rl) (os : List (Addr × List Int)) (x : Rl) (p : Addr) : Prop where
  bt : But [b, A.w, A.p, A.c, A.x, l] H H'
  bx : BoxAt H' b br
  sv : SvAt K H' { A with p := p, ps := [], rs := A.rs ++ [x.r], wl := A.wl + 10 }
  hl : H' l = some (.lst (lisOf (xs ++ [x])))
  hx : RlAt H' x
  fl : H x.li = none
  ft : H x.th = none
  fp : H p = none
  hd : ∃ hour : Int, 10 * (xs.length : Int) + 1 ≤ hour ∧ hour ≤ 10 * (xs.length : Int) + 9 ∧ x.r.hd = newHd m { A with ps := x.r.es } hour
  es : x.r.es = digs m x.ts
  t1 : 1 ≤ x.ts.length
  t4 : x.ts.length ≤ 4
  kd : ∀ t ∈ x.ts, Simple t.2 ∨ t ∈ os
abbrev N__law_rounds : List Str := ["_law_box", "_law_m", "_law_service", "_law_others", "_law_rounds_here", "_law_things", "_law_rows", "_law_row_here", "_law_head", "_law_k"]
theorem sc_law_rounds : FnScope N__law_rounds ["_law_box", "_law_m", "_law_service", "_law_others", "_law_rounds_here"] (defScope s__law_rounds) := ⟨rfl, rfl, rfl, by decide +kernel, rfl, by decide +kernel, by decide +kernel⟩
def spRnds (K : PySem.W.Frag) : Sp := Sp5 fun x1 x2 x3 x4 x5 H Q => ∃ (b br mt o l : Addr) (A : Sv) (m : Mx) (xs : List Rl) (os : List (Addr × List Int)), x1 = .ref b ∧ x2 = .ref mt ∧ x3 = .ref A.x ∧ x4 = .ref o ∧ x5 = .ref l ∧ RdPre K H b br mt o l A m xs os ∧
  ∀ x p H', RdPost K H H' b br l A m xs os x p → Q (.ref x.r.ha) H'
theorem c__law_rounds (D : All K mg) : C8.Cal P w K mg base 8 "_law_rounds" (spRnds K) [] := by
  refine cal D._law_rounds sc_law_rounds (fun _ _ _ _ _ _ us hl => match us, hl with | [_, _, _, _, _], _ => rfl) len5 fun fa cdv A0 outer s H vs Q E hr h => ?_
  have sc := sc_law_rounds
  obtain ⟨_, _, _, _, _, rfl, b, br, mt, o, l, A, m, xs, os, rfl, rfl, rfl, rfl, rfl, pre, k⟩ := h
  refine ⟨_, (pss_cons (ps_set (i := 5) sc.nd rfl (.inl rfl) (pe_lst pa_nil))
    (pss_cons (ps_setLc (i := 6) (own := [("_law_k", 9)]) (g := (gName 9)) (tt := tYes) rfl sc.nd rfl rfl (sw_true rfl rfl rfl (by decide +kernel)) (pi_range1 (by rfl) D.x.range (pa_cons (pe_op op_add pe_int (C8.pe_c (c__law_draw D) hr (by decide) rfl (pa_cons (pv 0) (pa_cons pe_int pa_nil)))) pa_nil)) (blkOk_by (own := [("_law_k", 9)]) (N := N__law_rounds) (sc := defScope s__law_rounds) (by decide +kernel)) (fun _ _ _ _ _ => (pg_name (i := 9) sc.nd rfl (.inl rfl))) (fun _ _ _ _ _ => pts_nil) (fun _ _ _ _ _ => by exact (C8.pe_c (c__law_entered D) hr (by decide) rfl (pa_cons (pv 0) (pa_cons (pv 1) (pa_cons (pv 3) pa_nil))))))
    (pss_cons (ps_for PassesOwn.never rfl (pi_list (pv 6)) (pg_name (i := 7) sc.nd rfl (.inl rfl))
    (pss_cons (ps_if (pt_cmpR op_ne (C8.pe_mt (c_Service_enter D) hr (by decide) (pv 2) (pa_cons (C8.pe_c (c__law_digest D) hr (by decide) rfl (pa_cons (pv 1) (pa_cons (pv 7) pa_nil))) pa_nil)) (pe_callB call_len_seq (by rfl) D.x.len PySem.boot_len (pa_cons (pv 5) pa_nil)) (nomark _))
      (pss_one (ps_ret pe_non))
      pss_nil)
      (pss_one (ps_expr (pe_bm PySem.F.plainAttrs_list PySem.F.slot_list_append PySem.F.type_list_append mt_append (pv 5) (pa_cons (pv 7) pa_nil))))))
    (pss_cons (ps_set (i := 8) sc.nd rfl (.inl rfl) (C8.pe_mt (c_Service_close D) hr (by decide) (pv 2) (pa_cons (pe_op op_add (pe_op op_add (pe_op op_mul pe_int (pe_callB call_len_seq (by rfl) D.x.len PySem.boot_len (pa_cons (pv 4) pa_nil))) pe_int) (C8.pe_c (c__law_draw D) hr (by decide) rfl (pa_cons (pv 0) (pa_cons pe_int pa_nil)))) pa_nil)))
    (pss_cons (ps_expr (pe_bm PySem.F.plainAttrs_list PySem.F.slot_list_append PySem.F.type_list_append mt_append (pv 4) (pa_cons (pe_lst (pa_cons (pv 8) (pa_cons (pv 5) pa_nil))) pa_nil)))
    (pss_one (ps_ret (pv 8)))))))), ?_⟩
  obtain ⟨ws0, hW0, hwl0⟩ := pre.sv.w
  -- things
  refine ⟨Nat.zero_le _, fun th hth => ?_⟩
  have s1 : Same H (upd H th (.lst [])) := Same.new hth
  have th1 : upd H th (.lst []) th = some (.lst []) := upd_same
  revert s1 th1
  generalize upd H th (.lst []) = H1
  intro s1 th1
  have nthb : th ≠ b := fun e => pre.bx.some.1 (e ▸ hth)
  have bx1 := pre.bx.mono s1
  -- rows
  refine ⟨_, rfl, _, _, rfl, b, br, 4, rfl, rfl, bx1, by decide, fun z H2 z0 z4 b2 bx2 => ?_⟩
  refine ⟨_, _, rfl, rfl, 1 + z, rfl, by omega, by omega, fun C nC => ?_⟩
  have full : ∀ {H' : Hp}, BoxAt H' b br → ∀ s ∈ [b], H' s ≠ none := fun {H'} bx s hs => by
    rw [List.mem_singleton.mp hs]
    exact bx.some.1
  have nC1 : H1 C = none := But.free b2 (full bx2) nC
  have nCb : C ≠ b := fun e => bx1.some.1 (e ▸ nC1)
  have nCr : C ≠ br := fun e => bx1.some.2 (e ▸ nC1)
  have nCth : C ≠ th := (ne_of_none th1 nC1).symm
  have bxC : ∀ {H' : Hp} {ys : List V}, BoxAt H' b br → BoxAt (upd H' C (.lst ys)) b br := fun {H' ys} bx => by
    obtain ⟨p, ns, h1, h2, h3, h4⟩ := bx
    exact ⟨p, ns, (upd_ne nCb.symm).trans h1, (upd_ne nCr.symm).trans h2, h3, h4⟩
  have hO1 : H1 o = some (.lst (refsOf os)) := s1 _ _ pre.ho
  refine lc_range (lo := 0) (n := (1 + z).toNat) (fun i H' => But [b] H1 H' ∧ BoxAt H' b br ∧ ∃ ts : List (Addr × List Int), H' C = some (.lst (refsOf ts)) ∧ (∀ t ∈ ts, Rw H' t.1 t.2 ∧ t.2.length ≤ 100 ∧ (Simple t.2 ∨ t ∈ os)) ∧ ts.length = i)
    ⟨But.mut b2 nC1, bxC bx2, [], upd_same, fun t ht => (by cases ht), rfl⟩ ?_ ?_
  · rintro i H' hi ⟨b3, bx3, ts, hC, hts, hlen⟩
    refine ⟨rfl, _, rfl, _, rfl, _, rfl, _, _, _, rfl, b, br, o, os.map fun t => t.1, rfl, rfl, bx3, ?_, pre.no, fun u H4 b4 bx4 hu => ?_⟩
    · have e : (os.map fun t => t.1).map V.ref = refsOf os := by
        unfold refsOf
        rw [List.map_map]
        rfl
      rw [e]
      exact b3 _ _ (by simpa using pre.no) hO1
    have hC4 : H4 C = some (.lst (refsOf ts)) := b4 _ _ (by simpa using nCb) hC
    have tq4 : ∀ (a : Addr) (ns : List Int), Rw H' a ns → Rw H4 a ns := fun a ns e => b4 _ _ (by
      intro q
      obtain ⟨p, ms, h1, _⟩ := bx3
      have q : a = b := by simpa using q
      rw [q] at e
      have e : H' b = some (.tup (ns.map V.int)) := e
      rw [h1] at e
      cases e) e
    have tqC : Tq H4 (upd H4 C (.lst (refsOf ts ++ [V.ref u]))) := Tq.at hC4 (fun _ q => by cases q)
    obtain ⟨un, hun⟩ : ∃ un : List Int, Rw H4 u un ∧ un.length ≤ 100 ∧ (Simple un ∨ (u, un) ∈ os) := by
      rcases hu with hm | ⟨ns, hs, hR, _⟩
      · obtain ⟨t, ht, e⟩ := List.mem_map.mp hm
        obtain ⟨q1, q2⟩ := pre.os t ht
        subst e
        refine ⟨t.2, tq4 _ _ (b3 _ _ ?_ (s1 _ _ q1)), q2, .inr ht⟩
        intro q
        have q : t.1 = b := by simpa using q
        obtain ⟨p, ms, h1, _⟩ := pre.bx
        have q1 : H t.1 = some (.tup (t.2.map V.int)) := q1
        rw [q, h1] at q1
        cases q1
      · refine ⟨ns, hR, ?_, .inl hs⟩
        rcases hs with ⟨h, v, e⟩ | ⟨v, e⟩ <;> (rw [e]; simp)
    refine ⟨_, hC4, small1 (by rw [refs_len]; omega), But.mut (b3.trans b4) nC1, bxC bx4, ts ++ [(u, un)], ?_, ?_, ?_⟩
    · rw [upd_same, refs_snoc]
    · intro t ht
      rcases List.mem_append.mp ht with y | y
      · obtain ⟨q1, q2⟩ := hts t y
        exact ⟨tqC _ _ (tq4 _ _ q1), q2⟩
      · rw [List.mem_singleton.mp y]
        exact ⟨tqC _ _ hun.1, hun.2⟩
    · rw [List.length_append, hlen]
      rfl
  rintro H3 ⟨b3, bx3, ts, hC, hts, hlen⟩
  have ts1 : 1 ≤ ts.length := by omega
  have ts4 : ts.length ≤ 4 := by omega
  -- what stands behind the rows
  have nb := pre.nb
  simp only [List.mem_cons, List.not_mem_nil, or_false, not_or] at nb
  have nl := pre.nl
  simp only [List.mem_cons, List.not_mem_nil, or_false, not_or] at nl
  have nr := pre.nr
  simp only [List.mem_cons, List.not_mem_nil, or_false, not_or] at nr
  have k3 : ∀ (a : Addr) (u : HO), a ≠ b → H a = some u → H3 a = some u := fun a u n e => b3 _ _ (by simpa using n) (s1 _ _ e)
  have tup3 : ∀ (a : Addr) (ys : List V), H a = some (.tup ys) → H3 a = some (.tup ys) := fun a ys e => k3 a _ (by
    intro q
    obtain ⟨p, ms, h1, _⟩ := pre.bx
    rw [q, h1] at e
    cases e) e
  have sv3 : SvAt K H3 A := by
    have q := pre.sv
    exact ⟨k3 _ _ (Ne.symm nb.2.2.2.1) q.o, k3 _ _ (Ne.symm nb.2.2.1) q.c, k3 _ _ (Ne.symm nb.2.1) q.p, ⟨ws0, k3 _ _ (Ne.symm nb.1) hW0, hwl0⟩, fun r hr => ⟨tup3 _ _ (q.r r hr).pr, tup3 _ _ (q.r r hr).ha, tup3 _ _ (q.r r hr).ea⟩, q.wp, q.wc, q.pc⟩
  have mt3 : MtAt H3 mt m := tup3 _ _ pre.mt
  have mx3 : MxAt K H3 A.mx m := by
    obtain ⟨dx, e⟩ := pre.mx
    refine ⟨dx, k3 _ _ ?_ e⟩
    intro q
    obtain ⟨p, ms, h1, _⟩ := pre.bx
    rw [q, h1] at e
    cases e
  have th3 : H3 th = some (.lst []) := b3 _ _ (by simpa using nthb) th1
  have hl3 : H3 l = some (.lst (lisOf xs)) := k3 _ _ (Ne.symm nb.2.2.2.2) pre.hl
  have ntw : th ≠ A.w := (ne_of_none hW0 hth).symm
  have ntp : th ≠ A.p := (ne_of_none pre.sv.p hth).symm
  have ntc : th ≠ A.c := (ne_of_none pre.sv.c hth).symm
  have ntx : th ≠ A.x := (ne_of_none pre.sv.o hth).symm
  have ntl : th ≠ l := (ne_of_none pre.hl hth).symm
  have nCw : C ≠ A.w := (ne_of_none (s1 _ _ hW0) nC1).symm
  have nCp : C ≠ A.p := (ne_of_none (s1 _ _ pre.sv.p) nC1).symm
  have sv3' : SvAt K H3 { A with ps := digs m (ts.take 0), wl := A.wl + 2 * 0 } := by
    have q := sv3.p
    rw [pre.ps] at q
    exact ⟨sv3.o, sv3.c, q, sv3.w, sv3.r, sv3.wp, sv3.wc, sv3.pc⟩
  refine ⟨_, rfl, C, rfl, ⟨_, SqL.of hC⟩, for_list (K := K) (a := C) (xs := refsOf ts) (fun i σ H' => But [A.w, A.p, th] H3 H' ∧ SvAt K H' { A with ps := digs m (ts.take i), wl := A.wl + 2 * i } ∧ H' th = some (.lst (refsOf (ts.take i))) ∧
    ∃ v : Option V, σ = [some (.ref b), some (.ref mt), some (.ref A.x), some (.ref o), some (.ref l), some (.ref th), some (.ref C), v, none, none]) ⟨But.refl _, sv3', th3, none, rfl⟩ (fun i σ H' _ ⟨b4, _⟩ => SqL.of (b4 _ _ (by simp [nCw, nCp, nCth]) hC)) ?_ ?_⟩
  · rintro i y σ H' hi ⟨b4, sv4, th4, v, rfl⟩
    unfold refsOf at hi
    obtain ⟨t, ht, rfl⟩ := Option.map_eq_some_iff.mp ((List.getElem?_map ..).symm.trans hi)
    have hit : i < ts.length := (List.getElem?_eq_some_iff.mp ht).1
    obtain ⟨hrow, hrl, _⟩ := hts t (List.mem_of_getElem? ht)
    have nt : ∀ c ∈ [A.w, A.p, th], ∀ ys, H3 c ≠ some (.tup ys) := fun c hc ys e => by
      simp only [List.mem_cons, List.not_mem_nil, or_false] at hc
      rcases hc with q | q | q
      · obtain ⟨ws, h1, _⟩ := sv3.w
        rw [q, h1] at e
        cases e
      · rw [q, sv3.p] at e
        cases e
      · rw [q, th3] at e
        cases e
    have hrow4 : Rw H' t.1 t.2 := b4.tup hrow nt
    have mt4 : MtAt H' mt m := b4.tup mt3 nt
    refine ⟨_, rfl, A.x, A.dx, _, rfl, sv4.o, rfl, _, rfl, _, rfl, _, _, rfl, mt, t.1, m, t.2, rfl, rfl, mt4, pre.mo, hrow4, hrl, fun H5 s5 => ?_⟩
    refine ⟨_, _, rfl, { A with ps := digs m (ts.take i), wl := A.wl + 2 * i }, dig m t.2, rfl, rfl, sv4.mono s5, ?_, ?_, fun H6 b6 sv6 => ?_⟩
    · show A.wl + 2 * i ≤ 1000
      have := pre.wl
      omega
    · show (digs m (ts.take i)).length ≤ 100
      rw [digs_len, List.length_take]
      omega
    have th6 : H6 th = some (.lst (refsOf (ts.take i))) := b6 _ _ (by simp [ntw, ntp]) (s5 _ _ th4)
    refine ⟨_, rfl, th, _, rfl, .inl (SqL.of th6), rfl, _, rfl, ifF ?_ ?_⟩
    · have e : (digs m (ts.take i)).length = (refsOf (ts.take i)).length := by rw [digs_len, refs_len]
      show (!decide (V.int (((digs m (ts.take i)).length : Nat) : Int) = V.int (((refsOf (ts.take i)).length : Nat) : Int))) = false
      rw [e, decide_eq_true rfl]
      rfl
    · have etk : ts.take (i + 1) = ts.take i ++ [t] := by
        rw [List.take_succ, ht]
        rfl
      refine ⟨_, rfl, .inl ⟨rfl, _, SqL.of th6⟩, _, rfl, th, _, _, rfl, rfl, th6, small1 (by rw [refs_len, List.length_take]; omega), ?_⟩
      refine ⟨((b4.trans (Same.but s5)).trans (b6.mono (by simp))).trans (But.at (by simp)), ?_, ?_, _, rfl⟩
      · have q := sv6.upd (ys := refsOf (ts.take i) ++ [V.ref t.1]) th6 ntc ntp ntw
        rw [etk, digs_snoc]
        exact q
      · rw [upd_same, etk, refs_snoc]
  rintro σ H7 ⟨b7, sv7, th7, v, rfl⟩
  rw [refs_len] at sv7 th7
  rw [List.take_length] at sv7 th7
  have nt7 : ∀ c ∈ [A.w, A.p, th], ∀ ys, H3 c ≠ some (.tup ys) := fun c hc ys e => by
    simp only [List.mem_cons, List.not_mem_nil, or_false] at hc
    rcases hc with q | q | q
    · obtain ⟨ws, h1, _⟩ := sv3.w
      rw [q, h1] at e
      cases e
    · rw [q, sv3.p] at e
      cases e
    · rw [q, th3] at e
      cases e
  have hl7 : H7 l = some (.lst (lisOf xs)) := b7 _ _ (by simp [nl, ntl.symm]) hl3
  have bx7 : BoxAt H7 b br := bx3.but b7 (by simp [nb, nthb.symm]) (by simp [nr]; exact fun e => pre.bx.some.2 (e ▸ hth))
  have ntr : th ≠ br := fun e => pre.bx.some.2 (e ▸ hth)
  have mx7 : MxAt K H7 A.mx m := by
    obtain ⟨dx, e⟩ := mx3
    refine ⟨dx, b7 _ _ ?_ e⟩
    intro q
    simp only [List.mem_cons, List.not_mem_nil, or_false] at q
    rcases q with q | q | q
    · obtain ⟨ws, h1, _⟩ := sv3.w
      rw [q, h1] at e
      cases e
    · rw [q, sv3.p] at e
      cases e
    · rw [q, th3] at e
      cases e
  have ll : (lisOf xs).length = xs.length := List.length_map ..
  -- close
  refine ⟨_, rfl, A.x, A.dx, _, rfl, sv7.o, rfl, _, rfl, l, _, rfl, .inl (SqL.of hl7), _, _, rfl, rfl, .inl ⟨by decide, by decide⟩, _, _, rfl, rfl, _, rfl, _, _, rfl, b, br, 9, rfl, rfl, bx7, by decide, fun z9 H8 y0 y9 b8 bx8 => ?_⟩
  have k8 : ∀ (a : Addr) (u : HO), a ≠ b → H7 a = some u → H8 a = some u := fun a u n e => b8 _ _ (by simpa using n) e
  have tq8 : ∀ (a : Addr) (ys : List V), H7 a = some (.tup ys) → H8 a = some (.tup ys) := fun a ys e => k8 a _ (by
    intro q
    obtain ⟨p, ms, h1, _⟩ := bx7
    rw [q, h1] at e
    cases e) e
  have sv8 : SvAt K H8 { A with ps := digs m ts, wl := A.wl + 2 * ts.length } := by
    obtain ⟨ws, h1, h2⟩ := sv7.w
    exact ⟨k8 _ _ (Ne.symm nb.2.2.2.1) sv7.o, k8 _ _ (Ne.symm nb.2.2.1) sv7.c, k8 _ _ (Ne.symm nb.2.1) sv7.p, ⟨ws, k8 _ _ (Ne.symm nb.1) h1, h2⟩, fun r hr => ⟨tq8 _ _ (sv7.r r hr).pr, tq8 _ _ (sv7.r r hr).ha, tq8 _ _ (sv7.r r hr).ea⟩, sv7.wp, sv7.wc, sv7.pc⟩
  have mx8 : MxAt K H8 A.mx m := by
    obtain ⟨dx, e⟩ := mx7
    refine ⟨dx, k8 _ _ ?_ e⟩
    intro q
    obtain ⟨p, ms, h1, _⟩ := bx7
    rw [q, h1] at e
    cases e
  have th8 : H8 th = some (.lst (refsOf ts)) := k8 _ _ nthb th7
  have hl8 : H8 l = some (.lst (lisOf xs)) := k8 _ _ (Ne.symm nb.2.2.2.2) hl7
  have er : A.rs.length = xs.length := by rw [pre.rs, List.length_map]
  refine ⟨_, _, rfl, rfl, _, _, rfl, { A with ps := digs m ts, wl := A.wl + 2 * ts.length }, m, _, rfl, rfl, sv8, mx8, pre.mo, ?_, ?_, ?_, ?_, fun r hr => ?_, fun r p H9 b9 hp hrd hes sv9 => ?_⟩
  · show 1 ≤ (digs m ts).length
    rw [digs_len]
    exact ts1
  · show (digs m ts).length ≤ 4
    rw [digs_len]
    exact ts4
  · show A.rs.length ≤ 4
    rw [er]
    exact pre.len
  · show A.wl + 2 * ts.length ≤ 1000
    have := pre.wl
    omega
  · have hr : r ∈ A.rs := hr
    obtain ⟨i, hi, e⟩ := List.getElem_of_mem hr
    have q := pre.hh i r (by rw [List.getElem?_eq_getElem hi, e])
    show r.hd.h < 10 * (((lisOf xs).length : Nat) : Int) + 1 + z9
    rw [ll]
    rw [er] at hi
    omega
  have th9 : H9 th = some (.lst (refsOf ts)) := b9 _ _ (by simp [ntw, ntc, ntx]) th8
  have hl9 : H9 l = some (.lst (lisOf xs)) := b9 _ _ (by simp [nl]) hl8
  have bx9 : BoxAt H9 b br := bx8.but b9 (by simp [nb]) (by simp [nr])
  have hes : r.es = digs m ts := hes
  -- all that was changed
  have bH3 : But [b, A.w, A.p, A.c, A.x, l] H H3 := (Same.but s1).trans (b3.mono (by simp))
  have bH7 : But [b, A.w, A.p, A.c, A.x, l] H H7 := bH3.step b7 (fun t ht => by
    simp only [List.mem_cons, List.not_mem_nil, or_false] at ht
    rcases ht with q | q | q
    · exact .inl (by simp [q])
    · exact .inl (by simp [q])
    · exact .inr (q ▸ hth))
  have bH8 : But [b, A.w, A.p, A.c, A.x, l] H H8 := bH7.trans (b8.mono (by simp))
  have bH9 : But [b, A.w, A.p, A.c, A.x, l] H H9 := bH8.trans (b9.mono (by
    intro c hc
    simp only [List.mem_cons, List.not_mem_nil, or_false] at hc ⊢
    rcases hc with q | q | q <;> simp [q]))
  have fp : H p = none := bH8.free (fun s hs => by
    simp only [List.mem_cons, List.not_mem_nil, or_false] at hs
    obtain ⟨ws, h1, _⟩ := sv8.w
    rcases hs with q | q | q | q | q | q
    · rw [q]; exact bx8.some.1
    · rw [q, h1]; simp
    · rw [q, sv8.p]; simp
    · rw [q, sv8.c]; simp
    · rw [q, sv8.o]; simp
    · rw [q, hl8]; simp) hp
  refine ⟨_, rfl, .inl ⟨rfl, _, SqL.of hl9⟩, _, rfl, _, rfl, small (by show 2 ≤ 100000; decide), fun li hli => ?_⟩
  have fl : H li = none := bH9.free (fun s hs => by
    simp only [List.mem_cons, List.not_mem_nil, or_false] at hs
    obtain ⟨ws, h1, _⟩ := sv9.w
    have hp9 : H9 A.p = some (.lst ((digs m ts).map V.int)) := b9 _ _ (by
      simp only [List.mem_cons, List.not_mem_nil, or_false, not_or]
      exact ⟨sv8.wp.symm, sv8.pc, (ne_of sv8.o sv8.p (by intro q; cases q)).symm⟩) sv8.p
    rcases hs with q | q | q | q | q | q
    · rw [q]; exact bx9.some.1
    · rw [q, h1]; simp
    · rw [q, hp9]; simp
    · rw [q, sv9.c]; simp
    · rw [q, sv9.o]; simp
    · rw [q, hl9]; simp) hli
  have s10 : Same H9 (upd H9 li (.lst [V.ref r.ha, V.ref th])) := Same.new hli
  have hl10 := s10 _ _ hl9
  refine ⟨l, _, _, rfl, rfl, hl10, small1 (by rw [ll]; have := pre.len; omega), ?_⟩
  have nlp : l ≠ p := fun e => by
    rw [← e, hl8] at hp
    cases hp
  have nli : li ≠ l := fun e => by
    rw [e, hl9] at hli
    cases hli
  have sv10 := (sv9.mono s10).upd (ys := lisOf xs ++ [V.ref li]) hl10 nl.2.2.1 nlp nl.1
  have tq10 : Tq H9 (upd (upd H9 li (.lst [V.ref r.ha, V.ref th])) l (.lst (lisOf xs ++ [V.ref li]))) := (Tq.of s10).trans (Tq.at hl10 (fun _ q => by cases q))
  have b10 : But [b, A.w, A.p, A.c, A.x, l] H (upd (upd H9 li (.lst [V.ref r.ha, V.ref th])) l (.lst (lisOf xs ++ [V.ref li]))) := (bH9.trans (Same.but s10)).trans (But.at (by simp))
  refine ⟨_, rfl, k ⟨r, li, th, ts⟩ p _ ⟨b10, ?_, ?_, ?_, ⟨?_, ?_, ?_, fun t ht => ?_⟩, fl, hth, fp, ⟨10 * (((lisOf xs).length : Nat) : Int) + 1 + z9, ?_, ?_, ?_⟩, hes, ts1, ts4, fun t ht => (hts t ht).2.2⟩⟩
  · exact (bx9.mono s10).but (But.at (S := [l]) (by simp)) (by simp [nb]) (by simp [nr])
  · have q := sv10.wlm (n := A.wl + 10) (by show A.wl + 2 * ts.length + 2 ≤ A.wl + 10; omega)
    exact q
  · rw [upd_same]
    unfold lisOf
    rw [List.map_append]
    rfl
  · exact (sv9.r r (by simp)).tq tq10
  · exact (upd_ne nli).trans upd_same
  · show upd _ _ _ th = _
    rw [upd_ne ntl]
    exact s10 _ _ th9
  · refine tq10 _ _ (b9.tup (tq8 _ _ (b7.tup (hts t ht).1 nt7)) (fun c hc ys e => ?_))
    simp only [List.mem_cons, List.not_mem_nil, or_false] at hc
    rcases hc with q | q | q
    · obtain ⟨ws, h1, _⟩ := sv8.w
      rw [q, h1] at e
      cases e
    · rw [q, sv8.c] at e
      cases e
    · rw [q, sv8.o] at e
      cases e
  · show 10 * (xs.length : Int) + 1 ≤ 10 * (((lisOf xs).length : Nat) : Int) + 1 + z9
    rw [ll]
    omega
  · show 10 * (((lisOf xs).length : Nat) : Int) + 1 + z9 ≤ 10 * (xs.length : Int) + 9
    rw [ll]
    omega
  · show r.hd = newHd m { A with ps := r.es } _
    rw [hrd, hes]
    rfl
end SR
set_option maxHeartbeats 4000000
namespace SR
open PySem PySem.Spec PyProof.Rows L2
/-! ### the rounds of a service, in plain words -/
def rsOf (xs : List Rl) : List Rnd := xs.map fun x => x.r
theorem rs_at {xs : List Rl} {i : Nat} {x : Rl} (h : xs[i]? = some x) : (rsOf xs)[i]? = some x.r := by
  unfold rsOf
  rw [List.getElem?_map, h]
  rfl
theorem rs_len (xs : List Rl) : (rsOf xs).length = xs.length := List.length_map ..
structure RoOk (m : Mx) (nm : Int) (xs : List Rl) (i : Nat) (x : Rl) : Prop where
  hd : ∃ hour : Int, 10 * (i : Int) + 1 ≤ hour ∧ hour ≤ 10 * (i : Int) + 9 ∧ x.r.hd = ⟨nm, i, hour, x.r.es.length, root m x.r.es, nbs m (rsOf xs) i⟩
  es : x.r.es = digs m x.ts
  t1 : 1 ≤ x.ts.length
  t4 : x.ts.length ≤ 4
def RsOk (m : Mx) (nm : Int) (xs : List Rl) : Prop := ∀ (i : Nat) (x : Rl), xs[i]? = some x → RoOk m nm xs i x
theorem row_app {rs : List Rnd} {r : Rnd} {e : Nat} (h : e < rs.length) : rowOf (rs ++ [r]) e = rowOf rs e := by
  unfold rowOf
  rw [List.getElem?_append_left h]
theorem nbs_app (m : Mx) {rs : List Rnd} {r : Rnd} {i : Nat} (h : i ≤ rs.length) : nbs m (rs ++ [r]) i = nbs m rs i := by
  unfold nbs
  refine List.map_congr_left fun e he => ?_
  rw [row_app (Nat.lt_of_lt_of_le (bks_lt i e he) h)]
theorem rsOf_snoc (xs : List Rl) (x : Rl) : rsOf (xs ++ [x]) = rsOf xs ++ [x.r] := by
  unfold rsOf
  rw [List.map_append]
  rfl
/-- one more round -/
theorem RsOk.snoc {m : Mx} {nm : Int} {xs : List Rl} {x : Rl} (h : RsOk m nm xs) (hd : ∃ hour : Int, 10 * (xs.length : Int) + 1 ≤ hour ∧ hour ≤ 10 * (xs.length : Int) + 9 ∧ x.r.hd = ⟨nm, xs.length, hour, x.r.es.length, root m x.r.es, nbs m (rsOf xs) xs.length⟩)
    (es : x.r.es = digs m x.ts) (t1 : 1 ≤ x.ts.length) (t4 : x.ts.length ≤ 4) : RsOk m nm (xs ++ [x]) := fun i y hy => by
  by_cases hi : i < xs.length
  · rw [List.getElem?_append_left hi] at hy
    obtain ⟨⟨hour, a, b, c⟩, q⟩ := h i y hy
    exact ⟨⟨hour, a, b, by rw [c, rsOf_snoc, nbs_app m (by rw [rs_len]; omega)]⟩, q, by assumption, by assumption⟩
  · rw [List.getElem?_append_right (by omega)] at hy
    have e : i - xs.length = 0 := by
      cases q : i - xs.length with
      | zero => rfl
      | succ n =>
        rw [q] at hy
        cases hy
    rw [e] at hy
    cases hy
    have ei : i = xs.length := by omega
    subst ei
    obtain ⟨hour, a, b, c⟩ := hd
    exact ⟨⟨hour, a, b, by rw [c, rsOf_snoc, nbs_app m (by rw [rs_len]; omega)]⟩, es, t1, t4⟩
theorem RoOk.ok {m : Mx} {nm : Int} {xs : List Rl} {i : Nat} {x : Rl} (h : RoOk m nm xs i x) (hi : i ≤ 4) : x.r.hd.ok := by
  obtain ⟨hour, _, _, e⟩ := h.hd
  have el : x.r.es.length = x.ts.length := by rw [h.es, digs_len]
  have t1 := h.t1
  have t4 := h.t4
  rw [e]
  refine ⟨hi, ?_, ?_, ?_⟩
  · show 1 ≤ x.r.es.length
    omega
  · show x.r.es.length ≤ 4
    omega
  · show (nbs m (rsOf xs) i).length = (bks i).length
    rw [nbs_len]
theorem row_of {xs : List Rl} {i : Nat} {x : Rl} (h : xs[i]? = some x) : rowOf (rsOf xs) i = x.r.hd.row := by
  unfold rowOf
  rw [rs_at h]
  rfl
/-! ### papers back -/
theorem ahead_cons (bn : List Int) (s : Stp) (ss : List Stp) (i : Nat) (hi : i ≤ ss.length) : aheadN bn (s :: ss) (i + 1) = aheadN s.hd.row ss i := by
  cases i with
  | zero => rfl
  | succ j => rfl
theorem good_of {m : Mx} : ∀ (ss : List Stp) (bn : List Int), (∀ i st, ss[i]? = some st → Gd m (aheadN bn ss i) st) → Good m bn ss
  | [], _, _ => trivial
  | s :: ss, bn, h => ⟨h 0 s rfl, good_of ss s.hd.row fun i st hst => by
      have q := h (i + 1) st hst
      rw [ahead_cons bn s ss i (Nat.le_of_lt (List.getElem?_eq_some_iff.mp hst).1)] at q
      exact q⟩
theorem last_ahead (bn : List Int) (ss : List Stp) : lastN bn ss = aheadN bn ss ss.length := by
  unfold lastN
  rw [List.getLast?_eq_getElem?]
  cases ss with
  | nil => rfl
  | cons s ss =>
    show ((s :: ss)[ss.length + 1 - 1]?.map fun z => z.hd.row).getD bn = (((s :: ss)[ss.length]?).map fun z => z.hd.row).getD []
    rw [Nat.add_sub_cancel, List.getElem?_eq_getElem (by simp)]
    rfl
structure BkPre (m : Mx) (nm : Int) (xs : List Rl) (z e : Nat) (ss : List Stp) : Prop where
  rs : RsOk m nm xs
  len : xs.length ≤ 5
  ez : e ≤ z
  zl : z < xs.length
  bk : BkAt (rsOf xs) (wy z e) ss
  sl : ss.length + 1 = (wb z e).length
section
variable {m : Mx} {nm : Int} {xs : List Rl} {z e : Nat} {ss : List Stp}
theorem BkPre.z4 (h : BkPre m nm xs z e ss) : z ≤ 4 := by
  have := h.len
  have := h.zl
  omega
theorem BkPre.ends (h : BkPre m nm xs z e ss) : (wy z e)[0]? = some e ∧ (wy z e)[ss.length]? = some z := by
  have z4 := h.z4
  obtain ⟨w1, w2, w3, w4⟩ := wy_ends ⟨z, by omega⟩ ⟨e, by have := h.ez; omega⟩ (by show e ≤ z; exact h.ez)
  have el : (wy z e).length = (wb z e).length := List.length_reverse
  have sl := h.sl
  have w2 : (wy z e)[(wy z e).length - 1]? = some z := w2
  rw [show (wy z e).length - 1 = ss.length by omega] at w2
  exact ⟨w1, w2⟩
/-- the row ahead of each step -/
theorem BkPre.ahead (h : BkPre m nm xs z e ss) (i : Nat) (hi : i ≤ ss.length) : ∃ a, (wy z e)[i]? = some a ∧ a < xs.length ∧ aheadN (rowOf (rsOf xs) e) ss i = rowOf (rsOf xs) a := by
  have z4 := h.z4
  have ez := h.ez
  have zl := h.zl
  cases i with
  | zero => exact ⟨e, h.ends.1, by omega, rfl⟩
  | succ j =>
    have hj := List.getElem?_eq_getElem (show j < ss.length by omega)
    obtain ⟨a, b, r, h1, h2, h3, h4, h5, h6⟩ := h.bk.at_ j _ hj
    refine ⟨b, h2, ?_, ?_⟩
    · have := (wy_step z4 ez h1 h2).2
      omega
    · show (((ss[j]?).map fun z => z.hd.row).getD []) = _
      rw [hj]
      show ss[j].hd.row = _
      rw [h5]
      unfold rowOf
      rw [h3]
      rfl
theorem BkPre.gd (h : BkPre m nm xs z e ss) (i : Nat) (st : Stp) (hst : ss[i]? = some st) : Gd m (aheadN (rowOf (rsOf xs) e) ss i) st := by
  have z4 := h.z4
  have ez := h.ez
  have zl := h.zl
  obtain ⟨a, b, r, h1, h2, h3, h4, h5, h6⟩ := h.bk.at_ i st hst
  obtain ⟨a', g1, g2, g3⟩ := h.ahead i (Nat.le_of_lt (List.getElem?_eq_some_iff.mp hst).1)
  rw [h1] at g1
  cases g1
  rw [g3]
  obtain ⟨hm, hbz⟩ := wy_step z4 ez h1 h2
  have hb4 : b ≤ 4 := by omega
  obtain ⟨x1, _⟩ := bix_ok hb4 hm
  have hlt := bks_lt b a hm
  have hbx : xs[b]? = some xs[b] := List.getElem?_eq_getElem (by omega)
  have hax : xs[a]? = some xs[a] := List.getElem?_eq_getElem (by omega)
  rw [rs_at hbx] at h3
  cases h3
  have ob := h.rs b _ hbx
  have oa := h.rs a _ hax
  refine ⟨?_, ?_, fun i' hi' => ?_⟩
  · rw [h5]
    exact ob.ok hb4
  · rw [h5, h6]
    show xs[b].r.hd.bs[bix b a]? = _
    obtain ⟨hour, _, _, eb⟩ := ob.hd
    rw [eb]
    show (nbs m (rsOf xs) b)[bix b a]? = _
    unfold nbs
    rw [List.getElem?_map, x1]
    rfl
  · rw [h6] at hi'
    cases hi'
    obtain ⟨hb, b1, b2, eb⟩ := ob.hd
    obtain ⟨ha, a1, a2, ea⟩ := oa.hd
    refine ⟨xs[a].r.hd, row_of hax, oa.ok (by omega), ?_, ?_, ?_⟩
    · rw [h5, eb, ea]
    · rw [h5, eb, ea]
      show ha < hb
      omega
    · rw [h5, eb, ea]
      exact x1
theorem BkPre.good (h : BkPre m nm xs z e ss) : Good m (rowOf (rsOf xs) e) ss := good_of ss _ h.gd
theorem BkPre.last (h : BkPre m nm xs z e ss) : lastN (rowOf (rsOf xs) e) ss = rowOf (rsOf xs) z := by
  rw [last_ahead]
  obtain ⟨a, g1, g2, g3⟩ := h.ahead ss.length (Nat.le_refl _)
  rw [h.ends.2] at g1
  cases g1
  exact g3
/-! ### with the stamp ahead -/
theorem stamp_gd {i j : Nat} {x : Rl} {t : Addr × List Int} {st : Stp} (h : RoOk m nm xs i x) (hi : i ≤ 4) (ht : x.ts[j]? = some t) (e2 : st.hd = x.r.hd) (e3 : st.pl = .ent j (way m x.r.es j)) : Gd m t.2 st := by
  have ok := h.ok hi
  obtain ⟨hour, _, _, e⟩ := h.hd
  have hj : j < x.ts.length := (List.getElem?_eq_some_iff.mp ht).1
  have el : x.r.es.length = x.ts.length := by rw [h.es, digs_len]
  have t4 := h.t4
  have hes : x.r.es[j]? = some (dig m t.2) := by
    rw [h.es]
    unfold digs
    rw [List.getElem?_map, ht]
    rfl
  refine ⟨by rw [e2]; exact ok, ?_, fun i' hi' => ?_⟩
  · rw [e2, e3, e]
    refine ⟨?_, ?_, ?_⟩
    · show j < x.r.es.length
      omega
    · exact way_len m _ _ (by omega)
    · exact climb_way m _ _ _ (by omega) hes
  · rw [e3] at hi'
    cases hi'
theorem last_cons (bn : List Int) (st : Stp) (ss : List Stp) : lastN bn (st :: ss) = lastN st.hd.row ss := by
  rw [last_ahead, last_ahead]
  exact ahead_cons bn st ss ss.length (Nat.le_refl _)
end
end SR
set_option maxHeartbeats 4000000
namespace SR
open PySem PySem.Spec PyProof.Rows L2
variable {P : Program} {w : World} {K : PySem.W.Frag} {mg : Str → Option Value} {base : Heap}
/-! ### a service is honest -/
theorem li_at {xs : List Rl} {i : Nat} {x : Rl} (h : xs[i]? = some x) : (lisOf xs)[i]? = some (V.ref x.li) := by
  unfold lisOf
  rw [List.getElem?_map, h]
  rfl
theorem li_len (xs : List Rl) : (lisOf xs).length = xs.length := List.length_map ..
theorem ref_at {ts : List (Addr × List Int)} {i : Nat} {t : Addr × List Int} (h : ts[i]? = some t) : (refsOf ts)[i]? = some (V.ref t.1) := by
  unfold refsOf
  rw [List.getElem?_map, h]
  rfl
/-- all of a round is known -/
def KnowX (H : Hp) (m : Mx) (L : Lb) (x : Rl) : Prop := KnowR H m L.T x.r.hd.row ∧ (∃ u, valV L.R (.inl (dig m x.r.hd.row)) = some (.ref u) ∧ Rw H u x.r.es) ∧ ∀ t ∈ x.ts, KnowR H m L.T t.2
theorem KnowX.mono {H H' : Hp} {m : Mx} {L : Lb} {x : Rl} (s : Same H H') (h : KnowX H m L x) : KnowX H' m L x := by
  obtain ⟨h1, ⟨u, h2, h3⟩, h4⟩ := h
  exact ⟨h1.mono s, ⟨u, h2, s _ _ h3⟩, fun t ht => (h4 t ht).mono s⟩
structure SokPre (K : PySem.W.Frag) (H : Hp) (mx l : Addr) (m : Mx) (A : Sv) (L : Lb) (xs : List Rl) (cl : Bool) : Prop where
  mo : MOk m
  m1 : MxAt K H mx m
  m2 : MxAt K H A.mx m
  m3 : MxAt K H L.mx m
  sv : SvAt K H A
  rs : A.rs = rsOf xs
  hl : H l = some (.lst (lisOf xs))
  hx : ∀ x ∈ xs, RlAt H x
  ok : RsOk m A.nm xs
  len : xs.length ≤ 5
  lb : LbAt K H L
  tk : ∀ x ∈ xs, ∀ t ∈ x.ts, TOk t.2
  kn : cl = true → ∀ x ∈ xs, KnowX H m L x
theorem SokPre.mono {H H' : Hp} {mx l : Addr} {m : Mx} {A : Sv} {L : Lb} {xs : List Rl} {cl : Bool} (s : Same H H') (h : SokPre K H mx l m A L xs cl) : SokPre K H' mx l m A L xs cl :=
  ⟨h.mo, h.m1.mono s, h.m2.mono s, h.m3.mono s, h.sv.mono s, h.rs, s _ _ h.hl, fun x hx => (h.hx x hx).mono s, h.ok, h.len, h.lb.mono s, h.tk, fun c x hx => (h.kn c x hx).mono s⟩
theorem known_eq : (!PyData.eqv (.tuple [.str "known"]) (.tuple [.str "known"])) = false := by simp [PyData.eqv, PyData.eqvAll]
theorem known_ok : PyData.strOk (Str.ofString "known") = true := by decide +kernel
theorem known_shaped : SeqAt.shaped (.tuple [.str "known"]) = true := by
  simp [SeqAt.shaped, PyData.canLay0, PyData.canLayAll0, PyData.depth, PyData.depthAll]
  exact known_ok
theorem dp_known {H : Hp} {q : Addr} (h : H q = some (.tup [.str "known"])) : Dp K H (.ref q) (.tuple [.str "known"]) := .tup (SqT.of h) (.cons (.str _) .nil)
/-- the joined paper's steps are known -/
theorem tr_ok {H : Hp} {m : Mx} {A : Sv} {L : Lb} {xs : List Rl} {n j z : Nat} {x : Rl} {t : Addr × List Int} {st : Stp} {ss : List Stp} (bp : BkPre m A.nm xs z n ss) (kn : ∀ x ∈ xs, KnowX H m L x)
    (hx : xs[n]? = some x) (ht : x.ts[j]? = some t) (e2 : st.hd = x.r.hd) (e3 : st.pl = .ent j (way m x.r.es j)) (i : Nat) (s : Stp) (h : (st :: ss)[i]? = some s) : TrOk H m L (aheadN t.2 (st :: ss) i) s := by
  have ro := bp.rs n x hx
  have hn : n ≤ 4 := by
    have := bp.ez
    have := bp.z4
    omega
  cases i with
  | zero =>
    cases h
    obtain ⟨k1, ⟨u, k2, k3⟩, k4⟩ := kn x (List.mem_of_getElem? hx)
    refine ⟨e2 ▸ ro.ok hn, k4 t (List.mem_of_getElem? ht), fun i ws e => ?_⟩
    rw [e3] at e
    cases e
    have hes : x.r.es[j]? = some (dig m t.2) := by
      rw [ro.es]
      unfold digs
      rw [List.getElem?_map, ht]
      rfl
    obtain ⟨hour, _, _, eh⟩ := ro.hd
    refine ⟨u, x.r.es, by rw [e2]; exact k2, k3, ?_, hes, rfl⟩
    rw [e2, eh]
  | succ i =>
    have h : ss[i]? = some s := h
    have hi := (List.getElem?_eq_some_iff.mp h).1
    obtain ⟨a, g1, g2, g3⟩ := bp.ahead i (Nat.le_of_lt hi)
    have hax : xs[a]? = some xs[a] := List.getElem?_eq_getElem g2
    have eA : aheadN t.2 (st :: ss) (i + 1) = xs[a].r.hd.row := by
      rw [ahead_cons t.2 st ss i (Nat.le_of_lt hi), e2, ← row_of hx, g3, row_of hax]
    rw [eA]
    refine ⟨(bp.gd i s h).ok, (kn _ (List.getElem_mem g2)).1, fun i' ws e => ?_⟩
    obtain ⟨_, _, _, _, _, _, _, _, h6⟩ := bp.bk.at_ i s h
    rw [h6] at e
    cases e
abbrev N__law_service_ok : List Str := ["_law_made", "_law_service", "_law_rounds_here", "_law_library", "_law_clean", "_law_number_here", "_law_index", "_law_stamp", "_law_later", "_law_back", "_law_both", "_law_due"]
theorem sc_law_service_ok : FnScope N__law_service_ok ["_law_made", "_law_service", "_law_rounds_here", "_law_library", "_law_clean"] (defScope s__law_service_ok) := ⟨rfl, rfl, rfl, by decide +kernel, rfl, by decide +kernel, by decide +kernel⟩
def spSok (K : PySem.W.Frag) : Sp := Sp5 fun x1 x2 x3 x4 x5 H Q => ∃ (mx l : Addr) (m : Mx) (A : Sv) (L : Lb) (xs : List Rl) (cl : Bool), x1 = .ref mx ∧ x2 = .ref A.x ∧ x3 = .ref l ∧ x4 = .ref L.a ∧ x5 = .bl cl ∧ SokPre K H mx l m A L xs cl ∧ ∀ H', Same H H' → Q (.bl true) H'
theorem c__law_service_ok (D : All K mg) : C8.Cal P w K mg base 10 "_law_service_ok" (spSok K) [] := by
  refine cal D._law_service_ok sc_law_service_ok (fun _ _ _ _ _ _ us hl => match us, hl with | [_, _, _, _, _], _ => rfl) len5 fun fa cdv A0 outer s H vs Q E hr h => ?_
  have sc := sc_law_service_ok
  obtain ⟨_, _, _, _, _, rfl, mx, l, m, A, L, xs, cl, rfl, rfl, rfl, rfl, rfl, pre, k⟩ := h
  refine ⟨_, (pss_cons (ps_for PassesOwn.never rfl (pi_range1 (by rfl) D.x.range (pa_cons (pe_callB call_len_seq (by rfl) D.x.len PySem.boot_len (pa_cons (pv 2) pa_nil)) pa_nil)) (pg_name (i := 5) sc.nd rfl (.inl rfl))
    (pss_cons (ps_if (pt_cmpR (op_neD hr.units) (C8.pe_mt (c_Service_head D) hr (by decide) (pv 1) (pa_cons (pv 5) pa_nil)) (pe_ix ix_list (pe_ix ix_list (pv 2) (pv 5) (fun _ _ => rfl)) pe_int (fun _ _ => rfl)) (nomark _))
      (pss_one (ps_ret pe_bl))
      pss_nil)
      (pss_one (ps_for PassesOwn.never rfl (pi_range1 (by rfl) D.x.range (pa_cons (pe_callB call_len_seq (by rfl) D.x.len PySem.boot_len (pa_cons (pe_ix ix_list (pe_ix ix_list (pv 2) (pv 5) (fun _ _ => rfl)) pe_int (fun _ _ => rfl)) pa_nil)) pa_nil)) (pg_name (i := 6) sc.nd rfl (.inl rfl))
      (pss_cons (ps_set (i := 7) sc.nd rfl (.inl rfl) (C8.pe_mt (c_Service_stamp D) hr (by decide) (pv 1) (pa_cons (pe_ix ix_list (pe_ix ix_list (pe_ix ix_list (pv 2) (pv 5) (fun _ _ => rfl)) pe_int (fun _ _ => rfl)) (pv 6) (fun _ _ => rfl)) (pa_cons (pv 5) (pa_cons (pv 6) pa_nil)))))
        (pss_one (ps_for PassesOwn.never rfl (pi_range2 (by rfl) D.x.range (pa_cons (pv 5) (pa_cons (pe_callB call_len_seq (by rfl) D.x.len PySem.boot_len (pa_cons (pv 2) pa_nil)) pa_nil))) (pg_name (i := 8) sc.nd rfl (.inl rfl))
        (pss_cons (ps_set (i := 9) sc.nd rfl (.inl rfl) (C8.pe_mt (c_Service_back D) hr (by decide) (pv 1) (pa_cons (pv 8) (pa_cons (pv 5) pa_nil))))
          (pss_cons (ps_set (i := 10) sc.nd rfl (.inl rfl) (C8.pe_c (c_joined D) hr (by decide) rfl (pa_cons (pv 7) (pa_cons (pv 9) pa_nil))))
          (pss_cons (ps_set (i := 11) sc.nd rfl (.inl rfl) (pe_tup (pa_cons (C8.pe_c (c_digest D) hr (by decide) rfl (pa_cons (pv 0) (pa_cons (pe_ix ix_list (pe_ix ix_list (pe_ix ix_list (pv 2) (pv 5) (fun _ _ => rfl)) pe_int (fun _ _ => rfl)) (pv 6) (fun _ _ => rfl)) pa_nil))) (pa_cons (C8.pe_c (c_digest D) hr (by decide) rfl (pa_cons (pv 0) (pa_cons (pe_ix ix_list (pe_ix ix_list (pv 2) (pv 8) (fun _ _ => rfl)) pe_int (fun _ _ => rfl)) pa_nil))) pa_nil))))
          (pss_cons (ps_if (PW.pt (pw_or (pt_not (pt_val (C8.pe_c (c_is_accepted D) hr (by decide) rfl (pa_cons (pv 0) (pa_cons (pv 9) pa_nil))))) (pw_or1 (pt_not (pt_val (C8.pe_c (c__law_same D) hr (by decide) rfl (pa_cons (C8.pe_c (c_check D) hr (by decide) rfl (pa_cons (pv 0) (pa_cons (pv 10) pa_nil))) (pa_cons (pv 11) pa_nil))))))))
          (pss_one (ps_ret pe_bl))
          pss_nil)
          (pss_cons (ps_if (pt_cmpR op_ne (pe_callB call_len_seq (by rfl) D.x.len PySem.boot_len (pa_cons (C8.pe_c (c_rows_of D) hr (by decide) rfl (pa_cons (pv 9) pa_nil)) pa_nil)) (pe_callB call_len_seq (by rfl) D.x.len PySem.boot_len (pa_cons (C8.pe_c (c_way_back D) hr (by decide) rfl (pa_cons (pv 8) (pa_cons (pv 5) pa_nil))) pa_nil)) (nomark _))
          (pss_one (ps_ret pe_bl))
          pss_nil)
          (pss_one (ps_if (PW.pt (pw_and (pt_val (pv 4)) (pw_and1 (pt_cmpR (op_neD hr.units) (C8.pe_c (c_trace D) hr (by decide) rfl (pa_cons (pv 3) (pa_cons (pv 10) pa_nil))) (pe_tup (pa_cons pe_str pa_nil)) (nomark _)))))
          (pss_one (ps_ret pe_bl))
          pss_nil))))))))))))))
    (pss_one (ps_ret pe_bl))), ?_⟩
  have xl := pre.len
  have erl : A.rs.length = xs.length := by rw [pre.rs, rs_len]
  refine ⟨_, rfl, l, _, rfl, .inl (SqL.of pre.hl), _, rfl, by omega, by rw [li_len]; omega, ?_⟩
  rw [li_len]
  refine for_range (lo := 0) (n := ((xs.length : Nat) : Int).toNat) (fun i σ H' => Same H H' ∧ ∃ v5 v6 v7 v8 v9 v10 v11 : Option V, σ = [some (.ref mx), some (.ref A.x), some (.ref l), some (.ref L.a), some (.bl cl), v5, v6, v7, v8, v9, v10, v11])
    ⟨Same.refl _, _, _, _, _, _, _, _, rfl⟩ ?_ ?_
  · rintro n σ H' hn ⟨s1, v5, v6, v7, v8, v9, v10, v11, rfl⟩
    have p1 := pre.mono s1
    have hn : n < xs.length := by omega
    have en : (0 : Int) + (n : Int) = (n : Int) := by omega
    have hx : xs[n]? = some xs[n] := List.getElem?_eq_getElem hn
    have rx := p1.hx _ (List.getElem_mem hn)
    have tk := p1.tk _ (List.getElem_mem hn)
    have ro := pre.ok n _ hx
    have rsx : A.rs[n]? = some xs[n].r := by rw [pre.rs]; exact rs_at hx
    revert hx rx tk ro rsx
    generalize xs[n] = x
    intro hx rx tk ro rsx
    have t4 := ro.t4
    -- the head
    refine ⟨_, rfl, A.x, A.dx, _, rfl, p1.sv.o, rfl, _, rfl, _, _, rfl, A, n, x.r, rfl, by rw [en], p1.sv, rsx, ?_⟩
    refine ⟨_, rfl, _, rfl, l, _, _, _, rfl, rfl, SqL.of p1.hl, at_of en (li_at hx), x.li, _, 0, _, rfl, rfl, SqL.of rx.hi, rfl, ?_⟩
    refine ⟨_, _, dp_row rx.hr.ha, dp_row rx.hr.ha, rowD_shaped _, rowD_shaped _, _, rfl, ifF (by rw [rowD_eqv]; simp) ?_⟩
    -- the things
    refine ⟨_, rfl, _, rfl, l, _, _, _, rfl, rfl, SqL.of p1.hl, at_of en (li_at hx), x.li, _, 1, _, rfl, rfl, SqL.of rx.hi, rfl, x.th, _, rfl, .inl (SqL.of rx.ht), _, rfl, by omega, by rw [refs_len]; omega, ?_⟩
    rw [refs_len]
    refine for_range (lo := 0) (n := ((x.ts.length : Nat) : Int).toNat) (fun i σ H' => Same H H' ∧ ∃ v6 v7 v8 v9 v10 v11 : Option V, σ = [some (.ref mx), some (.ref A.x), some (.ref l), some (.ref L.a), some (.bl cl), some (.int (0 + (n : Int))), v6, v7, v8, v9, v10, v11])
      ⟨s1, _, _, _, _, _, _, rfl⟩ ?_ ?_
    · rintro j σ H2 hj ⟨s2, v6, v7, v8, v9, v10, v11, rfl⟩
      have p2 := pre.mono s2
      have rx2 := p2.hx _ (List.mem_of_getElem? hx)
      have hj : j < x.ts.length := by omega
      have ej : (0 : Int) + (j : Int) = (j : Int) := by omega
      have ht : x.ts[j]? = some x.ts[j] := List.getElem?_eq_getElem hj
      have htm := List.getElem_mem hj
      revert ht htm
      generalize x.ts[j] = t
      intro ht htm
      have el : x.r.es.length = x.ts.length := by rw [ro.es, digs_len]
      -- the stamp
      refine ⟨_, rfl, A.x, A.dx, _, rfl, p2.sv.o, rfl, _, rfl, _, rfl, l, _, _, _, rfl, rfl, SqL.of p2.hl, at_of en (li_at hx), x.li, _, 1, _, rfl, rfl, SqL.of rx2.hi, rfl, _, rfl, x.th, _, _, _, rfl, rfl, SqL.of rx2.ht, at_of ej (ref_at ht), _, rfl, _, rfl, ?_⟩
      refine ⟨_, _, _, _, rfl, A, m, t.1, t.2, n, j, x.r, rfl, rfl, by rw [en], by rw [ej], p2.sv, p2.m2, p2.mo, rsx, by omega, by omega, rx2.hs t htm, fun st sp H3 s3 e1 e2 e3 pp => ?_⟩
      have t3 := s2.trans s3
      have p3 := pre.mono t3
      refine ⟨_, rfl, _, rfl, l, _, rfl, .inl (SqL.of p3.hl), _, _, rfl, ⟨by omega, by omega, by rw [li_len]; omega, by rw [li_len]; omega⟩, ?_⟩
      rw [li_len]
      refine for_range (lo := 0 + (n : Int)) (n := (((xs.length : Nat) : Int) - (0 + (n : Int))).toNat) (fun i σ H' => Same H3 H' ∧ ∃ v8 v9 v10 v11 : Option V, σ = [some (.ref mx), some (.ref A.x), some (.ref l), some (.ref L.a), some (.bl cl), some (.int (0 + (n : Int))), some (.int (0 + (j : Int))), some (.ref sp), v8, v9, v10, v11])
        ⟨Same.refl _, _, _, _, _, rfl⟩ ?_ ?_
      · rintro i σ H4 hi ⟨s4, v8, v9, v10, v11, rfl⟩
        have t4' := t3.trans s4
        have p4 := pre.mono t4'
        have ez : (0 : Int) + (n : Int) + (i : Int) = ((n + i : Nat) : Int) := by omega
        have hz : n + i < xs.length := by omega
        have hzx : xs[n + i]? = some xs[n + i] := List.getElem?_eq_getElem hz
        have ezn : n ≤ n + i := Nat.le_add_right n i
        have rsz : A.rs[n + i]? = some xs[n + i].r := by rw [pre.rs]; exact rs_at hzx
        have ry := fun (H' : Hp) (t : Same H H') => (pre.mono t).hx _ (List.getElem_mem hz)
        have rwz := row_of hzx
        revert hzx rsz ry rwz
        generalize xs[n + i] = y
        intro hzx rsz ry rwz
        revert ez hz ezn hzx rsz rwz
        generalize n + i = z
        intro ez hz ezn hzx rsz rwz
        -- back
        refine ⟨_, rfl, A.x, A.dx, _, rfl, p4.sv.o, rfl, _, rfl, _, rfl, _, _, _, rfl, A, z, n, x.r, rfl, by rw [ez], by rw [en], p4.sv, ezn, by omega, by omega, rsx, fun ss bp H5 s5 pb bk sl => ?_⟩
        rw [pre.rs] at bk
        have bpre : BkPre m A.nm xs z n ss := ⟨pre.ok, xl, ezn, hz, bk, sl⟩
        have rwn := row_of hx
        have gd := bpre.good
        have la := bpre.last
        rw [rwn] at gd la
        rw [rwz] at la
        have pst : Gd m t.2 st := stamp_gd ro (by omega) ht e2 e3
        have tko := tk t htm
        -- joined
        have pp5 := pp.mono (s4.trans s5)
        have sl5 : ss.length ≤ 4 := by
          obtain ⟨w1, w2, w3, w4⟩ := wy_ends ⟨z, by omega⟩ ⟨n, by omega⟩ (by show n ≤ z; exact ezn)
          have w4 : (wy z n).length ≤ 5 := w4
          have : (wy z n).length = (wb z n).length := List.length_reverse
          omega
        refine ⟨_, rfl, _, rfl, _, _, rfl, sp, bp, t.1, x.r.ha, t.2, x.r.hd.row, [st], ss, rfl, rfl, pp5, pb, by simp only [List.length_cons, List.length_nil]; omega, fun bo H6 s6 pj => ?_⟩
        have t6 := (t4'.trans s5).trans s6
        have p6 := pre.mono t6
        have rx6 := p6.hx _ (List.mem_of_getElem? hx)
        have ry6 := ry _ t6
        have hg6 : Good m t.2 (st :: ss) := ⟨pst, by rw [e2]; exact gd⟩
        -- due
        refine ⟨_, rfl, _, rfl, _, rfl, l, _, _, _, rfl, rfl, SqL.of p6.hl, at_of en (li_at hx), x.li, _, 1, _, rfl, rfl, SqL.of rx6.hi, rfl, _, rfl, x.th, _, _, _, rfl, rfl, SqL.of rx6.ht, at_of ej (ref_at ht), _, _, rfl, mx, t.1, m, t.2, rfl, rfl, p6.m1, p6.mo, rx6.hs t htm, ?_⟩
        refine ⟨_, rfl, _, rfl, _, rfl, l, _, _, _, rfl, rfl, SqL.of p6.hl, at_of ez (li_at hzx), y.li, _, 0, _, rfl, rfl, SqL.of ry6.hi, rfl, _, _, rfl, mx, y.r.ha, m, y.r.hd.row, rfl, rfl, p6.m1, p6.mo, ry6.hr.ha, small (by show 2 ≤ 100000; decide), fun du hdu => ?_⟩
        have s7 : Same H6 (upd H6 du (.tup [V.int (dig m t.2), V.int (dig m y.r.hd.row)])) := Same.new hdu
        have hdu7 : Rw (upd H6 du (.tup [V.int (dig m t.2), V.int (dig m y.r.hd.row)])) du [dig m t.2, dig m y.r.hd.row] := upd_same
        revert s7 hdu7
        generalize upd H6 du (.tup [V.int (dig m t.2), V.int (dig m y.r.hd.row)]) = H7
        intro s7 hdu7
        have t7 := t6.trans s7
        have p7 := pre.mono t7
        -- accepted
        refine ⟨_, rfl, _, rfl, _, _, rfl, mx, bp, m, x.r.ha, x.r.hd.row, ss, rfl, rfl, p7.m1, p7.mo, pb.mono (s6.trans s7), .inr (.inr (ro.ok (by omega)).hd), gd, fun H8 s8 => ⟨_, rfl, iteF ?_⟩⟩
        have t8 := t7.trans s8
        have p8 := pre.mono t8
        refine ⟨_, rfl, _, rfl, _, _, rfl, mx, bo, m, t.1, t.2, st :: ss, rfl, rfl, p8.m1, p8.mo, pj.mono (s7.trans s8), tko, hg6, fun ck H9 s9 _ hck => ?_⟩
        rw [last_cons, e2, la] at hck
        refine ⟨_, rfl, _, _, rfl, ck, du, _, rfl, rfl, hck, (s8.trans s9) _ _ hdu7, by show 2 ≤ 100; decide, ⟨_, rfl, iteF ?_⟩⟩
        have t9 := t8.trans s9
        -- the length of the way
        refine ⟨_, rfl, _, rfl, bp, x.r.ha, x.r.hd.row, ss, rfl, pb.mono (((s6.trans s7).trans s8).trans s9), fun q H10 s10 _ hq => ⟨q, _, rfl, .inl (SqL.of hq), ?_⟩⟩
        refine ⟨_, rfl, _, rfl, _, _, rfl, z, n, by rw [ez], by rw [en], ezn, by omega, fun q2 H11 s11 _ hq2 => ⟨q2, _, rfl, .inl (SqL.of hq2), rfl, _, rfl, ifF ?_ ?_⟩⟩
        · have e : (V.ref x.r.ha :: rasOf ss).length = ((zs (wb z n)).map V.int).length := by
            rw [List.length_map, zs_len, ← sl]
            unfold rasOf
            rw [List.length_cons, List.length_map]
          show (!decide (V.int _ = V.int _)) = false
          rw [e, decide_eq_true rfl]
          rfl
        have t11 := (t9.trans s10).trans s11
        have b11 := (((((s6.trans s7).trans s8).trans s9).trans s10).trans s11)
        have j11 := ((((s7.trans s8).trans s9).trans s10).trans s11)
        have p11 := pre.mono t11
        cases cl with
        | false => exact ⟨_, rfl, _, rfl, iteF ⟨((s4.trans s5).trans b11), _, _, _, _, rfl⟩⟩
        | true =>
          refine ⟨_, rfl, _, rfl, iteT ?_⟩
          refine ⟨_, rfl, _, rfl, _, _, rfl, L, m, bo, t.1, t.2, st :: ss, rfl, rfl, p11.lb, p11.m3, p11.mo, pj.mono j11, fun i' s' h' => tr_ok bpre (p11.kn rfl) hx ht e2 e3 i' s' h', fun q3 H12 s12 hq3 => ⟨small (by show 1 ≤ 100000; decide), fun u hu => ?_⟩⟩
          have s13 : Same H12 (upd H12 u (.tup [V.str "known"])) := Same.new hu
          refine ⟨_, _, dp_known (s13 _ _ hq3), dp_known upd_same, known_shaped, known_shaped, _, rfl, ifF known_eq ?_⟩
          exact ⟨(((s4.trans s5).trans b11).trans s12).trans s13, _, _, _, _, rfl⟩
      · rintro σ H4 ⟨s4, v8, v9, v10, v11, rfl⟩
        exact ⟨t3.trans s4, _, _, _, _, _, _, rfl⟩
    · rintro σ H2 ⟨s2, v6, v7, v8, v9, v10, v11, rfl⟩
      exact ⟨s2, _, _, _, _, _, _, _, rfl⟩
  · rintro σ H' ⟨s1, v5, v6, v7, v8, v9, v10, v11, rfl⟩
    exact k H' s1
end SR
set_option maxHeartbeats 4000000
namespace SR
open PySem PySem.Spec PyProof.Rows L2
variable {P : Program} {w : World} {K : PySem.W.Frag} {mg : Str → Option Value} {base : Heap}
/-! ### a mixing is made -/
abbrev N_Mixing_init : List Str := ["self", "bound", "factor"]
theorem sc_Mixing_init : FnScope N_Mixing_init ["self", "bound", "factor"] (defScope s_Mixing_init) := ⟨rfl, rfl, rfl, by decide +kernel, rfl, by decide +kernel, by decide +kernel⟩
def spMxI (K : PySem.W.Frag) : Sp := Sp3 fun x y t H Q => ∃ (a dx : Addr) (b f : Int), x = .ref a ∧ y = .int b ∧ t = .int f ∧ H a = some (.ins (CM K) dx []) ∧
  ∀ H', (∀ b o, H b = some o → b ≠ a → H' b = some o) → H' a = some (.ins (CM K) dx (mxF ⟨b, f⟩)) → Q .non H'
theorem c_Mixing_init (D : All K mg) : C8.Mak P w K mg base 1 "Mixing" (CM K) (spMxI K) [] := by
  refine mak D.Mixing_init sc_Mixing_init (fun _ _ _ _ _ _ us hl => match us, hl with | [_, _, _], _ => rfl) len3 fun fa cdv A outer s H vs Q E hr h => ?_
  have sc := sc_Mixing_init
  obtain ⟨_, _, _, rfl, a, dx, b, f, rfl, rfl, rfl, ho, k⟩ := h
  refine ⟨_, (pss_cons (ps_fld (pv 0) (pv 1) rfl)
    (pss_one (ps_fld (pv 0) (pv 2) rfl))), ?_⟩
  refine ⟨_, rfl, _, rfl, a, _, dx, _, rfl, ho, D.x.cM, D.x.nM_bound, (by show 0 < 1000; decide), ?_⟩
  refine ⟨_, rfl, _, rfl, a, _, dx, _, rfl, upd_same, D.x.cM, D.x.nM_factor, (by show 1 < 1000; decide), ?_⟩
  rw [upd_upd]
  refine k _ (fun b o e nb => (upd_ne nb).trans e) ?_
  rw [upd_same]
  have e2 : putF "factor" (.int f) (putF "bound" (.int b) []) = mxF ⟨b, f⟩ := putF_new _ _ _ (by show (["bound"] : List Str).contains "factor" = false; decide +kernel)
  rw [e2]
/-! ### two services -/
def Mu (A : Sv) (l : Addr) : List Addr := [A.w, A.p, A.c, A.x, l]
structure Side (K : PySem.W.Frag) (H : Hp) (mx l : Addr) (A : Sv) (m : Mx) (nm : Int) (xs : List Rl) : Prop where
  am : A.mx = mx
  an : A.nm = nm
  sv : SvAt K H A
  ps : A.ps = []
  rs : A.rs = rsOf xs
  hl : H l = some (.lst (lisOf xs))
  hx : ∀ x ∈ xs, RlAt H x
  ok : RsOk m nm xs
  wl : A.wl ≤ 10 * xs.length
  nl : l ∉ [A.w, A.p, A.c, A.x]
/-- the cells of a side stand, and none is a tuple -/
theorem Side.cell {H : Hp} {mx l : Addr} {A : Sv} {m : Mx} {nm : Int} {xs : List Rl} (h : Side K H mx l A m nm xs) : ∀ z ∈ Mu A l, ∃ o, H z = some o ∧ ∀ ys, o ≠ .tup ys := fun z hz => by
  simp only [Mu, List.mem_cons, List.not_mem_nil, or_false] at hz
  obtain ⟨ws, h1, _⟩ := h.sv.w
  rcases hz with q | q | q | q | q
  · exact ⟨_, q ▸ h1, fun _ e => by cases e⟩
  · exact ⟨_, q ▸ h.sv.p, fun _ e => by cases e⟩
  · exact ⟨_, q ▸ h.sv.c, fun _ e => by cases e⟩
  · exact ⟨_, q ▸ h.sv.o, fun _ e => by cases e⟩
  · exact ⟨_, q ▸ h.hl, fun _ e => by cases e⟩
theorem RlAt.but {S : List Addr} {H H' : Hp} {x : Rl} (b : But S H H') (n : ∀ c ∈ S, ∀ ys, H c ≠ some (.tup ys)) (hi : x.li ∉ S) (ht : x.th ∉ S) (h : RlAt H x) : RlAt H' x :=
  ⟨⟨b.tup h.hr.pr n, b.tup h.hr.ha n, b.tup h.hr.ea n⟩, b _ _ hi h.hi, b _ _ ht h.ht, fun t m => b.tup (h.hs t m) n⟩
theorem Side.keep {S : List Addr} {H H' : Hp} {mx l : Addr} {A : Sv} {m : Mx} {nm : Int} {xs : List Rl} (h : Side K H mx l A m nm xs) (b : But S H H') (nS : ∀ z ∈ Mu A l, z ∉ S) (nx : ∀ x ∈ xs, x.li ∉ S ∧ x.th ∉ S) (n : ∀ c ∈ S, ∀ ys, H c ≠ some (.tup ys)) : Side K H' mx l A m nm xs := by
  obtain ⟨ws, h1, h2⟩ := h.sv.w
  have q := h.sv
  exact ⟨h.am, h.an, ⟨b _ _ (nS _ (by simp [Mu])) q.o, b _ _ (nS _ (by simp [Mu])) q.c, b _ _ (nS _ (by simp [Mu])) q.p, ⟨ws, b _ _ (nS _ (by simp [Mu])) h1, h2⟩, fun r hr => ⟨b.tup (q.r r hr).pr n, b.tup (q.r r hr).ha n, b.tup (q.r r hr).ea n⟩, q.wp, q.wc, q.pc⟩,
    h.ps, h.rs, b _ _ (nS _ (by simp [Mu])) h.hl, fun x hx => (h.hx x hx).but b n (nx x hx).1 (nx x hx).2, h.ok, h.wl, h.nl⟩
/-- what was entered: simple things and heads of the other side -/
def Kd (xs ys : List Rl) : Prop := ∀ x ∈ xs, ∀ t ∈ x.ts, Simple t.2 ∨ ∃ y ∈ ys, t.2 = y.r.hd.row
structure Two (K : PySem.W.Frag) (H : Hp) (b br mt mx : Addr) (G : List Addr) (m : Mx) (la lb : Addr) (nA nB : Int) (A B : Sv) (xs ys : List Rl) : Prop where
  bx : BoxAt H b br
  ht : MtAt H mt m
  hm : MxAt K H mx m
  mo : MOk m
  a : Side K H mx la A m nA xs
  c : Side K H mx lb B m nB ys
  ba : b ∉ Mu A la
  bb : b ∉ Mu B lb
  dj : ∀ z ∈ Mu A la, z ∉ Mu B lb
  g : ∀ z ∈ G, H z ≠ none ∧ z ≠ b ∧ z ∉ Mu A la ∧ z ∉ Mu B lb
  gr : br ∈ G
  gm : mx ∈ G
  gx : ∀ x ∈ xs, x.li ∈ G ∧ x.th ∈ G
  gy : ∀ y ∈ ys, y.li ∈ G ∧ y.th ∈ G
  kx : Kd xs ys
  ky : Kd ys xs
section
variable {H H' : Hp} {b br mt mx : Addr} {G : List Addr} {m : Mx} {la lb : Addr} {nA nB : Int} {A B : Sv} {xs ys : List Rl}
theorem Two.swap (h : Two K H b br mt mx G m la lb nA nB A B xs ys) : Two K H b br mt mx G m lb la nB nA B A ys xs :=
  ⟨h.bx, h.ht, h.hm, h.mo, h.c, h.a, h.bb, h.ba, fun z hz hz2 => h.dj z hz2 hz, fun z hz => ⟨(h.g z hz).1, (h.g z hz).2.1, (h.g z hz).2.2.2, (h.g z hz).2.2.1⟩, h.gr, h.gm, h.gy, h.gx, h.ky, h.kx⟩
theorem nt_box (h : BoxAt H b br) : ∀ c ∈ [b], ∀ ys, H c ≠ some (HO.tup ys) := fun c hc ys e => by
  obtain ⟨p, ns, h1, _⟩ := h
  rw [List.mem_singleton.mp hc, h1] at e
  cases e
theorem But.some {S : List Addr} {H H' : Hp} {z : Addr} (b : But S H H') (n : z ∉ S) (h : H z ≠ none) : H' z ≠ none := by
  cases e : H z with
  | none => exact absurd e h
  | some o =>
    rw [b z o n e]
    exact fun q => by cases q
/-- only the box changes -/
theorem Two.box (h : Two K H b br mt mx G m la lb nA nB A B xs ys) (bt : But [b] H H') (bx : BoxAt H' b br) : Two K H' b br mt mx G m la lb nA nB A B xs ys := by
  have n := nt_box h.bx
  have gb : ∀ z ∈ G, z ∉ [b] := fun z hz q => (h.g z hz).2.1 (List.mem_singleton.mp q)
  refine ⟨bx, bt.tup h.ht n, ?_, h.mo, h.a.keep bt (fun z hz q => h.ba (List.mem_singleton.mp q ▸ hz)) (fun x hx => ⟨gb _ (h.gx x hx).1, gb _ (h.gx x hx).2⟩) n,
    h.c.keep bt (fun z hz q => h.bb (List.mem_singleton.mp q ▸ hz)) (fun x hx => ⟨gb _ (h.gy x hx).1, gb _ (h.gy x hx).2⟩) n, h.ba, h.bb, h.dj, fun z hz => ⟨bt.some (gb z hz) (h.g z hz).1, (h.g z hz).2⟩, h.gr, h.gm, h.gx, h.gy, h.kx, h.ky⟩
  obtain ⟨dx, e⟩ := h.hm
  exact ⟨dx, bt _ _ (gb _ h.gm) e⟩
theorem Two.mono (h : Two K H b br mt mx G m la lb nA nB A B xs ys) (s : Same H H') : Two K H' b br mt mx G m la lb nA nB A B xs ys := h.box (Same.but s) (h.bx.mono s)
/-- the heads of a side -/
def hds (ys : List Rl) : List (Addr × List Int) := ys.map fun y => (y.r.ha, y.r.hd.row)
theorem hds_mem {ys : List Rl} {t : Addr × List Int} (h : t ∈ hds ys) : ∃ y ∈ ys, t = (y.r.ha, y.r.hd.row) := by
  obtain ⟨y, h1, h2⟩ := List.mem_map.mp h
  exact ⟨y, h1, h2.symm⟩
theorem RsOk.rowlen {m : Mx} {nm : Int} {xs : List Rl} (h : RsOk m nm xs) (hl : xs.length ≤ 5) : ∀ x ∈ xs, x.r.hd.row.length ≤ 100 := fun x hx => by
  obtain ⟨i, hi, e⟩ := List.getElem_of_mem hx
  have ok := (h i x (by rw [List.getElem?_eq_getElem hi, e])).ok (by omega)
  have h1 := ok.bl
  have h2 := bks_len x.r.hd.n
  show (hdr _ _ _ _ _ _).length ≤ 100
  simp only [hdr, List.length_cons]
  omega
/-- what a round asks -/
theorem Two.pre (h : Two K H b br mt mx G m la lb nA nB A B xs ys) {o : Addr} (ho : H o = some (.lst (refsOf (hds ys)))) (nob : o ≠ b) (lx : xs.length ≤ 4) (ly : ys.length ≤ 5) : RdPre K H b br mt o la A m xs (hds ys) := by
  refine ⟨h.bx, h.ht, h.a.am ▸ h.hm, h.mo, h.a.sv, h.a.ps, h.a.rs, h.a.hl, lx, ?_, ho, fun t ht => ?_, fun i r hr => ?_, h.ba, (h.g _ h.gr).2.2.1, h.a.nl, nob⟩
  · have := h.a.wl
    omega
  · obtain ⟨y, hy, rfl⟩ := hds_mem ht
    exact ⟨(h.c.hx y hy).hr.ha, h.c.ok.rowlen ly y hy⟩
  · rw [h.a.rs] at hr
    unfold rsOf at hr
    obtain ⟨x, hx, rfl⟩ := Option.map_eq_some_iff.mp ((List.getElem?_map ..).symm.trans hr)
    obtain ⟨hour, _, h2, e⟩ := (h.a.ok i x hx).hd
    rw [e]
    exact h2
/-- a round of one side -/
theorem Two.step (h : Two K H b br mt mx G m la lb nA nB A B xs ys) {x : Rl} {p : Addr} (po : RdPost K H H' b br la A m xs (hds ys) x p) : Two K H' b br mt mx (x.li :: x.th :: G) m la lb nA nB { A with p := p, ps := [], rs := A.rs ++ [x.r], wl := A.wl + 10 } B (xs ++ [x]) ys := by
  have ca := h.a.cell
  have cb := h.c.cell
  have ba := h.ba
  have bb := h.bb
  have dj := h.dj
  have g := h.g
  have fp := po.fp
  have fl := po.fl
  have ft := po.ft
  have bsome := h.bx.some.1
  have nla := h.a.nl
  have S : ∀ z, z ∈ [b, A.w, A.p, A.c, A.x, la] ↔ z = b ∨ z ∈ Mu A la := fun z => by simp [Mu]
  have n : ∀ c ∈ [b, A.w, A.p, A.c, A.x, la], ∀ ys, H c ≠ some (HO.tup ys) := fun c hc ys e => by
    rcases (S c).mp hc with q | q
    · exact nt_box h.bx c (by simp [q]) ys e
    · obtain ⟨o, h1, h2⟩ := ca c q
      rw [h1] at e
      cases e
      exact h2 ys rfl
  have gS : ∀ z ∈ G, z ∉ [b, A.w, A.p, A.c, A.x, la] := fun z hz q => by
    rcases (S z).mp q with q | q
    · exact (g z hz).2.1 q
    · exact (g z hz).2.2.1 q
  -- what is none of the new cell
  have np : ∀ z, H z ≠ none → z ≠ p := fun z hz e => hz (e ▸ fp)
  have mu' : ∀ z, z ∈ Mu { A with p := p, ps := [], rs := A.rs ++ [x.r], wl := A.wl + 10 } la → z = p ∨ z ∈ Mu A la := fun z hz => by
    simp only [Mu, List.mem_cons, List.not_mem_nil, or_false] at hz ⊢
    rcases hz with q | q | q | q | q <;> simp [q]
  have cs : ∀ z ∈ Mu A la, H z ≠ none := fun z hz e => by
    obtain ⟨o, h1, _⟩ := ca z hz
    rw [h1] at e
    cases e
  have cs' : ∀ z ∈ Mu B lb, H z ≠ none := fun z hz e => by
    obtain ⟨o, h1, _⟩ := cb z hz
    rw [h1] at e
    cases e
  have svp : H' p = some (.lst []) := po.sv.p
  have nlp : x.li ≠ p := fun e => by
    have q := po.hx.hi
    rw [e, svp] at q
    cases q
  have ntp : x.th ≠ p := fun e => by
    have q := po.hx.ht
    rw [e, svp] at q
    have q := HO.lst.inj (Option.some.inj q)
    have t1 := po.t1
    rw [← refs_len, ← q] at t1
    exact absurd t1 (by simp)
  have nz : ∀ z, H z = none → z ≠ p → H' z ≠ none → H' z ≠ none ∧ z ≠ b ∧ z ∉ Mu { A with p := p, ps := [], rs := A.rs ++ [x.r], wl := A.wl + 10 } la ∧ z ∉ Mu B lb := fun z hz hp h' => by
    refine ⟨h', fun e => bsome (e ▸ hz), fun q => ?_, fun q => cs' z q hz⟩
    rcases mu' z q with q | q
    · exact hp q
    · exact cs z q hz
  have ok' : RsOk m nA (xs ++ [x]) := by
    obtain ⟨hour, h1, h2, h3⟩ := po.hd
    refine h.a.ok.snoc ⟨hour, h1, h2, ?_⟩ po.es po.t1 po.t4
    rw [h3]
    show (⟨A.nm, A.rs.length, hour, x.r.es.length, root m x.r.es, nbs m A.rs A.rs.length⟩ : Hd) = _
    rw [h.a.rs, rs_len, h.a.an]
  refine ⟨po.bx, po.bt.tup h.ht n, ?_, h.mo, ⟨h.a.am, h.a.an, po.sv, rfl, ?_, po.hl, ?_, ok', ?_, ?_⟩, h.c.keep po.bt ?_ (fun y hy => ⟨gS _ (h.gy y hy).1, gS _ (h.gy y hy).2⟩) n, ?_, bb, ?_, ?_, ?_, ?_, ?_, ?_, ?_, ?_⟩
  · obtain ⟨dx, e⟩ := h.hm
    exact ⟨dx, po.bt _ _ (gS _ h.gm) e⟩
  · show A.rs ++ [x.r] = _
    rw [rsOf_snoc, h.a.rs]
  · intro y hy
    rcases List.mem_append.mp hy with q | q
    · exact (h.a.hx y q).but po.bt n (gS _ (h.gx y q).1) (gS _ (h.gx y q).2)
    · rw [List.mem_singleton.mp q]
      exact po.hx
  · show A.wl + 10 ≤ _
    have := h.a.wl
    rw [List.length_append]
    simp only [List.length_cons, List.length_nil]
    omega
  · have q : la ≠ p := np la (cs la (by simp [Mu]))
    simp only [List.mem_cons, List.not_mem_nil, or_false, not_or] at nla ⊢
    exact ⟨nla.1, q, nla.2.2.1, nla.2.2.2⟩
  · intro z hz q
    rcases (S z).mp q with q | q
    · exact bb (q ▸ hz)
    · exact dj z q hz
  · intro q
    rcases mu' b q with q | q
    · exact np b bsome q
    · exact ba q
  · intro z hz hz2
    rcases mu' z hz with q | q
    · exact np z (cs' z hz2) q
    · exact dj z q hz2
  · intro z hz
    rcases List.mem_cons.mp hz with q | hz
    · rw [q]
      exact nz _ fl nlp (by rw [po.hx.hi]; simp)
    rcases List.mem_cons.mp hz with q | hz
    · rw [q]
      exact nz _ ft ntp (by rw [po.hx.ht]; simp)
    obtain ⟨g1, g2, g3, g4⟩ := g z hz
    refine ⟨po.bt.some (gS z hz) g1, g2, fun q => ?_, g4⟩
    rcases mu' z q with q | q
    · exact np z g1 q
    · exact g3 q
  · exact .tail _ (.tail _ h.gr)
  · exact .tail _ (.tail _ h.gm)
  · intro y hy
    rcases List.mem_append.mp hy with q | q
    · exact ⟨.tail _ (.tail _ (h.gx y q).1), .tail _ (.tail _ (h.gx y q).2)⟩
    · rw [List.mem_singleton.mp q]
      exact ⟨.head _, .tail _ (.head _)⟩
  · intro y hy
    exact ⟨.tail _ (.tail _ (h.gy y hy).1), .tail _ (.tail _ (h.gy y hy).2)⟩
  · intro y hy t ht
    rcases List.mem_append.mp hy with q | q
    · exact h.kx y q t ht
    · rw [List.mem_singleton.mp q] at ht
      rcases po.kd t ht with k | k
      · exact .inl k
      · obtain ⟨z, hz, e⟩ := hds_mem k
        exact .inr ⟨z, hz, by rw [e]⟩
  · intro y hy t ht
    rcases h.ky y hy t ht with k | ⟨z, hz, e⟩
    · exact .inl k
    · exact .inr ⟨z, List.mem_append_left _ hz, e⟩
end
end SR
set_option maxHeartbeats 4000000
namespace SR
open PySem PySem.Spec PyProof.Rows L2
/-! ### what the library knows -/
theorem row_inj {H : Hp} {a : Addr} {ns ms : List Int} (h1 : Rw H a ns) (h2 : Rw H a ms) : ns = ms := by
  have h1 : H a = some (.tup (ns.map V.int)) := h1
  rw [show H a = some (.tup (ms.map V.int)) from h2] at h1
  exact ((List.map_inj_right (fun x y z => V.int.inj z)).mp (HO.tup.inj (Option.some.inj h1))).symm
theorem simple_ne {ns : List Int} (h : Simple ns) (d : Hd) : d.row ≠ ns := fun e => by
  rcases h with ⟨x, v, q⟩ | ⟨v, q⟩
  · rw [q] at e
    exact absurd (List.cons.inj (show (4 : Int) :: _ = 1 :: _ from e)).1 (by decide)
  · rw [q] at e
    exact absurd (List.cons.inj (show (4 : Int) :: _ = 2 :: _ from e)).1 (by decide)
theorem hdr_inj {d e : Hd} (h : d.row = e.row) : d.s = e.s ∧ d.n = e.n := by
  have h : (4 : Int) :: d.s :: (d.n : Int) :: _ = (4 : Int) :: e.s :: (e.n : Int) :: _ := h
  have h1 := (List.cons.inj h).2
  have h2 := (List.cons.inj h1).2
  exact ⟨(List.cons.inj h1).1, Int.ofNat.inj (List.cons.inj h2).1⟩
theorem rows_ne {m : Mx} {nm : Int} {xs : List Rl} (ok : RsOk m nm xs) {i j : Nat} {x y : Rl} (hij : i ≠ j) (hx : xs[i]? = some x) (hy : xs[j]? = some y) : x.r.hd.row ≠ y.r.hd.row := fun e => by
  obtain ⟨h1, _, _, e1⟩ := (ok i x hx).hd
  obtain ⟨h2, _, _, e2⟩ := (ok j y hy).hd
  have q := (hdr_inj e).2
  rw [e1, e2] at q
  exact hij q
theorem rows_ne2 {m : Mx} {nA nB : Int} {xs ys : List Rl} (oa : RsOk m nA xs) (ob : RsOk m nB ys) (n : nA ≠ nB) : ∀ x ∈ xs, ∀ y ∈ ys, x.r.hd.row ≠ y.r.hd.row := fun x hx y hy e => by
  obtain ⟨i, hi, q1⟩ := List.getElem_of_mem hx
  obtain ⟨j, hj, q2⟩ := List.getElem_of_mem hy
  obtain ⟨h1, _, _, e1⟩ := (oa i x (by rw [List.getElem?_eq_getElem hi, q1])).hd
  obtain ⟨h2, _, _, e2⟩ := (ob j y (by rw [List.getElem?_eq_getElem hj, q2])).hd
  have q := (hdr_inj e).1
  rw [e1, e2] at q
  exact n q
def KnowE (H : Hp) (m : Mx) (T : List (Key × V)) (ts : List (Addr × List Int)) : Prop := ∀ t ∈ ts, Simple t.2 → KnowR H m T t.2
structure LbI (K : PySem.W.Frag) (H : Hp) (mx : Addr) (m : Mx) (L : Lb) (cl : Bool) (Ds : List Rl) (Es : List (Addr × List Int)) (n : Nat) : Prop where
  lb : LbAt K H L
  lm : L.mx = mx
  tr : TRows H L.T
  tl : L.T.length ≤ n
  rl : L.R.length ≤ n
  rk : ∀ (k : Int) (v : V), valV L.R (.inl k) = some v → ∃ a0 r, r ∈ Ds ∧ valV L.T (.inl k) = some (.ref a0) ∧ Rw H a0 r.r.hd.row
  kd : cl = true → ∀ x ∈ Ds, KnowR H m L.T x.r.hd.row ∧ (∃ u, valV L.R (.inl (dig m x.r.hd.row)) = some (.ref u) ∧ Rw H u x.r.es) ∧ KnowE H m L.T x.ts
  ke : cl = true → KnowE H m L.T Es
section
variable {K : PySem.W.Frag} {H H' : Hp} {mx : Addr} {m : Mx} {L : Lb} {cl : Bool} {Ds Ds' : List Rl} {Es Es' : List (Addr × List Int)} {n n' : Nat} {R' : List (Key × V)}
theorem LbI.weak (h : LbI K H mx m L cl Ds Es n) (s : Same H H') (hd : ∀ x ∈ Ds, x ∈ Ds') (hn : n ≤ n') : LbI K H' mx m L false Ds' Es' n' :=
  ⟨h.lb.mono s, h.lm, h.tr.mono (Tq.of s), Nat.le_trans h.tl hn, Nat.le_trans h.rl hn, fun k v e => by
    obtain ⟨a0, r, h1, h2, h3⟩ := h.rk k v e
    exact ⟨a0, r, hd r h1, h2, s _ _ h3⟩, fun e => (by cases e), fun e => (by cases e)⟩
theorem LbI.mono (h : LbI K H mx m L cl Ds Es n) (s : Same H H') : LbI K H' mx m L cl Ds Es n :=
  ⟨h.lb.mono s, h.lm, h.tr.mono (Tq.of s), h.tl, h.rl, fun k v e => by
    obtain ⟨a0, r, h1, h2, h3⟩ := h.rk k v e
    exact ⟨a0, r, h1, h2, s _ _ h3⟩, fun e x hx => by
    obtain ⟨h1, ⟨u, h2, h3⟩, h4⟩ := h.kd e x hx
    exact ⟨h1.mono s, ⟨u, h2, s _ _ h3⟩, fun t ht q => (h4 t ht q).mono s⟩, fun e t ht q => (h.ke e t ht q).mono s⟩
theorem LbI.skip (h : LbI K H mx m L cl Ds Es n) (t : Addr × List Int) (nt : ¬ Simple t.2) (hn : n ≤ n') : LbI K H mx m L cl Ds (Es ++ [t]) n' :=
  ⟨h.lb, h.lm, h.tr, Nat.le_trans h.tl hn, Nat.le_trans h.rl hn, h.rk, h.kd, fun e z hz q => by
    rcases List.mem_append.mp hz with y | y
    · exact h.ke e z y q
    · rw [List.mem_singleton.mp y] at q
      exact absurd q nt⟩
theorem LbI.less (h : LbI K H mx m L cl Ds Es n) (hn : n ≤ n') : LbI K H mx m L cl Ds Es n' :=
  ⟨h.lb, h.lm, h.tr, Nat.le_trans h.tl hn, Nat.le_trans h.rl hn, h.rk, h.kd, h.ke⟩
theorem LbAt.tq (h : LbAt K H L) (b : But [L.t, L.r] H H') : Tq H H' := fun a xs e => b.tup e fun c hc ys q => by
  simp only [List.mem_cons, List.not_mem_nil, or_false] at hc
  rcases hc with z | z
  · rw [z, h.t] at q
    cases q
  · rw [z, h.r] at q
    cases q
/-- a known row stays known behind a put -/
theorem KnowR.put {T : List (Key × V)} {bn ns : List Int} {a : Addr} (h : KnowR H m T bn) (t : Tq H H') (hT : ∀ v, valV T (.inl (dig m ns)) = some v → ∃ a0, v = .ref a0 ∧ Rw H a0 ns) (hR : Rw H a ns) : KnowR H' m (putK T (.inl (dig m ns)) (.ref a)) bn := by
  obtain ⟨a0, h1, h2⟩ := h
  unfold KnowR
  rw [valV_put]
  by_cases e : (Sum.inl (dig m bn) : Key) = Sum.inl (dig m ns)
  · rw [if_pos e]
    rw [e] at h1
    obtain ⟨a1, q1, q2⟩ := hT _ h1
    cases q1
    have q := row_inj h2 q2
    subst q
    exact ⟨a, rfl, t _ _ hR⟩
  · rw [if_neg e]
    exact ⟨a0, h1, t _ _ h2⟩
theorem KnowR.new {T : List (Key × V)} {ns : List Int} {a : Addr} (hR : Rw H a ns) : KnowR H m (putK T (.inl (dig m ns)) (.ref a)) ns := by
  unfold KnowR
  rw [valV_put, if_pos rfl]
  exact ⟨a, rfl, hR⟩
theorem TRows.put {T : List (Key × V)} {k : Key} {ns : List Int} {a : Addr} (h : TRows H T) (hR : Rw H a ns) : TRows H (putK T k (.ref a)) := fun j v e => by
  rw [valV_put] at e
  by_cases q : j = k
  · rw [if_pos q] at e
    exact ⟨a, ns, (Option.some.inj e).symm, hR⟩
  · rw [if_neg q] at e
    exact h j v e
theorem LbI.thing {a : Addr} {ns : List Int} (h : LbI K H mx m L cl Ds Es n) (sm : Simple ns) (hR : Rw H a ns) (b : But [L.t, L.r] H H') (hT : ∀ v, valV L.T (.inl (dig m ns)) = some v → ∃ a0, v = .ref a0 ∧ Rw H a0 ns)
    (ra : rAft H' L.R (dig m ns) ns [] R') (lb : LbAt K H' { L with T := putK L.T (.inl (dig m ns)) (.ref a), R := R' }) : LbI K H' mx m { L with T := putK L.T (.inl (dig m ns)) (.ref a), R := R' } cl Ds (Es ++ [(a, ns)]) (n + 1) := by
  have t := h.lb.tq b
  have eR : R' = L.R := by
    rcases ra with ⟨_, q⟩ | ⟨u, d, q, _⟩
    · exact q
    · exact absurd q.symm (simple_ne sm d)
  subst eR
  refine ⟨lb, h.lm, (h.tr.mono t).put (t _ _ hR), Nat.le_trans (SR.putK_len _ _ _) (Nat.succ_le_succ h.tl), Nat.le_succ_of_le h.rl, fun k v e => ?_, fun e x hx => ?_, fun e z hz q => ?_⟩
  · obtain ⟨a0, r, h1, h2, h3⟩ := h.rk k v e
    refine ⟨a0, r, h1, ?_, t _ _ h3⟩
    show valV (putK _ _ _) _ = _
    rw [valV_put, if_neg]
    · exact h2
    · intro q
      rw [q] at h2
      obtain ⟨a1, q1, q2⟩ := hT _ h2
      cases q1
      exact simple_ne sm _ (row_inj h3 q2)
  · obtain ⟨h1, ⟨u, h2, h3⟩, h4⟩ := h.kd e x hx
    exact ⟨h1.put t hT hR, ⟨u, h2, t _ _ h3⟩, fun z hz q => (h4 z hz q).put t hT hR⟩
  · rcases List.mem_append.mp hz with y | y
    · exact (h.ke e z y q).put t hT hR
    · rw [List.mem_singleton.mp y]
      exact KnowR.new (t _ _ hR)
theorem LbI.head {x : Rl} (h : LbI K H mx m L cl Ds x.ts n) (hR : Rw H x.r.ha x.r.hd.row) (nd : ∀ y ∈ Ds, y.r.hd.row ≠ x.r.hd.row) (b : But [L.t, L.r] H H') (hT : ∀ v, valV L.T (.inl (dig m x.r.hd.row)) = some v → ∃ a0, v = .ref a0 ∧ Rw H a0 x.r.hd.row)
    (ra : rAft H' L.R (dig m x.r.hd.row) x.r.hd.row x.r.es R') (lb : LbAt K H' { L with T := putK L.T (.inl (dig m x.r.hd.row)) (.ref x.r.ha), R := R' }) : LbI K H' mx m { L with T := putK L.T (.inl (dig m x.r.hd.row)) (.ref x.r.ha), R := R' } cl (Ds ++ [x]) [] (n + 1) := by
  have t := h.lb.tq b
  obtain ⟨u, hu, eR⟩ : ∃ u, Rw H' u x.r.es ∧ R' = putK L.R (.inl (dig m x.r.hd.row)) (.ref u) := by
    rcases ra with ⟨q, _⟩ | ⟨u, d, _, q1, q2⟩
    · exact absurd rfl (simple_ne q x.r.hd)
    · exact ⟨u, q1, q2⟩
  subst eR
  refine ⟨lb, h.lm, (h.tr.mono t).put (t _ _ hR), Nat.le_trans (SR.putK_len _ _ _) (Nat.succ_le_succ h.tl), Nat.le_trans (SR.putK_len _ _ _) (Nat.succ_le_succ h.rl), fun k v e => ?_, fun e z hz => ?_, fun e z hz => (by cases hz)⟩
  · have e : valV (putK L.R (.inl (dig m x.r.hd.row)) (.ref u)) (.inl k) = some v := e
    rw [valV_put] at e
    by_cases q : (Sum.inl k : Key) = Sum.inl (dig m x.r.hd.row)
    · refine ⟨x.r.ha, x, by simp, ?_, t _ _ hR⟩
      show valV (putK _ _ _) _ = _
      rw [valV_put, if_pos q]
    · rw [if_neg q] at e
      obtain ⟨a0, r, h1, h2, h3⟩ := h.rk k v e
      refine ⟨a0, r, List.mem_append_left _ h1, ?_, t _ _ h3⟩
      show valV (putK _ _ _) _ = _
      rw [valV_put, if_neg q]
      exact h2
  · rcases List.mem_append.mp hz with y | y
    · obtain ⟨h1, ⟨u', h2, h3⟩, h4⟩ := h.kd e z y
      refine ⟨h1.put t hT hR, ⟨u', ?_, t _ _ h3⟩, fun z hz q => (h4 z hz q).put t hT hR⟩
      show valV (putK _ _ _) _ = _
      rw [valV_put, if_neg]
      · exact h2
      · intro q
        obtain ⟨a0, k1, k2⟩ := h1
        rw [q] at k1
        obtain ⟨a1, q1, q2⟩ := hT _ k1
        cases q1
        exact nd z y (row_inj k2 q2)
    · rw [List.mem_singleton.mp y]
      refine ⟨KnowR.new (t _ _ hR), ⟨u, ?_, hu⟩, fun z hz q => (h.ke e z hz q).put t hT hR⟩
      show valV (putK _ _ _) _ = _
      rw [valV_put, if_pos rfl]
/-- what a put of a simple thing asks of the rounds -/
theorem LbI.ask {ns : List Int} (h : LbI K H mx m L cl Ds Es n) (nd : ∀ y ∈ Ds, y.r.hd.row ≠ ns) : ∀ v, valV L.R (.inl (dig m ns)) = some v → ∃ a0 ns0, valV L.T (.inl (dig m ns)) = some (.ref a0) ∧ Rw H a0 ns0 ∧ ns0 ≠ ns := fun v e => by
  obtain ⟨a0, r, h1, h2, h3⟩ := h.rk _ v e
  exact ⟨a0, _, h2, h3, nd r h1⟩
end
/-- the service's check has what it asks -/
theorem sok_pre {K : PySem.W.Frag} {H : Hp} {mx la : Addr} {m : Mx} {nA nB : Int} {A : Sv} {xs ys : List Rl} {L : Lb} {cl : Bool} {Ds : List Rl} {Es : List (Addr × List Int)} {n : Nat} (a : Side K H mx la A m nA xs) (hM : MxAt K H mx m) (mo : MOk m) (kx : Kd xs ys) (oy : RsOk m nB ys)
    (lx : xs.length ≤ 5) (ly : ys.length ≤ 5) (lb : LbI K H mx m L cl Ds Es n) (hx : ∀ x ∈ xs, x ∈ Ds) (hy : ∀ y ∈ ys, y ∈ Ds) : SokPre K H mx la m A L xs cl := by
  refine ⟨mo, hM, a.am ▸ hM, lb.lm ▸ hM, a.sv, a.rs, a.hl, a.hx, a.an ▸ a.ok, lx, lb.lb, fun x q t ht => ?_, fun e x q => ?_⟩
  · rcases kx x q t ht with k | ⟨y, h1, h2⟩
    · rcases k with k | k
      · exact .inl k
      · exact .inr (.inl k)
    · obtain ⟨j, hj, q2⟩ := List.getElem_of_mem h1
      rw [h2]
      exact .inr (.inr ((oy j y (by rw [List.getElem?_eq_getElem hj, q2])).ok (by omega)).hd)
  · obtain ⟨h1, h2, h3⟩ := lb.kd e x (hx x q)
    refine ⟨h1, h2, fun t ht => ?_⟩
    rcases kx x q t ht with k | ⟨y, g1, g2⟩
    · exact h3 t ht k
    · rw [g2]
      exact (lb.kd e y (hy y g1)).1
theorem Same.two {H0 H H' : Hp} {p q : Addr} (s : Same H0 H) (b : But [p, q] H H') (hp : H0 p = none) (hq : H0 q = none) : Same H0 H' := fun a o e => b a o (fun m => by
  simp only [List.mem_cons, List.not_mem_nil, or_false] at m
  rcases m with z | z
  · rw [z, hp] at e
    cases e
  · rw [z, hq] at e
    cases e) (s a o e)
end SR
set_option maxHeartbeats 4000000
namespace SR
open PySem PySem.Spec PyProof.Rows L2
variable {P : Program} {w : World} {K : PySem.W.Frag} {mg : Str → Option Value} {base : Heap}
/-! ### the law -/
/-- cells that stand, each another -/
def Nd (H : Hp) (l : List Addr) : Prop := l.Nodup ∧ ∀ z ∈ l, H z ≠ none
theorem Nd.app {H H' : Hp} {l news : List Addr} (h : Nd H l) (n : news.Nodup) (f : ∀ z ∈ news, H z = none) (s : Same H H') (e : ∀ z ∈ news, H' z ≠ none) : Nd H' (news ++ l) := by
  refine ⟨List.nodup_append.mpr ⟨n, h.1, fun a ha b hb q => h.2 b hb (q ▸ f a ha)⟩, fun z hz => ?_⟩
  rcases List.mem_append.mp hz with q | q
  · exact e z q
  · cases k : H z with
    | none => exact absurd k (h.2 z q)
    | some o =>
      rw [s _ _ k]
      exact fun q => by cases q
theorem made_free {H H1 : Hp} {x dx C : Addr} {c : Addr} (nx : H x = none) (nd : H dx = none) (ne : dx ≠ x) (h : (upd (upd H dx (.own x)) x (.ins C dx [])) c = none) : H c = none := by
  have n1 : c ≠ x := fun e => by
    rw [e, upd_same] at h
    cases h
  rw [upd_ne n1] at h
  have n2 : c ≠ dx := fun e => by
    rw [e, upd_same] at h
    cases h
  rw [upd_ne n2] at h
  exact h
theorem sv_cells {H : Hp} {S : Sv} (h : SvAt K H S) : [S.x, S.c, S.p, S.w].Nodup ∧ ∀ z ∈ [S.x, S.c, S.p, S.w], H z ≠ none := by
  obtain ⟨ws, h1, _⟩ := h.w
  have a1 : S.x ≠ S.c := ne_of h.o h.c (by intro q; cases q)
  have a2 : S.x ≠ S.p := ne_of h.o h.p (by intro q; cases q)
  have a3 : S.x ≠ S.w := ne_of h.o h1 (by intro q; cases q)
  have a4 := h.wp
  have a5 := h.wc
  have a6 := h.pc
  refine ⟨by grind, fun z hz => ?_⟩
  simp only [List.mem_cons, List.not_mem_nil, or_false] at hz
  rcases hz with q | q | q | q
  · rw [q, h.o]; simp
  · rw [q, h.c]; simp
  · rw [q, h.p]; simp
  · rw [q, h1]; simp
structure InvB (K : PySem.W.Frag) (H : Hp) (b br mt mx : Addr) (m : Mx) (l0 l1 ax bx sl rl : Addr) (i : Nat) : Prop where
  ex : ∃ G A B xs ys, Two K H b br mt mx G m l0 l1 7 8 A B xs ys ∧ A.x = ax ∧ B.x = bx ∧ sl ∈ G ∧ rl ∈ G ∧ xs.length = (i + 1) / 2 ∧ ys.length = i / 2
  hs : H sl = some (.lst [.ref ax, .ref bx])
  hr : H rl = some (.lst [.ref l0, .ref l1])
theorem all_ne {rl l1 l0 sl ox oc op ow ax ac ap aw mx b br : Addr} (h : [rl, l1, l0, sl, ox, oc, op, ow, ax, ac, ap, aw, mx, b, br].Nodup) :
    l0 ∉ [aw, ap, ac, ax] ∧ l1 ∉ [ow, op, oc, ox] ∧ b ∉ [aw, ap, ac, ax, l0] ∧ b ∉ [ow, op, oc, ox, l1] ∧ (∀ z ∈ [aw, ap, ac, ax, l0], z ∉ [ow, op, oc, ox, l1]) ∧ ∀ z ∈ [br, mx, sl, rl], z ≠ b ∧ z ∉ [aw, ap, ac, ax, l0] ∧ z ∉ [ow, op, oc, ox, l1] := by
  have h2 : [rl, l1, l0, sl, ox, oc, op, ow, ax, ac, ap, aw, mx, b, br].Pairwise (fun a b => ¬ a = b ∧ ¬ b = a) := List.Pairwise.imp (fun q => ⟨q, fun e => q e.symm⟩) h
  simp only [List.pairwise_cons, List.mem_cons, List.not_mem_nil, or_false, forall_eq_or_imp, forall_eq] at h2
  simp only [List.mem_cons, List.not_mem_nil, or_false, forall_eq_or_imp, forall_eq, not_or, ne_eq]
  simp only [h2, not_false_eq_true, and_self, forall_const, implies_true]
/-- the rounds that the library has, behind i services -/
def Dk (xs ys : List Rl) : Nat → List Rl
  | 0 => []
  | 1 => xs
  | _ => xs ++ ys
abbrev N_law : List Str := ["_law_script", "_law_box", "_law_m", "_law_made", "_law_services", "_law_rounds_here", "_law_turn", "_law_k", "_law_others", "_law_library", "_law_clean", "_law_number_here", "_law_row_here", "_law_one"]
theorem sc_law : FnScope N_law ["_law_script"] (defScope s_law) := ⟨rfl, rfl, rfl, by decide +kernel, rfl, by decide +kernel, by decide +kernel⟩
def spLaw (K : PySem.W.Frag) : Sp := Sp1 fun x H Q => ∃ (a : Addr) (ns : List Int), x = .ref a ∧ SqL K H a (ns.map V.int) ∧ ∀ H', Q (.bl true) H'
theorem cal_fn {nm : Str} {st : Stmt} {N ps : List Str} {k : Nat} {sp : Sp} {f : Addr} {fd : FuncData} (F : FunD K nm nm (defArgs st) (defBody st) (defScope st) [] [] f fd) (S : FnScope N ps (defScope st)) (len : ∀ vs H Q E, sp vs H Q E → vs.length = ps.length)
    (body : ∀ (f : Addr) (cdv : Value) (A : Around) (outer : List Env) (s : Shared) (H : Hp) (vs : List V) (Q : VK) (E : XK), Room k (A.deeper (envOfC nm (defScope st) s.heap.objs.size f cdv)) → sp vs H Q E →
      ∃ t, PSs (cxOf CX0 P w K mg base N nm (defScope st) f cdv A outer s H E).nox (defBody st) t ∧ t { nx := fun _ H' => Q .non H', rt := Q } (start N vs) H) : FnOk P w K mg base CX0 (k + 1) f fd ps sp :=
  F.ok S len fun cdv A outer s H vs Q E hr h => by
    obtain ⟨t, h1, h2⟩ := body f cdv A outer s H vs Q E hr h
    exact ⟨t, h1.nox, h2⟩
theorem law_ok (D : All K mg) {f : Addr} {fd : FuncData} (F : FunD K "law" "law" (defArgs s_law) (defBody s_law) (defScope s_law) [] [] f fd) : FnOk P w K mg base CX0 11 f fd ["_law_script"] (spLaw K) := by
  refine cal_fn F sc_law len1 fun fa cdv A0 outer s H vs Q E hr h => ?_
  have sc := sc_law
  obtain ⟨_, rfl, a, ns, rfl, hS, k⟩ := h
  refine ⟨_, (pss_cons (ps_set (i := 1) sc.nd rfl (.inl rfl) (pe_lst (pa_cons (C8.pe_c (c__law_row D) hr (by decide) rfl (pa_cons (pv 0) (pa_cons pe_int (pa_cons pe_int pa_nil)))) (pa_cons pe_int pa_nil))))
    (pss_cons (ps_set (i := 2) sc.nd rfl (.inl rfl) (C8.pe_c (c__law_mixing D) hr (by decide) rfl (pa_cons (pv 1) pa_nil)))
    (pss_cons (ps_set (i := 3) sc.nd rfl (.inl rfl) (C8.pe_mk (c_Mixing_init D) hr (by decide) rfl (pa_cons (pe_ix ix_tup (pv 2) pe_int (fun _ _ => rfl)) (pa_cons (pe_ix ix_tup (pv 2) pe_int (fun _ _ => rfl)) pa_nil))))
    (pss_cons (ps_set (i := 4) sc.nd rfl (.inl rfl) (pe_lst (pa_cons (C8.pe_mk (c_Service_init D) hr (by decide) rfl (pa_cons pe_int (pa_cons (pv 3) pa_nil))) (pa_cons (C8.pe_mk (c_Service_init D) hr (by decide) rfl (pa_cons pe_int (pa_cons (pv 3) pa_nil))) pa_nil))))
    (pss_cons (ps_set (i := 5) sc.nd rfl (.inl rfl) (pe_lst (pa_cons (pe_lst pa_nil) (pa_cons (pe_lst pa_nil) pa_nil))))
    (pss_cons (ps_for PassesOwn.never rfl (pi_range1 (by rfl) D.x.range (pa_cons (pe_op op_add pe_int (C8.pe_c (c__law_draw D) hr (by decide) rfl (pa_cons (pv 1) (pa_cons pe_int pa_nil)))) pa_nil)) (pg_name (i := 6) sc.nd rfl (.inl rfl))
    (pss_cons (ps_set (i := 7) sc.nd rfl (.inl rfl) (pe_op op_mod (pe_callTy call_int1 (by rfl) D.x.int (by decide +kernel) (pa_cons (pv 6) pa_nil)) pe_int))
      (pss_cons (ps_setLc (i := 8) (own := [("_law_one", 13)]) (g := (gName 13)) (tt := tYes) (te := tOp (rIxL K) (tVar 13) (tC (.int 0))) rfl sc.nd rfl rfl (sw_true rfl rfl rfl (by decide +kernel)) (pi_list (pe_ix ix_list (pv 5) (pe_op op_sub pe_int (pv 7)) (fun _ _ => rfl))) (blkOk_by (own := [("_law_one", 13)]) (N := N_law) (sc := defScope s_law) (by decide +kernel)) (fun _ _ _ _ _ => (pg_name (i := 13) sc.nd rfl (.inl rfl))) (fun _ _ _ _ _ => pts_nil) (fun _ _ _ _ _ => by exact (pe_ix ix_list (pv 13) pe_int (fun _ _ => rfl))))
      (pss_one (ps_if (pt_cmp (pc_isN (C8.pe_c (c__law_rounds D) hr (by decide) rfl (pa_cons (pv 1) (pa_cons (pv 2) (pa_cons (pe_ix ix_list (pv 4) (pv 7) (fun _ _ => rfl)) (pa_cons (pv 8) (pa_cons (pe_ix ix_list (pv 5) (pv 7) (fun _ _ => rfl)) pa_nil))))))))
      (pss_one (ps_ret pe_bl))
      pss_nil)))))
    (pss_cons (ps_set (i := 9) sc.nd rfl (.inl rfl) (C8.pe_mk (c_Library_init D) hr (by decide) rfl (pa_cons (pv 3) pa_nil)))
    (pss_cons (ps_set (i := 10) sc.nd rfl (.inl rfl) pe_bl)
    (pss_cons (ps_for PassesOwn.never rfl (pi_range1 (by rfl) D.x.range (pa_cons pe_int pa_nil)) (pg_name (i := 7) sc.nd rfl (.inl rfl))
    (pss_one (ps_for PassesOwn.never rfl (pi_range1 (by rfl) D.x.range (pa_cons (pe_callB call_len_seq (by rfl) D.x.len PySem.boot_len (pa_cons (pe_ix ix_list (pv 5) (pv 7) (fun _ _ => rfl)) pa_nil)) pa_nil)) (pg_name (i := 11) sc.nd rfl (.inl rfl))
      (pss_cons (ps_for PassesOwn.never rfl (pi_list (pe_ix ix_list (pe_ix ix_list (pe_ix ix_list (pv 5) (pv 7) (fun _ _ => rfl)) (pv 11) (fun _ _ => rfl)) pe_int (fun _ _ => rfl))) (pg_name (i := 12) sc.nd rfl (.inl rfl))
        (pss_one (ps_if (pt_cmpR op_ne (pe_ix ix_tup (pv 12) pe_int (fun _ _ => rfl)) pe_int (nomark _))
          (pss_one (ps_set (i := 10) sc.nd rfl (.inl rfl) (pe_and (pe_cmp (pc_isN (C8.pe_mt (c_Library_put D) hr (by decide) (pv 9) (pa_cons (pv 12) (pa_cons (pe_lst pa_nil) pa_nil)))) rfl) (pe_one (pv 10)))))
          pss_nil)))
        (pss_one (ps_set (i := 10) sc.nd rfl (.inl rfl) (pe_and (pe_cmp (pc_isN (C8.pe_mt (c_Library_put D) hr (by decide) (pv 9) (pa_cons (pe_ix ix_list (pe_ix ix_list (pe_ix ix_list (pv 5) (pv 7) (fun _ _ => rfl)) (pv 11) (fun _ _ => rfl)) pe_int (fun _ _ => rfl)) (pa_cons (C8.pe_mt (c_Service_entries D) hr (by decide) (pe_ix ix_list (pv 4) (pv 7) (fun _ _ => rfl)) (pa_cons (pv 11) pa_nil)) pa_nil)))) rfl) (pe_one (pv 10)))))))))
    (pss_one (ps_ret (pe_and (C8.pe_c (c__law_service_ok D) hr (by decide) rfl (pa_cons (pv 3) (pa_cons (pe_ix ix_list (pv 4) pe_int (fun _ _ => rfl)) (pa_cons (pe_ix ix_list (pv 5) pe_int (fun _ _ => rfl)) (pa_cons (pv 9) (pa_cons (pv 10) pa_nil)))))) (pe_one (C8.pe_c (c__law_service_ok D) hr (by decide) rfl (pa_cons (pv 3) (pa_cons (pe_ix ix_list (pv 4) pe_int (fun _ _ => rfl)) (pa_cons (pe_ix ix_list (pv 5) pe_int (fun _ _ => rfl)) (pa_cons (pv 9) (pa_cons (pv 10) pa_nil))))))))))))))))))), ?_⟩
  -- box
  refine ⟨_, rfl, _, _, _, rfl, a, ns, rfl, rfl, rfl, hS, fun br rs H1 s1 nbr hbr hlen => ⟨small (by show 2 ≤ 100000; decide), fun b hb => ?_⟩⟩
  have bx1 : BoxAt (upd H1 b (.lst [V.ref br, V.int 0])) b br := ⟨0, rs, upd_same, (upd_ne (ne_of_none hbr hb)).trans hbr, by decide, ne_of_none hbr hb⟩
  revert bx1
  generalize upd H1 b (.lst [V.ref br, V.int 0]) = H1'
  intro bx1
  -- mixing
  refine ⟨_, rfl, _, rfl, b, br, rfl, bx1, fun m mt H2 mo b2 bx2 hmt => ?_⟩
  have nd2 : Nd H2 [b, br] := by
    obtain ⟨q1, q2⟩ := bx2.some
    obtain ⟨_, _, _, _, _, q3⟩ := bx2
    refine ⟨List.nodup_cons.mpr ⟨by simpa using Ne.symm q3, by simp⟩, fun z hz => ?_⟩
    simp only [List.mem_cons, List.not_mem_nil, or_false] at hz
    rcases hz with q | q
    · rw [q]; exact q1
    · rw [q]; exact q2
  refine ⟨_, rfl, mt, _, 0, _, rfl, rfl, SqT.of hmt, rfl, _, rfl, mt, _, 1, _, rfl, rfl, SqT.of hmt, rfl, ?_⟩
  intro mx mdx nmx nmdx nmex
  refine ⟨_, _, _, rfl, mx, mdx, m.b, m.f, rfl, rfl, rfl, upd_same, fun H3 kp3 hm3 => ⟨rfl, ?_⟩⟩
  have s3 : Same H2 H3 := Same.made nmx nmdx kp3
  have mx3 : MxAt K H3 mx m := ⟨mdx, hm3⟩
  have nd3 := nd2.app (news := [mx]) (by simp) (fun z hz => by rw [List.mem_singleton.mp hz]; exact nmx) s3 (fun z hz => by rw [List.mem_singleton.mp hz, hm3]; simp)
  -- services
  refine ⟨_, rfl, ?_⟩
  intro ax adx nax nadx naex
  refine ⟨_, _, _, rfl, ax, adx, mx, 7, rfl, rfl, rfl, upd_same, fun ac ap aw H4 kp4 nac nap naw sv4 => ⟨rfl, ?_⟩⟩
  have s4 : Same H3 H4 := Same.made nax nadx kp4
  obtain ⟨c41, c42⟩ := sv_cells sv4
  have nd4 := nd3.app c41 (fun z hz => by
    simp only [List.mem_cons, List.not_mem_nil, or_false] at hz
    rcases hz with q | q | q | q
    · rw [q]; exact nax
    · rw [q]; exact made_free (H1 := H4) nax nadx naex nac
    · rw [q]; exact made_free (H1 := H4) nax nadx naex nap
    · rw [q]; exact made_free (H1 := H4) nax nadx naex naw) s4 c42
  refine ⟨_, rfl, ?_⟩
  intro ox odx nox nodx noex
  refine ⟨_, _, _, rfl, ox, odx, mx, 8, rfl, rfl, rfl, upd_same, fun oc op ow H5 kp5 noc nop now sv5 => ⟨rfl, ?_⟩⟩
  have s5 : Same H4 H5 := Same.made nox nodx kp5
  obtain ⟨c51, c52⟩ := sv_cells sv5
  have nd5 := nd4.app c51 (fun z hz => by
    simp only [List.mem_cons, List.not_mem_nil, or_false] at hz
    rcases hz with q | q | q | q
    · rw [q]; exact nox
    · rw [q]; exact made_free (H1 := H5) nox nodx noex noc
    · rw [q]; exact made_free (H1 := H5) nox nodx noex nop
    · rw [q]; exact made_free (H1 := H5) nox nodx noex now) s5 c52
  refine ⟨small (by show 2 ≤ 100000; decide), fun sl hsl => ?_⟩
  have nd6 := nd5.app (news := [sl]) (by simp) (fun z hz => by rw [List.mem_singleton.mp hz]; exact hsl) (Same.new hsl (o := .lst [V.ref ax, V.ref ox])) (fun z hz => by rw [List.mem_singleton.mp hz, upd_same]; simp)
  have s6 : Same H5 (upd H5 sl (.lst [V.ref ax, V.ref ox])) := Same.new hsl
  have hsl6 : upd H5 sl (.lst [V.ref ax, V.ref ox]) sl = some (.lst [V.ref ax, V.ref ox]) := upd_same
  revert nd6 s6 hsl6
  generalize upd H5 sl (.lst [V.ref ax, V.ref ox]) = H6
  intro nd6 s6 hsl6
  -- the rounds
  refine ⟨Nat.zero_le _, fun l0 hl0 => ⟨Nat.zero_le _, fun l1 hl1 => ⟨small (by show 2 ≤ 100000; decide), fun rl hrl => ?_⟩⟩⟩
  have h0' : upd H6 l0 (.lst []) l0 = some (.lst []) := upd_same
  have s7 : Same H6 (upd H6 l0 (.lst [])) := Same.new hl0
  have nd7 := nd6.app (news := [l0]) (by simp) (fun z hz => by rw [List.mem_singleton.mp hz]; exact hl0) s7 (fun z hz => by rw [List.mem_singleton.mp hz, upd_same]; simp)
  revert h0' s7 nd7 hl1 hrl
  generalize upd H6 l0 (.lst []) = H7
  intro hl1 hrl h0' s7 nd7
  have h1' : upd H7 l1 (.lst []) l1 = some (.lst []) := upd_same
  have s8 : Same H7 (upd H7 l1 (.lst [])) := Same.new hl1
  have nd8 := nd7.app (news := [l1]) (by simp) (fun z hz => by rw [List.mem_singleton.mp hz]; exact hl1) s8 (fun z hz => by rw [List.mem_singleton.mp hz, upd_same]; simp)
  revert h1' s8 nd8 hrl
  generalize upd H7 l1 (.lst []) = H8
  intro hrl h1' s8 nd8
  have hr' : upd H8 rl (.lst [V.ref l0, V.ref l1]) rl = some (.lst [V.ref l0, V.ref l1]) := upd_same
  have s9 : Same H8 (upd H8 rl (.lst [V.ref l0, V.ref l1])) := Same.new hrl
  have nd9 := nd8.app (news := [rl]) (by simp) (fun z hz => by rw [List.mem_singleton.mp hz]; exact hrl) s9 (fun z hz => by rw [List.mem_singleton.mp hz, upd_same]; simp)
  revert hr' s9 nd9
  generalize upd H8 rl (.lst [V.ref l0, V.ref l1]) = H9
  intro hr' s9 nd9
  have s79 := (s7.trans s8).trans s9
  have s59 := s6.trans s79
  have s49 := s5.trans s59
  have s39 := s4.trans s49
  have s29 := s3.trans s39
  have bx9 := bx2.mono s29
  have inv0 : InvB K H9 b br mt mx m l0 l1 ax ox sl rl 0 := by
    obtain ⟨nn, ne⟩ := nd9
    simp only [List.cons_append, List.nil_append] at nn ne
    obtain ⟨d1, d2, d3, d4, d5, d6⟩ := all_ne nn
    have ex : ∀ z ∈ [br, mx, sl, rl], H9 z ≠ none := fun z hz => ne z (by
      simp only [List.mem_cons, List.not_mem_nil, or_false] at hz ⊢
      rcases hz with q | q | q | q <;> simp [q])
    refine ⟨⟨[br, mx, sl, rl], ⟨ax, adx, mx, ac, ap, aw, 7, [], [], 0⟩, ⟨ox, odx, mx, oc, op, ow, 8, [], [], 0⟩, [], [], ⟨bx9, s29 _ _ hmt, mx3.mono s39, mo, ?_, ?_, d3, d4, d5, fun z hz => ⟨ex z hz, d6 z hz⟩, by simp, by simp, fun x hx => (by cases hx), fun x hx => (by cases hx), fun x hx => (by cases hx), fun x hx => (by cases hx)⟩, rfl, rfl, by simp, by simp, rfl, rfl⟩, s79 _ _ hsl6, hr'⟩
    · exact ⟨rfl, rfl, sv4.mono s49, rfl, rfl, (s8.trans s9) _ _ h0', fun x hx => (by cases hx), fun i x hx => (by cases hx), Nat.le_refl _, d1⟩
    · exact ⟨rfl, rfl, sv5.mono s59, rfl, rfl, s9 _ _ h1', fun x hx => (by cases hx), fun i x hx => (by cases hx), Nat.le_refl _, d2⟩
  clear nd9 nd8 nd7 nd6 nd5 nd4 nd3 nd2
  -- the turns
  refine ⟨_, rfl, _, _, rfl, b, br, 5, rfl, rfl, bx9, by decide, fun z5 H10 z0 z1 b10 bx10 => ⟨_, _, rfl, rfl, 6 + z5, rfl, by omega, by omega, ?_⟩⟩
  have inv1 : InvB K H10 b br mt mx m l0 l1 ax ox sl rl 0 := by
    obtain ⟨⟨G, A, B, xs, ys, t2, e1, e2, gs, gr, lx, ly⟩, hs, hr'⟩ := inv0
    exact ⟨⟨G, A, B, xs, ys, t2.box b10 bx10, e1, e2, gs, gr, lx, ly⟩, b10 _ _ (by simpa using (t2.g _ gs).2.1) hs, b10 _ _ (by simpa using (t2.g _ gr).2.1) hr'⟩
  refine for_range (lo := 0) (n := (6 + z5).toNat) (fun i σ H' => InvB K H' b br mt mx m l0 l1 ax ox sl rl i ∧ ∃ v6 v7 v8 : Option V, σ = [some (.ref a), some (.ref b), some (.ref mt), some (.ref mx), some (.ref sl), some (.ref rl), v6, v7, v8, none, none, none, none, none])
    ⟨inv1, none, none, none, rfl⟩ ?_ ?_
  · rintro i σ H11 hi ⟨⟨⟨G, A, B, xs, ys, t2, eA, eB, gs, gr, lx, ly⟩, hs, hr'⟩, v6, v7, v8, rfl⟩
    have hi : i < 10 := by omega
    -- the side whose turn it is
    obtain ⟨nA, nB, A', B', la, lb, us, vs, t3, ka, kb, ks, lu, lv, again⟩ : ∃ (nA nB : Int) (A' B' : Sv) (la lb : Addr) (us vs : List Rl), Two K H11 b br mt mx G m la lb nA nB A' B' us vs ∧
        atI [V.ref l0, V.ref l1] ((0 + (i : Int)) % 2) = some (.ref la) ∧ atI [V.ref l0, V.ref l1] (1 - (0 + (i : Int)) % 2) = some (.ref lb) ∧ atI [V.ref ax, V.ref ox] ((0 + (i : Int)) % 2) = some (.ref A'.x) ∧ us.length ≤ 4 ∧ vs.length ≤ 5 ∧
        ∀ (H' : Hp) (G' : List Addr) (A2 : Sv) (x : Rl), Two K H' b br mt mx G' m la lb nA nB A2 B' (us ++ [x]) vs → A2.x = A'.x → sl ∈ G' → rl ∈ G' → H' sl = some (.lst [V.ref ax, V.ref ox]) → H' rl = some (.lst [V.ref l0, V.ref l1]) → InvB K H' b br mt mx m l0 l1 ax ox sl rl (i + 1) := by
      rcases Nat.mod_two_eq_zero_or_one i with q | q
      · refine ⟨7, 8, A, B, l0, l1, xs, ys, t2, at_of (j := 0) (by omega) rfl, at_of (j := 1) (by omega) rfl, at_of (j := 0) (by omega) (by rw [eA]; rfl), by omega, by omega, fun H' G' A2 x t e g1 g2 h1 h2 => ⟨⟨G', A2, B, xs ++ [x], ys, t, e.trans eA, eB, g1, g2, ?_, ?_⟩, h1, h2⟩⟩
        · rw [List.length_append, lx]
          simp only [List.length_cons, List.length_nil]
          omega
        · rw [ly]
          omega
      · refine ⟨8, 7, B, A, l1, l0, ys, xs, t2.swap, at_of (j := 1) (by omega) rfl, at_of (j := 0) (by omega) rfl, at_of (j := 1) (by omega) (by rw [eB]; rfl), by omega, by omega, fun H' G' A2 x t e g1 g2 h1 h2 => ⟨⟨G', A, A2, xs, ys ++ [x], t.swap, eA, e.trans eB, g1, g2, ?_, ?_⟩, h1, h2⟩⟩
        · rw [lx]
          omega
        · rw [List.length_append, ly]
          simp only [List.length_cons, List.length_nil]
          omega
    -- k
    refine ⟨_, rfl, .inl ⟨_, rfl, _, _, rfl, rfl, (by decide : (0 : Int) < 2), ?_⟩⟩
    -- the others
    have hlb := t3.c.hl
    refine ⟨_, rfl, _, rfl, _, _, rfl, rfl, rl, _, _, _, rfl, rfl, SqL.of hr', kb, lb, rfl, ⟨_, SqL.of hlb⟩, fun C nC => ?_⟩
    refine lc_list (K := K) (a := lb) (xs := lisOf vs) (fun i H2 => H2 = upd H11 C (.lst (refsOf ((hds vs).take i)))) rfl (fun i H2 _ e => by rw [e]; exact SqL.of (Same.new nC _ _ hlb)) ?_ ?_
    · rintro q x H2 hx rfl
      unfold lisOf at hx
      obtain ⟨y, hy, rfl⟩ := Option.map_eq_some_iff.mp ((List.getElem?_map ..).symm.trans hx)
      have hq : q < vs.length := (List.getElem?_eq_some_iff.mp hy).1
      have hy2 := (t3.c.hx y (List.mem_of_getElem? hy)).hi
      refine ⟨rfl, _, rfl, y.li, _, 0, _, rfl, rfl, SqL.of (Same.new nC _ _ hy2), rfl, _, upd_same, small1 ?_, ?_⟩
      · rw [refs_len, List.length_take]
        omega
      · have e : (hds vs)[q]? = some (y.r.ha, y.r.hd.row) := by
          unfold hds
          rw [List.getElem?_map, hy]
          rfl
        rw [upd_upd, List.take_succ, e]
        show _ = upd H11 C (.lst (refsOf (_ ++ [_])))
        rw [refs_snoc]
    rintro H2 rfl
    have e0 : (hds vs).take (lisOf vs).length = hds vs := List.take_of_length_le (by unfold hds; rw [List.length_map, li_len]; exact Nat.le_refl _)
    rw [e0]
    have sC : Same H11 (upd H11 C (.lst (refsOf (hds vs)))) := Same.new nC
    have hC : upd H11 C (.lst (refsOf (hds vs))) C = some (.lst (refsOf (hds vs))) := upd_same
    have nCb : C ≠ b := fun e => t3.bx.some.1 (e ▸ nC)
    revert sC hC
    generalize upd H11 C (.lst (refsOf (hds vs))) = H12
    intro sC hC
    have t4 := t3.mono sC
    have hs12 := sC _ _ hs
    have hr12 := sC _ _ hr'
    -- the round
    refine ⟨_, rfl, _, rfl, _, rfl, _, rfl, sl, _, _, _, rfl, rfl, SqL.of hs12, ks, _, rfl, _, rfl, _, rfl, rl, _, _, _, rfl, rfl, SqL.of hr12, ka, ?_⟩
    refine ⟨_, _, _, _, _, rfl, b, br, mt, C, la, A', m, us, hds vs, rfl, rfl, rfl, rfl, rfl, t4.pre hC nCb lu lv, fun x p H13 po => ⟨_, rfl, iteF ?_⟩⟩
    have gS : ∀ z ∈ G, z ∉ [b, A'.w, A'.p, A'.c, A'.x, la] := fun z hz q => by
      obtain ⟨_, g2, g3, _⟩ := t4.g z hz
      rcases List.mem_cons.mp q with q | q
      · exact g2 q
      · exact g3 q
    refine ⟨again H13 _ _ x (t4.step po) rfl (.tail _ (.tail _ gs)) (.tail _ (.tail _ gr)) (po.bt _ _ (gS _ gs) hs12) (po.bt _ _ (gS _ gr) hr12), _, _, _, rfl⟩
  rintro σ H11 ⟨⟨⟨G, A, B, xs, ys, t2, eA, eB, gs, gr, lx, ly⟩, hs, hr'⟩, v6, v7, v8, rfl⟩
  have lx5 : xs.length ≤ 5 := by omega
  have ly5 : ys.length ≤ 5 := by omega
  -- the library
  refine ⟨_, rfl, ?_⟩
  intro La Ldx nLa nLdx nLex
  refine ⟨_, _, rfl, La, Ldx, mx, rfl, rfl, upd_same, fun lt lr H12 kp12 nlt nlr lb12 => ⟨rfl, ?_⟩⟩
  have s12 : Same H11 H12 := Same.made nLa nLdx kp12
  have flt : H11 lt = none := made_free (H1 := H12) nLa nLdx nLex nlt
  have flr : H11 lr = none := made_free (H1 := H12) nLa nLdx nLex nlr
  refine ⟨_, rfl, by decide, by decide, ?_⟩
  refine for_range (lo := 0) (n := (2 : Int).toNat) (fun i σ H' => Same H11 H' ∧ ∃ (L : Lb) (cl : Bool) (v7 v11 v12 : Option V), L.t = lt ∧ L.r = lr ∧ LbI K H' mx m L cl (Dk xs ys i) [] (i * 25) ∧
      σ = [some (.ref a), some (.ref b), some (.ref mt), some (.ref mx), some (.ref sl), some (.ref rl), v6, v7, v8, some (.ref L.a), some (.bl cl), v11, v12, none])
    ⟨s12, ⟨La, Ldx, mx, lt, lr, [], []⟩, true, _, _, _, rfl, rfl, ⟨lb12, rfl, fun k v e => (by cases e), Nat.le_refl _, Nat.le_refl _, fun k v e => (by cases e), fun _ x hx => (by cases hx), fun _ t ht => (by cases ht)⟩, rfl⟩ ?_ ?_
  · rintro i σ H13 hi ⟨s13, L, cl, v7, v11, v12, eLt, eLr, lbi, rfl⟩
    have hi : i = 0 ∨ i = 1 := by
      have : (2 : Int).toNat = 2 := rfl
      omega
    obtain ⟨nm, A', la, us, sd, ka, ks, lu, hne, oth, eD⟩ : ∃ (nm : Int) (A' : Sv) (la : Addr) (us : List Rl), Side K H11 mx la A' m nm us ∧ atI [V.ref l0, V.ref l1] (0 + (i : Int)) = some (.ref la) ∧ atI [V.ref ax, V.ref ox] (0 + (i : Int)) = some (.ref A'.x) ∧ us.length ≤ 5 ∧
        (∀ y ∈ Dk xs ys i, ∀ x ∈ us, y.r.hd.row ≠ x.r.hd.row) ∧ (∀ x ∈ us, ∀ t ∈ x.ts, Simple t.2 ∨ ∃ d : Hd, t.2 = d.row) ∧ Dk xs ys (i + 1) = Dk xs ys i ++ us := by
      rcases hi with q | q
      · subst q
        refine ⟨7, A, l0, xs, t2.a, rfl, (by rw [eA]; rfl), lx5, fun y hy => (by cases hy), fun x hx t ht => ?_, rfl⟩
        rcases t2.kx x hx t ht with q | ⟨y, _, q⟩
        · exact .inl q
        · exact .inr ⟨_, q⟩
      · subst q
        refine ⟨8, B, l1, ys, t2.c, rfl, (by rw [eB]; rfl), ly5, rows_ne2 t2.a.ok t2.c.ok (by decide), fun x hx t ht => ?_, rfl⟩
        rcases t2.ky x hx t ht with q | ⟨y, _, q⟩
        · exact .inl q
        · exact .inr ⟨_, q⟩
    -- the rounds of this side
    refine ⟨_, rfl, _, rfl, rl, _, _, _, rfl, rfl, SqL.of (s13 _ _ hr'), ka, la, _, rfl, .inl (SqL.of (s13 _ _ sd.hl)), _, rfl, by omega, by rw [li_len]; omega, ?_⟩
    rw [li_len]
    refine for_range (lo := 0) (n := ((us.length : Nat) : Int).toNat) (fun j σ H' => Same H11 H' ∧ ∃ (L : Lb) (cl : Bool) (v11 v12 : Option V), L.t = lt ∧ L.r = lr ∧ LbI K H' mx m L cl (Dk xs ys i ++ us.take j) [] (i * 25 + j * 5) ∧
        σ = [some (.ref a), some (.ref b), some (.ref mt), some (.ref mx), some (.ref sl), some (.ref rl), v6, some (.int (0 + (i : Int))), v8, some (.ref L.a), some (.bl cl), v11, v12, none])
      ⟨s13, L, cl, _, _, eLt, eLr, (by rw [List.take_zero, List.append_nil]; exact lbi), rfl⟩ ?_ ?_
    · rintro j σ H14 hj ⟨s14, L, cl, v11, v12, eLt, eLr, lbi, rfl⟩
      have hj : j < us.length := by omega
      have ej : (0 : Int) + (j : Int) = (j : Int) := by omega
      have hx : us[j]? = some us[j] := List.getElem?_eq_getElem hj
      have hxm := List.getElem_mem hj
      revert hx hxm
      generalize us[j] = x
      intro hx hxm
      have rx := fun (H' : Hp) (s : Same H11 H') => (sd.hx x hxm).mono s
      have ro := sd.ok j x hx
      have t4 := ro.t4
      have sdj := fun (H' : Hp) (s : Same H11 H') => sd.hl
      -- the things
      refine ⟨_, rfl, _, rfl, rl, _, _, _, rfl, rfl, SqL.of (s14 _ _ hr'), ka, _, rfl, la, _, _, _, rfl, rfl, SqL.of (s14 _ _ sd.hl), at_of ej (li_at hx), x.li, _, 1, _, rfl, rfl, SqL.of (rx _ s14).hi, rfl, x.th, rfl, ⟨_, SqL.of (rx _ s14).ht⟩, ?_⟩
      refine for_list (K := K) (a := x.th) (xs := refsOf x.ts) (fun q σ H' => Same H11 H' ∧ ∃ (L : Lb) (cl : Bool) (v12 : Option V), L.t = lt ∧ L.r = lr ∧ LbI K H' mx m L cl (Dk xs ys i ++ us.take j) (x.ts.take q) (i * 25 + j * 5 + q) ∧
          σ = [some (.ref a), some (.ref b), some (.ref mt), some (.ref mx), some (.ref sl), some (.ref rl), v6, some (.int (0 + (i : Int))), v8, some (.ref L.a), some (.bl cl), some (.int (0 + (j : Int))), v12, none])
        ⟨s14, L, cl, _, eLt, eLr, lbi, rfl⟩ (fun q σ H' _ h => SqL.of (rx _ h.1).ht) ?_ ?_
      · rintro q y σ H15 hq ⟨s15, L, cl, v12, eLt, eLr, lbi, rfl⟩
        unfold refsOf at hq
        obtain ⟨t, ht, rfl⟩ := Option.map_eq_some_iff.mp ((List.getElem?_map ..).symm.trans hq)
        have hql : q < x.ts.length := (List.getElem?_eq_some_iff.mp ht).1
        have htm := List.mem_of_getElem? ht
        have etk : x.ts.take (q + 1) = x.ts.take q ++ [t] := by
          rw [List.take_succ, ht]
          rfl
        have hR := (rx _ s15).hs t htm
        rcases oth x hxm t htm with sm | ⟨d, ed⟩
        · obtain ⟨c, r, ec, nc⟩ : ∃ c r, t.2 = c :: r ∧ c ≠ 4 := by
            rcases sm with ⟨h, v, e⟩ | ⟨v, e⟩
            · exact ⟨1, [h, v], e, by decide⟩
            · exact ⟨2, [0, v], e, by decide⟩
          have hR2 : H15 t.1 = some (.tup ((c :: r).map V.int)) := by
            rw [← ec]
            exact hR
          refine ⟨_, rfl, t.1, _, 0, _, rfl, rfl, SqT.of hR2, at_of (j := 0) rfl rfl, rfl, _, rfl, ifT ?_ ?_⟩
          · show (!decide (V.int c = V.int 4)) = true
            rw [decide_eq_false (fun e => nc (V.int.inj e))]
            rfl
          refine ⟨_, rfl, L.a, L.dx, _, rfl, lbi.lb.o, rfl, _, rfl, Nat.zero_le _, fun e he => ?_⟩
          have se : Same H15 (upd H15 e (.lst [])) := Same.new he
          have hE : Li (upd H15 e (.lst [])) e [] := upd_same
          revert se hE
          generalize upd H15 e (.lst []) = H16
          intro se hE
          have lb1 := lbi.mono se
          have tl := lb1.tl
          have rl' := lb1.rl
          refine ⟨_, _, _, rfl, L, t.1, e, m, t.2, [], rfl, rfl, rfl, lb1.lb, lb1.lm ▸ ((t2.mono (s15.trans se)).hm), mo, se _ _ hR, hE, .inl ⟨sm, rfl⟩, lb1.tr, by rcases hi with q | q <;> omega, by rcases hi with q | q <;> omega, lb1.ask (fun y _ => simple_ne sm _), fun q' H17 s17 _ => ⟨_, rfl, ?_⟩, fun R' H17 b17 hT ra lb' => ⟨_, rfl, _, rfl, ?_⟩⟩
          · exact ⟨(s15.trans se).trans s17, L, false, _, eLt, eLr, lb1.weak s17 (fun _ h => h) (by omega), rfl⟩
          · exact ⟨Same.two (s15.trans se) b17 (eLt ▸ flt) (eLr ▸ flr), { L with T := putK L.T (.inl (dig m t.2)) (.ref t.1), R := R' }, cl, _, eLt, eLr, (by rw [etk]; exact lb1.thing sm (se _ _ hR) b17 hT ra lb'), rfl⟩
        · have hR2 : H15 t.1 = some (.tup (d.row.map V.int)) := by
            rw [← ed]
            exact hR
          refine ⟨_, rfl, t.1, _, 0, _, rfl, rfl, SqT.of hR2, at_of (j := 0) rfl rfl, rfl, _, rfl, ifF rfl ?_⟩
          exact ⟨s15, L, cl, _, eLt, eLr, (by rw [etk]; exact lbi.skip t (fun sm => simple_ne sm d ed.symm) (by omega)), rfl⟩
      rintro σ H15 ⟨s15, L, cl, v12, eLt, eLr, lbi, rfl⟩
      rw [refs_len, List.take_length] at lbi
      have rx15 := rx _ s15
      have sd15 := (sd.sv).mono s15
      have rsx : A'.rs[j]? = some x.r := by
        rw [sd.rs]
        exact rs_at hx
      have etk : us.take (j + 1) = us.take j ++ [x] := by
        rw [List.take_succ, hx]
        rfl
      have nd : ∀ y ∈ Dk xs ys i ++ us.take j, y.r.hd.row ≠ x.r.hd.row := fun y hy => by
        rcases List.mem_append.mp hy with q | q
        · exact hne y q x hxm
        · obtain ⟨g, hg, e⟩ := List.getElem_of_mem q
          rw [List.length_take] at hg
          rw [List.getElem_take] at e
          exact rows_ne sd.ok (show g ≠ j by omega) (by rw [List.getElem?_eq_getElem (by omega), e]) hx
      refine ⟨_, rfl, L.a, L.dx, _, rfl, lbi.lb.o, rfl, _, rfl, _, rfl, rl, _, _, _, rfl, rfl, SqL.of (s15 _ _ hr'), ka, _, rfl, la, _, _, _, rfl, rfl, SqL.of (s15 _ _ sd.hl), at_of ej (li_at hx), x.li, _, 0, _, rfl, rfl, SqL.of rx15.hi, rfl, ?_⟩
      refine ⟨_, rfl, _, rfl, sl, _, _, _, rfl, rfl, SqL.of (s15 _ _ hs), ks, A'.x, A'.dx, _, rfl, sd15.o, rfl, _, rfl, _, _, rfl, A', j, x.r, rfl, by rw [ej], sd15, rsx, fun e H16 se _ hE => ?_⟩
      have lb1 := lbi.mono se
      have tl := lb1.tl
      have rl' := lb1.rl
      obtain ⟨hour, _, _, eh⟩ := ro.hd
      refine ⟨_, _, _, rfl, L, x.r.ha, e, m, x.r.hd.row, x.r.es, rfl, rfl, rfl, lb1.lb, lb1.lm ▸ ((t2.mono (s15.trans se)).hm), mo, (rx _ (s15.trans se)).hr.ha, hE, .inr ⟨x.r.hd, rfl, ro.ok (by omega), by rw [eh], by rw [eh]⟩, lb1.tr, by rcases hi with q | q <;> omega, by rcases hi with q | q <;> omega, lb1.ask nd, fun q' H17 s17 _ => ⟨_, rfl, ?_⟩, fun R' H17 b17 hT ra lb' => ⟨_, rfl, _, rfl, ?_⟩⟩
      · exact ⟨(s15.trans se).trans s17, L, false, _, _, eLt, eLr, lb1.weak s17 (fun z hz => by
          rw [etk, ← List.append_assoc]
          exact List.mem_append_left _ hz) (by omega), rfl⟩
      · refine ⟨Same.two (s15.trans se) b17 (eLt ▸ flt) (eLr ▸ flr), { L with T := putK L.T (.inl (dig m x.r.hd.row)) (.ref x.r.ha), R := R' }, cl, _, _, eLt, eLr, ?_, rfl⟩
        have q := lb1.head (rx _ (s15.trans se)).hr.ha nd b17 hT ra lb'
        rw [etk, ← List.append_assoc]
        exact q.less (by omega)
    rintro σ H14 ⟨s14, L, cl, v11, v12, eLt, eLr, lbi, rfl⟩
    refine ⟨s14, L, cl, _, _, _, eLt, eLr, ?_, rfl⟩
    rw [eD]
    have e : us.take ((us.length : Nat) : Int).toNat = us := List.take_of_length_le (by omega)
    rw [e] at lbi
    exact lbi.less (by omega)
  rintro σ H13 ⟨s13, L, cl, v7, v11, v12, eLt, eLr, lbi, rfl⟩
  have lbi : LbI K H13 mx m L cl (xs ++ ys) [] (2 * 25) := lbi
  have t13 := t2.mono s13
  have hs13 := s13 _ _ hs
  have hr13 := s13 _ _ hr'
  refine ⟨_, rfl, _, rfl, sl, _, 0, _, rfl, rfl, SqL.of hs13, rfl, _, rfl, rl, _, 0, _, rfl, rfl, SqL.of hr13, rfl, _, rfl, _, rfl, ?_⟩
  refine ⟨_, _, _, _, _, rfl, mx, l0, m, A, L, xs, cl, rfl, by rw [eA], rfl, rfl, rfl, sok_pre t13.a t13.hm mo t13.kx t13.c.ok lx5 ly5 lbi (fun z hz => List.mem_append_left _ hz) (fun z hz => List.mem_append_right _ hz), fun H14 s14 => ?_⟩
  have t14 := t13.mono s14
  refine ⟨_, rfl, ?_⟩
  refine ⟨_, rfl, _, rfl, sl, _, 1, _, rfl, rfl, SqL.of (s14 _ _ hs13), rfl, _, rfl, rl, _, 1, _, rfl, rfl, SqL.of (s14 _ _ hr13), rfl, _, rfl, _, rfl, ?_⟩
  refine ⟨_, _, _, _, _, rfl, mx, l1, m, B, L, ys, cl, rfl, by rw [eB], rfl, rfl, rfl, sok_pre t14.c t14.hm mo t14.ky t14.a.ok ly5 lx5 (lbi.mono s14) (fun z hz => List.mem_append_right _ hz) (fun z hz => List.mem_append_left _ hz), fun H15 s15 => ?_⟩
  exact k H15
end SR
set_option maxHeartbeats 0
namespace SR
open PySem PySem.Spec PyProof.Rows L2
theorem int_gc {K : PySem.W.Frag} {h : Heap} {mg : Str → Option Value} (X : K.In h) (G : h.Ns mainGlobals mg) {x : Str} {i : Int} (c : (He.Fa.int x i).ok K = true) : ∃ u, mg x = some u ∧ RelV (.int i) u := by
  obtain ⟨t, e⟩ := He.int_ok X G c
  exact ⟨_, e, ⟨t, rfl⟩⟩
theorem bx_all {K : PySem.W.Frag} {h : Heap} {mg : Str → Option Value} (X : K.In h) (G : h.Ns mainGlobals mg) (c : He.SaysD fa fn K) : Bx K mg := {
  len := He.free_ok X G (c.fact 83 (f := .free "len") rfl)
  range := He.free_ok X G (c.fact 84 (f := .free "range") rfl)
  abs := He.free_ok X G (c.fact 85 (f := .free "abs") rfl)
  int := He.free_ok X G (c.fact 86 (f := .free "int") rfl)
  isinstance := He.free_ok X G (c.fact 87 (f := .free "isinstance") rfl)
  min := He.free_ok X G (c.fact 88 (f := .free "min") rfl)
  enumerate := He.free_ok X G (c.fact 89 (f := .free "enumerate") rfl)
  zip := He.free_ok X G (c.fact 90 (f := .free "zip") rfl)
  tuple := He.free_ok X G (c.fact 91 (f := .free "tuple") rfl)
  list := He.free_ok X G (c.fact 92 (f := .free "list") rfl)
  bool := He.free_ok X G (c.fact 93 (f := .free "bool") rfl)
  str := He.free_ok X G (c.fact 94 (f := .free "str") rfl)
  PRIME := int_gc X G (c.fact 74 (f := .int "PRIME" 2305843009213693951) rfl)
  BEACON := int_gc X G (c.fact 75 (f := .int "BEACON" 1) rfl)
  DOCUMENT := int_gc X G (c.fact 76 (f := .int "DOCUMENT" 2) rfl)
  NODE := int_gc X G (c.fact 77 (f := .int "NODE" 3) rfl)
  HEAD := int_gc X G (c.fact 78 (f := .int "HEAD" 4) rfl)
  RENEWAL := int_gc X G (c.fact 79 (f := .int "RENEWAL" 5) rfl)
  HEAD_SIZE := int_gc X G (c.fact 80 (f := .int "HEAD_SIZE" 6) rfl)
  ENTER := int_gc X G (c.fact 81 (f := .int "ENTER" 1) rfl)
  CLOSE := int_gc X G (c.fact 82 (f := .int "CLOSE" 2) rfl)
  cM := He.cls_ok (c.fact 1 (f := .cls "Mixing") rfl)
  nM_bound := He.noat_ok (c.fact 3 (f := .noat "Mixing" "bound") rfl)
  nM_factor := He.noat_ok (c.fact 4 (f := .noat "Mixing" "factor") rfl)
  cP := He.cls_ok (c.fact 6 (f := .cls "Paper") rfl)
  nP_first := He.noat_ok (c.fact 8 (f := .noat "Paper" "first") rfl)
  nP_steps := He.noat_ok (c.fact 9 (f := .noat "Paper" "steps") rfl)
  cS := He.cls_ok (c.fact 11 (f := .cls "Service") rfl)
  nS_name := He.noat_ok (c.fact 13 (f := .noat "Service" "name") rfl)
  nS_mixing := He.noat_ok (c.fact 14 (f := .noat "Service" "mixing") rfl)
  nS_closed := He.noat_ok (c.fact 15 (f := .noat "Service" "closed") rfl)
  nS_pending := He.noat_ok (c.fact 16 (f := .noat "Service" "pending") rfl)
  nS_written := He.noat_ok (c.fact 17 (f := .noat "Service" "written") rfl)
  cL := He.cls_ok (c.fact 25 (f := .cls "Library") rfl)
  nL_mixing := He.noat_ok (c.fact 27 (f := .noat "Library" "mixing") rfl)
  nL_things := He.noat_ok (c.fact 28 (f := .noat "Library" "things") rfl)
  nL_rounds := He.noat_ok (c.fact 29 (f := .noat "Library" "rounds") rfl)
}
theorem all_of {K : PySem.W.Frag} {h : Heap} {mg : Str → Option Value} (X : K.In h) (G : h.Ns mainGlobals mg) (c : He.SaysD fa fn K) : All K mg := {
  x := bx_all X G c
  Mixing_init := let ⟨_, F⟩ := c.def_ 0 (d := d_Mixing_init) rfl; ⟨⟨_, _, F, He.mkr_ok (c.fact 2 (f := .mkr "Mixing") rfl), He.glo_ok X G (c.fact 0 (f := .glo "Mixing") rfl)⟩⟩
  digest := let ⟨_, F⟩ := c.def_ 1 (d := d_digest) rfl; ⟨⟨_, _, F, He.glo_ok X G (c.fact 33 (f := .glo "digest") rfl)⟩⟩
  back_rounds := let ⟨_, F⟩ := c.def_ 2 (d := d_back_rounds) rfl; ⟨⟨_, _, F, He.glo_ok X G (c.fact 34 (f := .glo "back_rounds") rfl)⟩⟩
  way_back := let ⟨_, F⟩ := c.def_ 3 (d := d_way_back) rfl; ⟨⟨_, _, F, He.glo_ok X G (c.fact 35 (f := .glo "way_back") rfl)⟩⟩
  _is_document := let ⟨_, F⟩ := c.def_ 4 (d := d_u_is_document) rfl; ⟨⟨_, _, F, He.glo_ok X G (c.fact 36 (f := .glo "_is_document") rfl)⟩⟩
  _is_head := let ⟨_, F⟩ := c.def_ 5 (d := d_u_is_head) rfl; ⟨⟨_, _, F, He.glo_ok X G (c.fact 37 (f := .glo "_is_head") rfl)⟩⟩
  is_thing := let ⟨_, F⟩ := c.def_ 6 (d := d_is_thing) rfl; ⟨⟨_, _, F, He.glo_ok X G (c.fact 38 (f := .glo "is_thing") rfl)⟩⟩
  is_head := let ⟨_, F⟩ := c.def_ 7 (d := d_is_head) rfl; ⟨⟨_, _, F, He.glo_ok X G (c.fact 39 (f := .glo "is_head") rfl)⟩⟩
  head := let ⟨_, F⟩ := c.def_ 8 (d := d_head) rfl; ⟨⟨_, _, F, He.glo_ok X G (c.fact 40 (f := .glo "head_things") rfl)⟩⟩
  half := let ⟨_, F⟩ := c.def_ 9 (d := d_half) rfl; ⟨⟨_, _, F, He.glo_ok X G (c.fact 41 (f := .glo "half") rfl)⟩⟩
  node := let ⟨_, F⟩ := c.def_ 10 (d := d_node) rfl; ⟨⟨_, _, F, He.glo_ok X G (c.fact 42 (f := .glo "node") rfl)⟩⟩
  root_of := let ⟨_, F⟩ := c.def_ 11 (d := d_root_of) rfl; ⟨⟨_, _, F, He.glo_ok X G (c.fact 43 (f := .glo "root_of") rfl)⟩⟩
  turns := let ⟨_, F⟩ := c.def_ 12 (d := d_turns) rfl; ⟨⟨_, _, F, He.glo_ok X G (c.fact 44 (f := .glo "turns") rfl)⟩⟩
  way_of := let ⟨_, F⟩ := c.def_ 13 (d := d_way_of) rfl; ⟨⟨_, _, F, He.glo_ok X G (c.fact 45 (f := .glo "way_of") rfl)⟩⟩
  _nodes := let ⟨_, F⟩ := c.def_ 14 (d := d_u_nodes) rfl; ⟨⟨_, _, F, He.glo_ok X G (c.fact 46 (f := .glo "_nodes") rfl)⟩⟩
  climb := let ⟨_, F⟩ := c.def_ 15 (d := d_climb) rfl; ⟨⟨_, _, F, He.glo_ok X G (c.fact 47 (f := .glo "climb") rfl)⟩⟩
  clash_of_ways := let ⟨_, F⟩ := c.def_ 16 (d := d_clash_of_ways) rfl; ⟨⟨_, _, F, He.glo_ok X G (c.fact 48 (f := .glo "clash_of_ways") rfl)⟩⟩
  held_at := let ⟨_, F⟩ := c.def_ 17 (d := d_held_at) rfl; ⟨⟨_, _, F, He.glo_ok X G (c.fact 49 (f := .glo "held_at") rfl)⟩⟩
  has_place := let ⟨_, F⟩ := c.def_ 18 (d := d_has_place) rfl; ⟨⟨_, _, F, He.glo_ok X G (c.fact 50 (f := .glo "has_place") rfl)⟩⟩
  holds := let ⟨_, F⟩ := c.def_ 19 (d := d_holds) rfl; ⟨⟨_, _, F, He.glo_ok X G (c.fact 51 (f := .glo "holds") rfl)⟩⟩
  is_earlier := let ⟨_, F⟩ := c.def_ 20 (d := d_is_earlier) rfl; ⟨⟨_, _, F, He.glo_ok X G (c.fact 52 (f := .glo "is_earlier") rfl)⟩⟩
  Paper_init := let ⟨_, F⟩ := c.def_ 21 (d := d_Paper_init) rfl; ⟨⟨_, _, F, He.mkr_ok (c.fact 7 (f := .mkr "Paper") rfl), He.glo_ok X G (c.fact 5 (f := .glo "Paper") rfl)⟩⟩
  rows_of := let ⟨_, F⟩ := c.def_ 22 (d := d_rows_of) rfl; ⟨⟨_, _, F, He.glo_ok X G (c.fact 53 (f := .glo "rows_of") rfl)⟩⟩
  _why := let ⟨_, F⟩ := c.def_ 23 (d := d_u_why) rfl; ⟨⟨_, _, F, He.glo_ok X G (c.fact 54 (f := .glo "_why") rfl)⟩⟩
  _refusal := let ⟨_, F⟩ := c.def_ 24 (d := d_u_refusal) rfl; ⟨⟨_, _, F, He.glo_ok X G (c.fact 55 (f := .glo "_refusal") rfl)⟩⟩
  is_accepted := let ⟨_, F⟩ := c.def_ 25 (d := d_is_accepted) rfl; ⟨⟨_, _, F, He.glo_ok X G (c.fact 56 (f := .glo "is_accepted") rfl)⟩⟩
  check := let ⟨_, F⟩ := c.def_ 26 (d := d_check) rfl; ⟨⟨_, _, F, He.glo_ok X G (c.fact 57 (f := .glo "check") rfl)⟩⟩
  joined := let ⟨_, F⟩ := c.def_ 27 (d := d_joined) rfl; ⟨⟨_, _, F, He.glo_ok X G (c.fact 58 (f := .glo "joined") rfl)⟩⟩
  Service_init := let ⟨_, F⟩ := c.def_ 28 (d := d_Service_init) rfl; ⟨⟨_, _, F, He.mkr_ok (c.fact 12 (f := .mkr "Service") rfl), He.glo_ok X G (c.fact 10 (f := .glo "Service") rfl)⟩⟩
  Service_enter := let ⟨_, F⟩ := c.def_ 29 (d := d_Service_enter) rfl; ⟨⟨_, _, F, He.meth_ok (c.fact 18 (f := .meth "Service" "enter") rfl)⟩⟩
  Service_close := let ⟨_, F⟩ := c.def_ 30 (d := d_Service_close) rfl; ⟨⟨_, _, F, He.meth_ok (c.fact 19 (f := .meth "Service" "close") rfl)⟩⟩
  Service_head := let ⟨_, F⟩ := c.def_ 31 (d := d_Service_head) rfl; ⟨⟨_, _, F, He.meth_ok (c.fact 20 (f := .meth "Service" "head") rfl)⟩⟩
  Service_entries := let ⟨_, F⟩ := c.def_ 32 (d := d_Service_entries) rfl; ⟨⟨_, _, F, He.meth_ok (c.fact 21 (f := .meth "Service" "entries") rfl)⟩⟩
  Service_stamp := let ⟨_, F⟩ := c.def_ 33 (d := d_Service_stamp) rfl; ⟨⟨_, _, F, He.meth_ok (c.fact 22 (f := .meth "Service" "stamp") rfl)⟩⟩
  Service_back := let ⟨_, F⟩ := c.def_ 34 (d := d_Service_back) rfl; ⟨⟨_, _, F, He.meth_ok (c.fact 23 (f := .meth "Service" "back") rfl)⟩⟩
  Library_init := let ⟨_, F⟩ := c.def_ 35 (d := d_Library_init) rfl; ⟨⟨_, _, F, He.mkr_ok (c.fact 26 (f := .mkr "Library") rfl), He.glo_ok X G (c.fact 24 (f := .glo "Library") rfl)⟩⟩
  Library_put := let ⟨_, F⟩ := c.def_ 36 (d := d_Library_put) rfl; ⟨⟨_, _, F, He.meth_ok (c.fact 30 (f := .meth "Library" "put") rfl)⟩⟩
  Library_row_of := let ⟨_, F⟩ := c.def_ 37 (d := d_Library_row_of) rfl; ⟨⟨_, _, F, He.meth_ok (c.fact 31 (f := .meth "Library" "row_of") rfl)⟩⟩
  Library_entries_of := let ⟨_, F⟩ := c.def_ 38 (d := d_Library_entries_of) rfl; ⟨⟨_, _, F, He.meth_ok (c.fact 32 (f := .meth "Library" "entries_of") rfl)⟩⟩
  _fits := let ⟨_, F⟩ := c.def_ 39 (d := d_u_fits) rfl; ⟨⟨_, _, F, He.glo_ok X G (c.fact 59 (f := .glo "_fits") rfl)⟩⟩
  _tree_clash := let ⟨_, F⟩ := c.def_ 40 (d := d_u_tree_clash) rfl; ⟨⟨_, _, F, He.glo_ok X G (c.fact 60 (f := .glo "_tree_clash") rfl)⟩⟩
  trace := let ⟨_, F⟩ := c.def_ 41 (d := d_trace) rfl; ⟨⟨_, _, F, He.glo_ok X G (c.fact 61 (f := .glo "trace") rfl)⟩⟩
  _law_cell := let ⟨_, F⟩ := c.def_ 42 (d := d_u_law_cell) rfl; ⟨⟨_, _, F, He.glo_ok X G (c.fact 62 (f := .glo "_law_cell") rfl)⟩⟩
  _law_row := let ⟨_, F⟩ := c.def_ 43 (d := d_u_law_row) rfl; ⟨⟨_, _, F, He.glo_ok X G (c.fact 63 (f := .glo "_law_row") rfl)⟩⟩
  _law_draw := let ⟨_, F⟩ := c.def_ 44 (d := d_u_law_draw) rfl; ⟨⟨_, _, F, He.glo_ok X G (c.fact 64 (f := .glo "_law_draw") rfl)⟩⟩
  _law_is_integer := let ⟨_, F⟩ := c.def_ 45 (d := d_u_law_is_integer) rfl; ⟨⟨_, _, F, He.glo_ok X G (c.fact 65 (f := .glo "_law_is_integer") rfl)⟩⟩
  _law_digest := let ⟨_, F⟩ := c.def_ 46 (d := d_u_law_digest) rfl; ⟨⟨_, _, F, He.glo_ok X G (c.fact 66 (f := .glo "_law_digest") rfl)⟩⟩
  _law_number := let ⟨_, F⟩ := c.def_ 47 (d := d_u_law_number) rfl; ⟨⟨_, _, F, He.glo_ok X G (c.fact 67 (f := .glo "_law_number") rfl)⟩⟩
  _law_mixing := let ⟨_, F⟩ := c.def_ 48 (d := d_u_law_mixing) rfl; ⟨⟨_, _, F, He.glo_ok X G (c.fact 68 (f := .glo "_law_mixing") rfl)⟩⟩
  _law_same := let ⟨_, F⟩ := c.def_ 49 (d := d_u_law_same) rfl; ⟨⟨_, _, F, He.glo_ok X G (c.fact 69 (f := .glo "_law_same") rfl)⟩⟩
  _law_entered := let ⟨_, F⟩ := c.def_ 50 (d := d_u_law_entered) rfl; ⟨⟨_, _, F, He.glo_ok X G (c.fact 70 (f := .glo "_law_entered") rfl)⟩⟩
  _law_rounds := let ⟨_, F⟩ := c.def_ 51 (d := d_u_law_rounds) rfl; ⟨⟨_, _, F, He.glo_ok X G (c.fact 71 (f := .glo "_law_rounds") rfl)⟩⟩
  _law_service_ok := let ⟨_, F⟩ := c.def_ 52 (d := d_u_law_service_ok) rfl; ⟨⟨_, _, F, He.glo_ok X G (c.fact 72 (f := .glo "_law_service_ok") rfl)⟩⟩
  law := let ⟨_, F⟩ := c.def_ 53 (d := d_law) rfl; ⟨⟨_, _, F, He.glo_ok X G (c.fact 73 (f := .glo "law") rfl)⟩⟩
}
theorem facts {P : Program} {w : World} {K : PySem.W.Frag} {h : Heap} {mg : Str → Option Value} {f : Addr} (X : K.In h) (G : h.Ns mainGlobals mg) (hfa : mg ("law" : Str) = some (.ref f)) (c : He.SaysD fa fn K) :
    ∃ fd : FuncData, (∀ (s : Shared) (v : Value), BindsTo s fd ⟨[v], []⟩ [("_law_script", v)]) ∧ ∀ base : Heap, K.In base → base.Ns mainGlobals mg → FnOk P w K mg base CX0 11 f fd ["_law_script"] (spLaw K) := by
  obtain ⟨fd, F⟩ := c.def_ 53 (d := d_law) rfl
  have e := hfa.symm.trans (He.glo_ok X G (c.fact 73 (f := .glo "law") rfl))
  cases e
  have b := FunD.bindsA (ps := ["_law_script"]) F fun _ _ _ _ _ _ us hl => match us, hl with | [_], _ => rfl
  exact ⟨fd, fun s v => b s [v] rfl, fun base _ _ => law_ok (all_of X G c) F⟩
end SR
open PySem PySem.W PySem.Calls PyProof.Rows
theorem PySem.Challenge.cw_sealround_k82_whole_honest_services_holds : PySem.Challenge.rw_sealround_k82_whole_honest_services.Holds := by
  w_on
  o_law
  refine HandSHeadRun.head_any (r := OpenLaw.row PySem.Challenge.rw_sealround_k82_whole_honest_services) (q := view (OpenLaw.row PySem.Challenge.rw_sealround_k82_whole_honest_services).prog [71]) (H := SR.hk) (ob := SR.ob) (M := 20000) (loose := SR.loose) (d := HandSHeadRun.topDef (OpenLaw.row PySem.Challenge.rw_sealround_k82_whole_honest_services).prog 71) (kwd := []) SR.ob_eq
    (by kernel_rfl) (fun s => by kernel_rfl) SR.run (by kernel_rfl) (by kernel_rfl) (by kernel_rfl) (by rfl) (by first | assumption | decide +kernel) (by decide +kernel) ⟨rfl, rfl, rfl, rfl, rfl, by decide +kernel⟩ ?hw ?hc
  case hw => w_witness2
  case hc =>
    refine L2.walk_ofE (l := PySem.Challenge.rw_sealround_k82_whole_honest_services) (n := 63) (k := 11) (x := "_law_script") (CX := L2.CX0) rfl (by decide) (by kernel_rfl) ⟨rfl, by decide, by decide⟩ ?F (fun _ _ _ _ z => z)
    intro w mg fa h Y G hmg0
    obtain ⟨K, KX, c⟩ := Y
    have hmg : mg ("law" : PySem.Str) = some (.ref fa) := by
      have e : (HandSHeadRun.topDef (OpenLaw.row PySem.Challenge.rw_sealround_k82_whole_honest_services).prog 71).name = ("law" : PySem.Str) := by kernel_rfl
      rw [← e]
      exact hmg0
    obtain ⟨fd, hb, hF⟩ := SR.facts (P := (PySem.Challenge.rw_sealround_k82_whole_honest_services).prog) (w := w) KX G hmg c
    exact ⟨K, fd, SR.spLaw K, KX, hb, fun H a ns hl _ hS => ⟨_, rfl, a, ns, rfl, hS, fun _ => rfl⟩, hF⟩
