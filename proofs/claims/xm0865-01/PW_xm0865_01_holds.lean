import PyProof.Rows.All
import Wide.All
import OpenK.AllK
import Wide.FinOn
import Lean
import PySem.Challenge.RW_xm0865_01

set_option maxRecDepth 100000
set_option Elab.async false
set_option linter.unusedVariables false
set_option linter.unusedSectionVars false
set_option linter.unusedSimpArgs false
set_option compiler.extract_closed false
set_option genSizeOf false

namespace Mine
open PySem PySem.W PyProof.Rows

theorem nle2 {a b c : Nat} (h : b ≤ c) (h2 : a ≤ b) : a ≤ c := Nat.le_trans h2 h
theorem nlt1 {a b c : Nat} (h : a ≤ b) (h2 : b < c) : a < c := Nat.lt_of_le_of_lt h h2
theorem nlt2 {a b c : Nat} (h : b ≤ c) (h2 : a < b) : a < c := Nat.lt_of_lt_of_le h2 h
theorem nlt3 {a b c : Nat} (h : a < b) (h2 : b ≤ c) : a < c := Nat.lt_of_lt_of_le h h2
theorem ile2 {a b c : Int} (h : b ≤ c) (h2 : a ≤ b) : a ≤ c := Int.le_trans h2 h
theorem ile3 {p : Prop} {a b c : Int} (h : p ∧ a ≤ b) (h2 : b ≤ c) : a ≤ c := Int.le_trans h.2 h2
theorem ile4 {p : Prop} {a b c : Int} (h : b ≤ c ∧ p) (h2 : a ≤ b) : a ≤ c := Int.le_trans h2 h.1
theorem dec1 {n i : Nat} (h : i < n) : n + 1 - (i + 1) < n + 1 - i := Nat.sub_lt_sub_left (Nat.lt_succ_of_lt h) (Nat.lt_succ_self i)
theorem dec2 {n i : Nat} (h : i < n) : n - (i + 1) < n - i := Nat.sub_lt_sub_left h (Nat.lt_succ_self i)
theorem msrl {a b L i : Nat} (h : a + 1 * (L + 1) ≤ b) : a + (L - 0) < b + (L - i) := Nat.lt_of_lt_of_le (Nat.add_lt_add_left ((Nat.one_mul (L + 1)).symm ▸ Nat.lt_succ_self L) a) (Nat.le_trans h (Nat.le_add_right b _))
theorem abs64 {x : Int} (h : 1 ≤ x ∧ x ≤ 10) : x.natAbs < 2 ^ 64 := by omega
theorem tn2 {n : Nat} : ((n : Int) - 1 - 1).toNat = n - 2 := (congrArg Int.toNat (Int.sub_sub n 1 1)).trans (Int.toNat_sub n 2)
theorem sub21 {n : Nat} (h : 3 ≤ n) : n - 1 = n - 2 + 1 := (Nat.sub_add_cancel (Nat.le_sub_one_of_lt (Nat.lt_of_lt_of_le (show 1 < 3 by decide) h))).symm
theorem cap47 {n : Nat} : ∃ c : Nat, 3 + min 4 ((n : Int) / 5) = c ∧ c ≤ 7 := ⟨3 + min 4 (n / 5), by omega, by omega⟩
theorem suc1 {n i : Nat} (h : i < n) : n - i = n - (i + 1) + 1 := by omega
theorem minc {a b : Nat} : min (a : Int) (b : Int) = ((min a b : Nat) : Int) := by omega
theorem maxc {a b : Nat} : max (a : Int) (b : Int) = ((max a b : Nat) : Int) := by omega
theorem abs60 {x : Int} (h : 1 ≤ x ∧ x ≤ 1000) : x.natAbs < 2 ^ 60 := by omega
theorem rng0 {b : Int} (h : 0 ≤ b) (h2 : b ≤ 1000000) : -1000000 ≤ (0 : Int) ∧ (0 : Int) ≤ 1000000 ∧ -1000000 ≤ b ∧ b ≤ 1000000 := ⟨by decide, by decide, Int.le_trans (by decide) h, h2⟩
theorem rng1 {b : Int} (h : 0 ≤ b) (h2 : b ≤ 1000000) : -1000000 ≤ (1 : Int) ∧ (1 : Int) ≤ 1000000 ∧ -1000000 ≤ b ∧ b ≤ 1000000 := ⟨by decide, by decide, Int.le_trans (by decide) h, h2⟩
theorem cle1 {n b : Nat} {c : Int} (h : n ≤ b) (h2 : (b : Int) ≤ c) : (n : Int) ≤ c := Int.le_trans (Int.ofNat_le.mpr h) h2
local macro_rules | `(tactic| walk_at "lc") => `(tactic| with_reducible (first | assumption | decide | (refine And.intro ?_ ?_ <;> walk_at "lc") | exact Int.natCast_nonneg _ | exact Nat.le_trans (by assumption) (by decide) | exact nle2 (by assumption) (by decide) | exact nlt1 (by assumption) (by decide) | exact nlt2 (by assumption) (by decide) | exact nlt3 (by assumption) (by decide) | exact Int.le_trans (by assumption) (by decide) | exact ile2 (by assumption) (by decide) | exact And.left (by assumption) | exact And.right (by assumption) | exact ile3 (by assumption) (by decide) | exact ile4 (by assumption) (by decide) | exact cle1 (by assumption) (by decide)))
local macro_rules | `(tactic| walk_at "la") => `(tactic| first | walk_at "lc" | (refine And.intro ?_ ?_ <;> walk_at "la") | lia | omega)
local macro_rules | `(tactic| walk_at "lo") => `(tactic| first | walk_at "lc" | omega)

section
noncomputable def strNames : List String :=
  ["data", "at", "read_fixed32", "ShortOctets", "len", "read_fixed64", "ik", "user_of", "TAG_LENGTH", "bytes",
   "Corrupt", "tag_of", "self", "a", "b", "compare", "__init__", "user_order", "BytesOrder", "c",
   "tag_a", "tag_b", "check", "CHECK_CRC", "log_block", "sync_writes", "create_missing", "paranoid", "write_buffer", "max_height",
   "heights", "block_size", "restart_interval", "filter_bits", "filter_base_lg", "max_file_size", "num_levels", "l0_trigger", "l0_stop", "base_bytes",
   "level_factor", "max_mem_level", "grandparent_factor", "expand_factor", "number", "size", "smallest", "largest", "row", "comparator",
   "log_number", "next_file", "last_seq", "compact_pointers", "deleted", "added", "reset", "order", "files", "level",
   "refs", "score", "score_level", "range", "append", "low_user", "high_user", "overlapping", "low", "high",
   "found", "i", "meta", "first", "last", "level_octets", "octets", "total_size", "total", "key_range",
   "version", "options", "users", "inputs", "grandparents", "edit", "manual", "grand_at", "grand_octets", "seen_key",
   "places", "InternalOrder", "VersionEdit", "grand_limit", "trivial", "max_octets_of", "result", "score_of", "best_top", "best_bottom",
   "best_level", "top", "bottom", "needs_compaction", "user_range", "ends", "pointers", "pick", "pointer", "Compaction",
   "set_up_other", "pick_range", "count", "BadOption", "str", "span", "grown", "room", "cost", "above",
   "nums", "_law_draw", "u", "_law_user", "key", "_law_ikey", "y", "q", "w", "_law_lay",
   "levels", "j", "s", "k", "min", "_law_rows", "f", "_law_metas", "_law_version", "Version",
   "FileMeta", "_law_octets", "sum", "_law_span", "max", "_law_touch", "_law_joined", "g", "_law_best", "parts",
   "fullest", "p", "r", "world", "_law_scored", "want", "got", "worlds", "_law_stands", "place",
   "most", "_law_upper", "upper", "_law_whole", "lower", "grand", "more", "cheap", "_law_told", "alone",
   "_law_done", "fresh", "rest", "pivot", "part", "sorted", "pair", "away", "x", "others",
   "_law_readied", "which", "list", "picker", "kept", "_law_picked", "refused", "script", "law", "head",
   "t", "one", "Options", "Picker", "given", "z", "again", "good"]
noncomputable def allNames : List Str := strNames.map Str.ofString
noncomputable def nN : Nat := 198
theorem allNames_len : allNames.length = nN := by decide +kernel
noncomputable def nm (k : Nat) : Str := Str.ofString (strNames.getD k "")
theorem allNames_nodup : allNames.Nodup := by decide +kernel
theorem nm_get {k : Nat} (hk : k < allNames.length) : nm k = allNames[k] := by
  have hk' : k < strNames.length := by unfold allNames at hk; simpa using hk
  have e : allNames[k] = Str.ofString strNames[k] := List.getElem_map (f := Str.ofString) (l := strNames) (i := k) (h := by simpa using hk')
  refine Eq.trans ?_ e.symm
  unfold nm
  congr 1
  simp [List.getD, hk']
theorem nm_inj {j k : Nat} (hj : j < nN) (hk : k < nN) (h : nm j = nm k) : j = k := by
  have hj' : j < allNames.length := allNames_len ▸ hj
  have hk' : k < allNames.length := allNames_len ▸ hk
  rw [nm_get hj', nm_get hk'] at h
  exact (List.getElem_inj allNames_nodup).mp h
theorem nm_debug {k : Nat} (hk : k < nN) : (nm k == ("__debug__" : Str)) = false := by
  have hk' : k < allNames.length := allNames_len ▸ hk
  have : allNames.all (fun x => (x == ("__debug__" : Str)) == false) = true := by decide +kernel
  rw [nm_get hk']
  simpa using List.all_eq_true.mp this _ (List.getElem_mem hk')

inductive T where
  | none
  | bool (b : Bool)
  | int (i : Int)
  | str (s : Str)
  | bytes (b : List UInt8)
  | tup (ts : List T)
  | lst (ts : List T)
  | inst (C : Addr) (fs : List (Nat × T))
  | ref (a : Addr)
  | rng (a b : Int)

abbrev OM := Addr → Option Obj
noncomputable def Sub (Z Z' : OM) : Prop := ∀ a o, Z a = some o → Z' a = some o
theorem Sub.rfl {Z : OM} : Sub Z Z := fun _ _ h => h
theorem Sub.trans {Z Z' Z'' : OM} (h : Sub Z Z') (h' : Sub Z' Z'') : Sub Z Z'' := fun a o e => h' a o (h a o e)

mutual
inductive Rd (Z : OM) : Value → T → Prop
  | none : Rd Z .none .none
  | bool (b : Bool) : Rd Z (.bool b) (.bool b)
  | int (i : Int) (tk : Tok) : Rd Z (.int i tk) (.int i)
  | str (s : Str) (tk : Tok) : Rd Z (.str s tk) (.str s)
  | bytes (b : Array UInt8) (tk : Tok) : Rd Z (.bytes b tk) (.bytes b.toList)
  | ref (a : Addr) : Rd Z (.ref a) (.ref a)
  | tup {a : Addr} {d : Option Addr} {vs : Array Value} {ep : Nat} {sl : Array (Option Value)} {ts : List T} :
      Z a = some ⟨.type "tuple", d, .seq vs ep, sl⟩ → RdL Z vs.toList ts → Rd Z (.ref a) (.tup ts)
  | lst {a : Addr} {d : Option Addr} {vs : Array Value} {ep : Nat} {sl : Array (Option Value)} {ts : List T} :
      Z a = some ⟨.type "list", d, .seq vs ep, sl⟩ → RdL Z vs.toList ts → Rd Z (.ref a) (.lst ts)
  | inst {x C dx : Addr} {es : List DictEntry} {n : Nat} {fs : List (Nat × T)} :
      Z x = some (instObj C dx) → Z dx = some (dictOf es n) → RdE Z es fs → Rd Z (.ref x) (.inst C fs)
  | rng {x : Addr} {a b : Int} {t u v : Tok} : Z x = some { cls := .type "range", dict := none, data := .fields #[.int a t, .int b u, .int 1 v], slots := #[] } → Rd Z (.ref x) (.rng a b)
inductive RdL (Z : OM) : List Value → List T → Prop
  | nil : RdL Z [] []
  | cons {v : Value} {t : T} {vs : List Value} {ts : List T} : Rd Z v t → RdL Z vs ts → RdL Z (v :: vs) (t :: ts)
inductive RdE (Z : OM) : List DictEntry → List (Nat × T) → Prop
  | nil : RdE Z [] []
  | cons {h : Int} {k : Nat} {tk : Tok} {v : Value} {t : T} {es : List DictEntry} {fs : List (Nat × T)} :
      k < nN → Rd Z v t → RdE Z es fs → RdE Z (⟨h, .str (nm k) tk, v⟩ :: es) ((k, t) :: fs)
end

theorem rdAll {Z : OM} {m1 : Value → T → Prop} {m2 : List Value → List T → Prop} {m3 : List DictEntry → List (Nat × T) → Prop} (a1 : m1 .none .none) (a2 : ∀ b, m1 (.bool b) (.bool b)) (a3 : ∀ i tk, m1 (.int i tk) (.int i)) (a4 : ∀ s tk, m1 (.str s tk) (.str s))
    (a5 : ∀ (b : Array UInt8) tk, m1 (.bytes b tk) (.bytes b.toList)) (a6 : ∀ a, m1 (.ref a) (.ref a))
    (a7 : ∀ {a : Addr} {d : Option Addr} {vs : Array Value} {ep : Nat} {sl : Array (Option Value)} {ts : List T}, Z a = some ⟨.type "tuple", d, .seq vs ep, sl⟩ → RdL Z vs.toList ts → m2 vs.toList ts → m1 (.ref a) (.tup ts))
    (a8 : ∀ {a : Addr} {d : Option Addr} {vs : Array Value} {ep : Nat} {sl : Array (Option Value)} {ts : List T}, Z a = some ⟨.type "list", d, .seq vs ep, sl⟩ → RdL Z vs.toList ts → m2 vs.toList ts → m1 (.ref a) (.lst ts))
    (a9 : ∀ {x C dx : Addr} {es : List DictEntry} {n : Nat} {fs : List (Nat × T)}, Z x = some (instObj C dx) → Z dx = some (dictOf es n) → RdE Z es fs → m3 es fs → m1 (.ref x) (.inst C fs))
    (a10 : ∀ {x : Addr} {a b : Int} {t u v : Tok}, Z x = some { cls := .type "range", dict := none, data := .fields #[.int a t, .int b u, .int 1 v], slots := #[] } → m1 (.ref x) (.rng a b))
    (b1 : m2 [] []) (b2 : ∀ {v t vs ts}, Rd Z v t → RdL Z vs ts → m1 v t → m2 vs ts → m2 (v :: vs) (t :: ts))
    (c1 : m3 [] []) (c2 : ∀ {h : Int} {k : Nat} {tk : Tok} {v : Value} {t : T} {es : List DictEntry} {fs : List (Nat × T)}, k < nN → Rd Z v t → RdE Z es fs → m1 v t → m3 es fs → m3 (⟨h, .str (nm k) tk, v⟩ :: es) ((k, t) :: fs)) :
    (∀ {v t}, Rd Z v t → m1 v t) ∧ (∀ {vs ts}, RdL Z vs ts → m2 vs ts) ∧ (∀ {es fs}, RdE Z es fs → m3 es fs) :=
  ⟨Rd.rec (motive_1 := fun v t _ => m1 v t) (motive_2 := fun v t _ => m2 v t) (motive_3 := fun v t _ => m3 v t) a1 a2 a3 a4 a5 a6 a7 a8 a9 a10 b1 b2 c1 c2,
   RdL.rec (motive_1 := fun v t _ => m1 v t) (motive_2 := fun v t _ => m2 v t) (motive_3 := fun v t _ => m3 v t) a1 a2 a3 a4 a5 a6 a7 a8 a9 a10 b1 b2 c1 c2,
   RdE.rec (motive_1 := fun v t _ => m1 v t) (motive_2 := fun v t _ => m2 v t) (motive_3 := fun v t _ => m3 v t) a1 a2 a3 a4 a5 a6 a7 a8 a9 a10 b1 b2 c1 c2⟩
theorem rdMonos {Z Z' : OM} (h : Sub Z Z') : (∀ {v t}, Rd Z v t → Rd Z' v t) ∧ (∀ {vs ts}, RdL Z vs ts → RdL Z' vs ts) ∧ (∀ {es fs}, RdE Z es fs → RdE Z' es fs) :=
  rdAll .none .bool .int .str .bytes .ref (fun e _ r => .tup (h _ _ e) r) (fun e _ r => .lst (h _ _ e) r) (fun e d _ r => .inst (h _ _ e) (h _ _ d) r) (fun e => .rng (h _ _ e)) .nil (fun _ _ => .cons) .nil (fun k _ _ => .cons k)
theorem Rd.mono {Z Z' : OM} (h : Sub Z Z') {v : Value} {t : T} : Rd Z v t → Rd Z' v t := (rdMonos h).1
theorem RdL.mono {Z Z' : OM} (h : Sub Z Z') {vs : List Value} {ts : List T} : RdL Z vs ts → RdL Z' vs ts := (rdMonos h).2.1
theorem RdE.mono {Z Z' : OM} (h : Sub Z Z') {es : List DictEntry} {fs : List (Nat × T)} : RdE Z es fs → RdE Z' es fs := (rdMonos h).2.2
theorem RdL.ind {Z : OM} {m : List Value → List T → Prop} (h0 : m [] []) (h1 : ∀ {v t vs ts}, Rd Z v t → RdL Z vs ts → m vs ts → m (v :: vs) (t :: ts)) {vs : List Value} {ts : List T} (r : RdL Z vs ts) : m vs ts :=
  (rdAll (m1 := fun _ _ => True) (m2 := m) (m3 := fun _ _ => True) ⟨⟩ (fun _ => ⟨⟩) (fun _ _ => ⟨⟩) (fun _ _ => ⟨⟩) (fun _ _ => ⟨⟩) (fun _ => ⟨⟩) (fun _ _ _ => ⟨⟩) (fun _ _ _ => ⟨⟩) (fun _ _ _ _ => ⟨⟩) (fun _ => ⟨⟩) h0 (fun a r _ i => h1 a r i) ⟨⟩ fun _ _ _ _ _ => ⟨⟩).2.1 r
theorem RdE.ind {Z : OM} {m : List DictEntry → List (Nat × T) → Prop} (h0 : m [] []) (h1 : ∀ {h : Int} {k : Nat} {tk : Tok} {v : Value} {t : T} {es : List DictEntry} {fs : List (Nat × T)}, k < nN → Rd Z v t → RdE Z es fs → m es fs → m (⟨h, .str (nm k) tk, v⟩ :: es) ((k, t) :: fs))
    {es : List DictEntry} {fs : List (Nat × T)} (r : RdE Z es fs) : m es fs :=
  (rdAll (m1 := fun _ _ => True) (m2 := fun _ _ => True) (m3 := m) ⟨⟩ (fun _ => ⟨⟩) (fun _ _ => ⟨⟩) (fun _ _ => ⟨⟩) (fun _ _ => ⟨⟩) (fun _ => ⟨⟩) (fun _ _ _ => ⟨⟩) (fun _ _ _ => ⟨⟩) (fun _ _ _ _ => ⟨⟩) (fun _ => ⟨⟩) ⟨⟩ (fun _ _ _ _ => ⟨⟩) h0 fun k a r _ i => h1 k a r i).2.2 r

inductive RdBytes (v : Value) (b : List UInt8) : Prop
  | mk (arr : Array UInt8) (tk : Tok) (hv : v = .bytes arr tk) (hb : arr.toList = b)
inductive RdSeq (Z : OM) (c : String) (v : Value) (ts : List T) : Prop
  | mk (a : Addr) (d : Option Addr) (vs : Array Value) (ep : Nat) (sl : Array (Option Value)) (hv : v = .ref a) (e : Z a = some ⟨.type c, d, .seq vs ep, sl⟩) (q : RdL Z vs.toList ts)
inductive RdInst (Z : OM) (v : Value) (C : Addr) (fs : List (Nat × T)) : Prop
  | mk (x dx : Addr) (es : List DictEntry) (n : Nat) (hv : v = .ref x) (e : Z x = some (instObj C dx)) (d : Z dx = some (dictOf es n)) (q : RdE Z es fs)
noncomputable def RdV (Z : OM) (v : Value) : T → Prop
  | .none => v = .none
  | .bool b => v = .bool b
  | .int i => ∃ tk, v = .int i tk
  | .str s => ∃ tk, v = .str s tk
  | .bytes b => RdBytes v b
  | .ref a => v = .ref a
  | .tup ts => RdSeq Z "tuple" v ts
  | .lst ts => RdSeq Z "list" v ts
  | .inst C fs => RdInst Z v C fs
  | .rng a b => ∃ x t u w, v = .ref x ∧ Z x = some { cls := .type "range", dict := none, data := .fields #[.int a t, .int b u, .int 1 w], slots := #[] }
theorem Rd.view {Z : OM} {v : Value} {t : T} (r : Rd Z v t) : RdV Z v t :=
  Rd.casesOn (motive_1 := fun v t _ => RdV Z v t) r rfl (fun _ => rfl) (fun _ _ => ⟨_, rfl⟩) (fun _ _ => ⟨_, rfl⟩) (fun _ _ => ⟨_, _, rfl, rfl⟩) (fun _ => rfl)
    (fun e q => ⟨_, _, _, _, _, rfl, e, q⟩) (fun e q => ⟨_, _, _, _, _, rfl, e, q⟩) (fun e d q => ⟨_, _, _, _, rfl, e, d, q⟩) fun e => ⟨_, _, _, _, rfl, e⟩
inductive RdLc (Z : OM) (v : Value) (vs : List Value) (ts : List T) : Prop
  | mk (t : T) (ts' : List T) (e : ts = t :: ts') (h : Rd Z v t) (r : RdL Z vs ts')
inductive RdLd (Z : OM) (t : T) (ts : List T) (vs : List Value) : Prop
  | mk (v : Value) (vs' : List Value) (e : vs = v :: vs') (h : Rd Z v t) (r : RdL Z vs' ts)
noncomputable def RdLv (Z : OM) (ts : List T) : List Value → Prop
  | [] => ts = []
  | v :: vs => RdLc Z v vs ts
noncomputable def RdLw (Z : OM) (vs : List Value) : List T → Prop
  | [] => vs = []
  | t :: ts => RdLd Z t ts vs
theorem RdL.vw {Z : OM} {vs : List Value} {ts : List T} (r : RdL Z vs ts) : RdLv Z ts vs ∧ RdLw Z vs ts :=
  RdL.casesOn (motive_2 := fun vs ts _ => RdLv Z ts vs ∧ RdLw Z vs ts) r ⟨rfl, rfl⟩ fun h r => ⟨⟨_, _, rfl, h, r⟩, ⟨_, _, rfl, h, r⟩⟩
theorem RdL.inv {Z : OM} {v : Value} {vs : List Value} {ts : List T} (r : RdL Z (v :: vs) ts) : RdLc Z v vs ts := r.vw.1
theorem RdL.inv0 {Z : OM} {ts : List T} (r : RdL Z [] ts) : ts = [] := r.vw.1
theorem RdL.inv' {Z : OM} {t : T} {vs : List Value} {ts : List T} (r : RdL Z vs (t :: ts)) : RdLd Z t ts vs := r.vw.2
theorem RdL.inv0' {Z : OM} {vs : List Value} (r : RdL Z vs []) : vs = [] := r.vw.2
theorem RdL.length {Z : OM} {vs : List Value} {ts : List T} (r : RdL Z vs ts) : vs.length = ts.length := r.ind (m := fun vs ts => vs.length = ts.length) rfl fun _ _ i => congrArg (· + 1) i
theorem RdL.append {Z : OM} {vs ws : List Value} {ts us : List T} (r : RdL Z vs ts) (q : RdL Z ws us) : RdL Z (vs ++ ws) (ts ++ us) := r.ind (m := fun vs ts => RdL Z (vs ++ ws) (ts ++ us)) q fun a _ i => .cons a i
theorem RdL.get {Z : OM} {vs : List Value} {ts : List T} {i : Nat} {t : T} (r : RdL Z vs ts) : ts[i]? = some t → ∃ v, vs[i]? = some v ∧ Rd Z v t :=
  r.ind (m := fun vs ts => ∀ i : Nat, ts[i]? = some t → ∃ v, vs[i]? = some v ∧ Rd Z v t) (fun _ e => nomatch e) (fun a _ ih i => Nat.casesOn i (fun e => ⟨_, rfl, Option.some.inj e ▸ a⟩) fun i e => ih i e) i
theorem RdL.get' {Z : OM} {vs : List Value} {ts : List T} {i : Nat} {v : Value} (r : RdL Z vs ts) : vs[i]? = some v → ∃ t, ts[i]? = some t ∧ Rd Z v t :=
  r.ind (m := fun vs ts => ∀ i : Nat, vs[i]? = some v → ∃ t, ts[i]? = some t ∧ Rd Z v t) (fun _ e => nomatch e) (fun a _ ih i => Nat.casesOn i (fun e => ⟨_, rfl, Option.some.inj e ▸ a⟩) fun i e => ih i e) i
theorem RdL.take {Z : OM} {vs : List Value} {ts : List T} (n : Nat) (r : RdL Z vs ts) : RdL Z (vs.take n) (ts.take n) :=
  r.ind (m := fun vs ts => ∀ n, RdL Z (vs.take n) (ts.take n)) (fun n => by rw [List.take_nil, List.take_nil]; exact .nil) (fun a _ ih n => Nat.casesOn n .nil fun n => .cons a (ih n)) n
theorem RdL.drop {Z : OM} {vs : List Value} {ts : List T} (n : Nat) (r : RdL Z vs ts) : RdL Z (vs.drop n) (ts.drop n) :=
  r.ind (m := fun vs ts => ∀ n, RdL Z (vs.drop n) (ts.drop n)) (fun n => by rw [List.drop_nil, List.drop_nil]; exact .nil) (fun a r ih n => Nat.casesOn n (.cons a r) fun n => ih n) n
theorem RdL.set {Z : OM} {vs : List Value} {ts : List T} {v : Value} {t : T} (n : Nat) (r : RdL Z vs ts) (h : Rd Z v t) : RdL Z (vs.set n v) (ts.set n t) :=
  r.ind (m := fun vs ts => ∀ n, RdL Z (vs.set n v) (ts.set n t)) (fun _ => .nil) (fun a r ih n => Nat.casesOn n (.cons h r) fun n => .cons a (ih n)) n

inductive Cell where
  | list (ts : List T)
  | inst (C dx : Addr) (fs : List (Nat × T))
abbrev Cells := Addr → Option Cell
noncomputable def Cell.addrs (a : Addr) : Cell → List Addr
  | .list _ => [a]
  | .inst _ dx _ => [a, dx]
noncomputable def Cell.tree : Cell → T
  | .list ts => .lst ts
  | .inst C _ fs => .inst C fs

noncomputable def CellAt (h : Heap) (Z : OM) (a : Addr) : Cell → Prop
  | .list ts => ∃ vs ep, h.get? a = some ⟨.type "list", none, .seq vs ep, #[]⟩ ∧ RdL Z vs.toList ts
  | .inst C dx fs => h.get? a = some (instObj C dx) ∧ ∃ es n, h.get? dx = some (dictOf es n) ∧ RdE Z es fs

theorem CellAt.mono {h : Heap} {Z Z' : OM} {a : Addr} {c : Cell} (x : CellAt h Z a c) (hs : Sub Z Z') : CellAt h Z' a c := by
  cases c with
  | list ts => obtain ⟨vs, ep, e, r⟩ := x; exact ⟨vs, ep, e, r.mono hs⟩
  | inst C dx fs => obtain ⟨e, es, n, d, r⟩ := x; exact ⟨e, es, n, d, r.mono hs⟩
theorem CellAt.move {h h' : Heap} {Z : OM} {a : Addr} {c : Cell} (x : CellAt h Z a c) (hk : ∀ d ∈ c.addrs a, ∀ o, h.get? d = some o → h'.get? d = some o) : CellAt h' Z a c := by
  cases c with
  | list ts => obtain ⟨vs, ep, e, r⟩ := x; exact ⟨vs, ep, hk a (by simp [Cell.addrs]) _ e, r⟩
  | inst C dx fs => obtain ⟨e, es, n, d, r⟩ := x; exact ⟨hk a (by simp [Cell.addrs]) _ e, es, n, hk dx (by simp [Cell.addrs]) _ d, r⟩
theorem CellAt.live {h : Heap} {Z : OM} {a : Addr} {c : Cell} (x : CellAt h Z a c) : ∀ d ∈ c.addrs a, ∃ o, h.get? d = some o := by
  intro d hd
  cases c with
  | list ts =>
    obtain ⟨vs, ep, e, _⟩ := x
    simp only [Cell.addrs, List.mem_singleton] at hd
    exact ⟨_, hd ▸ e⟩
  | inst C dx fs =>
    obtain ⟨e, es, n, e', _⟩ := x
    simp only [Cell.addrs, List.mem_cons, List.not_mem_nil, or_false] at hd
    rcases hd with rfl | rfl
    · exact ⟨_, e⟩
    · exact ⟨_, e'⟩

structure Gl where
  prog : Program
  w : World
  K : Frag
  s1 : Shared
  p : Program
  loose : List Str
  mg : Str → Option Value
  mb : Str → Option Value
  KX : K.In s1.heap
  TR : TopRead p loose mg mb s1.heap
  NL : s1.heap.NoLimit

abbrev Gl.M (g : Gl) : Model := model g.prog g.w

/-- the same but for the slots of a dict: what a traceback writes to the frames it passes -/
noncomputable def Like (o o' : Obj) : Prop := o' = o ∨ ((∃ es n, o.data = .dict es n) ∧ ∃ sl, o' = { o with slots := sl })
theorem Like.rfl {o : Obj} : Like o o := .inl (Eq.refl o)
theorem Like.data {o o' : Obj} (h : Like o o') : o'.data = o.data := by
  rcases h with rfl | ⟨_, _, rfl⟩
  · rfl
  · rfl
theorem Like.trans {o o' o'' : Obj} (h : Like o o') (h' : Like o' o'') : Like o o'' := by
  rcases h with rfl | ⟨d, sl, rfl⟩
  · exact h'
  · rcases h' with rfl | ⟨_, sl', rfl⟩
    · exact .inr ⟨d, sl, Eq.refl _⟩
    · exact .inr ⟨d, sl', Eq.refl _⟩
theorem Like.eucl {o o' o'' : Obj} (h : Like o o') (h' : Like o o'') : Like o' o'' := by
  rcases h with rfl | ⟨d, sl, rfl⟩
  · exact h'
  · rcases h' with rfl | ⟨_, sl', rfl⟩
    · exact .inr ⟨d, o''.slots, Eq.refl _⟩
    · exact .inr ⟨d, sl', Eq.refl _⟩
theorem Like.eq {o o' : Obj} (h : Like o o') (hd : ∀ es n, o.data ≠ .dict es n) : o' = o := by
  rcases h with rfl | ⟨⟨es, n, e⟩, _⟩
  · rfl
  · exact absurd e (hd es n)
noncomputable def Stays (h : Heap) (a : Addr) (o : Obj) : Prop := ∃ o', h.get? a = some o' ∧ Like o o'
theorem Stays.of {h : Heap} {a : Addr} {o : Obj} (e : h.get? a = some o) : Stays h a o := ⟨o, e, .rfl⟩
theorem Stays.on {h h' : Heap} {a : Addr} {o : Obj} (x : Stays h a o) (hk : ∀ o, h.get? a = some o → h'.get? a = some o) : Stays h' a o :=
  let ⟨o', e, l⟩ := x; ⟨o', hk o' e, l⟩
theorem Stays.trans {h h' : Heap} {a : Addr} {o : Obj} (x : Stays h a o) (hk : ∀ o, h.get? a = some o → Stays h' a o) : Stays h' a o :=
  let ⟨o', e, l⟩ := x; let ⟨o'', e', l'⟩ := hk o' e; ⟨o'', e', l.trans l'⟩

structure St (g : Gl) (P Z : OM) (H : Cells) (s : Shared) : Prop where
  sh : ∃ h tk, s = { g.s1 with heap := h, toks := tk }
  base : Sub g.s1.heap.get? P
  kept : ∀ b o, g.s1.heap.get? b = some o → s.heap.get? b = some o
  kp : ∀ a o, P a = some o → Stays s.heap a o
  kz : ∀ a o, Z a = some o → s.heap.get? a = some o
  zp : ∀ a o, Z a = some o → P a = none ∨ ∃ o', g.s1.heap.get? a = some o'
  cl : ∀ a c, H a = some c → CellAt s.heap Z a c
  ow : ∀ a c, H a = some c → ∀ d ∈ c.addrs a, P d = none ∧ Z d = none
  ap : ∀ a c b c' d, H a = some c → H b = some c' → d ∈ c.addrs a → d ∈ c'.addrs b → a = b

theorem St.KX {g : Gl} {P Z : OM} {H : Cells} {s : Shared} (x : St g P Z H s) : g.K.In s.heap := g.KX.keeps x.kept

theorem St.keep {g : Gl} {P Z : OM} {H : Cells} {s : Shared} (x : St g P Z H s) {h' : Heap} {tk : Nat} (hk : ∀ b o, s.heap.get? b = some o → h'.get? b = some o) :
    St g P Z H { s with heap := h', toks := tk } where
  sh := by obtain ⟨h, t, rfl⟩ := x.sh; exact ⟨h', tk, rfl⟩
  base := x.base
  kept := fun a o e => hk a o (x.kept a o e)
  kp := fun a o e => (x.kp a o e).on (hk a)
  kz := fun a o e => hk a o (x.kz a o e)
  zp := x.zp
  cl := fun a c e => (x.cl a c e).move fun d _ o q => hk d o q
  ow := x.ow
  ap := x.ap

/-- an address that nothing tracks -/
noncomputable def Un (P Z : OM) (H : Cells) (d : Addr) : Prop := P d = none ∧ Z d = none ∧ ∀ a c, H a = some c → d ∉ c.addrs a
theorem St.un {g : Gl} {P Z : OM} {H : Cells} {s : Shared} (x : St g P Z H s) {d : Addr} (hd : s.heap.get? d = none) : Un P Z H d := by
  refine ⟨?_, ?_, fun a c e hm => ?_⟩
  · cases q : P d with
    | none => rfl
    | some o => obtain ⟨o', e, _⟩ := x.kp d o q; rw [e] at hd; cases hd
  · cases q : Z d with
    | none => rfl
    | some o => rw [x.kz d o q] at hd; cases hd
  · obtain ⟨o, q⟩ := (x.cl a c e).live d hm
    rw [q] at hd; cases hd

theorem St.ext {g : Gl} {P Z : OM} {H : Cells} {s : Shared} (x : St g P Z H s) {I : Addr} (u : Un P Z H I) {h' : Heap} {tk : Nat} (hk : Heap.ExtBut I s.heap h') :
    St g P Z H { s with heap := h', toks := tk } where
  sh := by obtain ⟨h, t, rfl⟩ := x.sh; exact ⟨h', tk, rfl⟩
  base := x.base
  kept := fun a o e => hk a o (fun q => by have := x.base a o e; rw [q, u.1] at this; cases this) (x.kept a o e)
  kp := fun a o e => (x.kp a o e).on (fun o => hk a o (fun q => by rw [q, u.1] at e; cases e))
  kz := fun a o e => hk a o (fun q => by rw [q, u.2.1] at e; cases e) (x.kz a o e)
  zp := x.zp
  cl := fun a c e => (x.cl a c e).move fun d hd o q => hk d o (fun r => u.2.2 a c e (r ▸ hd)) q
  ow := x.ow
  ap := x.ap

noncomputable def updZ (Z : OM) (a : Addr) (o : Obj) : OM := fun b => if b = a then some o else Z b
theorem updZ_self {Z : OM} {a : Addr} {o : Obj} : updZ Z a o a = some o := if_pos rfl
theorem updZ_ne {Z : OM} {a b : Addr} {o : Obj} (h : b ≠ a) : updZ Z a o b = Z b := if_neg h
theorem sub_updZ {Z : OM} {a : Addr} {o : Obj} (h : Z a = none) : Sub Z (updZ Z a o) := fun b o' e => by
  rw [updZ_ne]; exact e; rintro rfl; rw [h] at e; cases e

theorem St.addZ {g : Gl} {P Z : OM} {H : Cells} {s : Shared} (x : St g P Z H s) {a : Addr} {o : Obj} (ho : s.heap.get? a = some o) (u : Un P Z H a) : St g P (updZ Z a o) H s where
  sh := x.sh
  base := x.base
  kept := x.kept
  kp := x.kp
  kz := fun b o' e => by
    by_cases q : b = a
    · subst q; rw [updZ_self] at e; cases e; exact ho
    · rw [updZ_ne q] at e; exact x.kz b o' e
  zp := fun b o' e => by
    by_cases q : b = a
    · subst q; exact .inl u.1
    · rw [updZ_ne q] at e; exact x.zp b o' e
  cl := fun b c e => (x.cl b c e).mono (sub_updZ u.2.1)
  ow := fun b c e d hd => ⟨(x.ow b c e d hd).1, by
    rw [updZ_ne]; exact (x.ow b c e d hd).2
    rintro rfl; exact u.2.2 b c e hd⟩
  ap := x.ap

noncomputable def updH (H : Cells) (a : Addr) (c : Cell) : Cells := fun b => if b = a then some c else H b
noncomputable def delH (H : Cells) (a : Addr) : Cells := fun b => if b = a then none else H b
theorem updH_self {H : Cells} {a : Addr} {c : Cell} : updH H a c a = some c := if_pos rfl
theorem updH_ne {H : Cells} {a b : Addr} {c : Cell} (h : b ≠ a) : updH H a c b = H b := if_neg h
theorem delH_self {H : Cells} {a : Addr} : delH H a a = none := if_pos rfl
theorem delH_ne {H : Cells} {a b : Addr} (h : b ≠ a) : delH H a b = H b := if_neg h
theorem updH_updH {H : Cells} {a : Addr} {c c' : Cell} : updH (updH H a c) a c' = updH H a c' := by
  funext b; unfold updH; split <;> rfl
theorem delH_updH {H : Cells} {a : Addr} {c : Cell} (h : H a = none) : delH (updH H a c) a = H := by
  funext b; unfold delH updH; split
  · rename_i e; rw [e, h]
  · rfl
theorem updH_id {H : Cells} {a : Addr} {c : Cell} (h : H a = some c) : updH H a c = H := by
  funext b; unfold updH; split
  · rename_i e; rw [e, h]
  · rfl

noncomputable def SubH (H H' : Cells) : Prop := ∀ a c, H a = some c → H' a = some c
theorem SubH.rfl {H : Cells} : SubH H H := fun _ _ h => h
theorem SubH.trans {H H' H'' : Cells} (h : SubH H H') (h' : SubH H' H'') : SubH H H'' := fun a o e => h' a o (h a o e)
theorem subH_updH {H : Cells} {a : Addr} {c : Cell} (h : H a = none) : SubH H (updH H a c) := fun b c' e => by
  rw [updH_ne]; exact e; rintro rfl; rw [h] at e; cases e
theorem subH_delH {H : Cells} {a : Addr} : SubH (delH H a) H := fun b c' e => by
  unfold delH at e; split at e
  · cases e
  · exact e

theorem St.drop {g : Gl} {P Z : OM} {H H' : Cells} {s : Shared} (x : St g P Z H s) (hs : SubH H' H) : St g P Z H' s where
  sh := x.sh
  base := x.base
  kept := x.kept
  kp := x.kp
  kz := x.kz
  zp := x.zp
  cl := fun a c e => x.cl a c (hs a c e)
  ow := fun a c e => x.ow a c (hs a c e)
  ap := fun a c b c' d e e' => x.ap a c b c' d (hs a c e) (hs b c' e')

theorem St.addH {g : Gl} {P Z : OM} {H : Cells} {s : Shared} (x : St g P Z H s) {a : Addr} {c : Cell} (hc : CellAt s.heap Z a c) (u : ∀ d ∈ c.addrs a, Un P Z H d) : St g P Z (updH H a c) s where
  sh := x.sh
  base := x.base
  kept := x.kept
  kp := x.kp
  kz := x.kz
  zp := x.zp
  cl := fun b c' e => by
    by_cases q : b = a
    · subst q; rw [updH_self] at e; cases e; exact hc
    · rw [updH_ne q] at e; exact x.cl b c' e
  ow := fun b c' e d hd => by
    by_cases q : b = a
    · subst q; rw [updH_self] at e; cases e; exact ⟨(u d hd).1, (u d hd).2.1⟩
    · rw [updH_ne q] at e; exact x.ow b c' e d hd
  ap := fun b c' b' c'' d e e' hd hd' => by
    by_cases q : b = a <;> by_cases q' : b' = a
    · exact q.trans q'.symm
    · subst q; rw [updH_self] at e; cases e; rw [updH_ne q'] at e'; exact absurd hd' ((u d hd).2.2 _ _ e')
    · subst q'; rw [updH_self] at e'; cases e'; rw [updH_ne q] at e; exact absurd hd ((u d hd').2.2 _ _ e)
    · rw [updH_ne q] at e; rw [updH_ne q'] at e'; exact x.ap b c' b' c'' d e e' hd hd'

theorem St.setH {g : Gl} {P Z : OM} {H : Cells} {s : Shared} (x : St g P Z H s) {a : Addr} {c c' : Cell} (hc : H a = some c) {h' : Heap} {tk : Nat}
    (hk : ∀ b o, b ∉ c.addrs a → s.heap.get? b = some o → h'.get? b = some o) (hc' : CellAt h' Z a c') (he : c'.addrs a = c.addrs a) : St g P Z (updH H a c') { s with heap := h', toks := tk } where
  sh := by obtain ⟨h, t, rfl⟩ := x.sh; exact ⟨h', tk, rfl⟩
  base := x.base
  kept := fun b o e => hk b o (fun q => by have := x.base b o e; rw [(x.ow a c hc b q).1] at this; cases this) (x.kept b o e)
  kp := fun b o e => (x.kp b o e).on (fun o => hk b o (fun q => by rw [(x.ow a c hc b q).1] at e; cases e))
  kz := fun b o e => hk b o (fun q => by rw [(x.ow a c hc b q).2] at e; cases e) (x.kz b o e)
  zp := x.zp
  cl := fun b c'' e => by
    by_cases q : b = a
    · subst q; rw [updH_self] at e; cases e; exact hc'
    · rw [updH_ne q] at e
      exact (x.cl b c'' e).move fun d hd o r => hk d o (fun m => q (x.ap b c'' a c d e hc hd m)) r
  ow := fun b c'' e d hd => by
    by_cases q : b = a
    · subst q; rw [updH_self] at e; cases e; exact x.ow b c hc d (he ▸ hd)
    · rw [updH_ne q] at e; exact x.ow b c'' e d hd
  ap := fun b c1 b' c2 d e e' hd hd' => by
    by_cases q : b = a <;> by_cases q' : b' = a
    · exact q.trans q'.symm
    · subst q; rw [updH_self] at e; cases e; rw [updH_ne q'] at e'; exact x.ap b c b' c2 d hc e' (he ▸ hd) hd'
    · subst q'; rw [updH_self] at e'; cases e'; rw [updH_ne q] at e; exact x.ap b c1 b' c d e hc hd (he ▸ hd')
    · rw [updH_ne q] at e; rw [updH_ne q'] at e'; exact x.ap b c1 b' c2 d e e' hd hd'

theorem delH_none {H : Cells} {a : Addr} {c : Cell} {P Z : OM} {g : Gl} {s : Shared} (x : St g P Z H s) (hc : H a = some c) : ∀ d ∈ c.addrs a, Un P Z (delH H a) d := fun d hd =>
  ⟨(x.ow a c hc d hd).1, (x.ow a c hc d hd).2, fun b c' e hm => by
    by_cases q : b = a
    · subst q; rw [delH_self] at e; cases e
    · rw [delH_ne q] at e; exact q (x.ap b c' a c d e hc hm hd)⟩

/-- a cell that is written no more becomes a tree -/
theorem St.freeze {g : Gl} {P Z : OM} {H : Cells} {s : Shared} (x : St g P Z H s) {a : Addr} {c : Cell} (hc : H a = some c) :
    ∃ Z', Sub Z Z' ∧ St g P Z' (delH H a) s ∧ Rd Z' (.ref a) c.tree := by
  have x' := x.drop (H' := delH H a) subH_delH
  have u := delH_none x hc
  have hl := x.cl a c hc
  cases c with
  | list ts =>
    obtain ⟨vs, ep, e, r⟩ := hl
    have ua := u a (by simp [Cell.addrs])
    exact ⟨_, sub_updZ ua.2.1, x'.addZ e ua, .lst updZ_self (r.mono (sub_updZ ua.2.1))⟩
  | inst C dx fs =>
    obtain ⟨e, es, n, e', r⟩ := hl
    have ua := u a (by simp [Cell.addrs])
    have ud := u dx (by simp [Cell.addrs])
    have hne : dx ≠ a := by
      rintro rfl
      rw [e] at e'
      simp only [instObj, dictOf, Option.some.injEq, Obj.mk.injEq] at e'
      cases e'.1
    have x1 := x'.addZ e ua
    have ud' : Un P (updZ Z a (instObj C dx)) (delH H a) dx := ⟨ud.1, by rw [updZ_ne hne]; exact ud.2.1, ud.2.2⟩
    have s1 : Sub Z (updZ Z a (instObj C dx)) := sub_updZ ua.2.1
    have s2 : Sub (updZ Z a (instObj C dx)) (updZ (updZ Z a (instObj C dx)) dx (dictOf es n)) := sub_updZ ud'.2.1
    exact ⟨_, s1.trans s2, x1.addZ e' ud', .inst (s2 _ _ updZ_self) updZ_self (r.mono (s1.trans s2))⟩

/-- what is under protection while another runs: all that it may not touch -/
theorem St.protect {g : Gl} {P Z : OM} {H : Cells} {s : Shared} (x : St g P Z H s) {I : Addr} {o : Obj} (ho : s.heap.get? I = some o) (u : Un P Z H I) : St g (updZ P I o) Z H s where
  sh := x.sh
  base := x.base.trans (sub_updZ u.1)
  kept := x.kept
  kp := fun b o' e => by
    by_cases q : b = I
    · subst q; rw [updZ_self] at e; cases e; exact .of ho
    · rw [updZ_ne q] at e; exact x.kp b o' e
  kz := x.kz
  zp := fun b o' e => by
    refine (x.zp b o' e).imp_left fun q => ?_
    rw [updZ_ne]; exact q
    rintro rfl; rw [u.2.1] at e; cases e
  cl := x.cl
  ow := fun b c e d hd => ⟨by
    rw [updZ_ne]; exact (x.ow b c e d hd).1
    rintro rfl; exact u.2.2 b c e hd, (x.ow b c e d hd).2⟩
  ap := x.ap
theorem St.unprotect {g : Gl} {P Z : OM} {H : Cells} {s : Shared} {I : Addr} {o : Obj} (x : St g (updZ P I o) Z H s) (hP : P I = none) (hb : g.s1.heap.get? I = none) (base : Sub g.s1.heap.get? P) (hd : ∀ es n, o.data ≠ .dict es n) :
    St g P Z H s ∧ Un P Z H I ∧ s.heap.get? I = some o := by
  have sp : Sub P (updZ P I o) := sub_updZ hP
  have back : ∀ d, updZ P I o d = none → P d = none := fun d e => by
    cases q : P d with
    | none => rfl
    | some o' => rw [sp d o' q] at e; cases e
  refine ⟨⟨x.sh, base, x.kept, fun b o' e => x.kp b o' (sp b o' e), x.kz, fun b o' e => (x.zp b o' e).imp_left (back b), x.cl, fun b c e d hd => ⟨back d (x.ow b c e d hd).1, (x.ow b c e d hd).2⟩, x.ap⟩, ⟨hP, ?_, fun a c e hm => ?_⟩, by obtain ⟨o', e, l⟩ := x.kp I o updZ_self; rw [e, l.eq hd]⟩
  · cases q : Z I with
    | none => rfl
    | some o' =>
      rcases x.zp I o' q with r | ⟨o'', r⟩
      · rw [updZ_self] at r; cases r
      · rw [hb] at r; cases r
  · have := (x.ow a c e I hm).1
    rw [updZ_self] at this; cases this
end

section
abbrev Vs := List (Nat × Option T)
noncomputable def getT : Vs → Nat → Option T
  | [], _ => none
  | (j, o) :: r, k => bif Nat.beq j k then o else getT r k
noncomputable def hasT : Vs → Nat → Bool
  | [], _ => false
  | (j, _) :: r, k => bif Nat.beq j k then true else hasT r k
noncomputable def setT : Vs → Nat → T → Vs
  | [], _, _ => []
  | (j, o) :: r, k, t => bif Nat.beq j k then (j, some t) :: r else (j, o) :: setT r k t
theorem beq_of {j k : Nat} (h : Nat.beq j k = true) : j = k := Nat.eq_of_beq_eq_true h
theorem beq_no {j k : Nat} (h : j ≠ k) : Nat.beq j k = false := by
  cases q : Nat.beq j k with
  | false => rfl
  | true => exact absurd (beq_of q) h
theorem getT_hit {j k : Nat} {o : Option T} {r : Vs} (h : j = k) : getT ((j, o) :: r) k = o := by subst h; simp [getT, Nat.beq_refl]
theorem getT_miss {j k : Nat} {o : Option T} {r : Vs} (h : j ≠ k) : getT ((j, o) :: r) k = getT r k := by simp [getT, beq_no h]
theorem setT_hit {j k : Nat} {o : Option T} {r : Vs} {t : T} (h : j = k) : setT ((j, o) :: r) k t = (j, some t) :: r := by subst h; simp [setT, Nat.beq_refl]
theorem setT_miss {j k : Nat} {o : Option T} {r : Vs} {t : T} (h : j ≠ k) : setT ((j, o) :: r) k t = (j, o) :: setT r k t := by simp [setT, beq_no h]
theorem hasT_hit {j k : Nat} {o : Option T} {r : Vs} (h : j = k) : hasT ((j, o) :: r) k = true := by subst h; simp [hasT, Nat.beq_refl]
theorem hasT_miss {j k : Nat} {o : Option T} {r : Vs} (h : j ≠ k) : hasT ((j, o) :: r) k = hasT r k := by simp [hasT, beq_no h]
theorem getT_set : ∀ (V : Vs) (k j : Nat) (t : T), getT (setT V k t) j = if j = k then (if hasT V k then some t else none) else getT V j
  | [], k, j, t => by simp [getT, setT, hasT]
  | (i, o) :: r, k, j, t => by
    have ih := getT_set r k j t
    by_cases h : i = k
    · rw [setT_hit h, hasT_hit h]
      by_cases h2 : i = j
      · rw [getT_hit h2, if_pos (h2.symm.trans h)]; rfl
      · rw [getT_miss h2, getT_miss h2, if_neg (fun e => h2 (h.trans e.symm))]
    · rw [setT_miss h, hasT_miss h]
      by_cases h2 : i = j
      · rw [getT_hit h2, getT_hit h2, if_neg (fun e => h (h2.trans e))]
      · rw [getT_miss h2, getT_miss h2]; exact ih
theorem keys_set : ∀ (V : Vs) (k : Nat) (t : T), (setT V k t).map (·.1) = V.map (·.1)
  | [], _, _ => rfl
  | (i, o) :: r, k, t => by
    simp only [setT]
    cases h : Nat.beq i k with
    | true => rfl
    | false => simp only [cond_false, List.map_cons, keys_set r k t]
theorem has_mem : ∀ (V : Vs) (k : Nat), hasT V k = true → k ∈ V.map (·.1)
  | [], _, h => by simp [hasT] at h
  | (i, o) :: r, k, h => by
    simp only [hasT] at h
    cases h2 : Nat.beq i k with
    | true => simp [beq_of h2]
    | false => rw [h2] at h; exact List.mem_cons_of_mem _ (has_mem r k h)
theorem get_has : ∀ (V : Vs) (k : Nat) (t : T), getT V k = some t → hasT V k = true
  | [], _, _, h => by simp [getT] at h
  | (i, o) :: r, k, t, h => by
    simp only [getT] at h
    simp only [hasT]
    cases h2 : Nat.beq i k with
    | true => rfl
    | false => rw [h2] at h; exact get_has r k t h

noncomputable def memN : List Nat → Nat → Bool
  | [], _ => false
  | j :: r, k => bif Nat.beq j k then true else memN r k
structure Fm where
  env : Env
  own : List Addr
  full : Bool
  globs : List Nat
  cels : List Nat
  /-- the frames around this one, where they are known -/
  outer : Option (List Env)

structure Fo (f : Fm) (P Z : OM) (H : Cells) (V : Vs) (s : Shared) : Prop where
  hk : f.env.scope.kind = .function
  hg : f.env.globals = mainGlobals
  hb : f.env.builtins = builtinsNs
  ns : ∃ m, s.heap.Ns f.env.locals m ∧ ∀ k, k < nN → f.env.kindOf (nm k) = some .local → ∀ t, getT V k = some t → ∃ v, m (nm k) = some v ∧ Rd Z v t
  cs : ∀ k, k < nN → f.env.kindOf (nm k) = some .cell → ∀ t, getT V k = some t → ∃ c v, f.env.cells.lookup (nm k) = some c ∧ s.heap.IsCell c (some v) ∧ Rd Z v t
  kd : ∀ k ∈ V.map (·.1), k < nN ∧ (f.env.kindOf (nm k) = some .local ∨ (f.env.kindOf (nm k) = some .cell ∧ ∃ c, f.env.cells.lookup (nm k) = some c))
  lo : f.env.locals ∈ f.own
  ow : ∀ d ∈ f.own, Un P Z H d
  lv : ∀ d ∈ f.own, ∃ o, s.heap.get? d = some o
  ce : ∀ x c, f.env.cells.lookup x = some c → c ≠ f.env.locals ∧ (∃ v, s.heap.IsCell c v) ∧ (c ∈ f.own ∨ ∃ o, P c = some o)
  ci : ∀ x y c, f.env.cells.lookup x = some c → f.env.cells.lookup y = some c → x = y
  fu : f.full = true → ∀ x c, f.env.cells.lookup x = some c → c ∈ f.own
  gb : ∀ k, memN f.globs k = true → f.env.kindOf (nm k) = some .globalImplicit
  cc : ∀ k, memN f.cels k = true → k < nN ∧ f.env.kindOf (nm k) = some .cell

/-- a frame on the stack whose names stand in a dict that is protected -/
noncomputable def FrOk (g : Gl) (P : OM) (env : Env) : Prop := env.scope.kind ≠ .module ∧ ∃ L o, env.frame = some L ∧ g.s1.heap.get? L = none ∧ P L = some o ∧ ∃ es n, o.data = .dict es n
noncomputable def SkOk (g : Gl) (f : Fm) (P : OM) : Prop := ∀ l, f.outer = some l → f.env.frame = some f.env.locals ∧ g.s1.heap.get? f.env.locals = none ∧ ∀ env ∈ l, FrOk g P env
theorem SkOk.sub {g : Gl} {f : Fm} {P P' : OM} (h : SkOk g f P) (hs : Sub P P') : SkOk g f P' := fun l e => by
  obtain ⟨a, b, c⟩ := h l e
  refine ⟨a, b, fun env he => ?_⟩
  obtain ⟨d, L, o, q1, q2, q3, q4⟩ := c env he
  exact ⟨d, L, o, q1, q2, hs _ _ q3, q4⟩
structure Rel (g : Gl) (f : Fm) (P Z : OM) (V : Vs) (H : Cells) (s : Shared) : Prop where
  st : St g P Z H s
  fo : Fo f P Z H V s
  sk : SkOk g f P

theorem Ns_like {h h' : Heap} {L : Addr} {m : Str → Option Value} (hn : h.Ns L m) (hk : ∀ o, h.get? L = some o → Stays h' L o) : h'.Ns L m := by
  obtain ⟨o, es, ep, e, d, r⟩ := hn
  obtain ⟨o', e', l⟩ := hk o e
  exact ⟨o', es, ep, e', l.data.trans d, r⟩

theorem Fo.move {f : Fm} {P Z Z' : OM} {H H' : Cells} {V : Vs} {s s' : Shared} (x : Fo f P Z H V s) (hZ : Sub Z Z') (hu : ∀ d ∈ f.own, Un P Z' H' d)
    (hk : ∀ b o, (b ∈ f.own ∨ ∃ o, P b = some o) → s.heap.get? b = some o → Stays s'.heap b o) : Fo f P Z' H' V s' where
  hk := x.hk
  hg := x.hg
  hb := x.hb
  ns := by
    obtain ⟨m, hn, h⟩ := x.ns
    exact ⟨m, Ns_like hn fun o e => hk _ o (.inl x.lo) e, fun k h1 h2 t h3 => let ⟨v, a, b⟩ := h k h1 h2 t h3; ⟨v, a, b.mono hZ⟩⟩
  cs := fun k h1 h2 t h3 => by
    obtain ⟨c, v, a, ⟨o, e, d⟩, r⟩ := x.cs k h1 h2 t h3
    obtain ⟨o', e', l⟩ := hk c o (x.ce _ _ a).2.2 e
    exact ⟨c, v, a, ⟨o', e', l.data.trans d⟩, r.mono hZ⟩
  kd := x.kd
  lo := x.lo
  ow := hu
  lv := fun d hd => let ⟨o, e⟩ := x.lv d hd; let ⟨o', e', _⟩ := hk d o (.inl hd) e; ⟨o', e'⟩
  ce := fun y c e => by
    obtain ⟨a, ⟨v, o, e', d⟩, b⟩ := x.ce y c e
    obtain ⟨o', e'', l⟩ := hk c o b e'
    exact ⟨a, ⟨v, o', e'', l.data.trans d⟩, b⟩
  ci := x.ci
  fu := x.fu
  gb := x.gb
  cc := x.cc

section
variable {g : Gl} {f : Fm} {P Z : OM} {H : Cells} {V : Vs} {s : Shared}

theorem Rel.KX (x : Rel g f P Z V H s) : g.K.In s.heap := x.st.KX
theorem Rel.keep (x : Rel g f P Z V H s) {h' : Heap} {tk : Nat} (hk : ∀ b o, s.heap.get? b = some o → h'.get? b = some o) : Rel g f P Z V H { s with heap := h', toks := tk } :=
  ⟨x.st.keep hk, x.fo.move Sub.rfl x.fo.ow fun b o _ e => .of (hk b o e), x.sk⟩
theorem Rel.toks (x : Rel g f P Z V H s) {tk : Nat} : Rel g f P Z V H { s with toks := tk } := x.keep (h' := s.heap) fun _ _ e => e
theorem Rel.ext (x : Rel g f P Z V H s) {I : Addr} (u : Un P Z H I) (ho : I ∉ f.own) {h' : Heap} {tk : Nat} (hk : Heap.ExtBut I s.heap h') : Rel g f P Z V H { s with heap := h', toks := tk } :=
  ⟨x.st.ext u hk, x.fo.move Sub.rfl x.fo.ow fun b o q e => .of (hk b o (by
    rintro rfl
    rcases q with q | ⟨o', q⟩
    · exact ho q
    · rw [u.1] at q; cases q) e), x.sk⟩
theorem Rel.fresh_own (x : Rel g f P Z V H s) {d : Addr} (hd : s.heap.get? d = none) : d ∉ f.own := fun h => by
  obtain ⟨o, e⟩ := x.fo.lv d h
  rw [e] at hd; cases hd
theorem Rel.drop (x : Rel g f P Z V H s) {H' : Cells} (hs : SubH H' H) : Rel g f P Z V H' s :=
  ⟨x.st.drop hs, x.fo.move Sub.rfl (fun d hd => ⟨(x.fo.ow d hd).1, (x.fo.ow d hd).2.1, fun a c e => (x.fo.ow d hd).2.2 a c (hs a c e)⟩) fun _ _ _ e => .of e, x.sk⟩
theorem Rel.addZ (x : Rel g f P Z V H s) {a : Addr} {o : Obj} (ho : s.heap.get? a = some o) (u : Un P Z H a) (hn : a ∉ f.own) : Rel g f P (updZ Z a o) V H s :=
  ⟨x.st.addZ ho u, x.fo.move (sub_updZ u.2.1) (fun d hd => ⟨(x.fo.ow d hd).1, by rw [updZ_ne (fun (q : d = a) => hn (q ▸ hd))]; exact (x.fo.ow d hd).2.1, (x.fo.ow d hd).2.2⟩) fun _ _ _ e => .of e, x.sk⟩
theorem Rel.addH (x : Rel g f P Z V H s) {a : Addr} {c : Cell} (hc : CellAt s.heap Z a c) (u : ∀ d ∈ c.addrs a, Un P Z H d ∧ d ∉ f.own) : Rel g f P Z V (updH H a c) s :=
  ⟨x.st.addH hc fun d hd => (u d hd).1, x.fo.move Sub.rfl (fun d hd => ⟨(x.fo.ow d hd).1, (x.fo.ow d hd).2.1, fun b c' e hm => by
    by_cases q : b = a
    · subst q; rw [updH_self] at e; cases e; exact (u d hm).2 hd
    · rw [updH_ne q] at e; exact (x.fo.ow d hd).2.2 b c' e hm⟩) fun _ _ _ e => .of e, x.sk⟩
theorem Rel.setH (x : Rel g f P Z V H s) {a : Addr} {c c' : Cell} (hc : H a = some c) {h' : Heap} {tk : Nat}
    (hk : ∀ b o, b ∉ c.addrs a → s.heap.get? b = some o → h'.get? b = some o) (hc' : CellAt h' Z a c') (he : c'.addrs a = c.addrs a) : Rel g f P Z V (updH H a c') { s with heap := h', toks := tk } :=
  ⟨x.st.setH hc hk hc' he, x.fo.move Sub.rfl (fun d hd => ⟨(x.fo.ow d hd).1, (x.fo.ow d hd).2.1, fun b c'' e hm => by
    by_cases q : b = a
    · subst q; rw [updH_self] at e; cases e; exact (x.fo.ow d hd).2.2 b c hc (he ▸ hm)
    · rw [updH_ne q] at e; exact (x.fo.ow d hd).2.2 b c'' e hm⟩) fun b o q e => .of (hk b o (by
    rcases q with q | ⟨o', q⟩
    · exact (x.fo.ow b q).2.2 a c hc
    · intro hm; rw [(x.st.ow a c hc b hm).1] at q; cases q) e), x.sk⟩
theorem Rel.freeze (x : Rel g f P Z V H s) {a : Addr} {c : Cell} (hc : H a = some c) : ∃ Z', Sub Z Z' ∧ Rel g f P Z' V (delH H a) s ∧ Rd Z' (.ref a) c.tree := by
  have x' := x.drop (H' := delH H a) subH_delH
  have u := delH_none x.st hc
  have hl := x.st.cl a c hc
  have no : ∀ d ∈ c.addrs a, d ∉ f.own := fun d hd hm => (x.fo.ow d hm).2.2 a c hc hd
  cases c with
  | list ts =>
    obtain ⟨vs, ep, e, r⟩ := hl
    have ua := u a (by simp [Cell.addrs])
    exact ⟨_, sub_updZ ua.2.1, x'.addZ e ua (no a (by simp [Cell.addrs])), .lst updZ_self (r.mono (sub_updZ ua.2.1))⟩
  | inst C dx fs =>
    obtain ⟨e, es, n, e', r⟩ := hl
    have ua := u a (by simp [Cell.addrs])
    have ud := u dx (by simp [Cell.addrs])
    have hne : dx ≠ a := by
      rintro rfl
      rw [e] at e'
      simp only [instObj, dictOf, Option.some.injEq, Obj.mk.injEq] at e'
      cases e'.1
    have x1 := x'.addZ e ua (no a (by simp [Cell.addrs]))
    have ud' : Un P (updZ Z a (instObj C dx)) (delH H a) dx := ⟨ud.1, by rw [updZ_ne hne]; exact ud.2.1, ud.2.2⟩
    have s1 : Sub Z (updZ Z a (instObj C dx)) := sub_updZ ua.2.1
    have s2 : Sub (updZ Z a (instObj C dx)) (updZ (updZ Z a (instObj C dx)) dx (dictOf es n)) := sub_updZ ud'.2.1
    exact ⟨_, s1.trans s2, x1.addZ e' ud' (no dx (by simp [Cell.addrs])), .inst (s2 _ _ updZ_self) updZ_self (r.mono (s1.trans s2))⟩

/-- a store into a name of the frame -/
theorem Rel.setL (x : Rel g f P Z V H s) {k : Nat} {v : Value} {t : T} (hk : k < nN) (hl : f.env.kindOf (nm k) = some .local) (r : Rd Z v t) {h' : Heap} {tk : Nat} {m : Str → Option Value}
    (hm : s.heap.Ns f.env.locals m) (hn : h'.Ns f.env.locals (fun y => if y = nm k then some v else m y)) (hs : Heap.SameBut f.env.locals s.heap h') : Rel g f P Z (setT V k t) H { s with heap := h', toks := tk } := by
  have up : ∀ b o, b ≠ f.env.locals → s.heap.get? b = some o → h'.get? b = some o := fun b o hb e => (hs.2 b hb).trans e
  have uL := x.fo.ow _ x.fo.lo
  refine ⟨x.st.ext uL (fun b o hb e => up b o hb e), ?_, x.sk⟩
  obtain ⟨m', hm', h⟩ := x.fo.ns
  have em : m' = m := funext fun y => hm'.agree hm y
  subst em
  refine ⟨x.fo.hk, x.fo.hg, x.fo.hb, ⟨_, hn, fun j hj hjl t' ht => ?_⟩, fun j hj hjc t' ht => ?_, fun j hj => x.fo.kd j (by rwa [keys_set] at hj), x.fo.lo, x.fo.ow, fun d hd => ?_, fun y c e => ?_, x.fo.ci, x.fo.fu, x.fo.gb, x.fo.cc⟩
  · rw [getT_set] at ht
    by_cases q : j = k
    · subst q
      rw [if_pos rfl] at ht
      split at ht
      · cases ht; exact ⟨v, if_pos rfl, r⟩
      · cases ht
    · rw [if_neg q] at ht
      obtain ⟨v', a, b⟩ := h j hj hjl t' ht
      exact ⟨v', by rw [if_neg fun e => q (nm_inj hj hk e)]; exact a, b⟩
  · rw [getT_set] at ht
    have q : j ≠ k := by rintro rfl; rw [hl] at hjc; cases hjc
    rw [if_neg q] at ht
    obtain ⟨c, v', a, ⟨o, e, d⟩, b⟩ := x.fo.cs j hj hjc t' ht
    exact ⟨c, v', a, ⟨o, up c o (x.fo.ce _ _ a).1 e, d⟩, b⟩
  · by_cases q : d = f.env.locals
    · subst q
      obtain ⟨o, es, ep, e, _⟩ := hn
      exact ⟨o, e⟩
    · obtain ⟨o, e⟩ := x.fo.lv d hd
      exact ⟨o, up d o q e⟩
  · obtain ⟨a, ⟨v', o, e', d⟩, b⟩ := x.fo.ce y c e
    exact ⟨a, ⟨v', o, up c o a e', d⟩, b⟩
theorem Rel.setC (x : Rel g f P Z V H s) {k : Nat} {v : Value} {t : T} {c : Addr} (hk : k < nN) (hl : f.env.kindOf (nm k) = some .cell) (r : Rd Z v t) (hc : f.env.cells.lookup (nm k) = some c) (hw : c ∈ f.own) {h' : Heap} {tk : Nat}
    (hn : h'.IsCell c (some v)) (hs : Heap.SameBut c s.heap h') : Rel g f P Z (setT V k t) H { s with heap := h', toks := tk } := by
  have up : ∀ b o, b ≠ c → s.heap.get? b = some o → h'.get? b = some o := fun b o hb e => (hs.2 b hb).trans e
  have uC := x.fo.ow _ hw
  refine ⟨x.st.ext uC (fun b o hb e => up b o hb e), ?_, x.sk⟩
  obtain ⟨m, hm, h⟩ := x.fo.ns
  refine ⟨x.fo.hk, x.fo.hg, x.fo.hb, ⟨m, hm.sameBut hs (Ne.symm (x.fo.ce _ _ hc).1), fun j hj hjl t' ht => ?_⟩, fun j hj hjc t' ht => ?_, fun j hj => x.fo.kd j (by rwa [keys_set] at hj), x.fo.lo, x.fo.ow, fun d hd => ?_, fun y c' e => ?_, x.fo.ci, x.fo.fu, x.fo.gb, x.fo.cc⟩
  · rw [getT_set] at ht
    have q : j ≠ k := by rintro rfl; rw [hl] at hjl; cases hjl
    rw [if_neg q] at ht
    exact h j hj hjl t' ht
  · rw [getT_set] at ht
    by_cases q : j = k
    · subst q
      rw [if_pos rfl] at ht
      split at ht
      · cases ht; exact ⟨c, v, hc, hn, r⟩
      · cases ht
    · rw [if_neg q] at ht
      obtain ⟨c', v', a, ⟨o, e, d⟩, b⟩ := x.fo.cs j hj hjc t' ht
      refine ⟨c', v', a, ⟨o, up c' o (fun z => ?_) e, d⟩, b⟩
      subst z
      exact q (nm_inj hj hk (x.fo.ci _ _ _ a hc))
  · by_cases q : d = c
    · subst q
      obtain ⟨o, e, _⟩ := hn
      exact ⟨o, e⟩
    · obtain ⟨o, e⟩ := x.fo.lv d hd
      exact ⟨o, up d o q e⟩
  · obtain ⟨a, ⟨v', o, e', d⟩, b⟩ := x.fo.ce y c' e
    by_cases q : c' = c
    · subst q; exact ⟨a, ⟨_, hn⟩, b⟩
    · exact ⟨a, ⟨v', o, up c' o q e', d⟩, b⟩

theorem Rel.protect (x : Rel g f P Z V H s) {I : Addr} {o : Obj} (ho : s.heap.get? I = some o) (u : Un P Z H I) (hn : I ∉ f.own) : Rel g f (updZ P I o) Z V H s :=
  ⟨x.st.protect ho u, { x.fo with
    ow := fun d hd => ⟨by rw [updZ_ne (fun (q : d = I) => hn (q ▸ hd))]; exact (x.fo.ow d hd).1, (x.fo.ow d hd).2⟩
    ce := fun y c e => by
      obtain ⟨a, b, r⟩ := x.fo.ce y c e
      exact ⟨a, b, r.imp_right fun ⟨o', q⟩ => ⟨o', sub_updZ u.1 _ _ q⟩⟩ }, x.sk.sub (sub_updZ u.1)⟩
theorem Rel.unprotect {I : Addr} {o : Obj} (x : Rel g f (updZ P I o) Z V H s) (hP : P I = none) (hb : g.s1.heap.get? I = none) (base : Sub g.s1.heap.get? P) (hcl : ∀ y, f.env.cells.lookup y ≠ some I) (hd : ∀ es n, o.data ≠ .dict es n) :
    Rel g f P Z V H s ∧ Un P Z H I ∧ s.heap.get? I = some o ∧ I ∉ f.own := by
  obtain ⟨a, b, c⟩ := x.st.unprotect hP hb base hd
  have hI : I ∉ f.own := fun h => by have := (x.fo.ow I h).1; rw [updZ_self] at this; cases this
  refine ⟨⟨a, { x.fo with
    ow := fun d hd => ⟨by have := (x.fo.ow d hd).1; rwa [updZ_ne (fun (q : d = I) => hI (q ▸ hd))] at this, (x.fo.ow d hd).2⟩
    ce := fun y c e => by
      obtain ⟨a, b, r⟩ := x.fo.ce y c e
      refine ⟨a, b, r.imp_right fun ⟨o', q⟩ => ?_⟩
      by_cases z : c = I
      · subst z; exact absurd e (hcl y)
      · rw [updZ_ne z] at q; exact ⟨o', q⟩ }, fun l e => ?_⟩, b, c, hI⟩
  obtain ⟨q1, q2, q3⟩ := x.sk l e
  refine ⟨q1, q2, fun env he => ?_⟩
  obtain ⟨q4, L, oL, q5, q6, q7, q8⟩ := q3 env he
  refine ⟨q4, L, oL, q5, q6, ?_, q8⟩
  rw [updZ_ne] at q7
  · exact q7
  · rintro rfl
    rw [updZ_self] at q7
    cases q7
    obtain ⟨es, n, q8⟩ := q8
    exact hd es n q8

/-- what a callee finds protected -/
noncomputable def calleeP (g : Gl) (P Z : OM) (H : Cells) (s : Shared) : OM := fun b =>
  open Classical in if (∃ o, Z b = some o) ∧ g.s1.heap.get? b = none then none else if ∃ a c, H a = some c ∧ b ∈ c.addrs a then none else (P b).or (s.heap.get? b)
theorem calleeP_sub {g : Gl} {P Z : OM} {H : Cells} {s : Shared} (x : St g P Z H s) : Sub P (calleeP g P Z H s) := fun b o e => by
    unfold calleeP
    rw [if_neg, if_neg, e]
    · rfl
    · rintro ⟨a, c, hc, hm⟩; rw [(x.ow a c hc b hm).1] at e; cases e
    · rintro ⟨⟨o', q⟩, hb⟩
      rcases x.zp b o' q with r | ⟨o'', r⟩
      · rw [r] at e; cases e
      · rw [hb] at r; cases r
theorem calleeP_own (x : Rel g f P Z V H s) : ∀ d ∈ f.own, ∀ o, s.heap.get? d = some o → calleeP g P Z H s d = some o := fun d hd o e => by
    have u := x.fo.ow d hd
    unfold calleeP
    rw [if_neg, if_neg, u.1, e]
    · rfl
    · rintro ⟨a, c, hc, hm⟩; exact u.2.2 a c hc hm
    · rintro ⟨⟨o', q⟩, _⟩; rw [u.2.1] at q; cases q
theorem Rel.call (x : Rel g f P Z V H s) : St g (calleeP g P Z H s) Z H s ∧
    ∀ Z' H' s', Sub Z Z' → St g (calleeP g P Z H s) Z' H' s' → Rel g f P Z' V H' s' := by
  have hP : Sub P (calleeP g P Z H s) := calleeP_sub x.st
  have back : ∀ d, calleeP g P Z H s d = none → P d = none := fun d e => by
    cases q : P d with
    | none => rfl
    | some o => rw [hP d o q] at e; cases e
  have own := calleeP_own x
  refine ⟨⟨x.st.sh, x.st.base.trans hP, x.st.kept, fun a o e => ?_, x.st.kz, fun a o e => ?_, x.st.cl, fun a c hc d hd => ⟨?_, (x.st.ow a c hc d hd).2⟩, x.st.ap⟩, fun Z' H' s' hZ y => ?_⟩
  · unfold calleeP at e
    split at e
    · cases e
    · split at e
      · cases e
      · cases q : P a with
        | none => rw [q] at e; exact .of e
        | some o' => rw [q] at e; cases e; exact x.st.kp a _ q
  · by_cases hb : g.s1.heap.get? a = none
    · left; unfold calleeP; rw [if_pos ⟨⟨o, e⟩, hb⟩]
    · right; exact Option.ne_none_iff_exists'.mp hb
  · unfold calleeP
    split
    · rfl
    · rw [if_pos ⟨a, c, hc, hd⟩]
  · refine ⟨⟨y.sh, x.st.base, y.kept, fun a o e => y.kp a o (hP a o e), y.kz, fun a o e => (y.zp a o e).imp_left (back a), y.cl, fun a c hc d hd => ⟨back d (y.ow a c hc d hd).1, (y.ow a c hc d hd).2⟩, y.ap⟩, ?_, x.sk⟩
    refine x.fo.move hZ (fun d hd => ?_) fun b o q e => ?_
    · obtain ⟨o, e⟩ := x.fo.lv d hd
      have pd := own d hd o e
      refine ⟨(x.fo.ow d hd).1, ?_, fun a c hc hm => ?_⟩
      · cases q : Z' d with
        | none => rfl
        | some o' =>
          rcases y.zp d o' q with r | ⟨o'', r⟩
          · rw [pd] at r; cases r
          · have := x.st.base d o'' r; rw [(x.fo.ow d hd).1] at this; cases this
      · have := (y.ow a c hc d hm).1; rw [pd] at this; cases this
    · rcases q with q | ⟨o', q⟩
      · exact y.kp b o (own b q o e)
      · obtain ⟨o2, e2, l2⟩ := y.kp b o' (hP b o' q)
        obtain ⟨o3, e3, l3⟩ := x.st.kp b o' q
        rw [e] at e3; cases e3; exact ⟨o2, e2, l3.eucl l2⟩
end
end

section
noncomputable def Room (n : Nat) (A : Around) : Prop := A.handled = none ∧ A.depth + 4 * n + 8 ≤ 700 ∧ A.units + 60 * n + 300 ≤ 5000
theorem Room.le {n m : Nat} {A : Around} (h : Room n A) (hm : m ≤ n) : Room m A := ⟨h.1, by have := h.2.1; walk_at "la", by have := h.2.2; walk_at "la"⟩
theorem Room.units {n : Nat} {A : Around} (h : Room n A) : A.units + 64 < cLine := by have := h.2.2; unfold cLine; walk_at "la"
theorem Room.units0 {n : Nat} {A : Around} (h : Room n A) : A.units < cLine := by have := h.2.2; unfold cLine; walk_at "la"
theorem Room.deep {n : Nat} {A : Around} (h : Room n A) : A.depth < recursionLimit := by have := h.2.1; unfold recursionLimit; walk_at "la"

/-- room within a frame -/
structure RoomF (f : Fm) (n : Nat) (A : Around) : Prop where
  h : A.handled = none
  d : A.depth + 4 * n + 8 ≤ 700
  u : A.units + 60 * n + 300 ≤ 5000
  fr : ∀ l, f.outer = some l → A.frames = some (f.env :: l)
theorem RoomF.le {f : Fm} {n m : Nat} {A : Around} (h : RoomF f n A) (hm : m ≤ n) : Room m A := ⟨h.1, Nat.le_trans (Nat.add_le_add_right (Nat.add_le_add_left (Nat.mul_le_mul_left 4 hm) _) 8) h.2, Nat.le_trans (Nat.add_le_add_right (Nat.add_le_add_left (Nat.mul_le_mul_left 60 hm) _) 300) h.3⟩
theorem RoomF.units {f : Fm} {n : Nat} {A : Around} (h : RoomF f n A) : A.units + 64 < cLine := (h.le (Nat.le_refl _)).units
theorem RoomF.units0 {f : Fm} {n : Nat} {A : Around} (h : RoomF f n A) : A.units < cLine := (h.le (Nat.le_refl _)).units0
theorem RoomF.deep {f : Fm} {n : Nat} {A : Around} (h : RoomF f n A) : A.depth < recursionLimit := (h.le (Nat.le_refl _)).deep
theorem RoomF.to {f fc : Fm} {n : Nat} {A : Around} (h : RoomF f n A) (ho : fc.outer = none) : RoomF fc n A := ⟨h.1, h.2, h.3, fun l e => by rw [ho] at e; cases e⟩

noncomputable def NoE : Value → Shared → Prop := fun _ _ => False
inductive EP (g : Gl) (f : Fm) (P Z : OM) (V : Vs) (Q : T → Cells → Prop) (v : Value) (s' : Shared) : Prop
  | intro (Z' : OM) (t : T) (H' : Cells) (z : Sub Z Z') (x : Rel g f P Z' V H' s') (r : Rd Z' v t) (q : Q t H')
inductive LP (g : Gl) (f : Fm) (P Z : OM) (V : Vs) (Q : List T → Cells → Prop) (vs : List Value) (s' : Shared) : Prop
  | intro (Z' : OM) (ts : List T) (H' : Cells) (z : Sub Z Z') (x : Rel g f P Z' V H' s') (r : RdL Z' vs ts) (q : Q ts H')
inductive BP (g : Gl) (f : Fm) (P Z : OM) (V : Vs) (Q : Bool → Cells → Prop) (b : Bool) (s' : Shared) : Prop
  | intro (Z' : OM) (H' : Cells) (z : Sub Z Z') (x : Rel g f P Z' V H' s') (q : Q b H')

section
variable {g : Gl} {f : Fm} {P Z Z' : OM} {V : Vs} {H : Cells} {s : Shared}
theorem EP.mk {Q : T → Cells → Prop} {v : Value} {t : T} (x : Rel g f P Z V H s) (r : Rd Z v t) (q : Q t H) : EP g f P Z V Q v s := ⟨Z, t, H, Sub.rfl, x, r, q⟩
theorem EP.up {Q : T → Cells → Prop} {v : Value} (hs : Sub Z Z') (h : EP g f P Z' V Q v s) : EP g f P Z V Q v s :=
  h.casesOn fun Z'' t H' a b c d => ⟨Z'', t, H', hs.trans a, b, c, d⟩
theorem LP.up {Q : List T → Cells → Prop} {v : List Value} (hs : Sub Z Z') (h : LP g f P Z' V Q v s) : LP g f P Z V Q v s :=
  h.casesOn fun Z'' t H' a b c d => ⟨Z'', t, H', hs.trans a, b, c, d⟩
theorem BP.up {Q : Bool → Cells → Prop} {b : Bool} (hs : Sub Z Z') (h : BP g f P Z' V Q b s) : BP g f P Z V Q b s :=
  h.casesOn fun Z'' H' a b c => ⟨Z'', H', hs.trans a, b, c⟩
end

/-- an expression -/
structure Ev (g : Gl) (f : Fm) (n : Nat) (e : Expr) (V : Vs) (H : Cells) (Q : T → Cells → Prop) : Prop where
  go : ∀ A P Z s, RoomF f n A → Rel g f P Z V H s → wpAny g.M A (eval e f.env) (EP g f P Z V Q) NoE s
/-- arguments, items of a display -/
structure Evs (g : Gl) (f : Fm) (n : Nat) (es : List Expr) (V : Vs) (H : Cells) (Q : List T → Cells → Prop) : Prop where
  go : ∀ A P Z s pos, RoomF f n A → Rel g f P Z V H s → wpAny g.M A (spliced (backTo pos (starEach es f.env))) (LP g f P Z V Q) NoE s
/-- a test -/
structure Ts (g : Gl) (f : Fm) (n : Nat) (e : Expr) (V : Vs) (H : Cells) (Q : Bool → Cells → Prop) : Prop where
  go : ∀ A P Z s, RoomF f n A → Rel g f P Z V H s → wpAny g.M A (isTrue e f.env (eval e f.env)) (BP g f P Z V Q) NoE s
/-- a step upon values -/
structure Op1 (g : Gl) (f : Fm) (n : Nat) (tree : Value → Sem Value) (a : T) (V : Vs) (H : Cells) (Q : T → Cells → Prop) : Prop where
  go : ∀ A P Z s va, RoomF f n A → Rel g f P Z V H s → Rd Z va a → wpAny g.M A (tree va) (EP g f P Z V Q) NoE s
structure Op2 (g : Gl) (f : Fm) (n : Nat) (tree : Value → Value → Sem Value) (a b : T) (V : Vs) (H : Cells) (Q : T → Cells → Prop) : Prop where
  go : ∀ A P Z s va vb, RoomF f n A → Rel g f P Z V H s → Rd Z va a → Rd Z vb b → wpAny g.M A (tree va vb) (EP g f P Z V Q) NoE s
structure OpB (g : Gl) (f : Fm) (n : Nat) (tree : Value → Sem Bool) (a : T) (V : Vs) (H : Cells) (Q : Bool → Cells → Prop) : Prop where
  go : ∀ A P Z s va, RoomF f n A → Rel g f P Z V H s → Rd Z va a → wpAny g.M A (tree va) (BP g f P Z V Q) NoE s

@[reducible] noncomputable def kOp2 (g : Gl) (f : Fm) (n : Nat) (tree : Value → Value → Sem Value) (a : T) (V : Vs) (Q : T → Cells → Prop) : T → Cells → Prop := fun b H => Op2 g f n tree a b V H Q
@[reducible] noncomputable def kOp1 (g : Gl) (f : Fm) (n : Nat) (tree : Value → Sem Value) (V : Vs) (Q : T → Cells → Prop) : T → Cells → Prop := fun a H => Op1 g f n tree a V H Q
@[reducible] noncomputable def kEv2 (g : Gl) (f : Fm) (n : Nat) (r : Expr) (tree : Value → Value → Sem Value) (V : Vs) (Q : T → Cells → Prop) : T → Cells → Prop := fun a H => Ev g f n r V H (kOp2 g f n tree a V Q)
@[reducible] noncomputable def kIf (g : Gl) (f : Fm) (n : Nat) (x y : Expr) (V : Vs) (Q : T → Cells → Prop) : Bool → Cells → Prop := fun b H => if b then Ev g f n x V H Q else Ev g f n y V H Q
inductive kTs (R : Bool → Cells → Prop) (c : T) (H : Cells) : Prop
  | mk (q : Bool) (h : c = .bool q) (r : R q H)
theorem kts_b {R : Bool → Cells → Prop} {b : Bool} {H : Cells} (h : R b H) : kTs R (.bool b) H := ⟨b, rfl, h⟩
@[reducible] noncomputable def kNot (R : Bool → Cells → Prop) : Bool → Cells → Prop := fun b H => R (!b) H
inductive kAnd2 (g : Gl) (f : Fm) (n : Nat) (e : Expr) (V : Vs) (Q : T → Cells → Prop) (t : T) (H : Cells) : Prop
  | mk (q : Bool) (h : t = .bool q) (r : if q then Ev g f n e V H Q else Q (.bool false) H)
inductive kOr2 (g : Gl) (f : Fm) (n : Nat) (e : Expr) (V : Vs) (Q : T → Cells → Prop) (t : T) (H : Cells) : Prop
  | mk (q : Bool) (h : t = .bool q) (r : if q then Q (.bool true) H else Ev g f n e V H Q)
inductive kNotV (Q : T → Cells → Prop) (a : T) (H : Cells) : Prop
  | mk (b : Bool) (h : a = .bool b) (q : Q (.bool (!b)) H)
@[reducible] noncomputable def kArg2 (t : T) (L : List T → Cells → Prop) : List T → Cells → Prop := fun ts H => L (t :: ts) H
@[reducible] noncomputable def kArg1 (g : Gl) (f : Fm) (n : Nat) (es : List Expr) (V : Vs) (L : List T → Cells → Prop) : T → Cells → Prop := fun t H => Evs g f n es V H (kArg2 t L)
@[reducible] noncomputable def kTup (Q : T → Cells → Prop) : List T → Cells → Prop := fun ts H => ts.length ≤ 1000 ∧ Q (.tup ts) H
@[reducible] noncomputable def kLst (Q : T → Cells → Prop) : List T → Cells → Prop := fun ts H => ts.length ≤ 1000 ∧ Q (.lst ts) H
@[reducible] noncomputable def kLstc (Q : T → Cells → Prop) : List T → Cells → Prop := fun ts H => ts.length ≤ 1000 ∧ ∀ a, H a = none → Q (.ref a) (updH H a (.list ts))
section
variable {g : Gl} {f : Fm} {n : Nat} {V : Vs} {H : Cells} {Q : T → Cells → Prop}

theorem noE {E : Value → Shared → Prop} : ∀ (e : Value) (s : Shared), NoE e s → E e s := fun _ _ h => h.elim

theorem ev_none {k pos} (h : Q .none H) : Ev g f n (.Constant .none k pos) V H Q := .mk fun _ _ _ _ _ x => wpAny_Constant_none (EP.mk x .none h)
theorem ev_bool {b k pos} (h : Q (.bool b) H) : Ev g f n (.Constant (.bool b) k pos) V H Q := .mk fun _ _ _ _ _ x => wpAny_Constant_bool (EP.mk x (.bool b) h)
theorem ev_int {i k pos} (h : Q (.int i) H) : Ev g f n (.Constant (.int i) k pos) V H Q := .mk fun _ _ _ _ _ x => wpAny_Constant_int (EP.mk x.toks (.int i _) h)
theorem ev_str {i : Str} {k pos} (h : Q (.str i) H) : Ev g f n (.Constant (.str i) k pos) V H Q := .mk fun _ _ _ _ _ x => wpAny_Constant_str (EP.mk x.toks (.str i _) h)
theorem ev_bytes {b : List UInt8} {k pos} (h : Q (.bytes b) H) : Ev g f n (.Constant (.bytes b) k pos) V H Q := .mk fun A P Z s _ x => by
  show wpAny g.M A (mkTextBytes b.toArray) _ _ s
  refine wpAny_mkTextBytes (EP.mk x.toks ?_ h)
  have := Rd.bytes (Z := Z) b.toArray s.toks
  simpa using this

theorem ev_name {k : Nat} {pos : Pos} {t : T} (hv : getT V k = some t) (h : Q t H) : Ev g f n (.Name (nm k) pos) V H Q := .mk fun A P Z s _ x => by
  obtain ⟨hk, hkd⟩ := x.fo.kd k (has_mem V k (get_has V k t hv))
  refine wpAny_Name ?_ (nm_debug hk)
  rcases hkd with hl | ⟨hl, c₀, hc₀⟩
  · obtain ⟨m, hn, hm⟩ := x.fo.ns
    obtain ⟨v, a, r⟩ := hm k hk hl t hv
    exact wpAny_loadName_local x.fo.hk hl hn a (EP.mk x r h)
  · obtain ⟨c, v, hc, hi, r⟩ := x.fo.cs k hk hl t hv
    exact wpAny_loadName_cell x.fo.hk hl hc hi (EP.mk x r h)

theorem ev_binop {l r op pos} (h : Ev g f n l V H (kEv2 g f n r (binaryOp op) V Q)) : Ev g f n (.BinOp l op r pos) V H Q := .mk fun A P Z s hr x =>
  wpAny_BinOp (wpAny_mono (h.go A P Z s hr x) (fun va s1 ⟨Z1, ta, H1, z1, x1, ra, q1⟩ => wpAny_mono (q1.go A P Z1 s1 hr x1) (fun vb s2 ⟨Z2, tb, H2, z2, x2, rb, q2⟩ =>
    wpAny_mono (q2.go A P Z2 s2 va vb hr x2 (ra.mono z2) rb) (fun v s3 h3 => EP.up (z1.trans z2) h3) fun _ _ e => e) fun _ _ e => e) fun _ _ e => e)
theorem ev_unop {op x pos} (h : Ev g f n x V H (kOp1 g f n (unaryOp op) V Q)) : Ev g f n (.UnaryOp op x pos) V H Q := .mk fun A P Z s hr x =>
  wpAny_UnaryOp (wpAny_mono (h.go A P Z s hr x) (fun va s1 ⟨Z1, ta, H1, z1, x1, ra, q1⟩ => wpAny_mono (q1.go A P Z1 s1 va hr x1 ra) (fun v s3 h3 => EP.up z1 h3) fun _ _ e => e) fun _ _ e => e)
theorem ev_cmp {l r op pos} (h : Ev g f n l V H (kEv2 g f n r (compareOp op) V Q))
    (hm : behindInMarks op r = false := by with_unfolding_all rfl) : Ev g f n (.Compare l [op] [r] pos) V H Q := .mk fun A P Z s hr x =>
  wpAny_Compare1 (wpAny_mono (h.go A P Z s hr x) (fun va s1 ⟨Z1, ta, H1, z1, x1, ra, q1⟩ => wpAny_mono (q1.go A P Z1 s1 hr x1) (fun vb s2 ⟨Z2, tb, H2, z2, x2, rb, q2⟩ =>
    wpAny_mono (q2.go A P Z2 s2 va vb hr x2 (ra.mono z2) rb) (fun v s3 h3 => EP.up (z1.trans z2) h3) fun _ _ e => e) fun _ _ e => e) fun _ _ e => e) hm
theorem ev_ifexp {test body orelse pos} (h : Ts g f n test V H (kIf g f n body orelse V Q)) : Ev g f n (.IfExp test body orelse pos) V H Q := .mk fun A P Z s hr x =>
  wpAny_IfExp (wpAny_mono (h.go A P Z s hr x) (fun b s1 ⟨Z1, H1, z1, x1, q1⟩ => by
    cases b
    · exact wpAny_mono (q1.go A P Z1 s1 hr x1) (fun _ _ h => EP.up z1 h) fun _ _ e => e
    · exact wpAny_mono (q1.go A P Z1 s1 hr x1) (fun _ _ h => EP.up z1 h) fun _ _ e => e) fun _ _ e => e)

variable {R : Bool → Cells → Prop}
theorem ts_cmp {l r op pos} (h : Ev g f n l V H (kEv2 g f n r (compareOp op) V (kTs R)))
    (hm : behindInMarks op r = false := by with_unfolding_all rfl) : Ts g f n (.Compare l [op] [r] pos) V H R := .mk fun A P Z s hr x =>
  wpAny_isTrue_Compare1 (wpAny_mono (h.go A P Z s hr x) (fun va s1 ⟨Z1, ta, H1, z1, x1, ra, q1⟩ => wpAny_mono (q1.go A P Z1 s1 hr x1) (fun vb s2 ⟨Z2, tb, H2, z2, x2, rb, q2⟩ =>
    wpAny_mono (q2.go A P Z2 s2 va vb hr x2 (ra.mono z2) rb) (fun v s3 ⟨Z3, tc, H3, z3, x3, rc, q, hc, q3⟩ => by
      subst hc
      cases rc.view
      exact wpAny_truthy_bool ⟨Z3, H3, (z1.trans z2).trans z3, x3, q3⟩) fun _ _ e => e) fun _ _ e => e) fun _ _ e => e) hm
theorem ts_not {x pos} (h : Ts g f n x V H (kNot R)) : Ts g f n (.UnaryOp .Not x pos) V H R := .mk fun A P Z s hr y =>
  wpAny_isTrue_Not (wpAny_mono (h.go A P Z s hr y) (fun b s1 ⟨Z1, H1, z1, x1, q1⟩ => ⟨Z1, H1, z1, x1, q1⟩) fun _ _ e => e)

structure Tall (g : Gl) (f : Fm) (n : Nat) (op : BoolOp) (es : List Expr) (V : Vs) (H : Cells) (R : Bool → Cells → Prop) : Prop where
  go : ∀ A P Z s, RoomF f n A → Rel g f P Z V H s → wpAny g.M A (allTrue op es f.env) (BP g f P Z V R) NoE s
@[reducible] noncomputable def kAndT (g : Gl) (f : Fm) (n : Nat) (es : List Expr) (V : Vs) (R : Bool → Cells → Prop) : Bool → Cells → Prop := fun b H => if b then Tall g f n .And es V H R else R false H
@[reducible] noncomputable def kOrT (g : Gl) (f : Fm) (n : Nat) (es : List Expr) (V : Vs) (R : Bool → Cells → Prop) : Bool → Cells → Prop := fun b H => if b then R true H else Tall g f n .Or es V H R
theorem ts_boolop {op es pos} (h : Tall g f n op es V H R) : Ts g f n (.BoolOp op es pos) V H R := .mk fun A P Z s hr x => wpAny_isTrue_BoolOp (h.go A P Z s hr x)
theorem ta_and_nil (h : R true H) : Tall g f n .And [] V H R := .mk fun _ _ Z _ _ x => wpAny_allTrue_And_nil ⟨Z, H, Sub.rfl, x, h⟩
theorem ta_or_nil (h : R false H) : Tall g f n .Or [] V H R := .mk fun _ _ Z _ _ x => wpAny_allTrue_Or_nil ⟨Z, H, Sub.rfl, x, h⟩
theorem ta_and {e es} (h : Ts g f n e V H (kAndT g f n es V R)) : Tall g f n .And (e :: es) V H R := .mk fun A P Z s hr x => by
  refine wpAny_allTrue_And_cons (wpAny_mono (h.go A P Z s hr x) (fun b s1 ⟨Z1, H1, z1, x1, q1⟩ => ?_) fun _ _ e => e)
  cases b
  · exact ⟨Z1, H1, z1, x1, q1⟩
  · exact wpAny_mono (q1.go A P Z1 s1 hr x1) (fun _ _ h => BP.up z1 h) fun _ _ e => e
theorem ta_or {e es} (h : Ts g f n e V H (kOrT g f n es V R)) : Tall g f n .Or (e :: es) V H R := .mk fun A P Z s hr x => by
  refine wpAny_allTrue_Or_cons (wpAny_mono (h.go A P Z s hr x) (fun b s1 ⟨Z1, H1, z1, x1, q1⟩ => ?_) fun _ _ e => e)
  cases b
  · exact wpAny_mono (q1.go A P Z1 s1 hr x1) (fun _ _ h => BP.up z1 h) fun _ _ e => e
  · exact ⟨Z1, H1, z1, x1, q1⟩
/-- any other expression that gives a bool -/
theorem ts_value {e} (h : Ev g f n e V H (kTs R))
    (hw : ∀ env whole, isTrue e env whole = (do let v ← whole; standAt e.pos; holding [v] (truthy v)) := by intro _ _; rfl) : Ts g f n e V H R := .mk fun A P Z s hr x => by
  rw [hw]
  refine wpAny_bind (wpAny_mono (h.go A P Z s hr x) (fun v s1 ⟨Z1, t, H1, z1, x1, r1, b, hb, q1⟩ => ?_) fun _ _ e => e)
  subst hb
  cases r1.view
  exact wpAny_bind (wpAny_standAt (wpAny_holding (wpAny_truthy_bool ⟨Z1, H1, z1, x1, q1⟩)))

theorem ev_and2 {a b pos} (h : Ev g f n a V H (kAnd2 g f n b V Q)) : Ev g f n (.BoolOp .And [a, b] pos) V H Q := .mk fun A P Z s hr x =>
  wpAny_And2 (wpAny_mono (h.go A P Z s hr x) (fun v s1 ⟨Z1, t, H1, z1, x1, r1, q, hq, q1⟩ => by
    subst hq; cases r1.view
    refine wpAny_truthy_bool ?_
    cases q
    · exact ⟨Z1, _, H1, z1, x1, .bool false, q1⟩
    · exact wpAny_mono (q1.go A P Z1 s1 hr x1) (fun _ _ h => EP.up z1 h) fun _ _ e => e) fun _ _ e => e)
theorem ev_or2 {a b pos} (h : Ev g f n a V H (kOr2 g f n b V Q)) : Ev g f n (.BoolOp .Or [a, b] pos) V H Q := .mk fun A P Z s hr x =>
  wpAny_Or2 (wpAny_mono (h.go A P Z s hr x) (fun v s1 ⟨Z1, t, H1, z1, x1, r1, q, hq, q1⟩ => by
    subst hq; cases r1.view
    refine wpAny_truthy_bool ?_
    cases q
    · exact wpAny_mono (q1.go A P Z1 s1 hr x1) (fun _ _ h => EP.up z1 h) fun _ _ e => e
    · exact ⟨Z1, _, H1, z1, x1, .bool true, q1⟩) fun _ _ e => e)
theorem knot_b {Q : T → Cells → Prop} {b : Bool} {H : Cells} (h : Q (.bool (!b)) H) : kNotV Q (.bool b) H := ⟨b, rfl, h⟩
theorem kand_b {b : Bool} {e : Expr} (h : if b then Ev g f n e V H Q else Q (.bool false) H) : kAnd2 g f n e V Q (.bool b) H := ⟨b, rfl, h⟩
theorem kor_b {b : Bool} {e : Expr} (h : if b then Q (.bool true) H else Ev g f n e V H Q) : kOr2 g f n e V Q (.bool b) H := ⟨b, rfl, h⟩
theorem boolOp_three {M : Model} {A : Around} {E : Value → Shared → Prop} {s : Shared} {env : Env} {op : BoolOp} {x y z : Expr} {pos : Pos} :
    eval (.BoolOp op [x, y, z] pos) env = (do
      let v ← eval x env
      standAt pos
      let t ← holding [v] (truthy v)
      match op, t with
      | .And, false | .Or, true => pure v
      | _, _ => eval (.BoolOp op [y, z] pos) env) := rfl
theorem ev_and3 {a b c pos} (h : Ev g f n a V H (kAnd2 g f n (.BoolOp .And [b, c] pos) V Q)) : Ev g f n (.BoolOp .And [a, b, c] pos) V H Q := .mk fun A P Z s hr x => by
  show wpAny g.M A (do
      let v ← eval a f.env
      standAt pos
      let t ← holding [v] (truthy v)
      match BoolOp.And, t with
      | .And, false | .Or, true => pure v
      | _, _ => eval (.BoolOp .And [b, c] pos) f.env) _ _ _
  refine wpAny_bind (wpAny_mono (h.go A P Z s hr x) (fun v s1 ⟨Z1, t, H1, z1, x1, r1, q, hq, q1⟩ => ?_) fun _ _ e => e)
  subst hq; cases r1.view
  refine wpAny_bind (wpAny_standAt (wpAny_bind (wpAny_holding (wpAny_truthy_bool ?_))))
  cases q
  · exact wpAny_pure ⟨Z1, _, H1, z1, x1, .bool false, q1⟩
  · exact wpAny_mono (q1.go A P Z1 s1 hr x1) (fun _ _ h => EP.up z1 h) fun _ _ e => e
theorem ev_not {x pos} (h : Ev g f n x V H (kNotV Q)) : Ev g f n (.UnaryOp .Not x pos) V H Q := ev_unop <| .mk fun A P Z s hr y =>
  wpAny_mono (h.go A P Z s hr y) (fun v s1 ⟨Z1, t, H1, z1, x1, r1, b, hb, q1⟩ => ⟨Z1, t, H1, z1, x1, r1, .mk fun A' P' Z' s' va hr' x' ra => by
    subst hb; cases ra.view
    exact not_value (wpAny_truthy_bool (EP.mk x' (.bool _) q1))⟩) fun _ _ e => e

variable {L : List T → Cells → Prop}
theorem evs_nil (h : L [] H) : Evs g f n [] V H L := .mk fun _ _ Z _ _ _ x => args_nil ⟨Z, [], H, Sub.rfl, x, .nil, h⟩
theorem evs_cons {e es} (h : Ev g f n e V H (kArg1 g f n es V L))
    (he : ∀ env, starEach (e :: es) env = (false, eval e env) :: starEach es env := by intro _; rfl) : Evs g f n (e :: es) V H L := .mk fun A P Z s pos hr x =>
  args_cons (wpAny_mono (h.go A P Z s hr x) (fun v s1 ⟨Z1, t, H1, z1, x1, r1, q1⟩ => wpAny_mono (q1.go A P Z1 s1 pos hr x1) (fun vs s2 ⟨Z2, ts, H2, z2, x2, r2, q2⟩ =>
    ⟨Z2, t :: ts, H2, z1.trans z2, x2, .cons (r1.mono z2) r2, q2⟩) fun _ _ e => e) fun _ _ e => e) (he _)

theorem size_le_of {xs : List Value} {ts : List T} {Z : OM} (r : RdL Z xs ts) (h : ts.length ≤ 1000) : xs.length ≤ sizeLine := by
  rw [r.length, sizeLine_eq]; walk_at "la"
theorem none_fresh (h : Heap) : h.get? h.objs.size = none := by
  cases e : h.get? h.objs.size with
  | none => rfl
  | some o => exact absurd (Heap.lt_size e) (Nat.lt_irrefl _)

theorem new_frozen {P Z : OM} {s : Shared} (x : Rel g f P Z V H s) (o : Obj) (ho : o.isFreed = false := by rfl) :
    Sub Z (updZ Z s.heap.objs.size o) ∧ Rel g f P (updZ Z s.heap.objs.size o) V H { s with heap := s.heap.push o } := by
  have hn := none_fresh s.heap
  have x1 : Rel g f P Z V H { s with heap := s.heap.push o } := x.keep (fun _ _ e => Heap.get?_push_of_some _ e)
  have u := x.st.un hn
  exact ⟨sub_updZ u.2.1, x1.addZ (Heap.get?_push_size _ ho) u (x.fresh_own hn)⟩
theorem ev_tuple {es k pos} (h : Evs g f n es V H (kTup Q)) : Ev g f n (.Tuple es k pos) V H Q := .mk fun A P Z s hr x =>
  Tuple_ (wpAny_mono (h.go A P Z s pos hr x) (fun vs s1 ⟨Z1, ts, H1, z1, x1, r1, hl, q1⟩ => by
    obtain ⟨z2, x2⟩ := new_frozen x1 { cls := .type "tuple", data := .seq vs.toArray }
    exact wpAny_newTuple ⟨_, .tup ts, H1, z1.trans z2, x2, .tup updZ_self (by simpa using r1.mono z2), q1⟩ (size_le_of r1 hl)) fun _ _ e => e)
/-- a list display that nobody writes to -/
theorem ev_list {es pos} (h : Evs g f n es V H (kLst Q)) : Ev g f n (.List es pos) V H Q := .mk fun A P Z s hr x =>
  List_ (wpAny_mono (h.go A P Z s pos hr x) (fun vs s1 ⟨Z1, ts, H1, z1, x1, r1, hl, q1⟩ => by
    obtain ⟨z2, x2⟩ := new_frozen x1 { cls := .type "list", data := .seq vs.toArray }
    exact wpAny_newList ⟨_, .lst ts, H1, z1.trans z2, x2, .lst updZ_self (by simpa using r1.mono z2), q1⟩ (size_le_of r1 hl)) fun _ _ e => e)
/-- a list display that is to be written to -/
theorem ev_listc {es pos} (h : Evs g f n es V H (kLstc Q)) : Ev g f n (.List es pos) V H Q := .mk fun A P Z s hr x =>
  List_ (wpAny_mono (h.go A P Z s pos hr x) (fun vs s1 ⟨Z1, ts, H1, z1, x1, r1, hl, q1⟩ => by
    have hn := none_fresh s1.heap
    have u := x1.st.un hn
    have hH : H1 s1.heap.objs.size = none := by
      cases e : H1 s1.heap.objs.size with
      | none => rfl
      | some c => exact absurd (by cases c <;> simp [Cell.addrs]) (u.2.2 _ c e)
    have x2 : Rel g f P Z1 V H1 { s1 with heap := s1.heap.push { cls := .type "list", data := .seq vs.toArray } } := x1.keep (fun _ _ e => Heap.get?_push_of_some _ e)
    have x3 := x2.addH (a := s1.heap.objs.size) (c := .list ts) ⟨vs.toArray, 0, Heap.get?_push_size _ rfl, by simpa using r1⟩ (fun d hd => by
      simp only [Cell.addrs, List.mem_singleton] at hd
      subst hd
      exact ⟨u, x1.fresh_own hn⟩)
    exact wpAny_newList ⟨Z1, .ref s1.heap.objs.size, _, z1, x3, .ref _, q1 _ hH⟩ (size_le_of r1 hl)) fun _ _ e => e)
end

section
variable {g : Gl} {f : Fm} {n : Nat} {V : Vs} {H : Cells} {Q : T → Cells → Prop}
theorem op2_int {tree : Value → Value → Sem Value} {a b : Int} (h : ∀ A P Z s ta tb, Rel g f P Z V H s → wpAny g.M A (tree (.int a ta) (.int b tb)) (EP g f P Z V Q) NoE s) : Op2 g f n tree (.int a) (.int b) V H Q := .mk fun A P Z s va vb hr x ra rb => by
  obtain ⟨ta, rfl⟩ := ra.view; obtain ⟨tb, rfl⟩ := rb.view; exact h A P Z s _ _ x
theorem op_add_int {a b : Int} (h : Q (.int (a + b)) H) : Op2 g f n (binaryOp .Add) (.int a) (.int b) V H Q := op2_int fun A P Z s _ _ x =>
  add_int (EP.mk x.toks (.int _ _) h)
theorem op_sub_int {a b : Int} (h : Q (.int (a - b)) H) : Op2 g f n (binaryOp .Sub) (.int a) (.int b) V H Q := op2_int fun A P Z s _ _ x =>
  sub_int (EP.mk x.toks (.int _ _) h)
theorem bits_small {a : Int} (h : a.natAbs < 2 ^ 60) : Builtin.Int.intBits a ≤ 64 := by
  unfold Builtin.Int.intBits
  split
  · walk_at "la"
  · rename_i q
    have hn : a.natAbs ≠ 0 := by
      intro e; apply q; simp [Int.natAbs_eq_zero.mp e]
    have := (Nat.log2_lt hn).mpr h
    walk_at "la"
theorem op_mul_int {a b : Int} (ha : a.natAbs < 2 ^ 60) (h : Q (.int (a * b)) H) : Op2 g f n (binaryOp .Mult) (.int a) (.int b) V H Q := op2_int fun A P Z s _ _ x =>
  mul_int (EP.mk x.toks (.int _ _) h) (IntMulOk.of_left (bits_small ha))
theorem op_mod_int {a b : Int} (hb : 0 < b) (h : Q (.int (a % b)) H) : Op2 g f n (binaryOp .Mod) (.int a) (.int b) V H Q := op2_int fun A P Z s _ _ x => by
  refine mod_int (by walk_at "la") ?_
  rw [Int.fmod_eq_emod_of_nonneg _ (by walk_at "la")]
  exact EP.mk x.toks (.int _ _) h
theorem op_div_int {a b : Int} (hb : 0 < b) (hb2 : b < 1073741824) (h : Q (.int (a / b)) H) : Op2 g f n (binaryOp .FloorDiv) (.int a) (.int b) V H Q := op2_int fun A P Z s _ _ x => by
  refine floordiv_int (by walk_at "la") ?_ (.inl (PyProof.noPylong_small (by walk_at "la")))
  rw [Int.fdiv_eq_ediv_of_nonneg _ (by walk_at "la")]
  exact EP.mk x.toks (.int _ _) h
theorem op_pow_int {a b : Int} (h0 : 0 ≤ b) (hb : b ≤ 1000000) (ha : a.natAbs < 2 ^ 64) (h : Q (.int (a ^ b.toNat)) H) : Op2 g f n (binaryOp .Pow) (.int a) (.int b) V H Q := op2_int fun A P Z s _ _ x =>
  pow_int_small h0 hb ha (EP.mk x.toks (.int _ _) h)
theorem op_or_int {a b : Int} (h : Q (.int (Builtin.bitOr a b)) H) : Op2 g f n (binaryOp .BitOr) (.int a) (.int b) V H Q := op2_int fun A P Z s _ _ x =>
  or_int (EP.mk x.toks (.int _ _) h)
theorem op_shl_int {a b : Int} (h0 : 0 ≤ b) (hb : b ≤ 1000000) (ha : a.natAbs < 2 ^ 64) (h : Q (.int (a * 2 ^ b.toNat)) H) : Op2 g f n (binaryOp .LShift) (.int a) (.int b) V H Q := op2_int fun A P Z s _ _ x =>
  lshift_int_small h0 hb ha (EP.mk x.toks (.int _ _) h)
theorem op_neg_int {a : Int} (h : Q (.int (-a)) H) : Op1 g f n (unaryOp .USub) (.int a) V H Q := .mk fun A P Z s va hr x ra => by
  obtain ⟨ta, rfl⟩ := ra.view; exact PySem.P.neg_int (EP.mk x.toks (.int _ _) h)

theorem op_lt_int {a b : Int} (h : Q (.bool (decide (a < b))) H) : Op2 g f n (compareOp .Lt) (.int a) (.int b) V H Q := op2_int fun A P Z s _ _ x =>
  PySem.P.lt_int (EP.mk x (.bool _) h)
theorem op_le_int {a b : Int} (h : Q (.bool (decide (a ≤ b))) H) : Op2 g f n (compareOp .LtE) (.int a) (.int b) V H Q := op2_int fun A P Z s _ _ x =>
  PySem.P.le_int (EP.mk x (.bool _) h)
theorem op_gt_int {a b : Int} (h : Q (.bool (decide (b < a))) H) : Op2 g f n (compareOp .Gt) (.int a) (.int b) V H Q := op2_int fun A P Z s _ _ x =>
  PySem.P.gt_int (EP.mk x (.bool _) h)
theorem op_ge_int {a b : Int} (h : Q (.bool (decide (b ≤ a))) H) : Op2 g f n (compareOp .GtE) (.int a) (.int b) V H Q := op2_int fun A P Z s _ _ x =>
  PySem.P.ge_int (EP.mk x (.bool _) h)
theorem op_eq_int {a b : Int} (h : Q (.bool (decide (a = b))) H) : Op2 g f n (compareOp .Eq) (.int a) (.int b) V H Q := op2_int fun A P Z s _ _ x => by
  refine PySem.P.eq_int (EP.mk x (.bool _) ?_)
  exact h
theorem op_ne_int {a b : Int} (h : Q (.bool (!decide (a = b))) H) : Op2 g f n (compareOp .NotEq) (.int a) (.int b) V H Q := op2_int fun A P Z s _ _ x => by
  refine PySem.P.ne_int (EP.mk x (.bool _) ?_)
  exact h
theorem op_is_none {a : T} {b : Bool} (hb : b = (match a with | .none => true | _ => false)) (h : Q (.bool b) H) : Op2 g f n (compareOp .Is) a .none V H Q := .mk fun A P Z s va vb hr x ra rb => by
  cases rb.view
  exact is_none (EP.mk x (.bool _) ((show b = (va == .none) from hb.trans (by cases ra <;> rfl)) ▸ h))
theorem op_isnot_none {a : T} {b : Bool} (hb : b = (match a with | .none => false | _ => true)) (h : Q (.bool b) H) : Op2 g f n (compareOp .IsNot) a .none V H Q := .mk fun A P Z s va vb hr x ra rb => by
  cases rb.view
  exact isNot_none (EP.mk x (.bool _) ((show b = !(va == .none) from hb.trans (by cases ra <;> rfl)) ▸ h))
end
end

section
inductive Fl where
  | next | brk | cont
  | ret (t : T)
inductive RdF (Z : OM) : Flow → Fl → Prop
  | next : RdF Z .next .next
  | brk : RdF Z .brk .brk
  | cont : RdF Z .cont .cont
  | ret {v : Value} {t : T} : Rd Z v t → RdF Z (.ret v) (.ret t)
theorem RdF.mono {Z Z' : OM} (h : Sub Z Z') {fl : Flow} {fl' : Fl} (x : RdF Z fl fl') : RdF Z' fl fl' := by
  cases x with
  | next => exact .next
  | brk => exact .brk
  | cont => exact .cont
  | ret r => exact .ret (r.mono h)
abbrev SQ := Fl → Vs → Cells → Prop
inductive SP (g : Gl) (f : Fm) (P Z : OM) (Q : SQ) (fl : Flow) (s' : Shared) : Prop
  | intro (Z' : OM) (fl' : Fl) (V' : Vs) (H' : Cells) (z : Sub Z Z') (x : Rel g f P Z' V' H' s') (r : RdF Z' fl fl') (q : Q fl' V' H')
theorem SP.up {g : Gl} {f : Fm} {P Z Z' : OM} {Q : SQ} {v : Flow} {s : Shared} (hs : Sub Z Z') (h : SP g f P Z' Q v s) : SP g f P Z Q v s :=
  h.casesOn fun Z'' t V' H' a b c d => ⟨Z'', t, V', H', hs.trans a, b, c, d⟩
structure Exs (g : Gl) (f : Fm) (n : Nat) (ss : List Stmt) (V : Vs) (H : Cells) (Q : SQ) : Prop where
  go : ∀ A P Z s, RoomF f n A → Rel g f P Z V H s → wpAny g.M A (execs ss f.env) (SP g f P Z Q) NoE s
structure Ex (g : Gl) (f : Fm) (n : Nat) (st : Stmt) (V : Vs) (H : Cells) (Q : SQ) : Prop where
  go : ∀ A P Z s, RoomF f n A → Rel g f P Z V H s → wpAny g.M A (exec st f.env) (SP g f P Z Q) NoE s

inductive FP (g : Gl) (P Z : OM) (Q : T → Cells → Prop) (r : Result) (s' : Shared) : Prop
  | intro (v : Value) (Z' : OM) (t : T) (H' : Cells) (h : r = .ok (.ret v)) (z : Sub Z Z') (x : St g P Z' H' s') (rd : Rd Z' v t) (q : Q t H')
structure FSpec (g : Gl) (n : Nat) (a : Addr) (ts : List T) (H : Cells) (Q : T → Cells → Prop) : Prop where
  go : ∀ A P Z s vs, Room n A → St g P Z H s → RdL Z vs ts → codeAny g.M A (.call (.ref a) ⟨vs, []⟩) (FP g P Z Q) s
theorem FSpec.mono {g : Gl} {n : Nat} {a : Addr} {ts : List T} {H : Cells} {Q Q' : T → Cells → Prop} (h : FSpec g n a ts H Q) (hq : ∀ t H', Q t H' → Q' t H') : FSpec g n a ts H Q' :=
  .mk fun A P Z s vs hr x rd => codeAny_mono (h.go A P Z s vs hr x rd) fun r s' ⟨v, Z', t, H', a, b, c, d, q⟩ => ⟨v, Z', t, H', a, b, c, d, hq t H' q⟩
theorem FSpec.le {g : Gl} {n m : Nat} {a : Addr} {ts : List T} {H : Cells} {Q : T → Cells → Prop} (h : FSpec g n a ts H Q) (hm : n ≤ m) : FSpec g m a ts H Q :=
  .mk fun A P Z s vs hr x rd => h.go A P Z s vs (hr.le hm) x rd

structure FnI where
  name : Str
  params : Arguments
  body : List Stmt
  scope : Scope
noncomputable def asFn : Stmt → FnI
  | .FunctionDef n a b _ _ _ sc _ _ _ => ⟨n, a, b, sc⟩
  | _ => ⟨Str.ofString "", ⟨[], [], none, [], [], none, []⟩, [], ⟨.module, [], true, true, []⟩⟩
noncomputable def fnI (i j : Nat) : FnI := match PySem.Challenge.pw_xm0865_01.main.body[i]? with
  | some (.ClassDef _ _ _ b _ _ _ _ _ _ _) => (match b[j]? with | some s => asFn s | none => asFn (.Pass default))
  | some s => asFn s
  | none => asFn (.Pass default)

noncomputable def FnAt (K : Frag) (a i j : Nat) : Prop := ∃ oc od osl name qual doc pm an cdv ct,
  K.lookup a = some ⟨oc, od, .func (fnOf name qual (fnI i j).params (fnI i j).body (fnI i j).scope .none .none doc pm an cdv ct), osl⟩ ∧ codeIn K cdv qual = true

noncomputable def plainParams (p : Arguments) : Bool := p.posonlyargs.isEmpty && p.vararg.isNone && p.kwonlyargs.isEmpty && p.kwarg.isNone
noncomputable def kindIs (sc : Scope) (k : Nat) (x : NameKind) : Bool := sc.names.lookup (nm k) == some x
noncomputable def chkFn (fi : FnI) (ps ls gs cs : List Nat) : Bool :=
  plainParams fi.params && fi.params.args.map (·.arg) == ps.map nm && (ps ++ ls).all (fun k => Nat.blt k nN && (kindIs fi.scope k .local || kindIs fi.scope k .cell)) &&
  decide (ps ++ ls).Nodup && gs.all (fun k => kindIs fi.scope k .globalImplicit) && fi.scope.kind == .function && !fi.scope.isGenerator && !fi.scope.isCoroutine && cs.all (fun k => Nat.blt k nN && kindIs fi.scope k .cell)
noncomputable def V0 (ps ls : List Nat) (ts : List T) : Vs := List.zipWith (fun k t => (k, some t)) ps ts ++ ls.map fun k => (k, none)

theorem nodup_lookup {α : Type} {l : List (Str × α)} (hd : (l.map Prod.fst).Nodup) {x : Str} {v : α} (h : (x, v) ∈ l) : l.lookup x = some v := by
  induction l with
  | nil => cases h
  | cons p l ih =>
    obtain ⟨h1, h2⟩ := List.nodup_cons.mp hd
    rcases List.mem_cons.mp h with e | h
    · exact e ▸ List.lookup_cons_self
    · rw [List.lookup_cons, beq_false_of_ne (show ¬ x = p.1 from fun e => h1 (e ▸ List.mem_map_of_mem (f := Prod.fst) h))]
      exact ih h2 h
theorem filterMap_self {α : Type} {l : List (Str × α)} {all : List (Str × α)} (h : ∀ p ∈ l, all.lookup p.1 = some p.2) : (l.map Prod.fst).filterMap (fun n => (all.lookup n).map (n, ·)) = l := by
  induction l with
  | nil => rfl
  | cons p l ih =>
    rw [List.map_cons, List.filterMap_cons, h p List.mem_cons_self]
    exact congrArg (p :: ·) (ih fun q hq => h q (List.mem_cons_of_mem _ hq))
theorem keys_zip {α : Type} {ns : List Str} {vs : List α} (h : ns.length = vs.length) : (ns.zip vs).map Prod.fst = ns := List.map_fst_zip (Nat.le_of_eq h)
theorem lookup_zip {α : Type} {ns : List Str} {vs : List α} {i : Nat} {x : Str} {v : α} (hl : ns.length = vs.length) (hd : ns.Nodup) (h : ns[i]? = some x) (h' : vs[i]? = some v) : (ns.zip vs).lookup x = some v :=
  nodup_lookup ((keys_zip hl).symm ▸ hd) (List.mem_of_getElem? (i := i) (List.getElem?_zip_eq_some.mpr ⟨h, h'⟩))
theorem lookup_none_of {α : Type} {l : List (Str × α)} {x : Str} (h : x ∉ l.map Prod.fst) : l.lookup x = none := by
  induction l with
  | nil => rfl
  | cons p l ih =>
    rw [List.map_cons, List.mem_cons, not_or] at h
    rw [List.lookup_cons, beq_false_of_ne h.1]
    exact ih h.2

theorem bind_core {as : List Arg} {vs : List Value} {ds : List PySem.Expr} {nme qn body scope gl clo kwd doc pm an code ct bl kd} (h1 : ¬ (decide (vs.length > (as.map Arg.arg).length) && true) = true) (h2 : (((as.map Arg.arg).take (as.map Arg.arg).length).filter fun n => (((as.map Arg.arg).zip vs).lookup n).isNone) = [])
   (h3 : ((as.map Arg.arg) ++ []).filterMap (fun n => (((as.map Arg.arg).zip vs).lookup n).map (n, ·)) = (as.map Arg.arg).zip vs) :
    bindArgs ⟨nme, qn, ⟨[], as, none, [], kd, none, ds⟩, body, scope, gl, clo, .none, kwd, doc, pm, an, code, ct, bl⟩ ⟨vs, []⟩ = pure ((as.map Arg.arg).zip vs) := by
  refine (if_neg h1).trans ?_
  generalize hD : List.drop _ (Option.getD none (#[] : Array Value)).toList = D
  have e : D = [] := hD.symm.trans List.drop_nil
  clear hD
  subst e
  refine (if_neg (show ¬ (!List.isEmpty _) = true from h2 ▸ Bool.false_ne_true)).trans ?_
  generalize hE : List.zip _ ([] : List Value) = E
  have e : E = [] := hE.symm.trans List.zip_nil_right
  clear hE
  subst e
  exact congrArg (fun l => (pure l : Sem (List (Str × Value)))) h3
theorem bind_plain {fd : FuncData} {vs : List Value} (hp : plainParams fd.params = true) (hd : fd.defaults = .none) (hl : fd.params.args.length = vs.length) (hn : (fd.params.args.map (·.arg)).Nodup) :
    bindArgs fd ⟨vs, []⟩ = pure ((fd.params.args.map (·.arg)).zip vs) := by
  obtain ⟨nme, qn, params, body, scope, gl, clo, dfl, kwd, doc, pm, an, code, ct, bl⟩ := fd
  obtain ⟨po, as, va, ko, kd, kw, ds⟩ := params
  simp only [plainParams, Bool.and_eq_true, List.isEmpty_iff, Option.isNone_iff_eq_none] at hp
  obtain ⟨⟨⟨rfl, rfl⟩, rfl⟩, rfl⟩ := hp
  cases (show dfl = .none from hd)
  have hlen : (as.map Arg.arg).length = vs.length := (List.length_map _).trans hl
  have hk := keys_zip hlen
  have look : ∀ p ∈ (as.map Arg.arg).zip vs, ((as.map Arg.arg).zip vs).lookup p.1 = some p.2 := fun p hp => nodup_lookup (hk.symm ▸ hn) hp
  refine bind_core (fun h => absurd (of_decide_eq_true ((Bool.and_true _).symm.trans h)) (hlen ▸ Nat.lt_irrefl _)) ?_ ?_
  · rw [List.take_length, List.filter_eq_nil_iff]
    intro x hx
    obtain ⟨p, hp, rfl⟩ := List.mem_map.mp (hk ▸ hx)
    rw [look p hp]; exact Bool.false_ne_true
  · rw [List.append_nil]
    have := filterMap_self look
    rwa [hk] at this

theorem bindL_get (ko : Str → Option NameKind) {y : Str} (hk : ko y = some .local) (binds : List (Str × Value)) : ∀ m : Str → Option Value, (binds.map Prod.fst).Nodup → bindL ko binds m y = (binds.lookup y).or (m y) := by
  induction binds with
  | nil => exact fun _ _ => rfl
  | cons p r ih =>
    intro m hd
    obtain ⟨h1, h2⟩ := List.nodup_cons.mp hd
    obtain ⟨n, w⟩ := p
    refine (ih _ h2).trans ?_
    by_cases q : y = n
    · subst q
      rw [lookup_none_of h1, List.lookup_cons_self, if_pos hk]; exact if_pos rfl
    · rw [List.lookup_cons, beq_false_of_ne q]
      refine congrArg (Option.or (r.lookup y)) ?_
      split
      · exact if_neg q
      · rfl
theorem bindC_get (ko : Str → Option NameKind) {y : Str} (hk : ko y = some .cell) (binds : List (Str × Value)) : ∀ m : Str → Option Value, (binds.map Prod.fst).Nodup → bindC ko binds m y = (binds.lookup y).or (m y) := by
  induction binds with
  | nil => exact fun _ _ => rfl
  | cons p r ih =>
    intro m hd
    obtain ⟨h1, h2⟩ := List.nodup_cons.mp hd
    obtain ⟨n, w⟩ := p
    refine (ih _ h2).trans ?_
    by_cases q : y = n
    · subst q
      rw [lookup_none_of h1, List.lookup_cons_self, if_neg (show ¬ ko y = some .local from fun h => nomatch hk.symm.trans h)]; exact if_pos rfl
    · rw [List.lookup_cons, beq_false_of_ne q]
      refine congrArg (Option.or (r.lookup y)) ?_
      split
      · rfl
      · exact if_neg q

theorem getT_nones (k : Nat) : ∀ l : List Nat, getT (l.map fun k => (k, (none : Option T))) k = none
  | [] => rfl
  | a :: r => by
    simp only [List.map_cons]
    by_cases q : a = k
    · rw [getT_hit q]
    · rw [getT_miss q]; exact getT_nones k r
theorem getT_V0 : ∀ {ps ls : List Nat} {ts : List T} {k : Nat} {t : T}, getT (V0 ps ls ts) k = some t → ∃ i : Nat, ps[i]? = some k ∧ ts[i]? = some t
  | [], ls, ts, k, t, h => by
    simp only [V0, List.zipWith_nil_left, List.nil_append] at h
    rw [getT_nones] at h; cases h
  | p :: ps, ls, [], k, t, h => by
    simp only [V0, List.zipWith_nil_right, List.nil_append] at h
    rw [getT_nones] at h; cases h
  | p :: ps, ls, u :: ts, k, t, h => by
    by_cases q : p = k
    · have : getT (V0 (p :: ps) ls (u :: ts)) k = some u := getT_hit q
      rw [this] at h; cases h
      exact ⟨0, by simp [q], rfl⟩
    · have : getT (V0 (p :: ps) ls (u :: ts)) k = getT (V0 ps ls ts) k := getT_miss q
      rw [this] at h
      obtain ⟨i, a, b⟩ := getT_V0 h
      exact ⟨i + 1, a, b⟩
theorem V0_keys {ps ls : List Nat} {ts : List T} (k : Nat) (h : k ∈ (V0 ps ls ts).map (·.1)) : k ∈ ps ++ ls := by
  unfold V0 at h
  rw [List.map_append, List.mem_append] at h
  rw [List.mem_append]
  rcases h with h | h
  · left
    rw [List.map_zipWith] at h
    have : ∀ (ps : List Nat) (ts : List T), k ∈ List.zipWith (fun (x : Nat) (_ : T) => x) ps ts → k ∈ ps := by
      intro ps
      induction ps with
      | nil => intro ts h; simp at h
      | cons p ps ih =>
        intro ts h
        cases ts with
        | nil => simp at h
        | cons t ts =>
          rw [List.zipWith_cons_cons, List.mem_cons] at h
          rcases h with rfl | h
          · exact List.mem_cons_self
          · exact List.mem_cons_of_mem _ (ih ts h)
    exact this ps ts h
  · right; simpa using h

theorem mem_memN {k : Nat} : ∀ (l : List Nat), memN l k = true → k ∈ l
  | [], h => by simp [memN] at h
  | j :: r, h => by
    simp only [memN] at h
    cases q : Nat.beq j k with
    | true => rw [beq_of q]; exact List.mem_cons_self
    | false => rw [q] at h; exact List.mem_cons_of_mem _ (mem_memN r h)

noncomputable def retV : Flow → Value
  | .ret v => v
  | _ => .none
theorem call_core {g : Gl} {a i j m : Nat} {ps ls gs cs : List Nat} {ts : List T} {H : Cells} {R : Result → Shared → Prop} (hF : FnAt g.K a i j) (hchk : chkFn (fnI i j) ps ls gs cs = true) (hlen : ts.length = ps.length)
    {A : Around} {P Z : OM} {s : Shared} {vs : List Value} {outer : Option (List Env)} (hr : Room (m + 1) A) (hout : ∀ l, outer = some l → A.frames = some l ∧ ∀ env ∈ l, FrOk g P env) (x : St g P Z H s) (rd : RdL Z vs ts)
    (hbody : ∀ f s₁, f.full = true → f.globs = gs → f.cels = cs → f.outer = outer → RoomF f m (A.deeper f.env) → Rel g f P Z (V0 ps ls ts) H s₁ →
      wpAny g.M (A.deeper f.env) (execs (fnI i j).body f.env) (fun fl s' => R (.ok (.ret (retV fl))) s')
        (fun e s' => wpAny g.M (A.deeper f.env) (leaving f.env e) (fun _ s'' => R (.error e) s'') (fun e' s'' => R (.error e') s'') s') s₁) : codeAny g.M A (.call (.ref a) ⟨vs, []⟩) R s := by
  obtain ⟨oc, od, osl, name, qual, doc, pm, an, cdv, ct, hK, hcd⟩ := hF
  simp only [chkFn, Bool.and_eq_true, decide_eq_true_eq, beq_iff_eq, Bool.not_eq_true'] at hchk
  obtain ⟨⟨⟨⟨⟨⟨⟨⟨c1, c2⟩, c3⟩, c4⟩, c5⟩, c6⟩, c7⟩, c8⟩, c9⟩ := hchk
  have X := x.KX
  have ho := X _ _ hK
  have hlv : vs.length = ps.length := rd.length.trans hlen
  have hks : ∀ k ∈ ps ++ ls, k < nN ∧ ((fnI i j).scope.names.lookup (nm k) = some .local ∨ (fnI i j).scope.names.lookup (nm k) = some .cell) := fun k hk => by
    have := List.all_eq_true.mp c3 k hk
    simp only [Bool.and_eq_true, Bool.or_eq_true, kindIs, beq_iff_eq] at this
    exact ⟨by have := this.1; rw [Nat.blt_eq] at this; exact this, this.2⟩
  have hnd : (ps.map nm).Nodup := by
    have h1 : ps.Nodup := (List.nodup_append.mp c4).1
    rw [List.nodup_iff_pairwise_ne] at h1 ⊢
    rw [List.pairwise_map]
    refine List.Pairwise.imp_of_mem (fun {a b} ha hb hab e => hab ?_) h1
    exact nm_inj (hks a (List.mem_append_left _ ha)).1 (hks b (List.mem_append_left _ hb)).1 e
  have hbind := bind_plain (fd := fnOf name qual (fnI i j).params (fnI i j).body (fnI i j).scope .none .none doc pm an cdv ct) (vs := vs) c1 rfl
    (by have := congrArg List.length c2; simp only [List.length_map] at this; show (fnI i j).params.args.length = vs.length; walk_at "la") (by show ((fnI i j).params.args.map (·.arg)).Nodup; rw [c2]; exact hnd)
  rw [show (fnOf name qual (fnI i j).params (fnI i j).body (fnI i j).scope Value.none Value.none doc pm an cdv ct).params.args.map (·.arg) = ps.map nm from c2] at hbind
  refine codeAny_call_cells (fd := fnOf name qual (fnI i j).params (fnI i j).body (fnI i j).scope .none .none doc pm an cdv ct) hr.deep ho rfl (g.NL.keeps x.kept) (codeRec_of X hcd) rfl hbind rfl ?_ (fun s₁ y => ?_) c8 c7 c6
  · intro b hb
    obtain ⟨n, v⟩ := b
    have hn := (List.of_mem_zip hb).1
    obtain ⟨k, hk, rfl⟩ := List.mem_map.mp hn
    rcases (hks k (List.mem_append_left _ hk)).2 with h | h
    · exact .inl h
    · exact .inr ⟨h, cellsFrom_some _ _ _ (.inl h)⟩
  · generalize hfd : fnOf name qual (fnI i j).params (fnI i j).body (fnI i j).scope Value.none Value.none doc pm an cdv ct = fd at y
    have e1 : (callEnvC fd s.heap.objs.size a).scope = (fnI i j).scope := by subst hfd; rfl
    have e2 : (callEnvC fd s.heap.objs.size a).cells = cellsFrom (s.heap.objs.size + 1) (fnI i j).scope.names [] := by subst hfd; rfl
    have e3 : (callEnvC fd s.heap.objs.size a).locals = s.heap.objs.size := rfl
    have e4 : (callEnvC fd s.heap.objs.size a).globals = mainGlobals := by subst hfd; rfl
    have e5 : (callEnvC fd s.heap.objs.size a).builtins = builtinsNs := by subst hfd; rfl
    have e6 : (callEnvC fd s.heap.objs.size a).frame = some (callEnvC fd s.heap.objs.size a).locals := rfl
    have ek : ∀ z, (callEnvC fd s.heap.objs.size a).kindOf z = (fnI i j).scope.names.lookup z := fun z => by unfold Env.kindOf; rw [e1]
    generalize (callEnvC fd s.heap.objs.size a) = env at *
    have keys : (((ps.map nm).zip vs).map Prod.fst).Nodup := by rw [keys_zip (by simp [hlv])]; exact hnd
    have got : ∀ k t, getT (V0 ps ls ts) k = some t → ∃ v, ((ps.map nm).zip vs).lookup (nm k) = some v ∧ Rd Z v t := fun k t h => by
      obtain ⟨p, h1, h2⟩ := getT_V0 h
      obtain ⟨v, h3, h4⟩ := rd.get h2
      exact ⟨v, lookup_zip ((List.length_map _).trans hlv.symm) hnd (by rw [List.getElem?_map, h1]; rfl) h3, h4⟩
    have fresh : ∀ d, s.heap.objs.size ≤ d → s.heap.get? d = none := fun d hd => by
      cases q : s.heap.get? d with
      | none => rfl
      | some o => exact absurd (Heap.lt_size q) (Nat.not_lt.mpr hd)
    have memc : ∀ z c, env.cells.lookup z = some c → c ∈ env.cells.filterMap (fun y => env.cells.lookup y.1) := fun z c h => List.mem_filterMap.mpr ⟨(z, c), mem_of_lookup h, h⟩
    obtain ⟨h₁, tk, hs₁, hk₁⟩ := y.done
    subst hs₁
    have R : Rel g ⟨env, s.heap.objs.size :: env.cells.filterMap (fun y => env.cells.lookup y.1), true, gs, cs, outer⟩ P Z (V0 ps ls ts) H { s with heap := h₁, toks := tk } := by
      refine ⟨x.keep hk₁, ⟨by dsimp only; rw [e1]; exact c6, e4, e5, ⟨_, y.toInCall.ns, fun k hk hl t ht => ?_⟩, fun k hk hl t ht => ?_, fun k hk => ?_, by rw [e3]; exact List.mem_cons_self, fun d hd => ?_, fun d hd => ?_, fun z c e => ?_, fun z z' c e e' => ?_, fun _ z c e => List.mem_cons_of_mem _ (memc z c e), fun k hk => ?_, fun k hk => ?_⟩, fun l e => ⟨e6, ?_, (hout l e).2⟩⟩
      · obtain ⟨v, h1, h2⟩ := got k t ht
        exact ⟨v, (bindL_get _ hl _ _ keys).trans (by rw [h1]; rfl), h2⟩
      · obtain ⟨v, h1, h2⟩ := got k t ht
        have hcs := cellsFrom_some (x := nm k) (fnI i j).scope.names (s.heap.objs.size + 1) [] (.inl (by rw [← ek]; exact hl))
        obtain ⟨c, hc⟩ := Option.isSome_iff_exists.mp hcs
        rw [← e2] at hc
        have := y.cell _ _ hc
        rw [bindC_get _ hl _ _ keys, h1] at this
        exact ⟨c, v, hc, this, h2⟩
      · obtain ⟨q1, q2⟩ := hks k (V0_keys k hk)
        refine ⟨q1, ?_⟩
        dsimp only
        rw [ek]
        refine q2.imp_right fun q2 => ⟨q2, ?_⟩
        have hcs := cellsFrom_some (x := nm k) (fnI i j).scope.names (s.heap.objs.size + 1) [] (.inl q2)
        rw [e2]
        exact Option.isSome_iff_exists.mp hcs
      · rcases List.mem_cons.mp hd with rfl | hd
        · exact x.un (fresh _ (Nat.le_refl _))
        · obtain ⟨⟨z, c⟩, _, hm⟩ := List.mem_filterMap.mp hd
          have := y.above z d (mem_of_lookup hm)
          rw [e3] at this
          exact x.un (fresh _ (Nat.le_of_lt this))
      · rcases List.mem_cons.mp hd with rfl | hd
        · obtain ⟨o, es, ep, e, _⟩ := y.toInCall.ns
          rw [e3] at e
          exact ⟨o, e⟩
        · obtain ⟨⟨z, c⟩, _, hm⟩ := List.mem_filterMap.mp hd
          obtain ⟨o, e, _⟩ := y.cell z d hm
          exact ⟨o, e⟩
      · have h1 := y.above z c (mem_of_lookup e)
        exact ⟨Nat.ne_of_gt h1, ⟨_, y.cell z c e⟩, .inl (List.mem_cons_of_mem _ (memc z c e))⟩
      · exact name_of_addr y.apart (mem_of_lookup e) (mem_of_lookup e')
      · dsimp only
        rw [ek]
        have := List.all_eq_true.mp c5 k (mem_memN _ hk)
        simpa [kindIs] using this
      · dsimp only
        rw [ek]
        have := List.all_eq_true.mp c9 k (mem_memN _ hk)
        simp only [Bool.and_eq_true, kindIs, beq_iff_eq, Nat.blt_eq] at this
        exact this
      · dsimp only
        rw [e3]
        cases q : g.s1.heap.get? s.heap.objs.size with
        | none => rfl
        | some o => have := x.kept _ _ q; rw [fresh _ (Nat.le_refl _)] at this; cases this
    have hr' : RoomF ⟨env, s.heap.objs.size :: env.cells.filterMap (fun y => env.cells.lookup y.1), true, gs, cs, outer⟩ m (A.deeper env) := ⟨hr.1, by have := hr.2.1; show A.depth + 1 + 4 * m + 8 ≤ 700; walk_at "la", by have := hr.2.2; show A.units + 3 + 60 * m + 300 ≤ 5000; walk_at "la", fun l e => by
      show A.frames.map _ = _
      rw [(hout l e).1]; rfl⟩
    exact wpAny_mono (hbody _ _ rfl rfl rfl rfl hr' R) (fun fl s' h => by cases fl <;> exact h) fun _ _ e => e

@[reducible] noncomputable def retT : Fl → T
  | .ret t => t
  | _ => .none
inductive kFin (Q : T → Cells → Prop) (fl : Fl) (V : Vs) (H' : Cells) : Prop
  | intro (H'' : Cells) (hs : SubH H'' H') (q : Q (retT fl) H'')
theorem fp_end {g : Gl} {f : Fm} {P Z : OM} {Q : T → Cells → Prop} {fl : Flow} {s' : Shared} (h : SP g f P Z (kFin Q) fl s') :
    FP g P Z Q (.ok (.ret (retV fl))) s' := by
  obtain ⟨Z', fl', V', H', z1, r1, rf, H'', hsub, q⟩ := h
  have st := r1.st.drop hsub
  cases rf with
  | ret r => exact ⟨_, Z', _, H'', rfl, z1, st, r, q⟩
  | next => exact ⟨_, Z', _, H'', rfl, z1, st, .none, q⟩
  | brk => exact ⟨_, Z', _, H'', rfl, z1, st, .none, q⟩
  | cont => exact ⟨_, Z', _, H'', rfl, z1, st, .none, q⟩
theorem fspec_of {g : Gl} {a i j m : Nat} {ps ls gs cs : List Nat} {ts : List T} {H : Cells} {Q : T → Cells → Prop} (hF : FnAt g.K a i j) (hchk : chkFn (fnI i j) ps ls gs cs = true) (hlen : ts.length = ps.length)
    (hbody : ∀ f, f.full = true → f.globs = gs → f.cels = cs → Exs g f m (fnI i j).body (V0 ps ls ts) H (kFin Q)) : FSpec g (m + 1) a ts H Q :=
  .mk fun A P Z s vs hr x rd => call_core (outer := none) hF hchk hlen hr (fun l e => by cases e) x rd fun f s₁ h1 h2 h3 h4 hr' R =>
    wpAny_mono ((hbody f h1 h2 h3).go _ P Z _ hr' R) (fun fl s' h => fp_end h) fun _ _ e => e.elim
/-- a def that has to know the frames around it -/
structure FSpecA (g : Gl) (n : Nat) (a : Addr) (ts : List T) (H : Cells) (Q : T → Cells → Prop) : Prop where
  go : ∀ A P Z s vs l, Room n A → A.frames = some l → (∀ env ∈ l, FrOk g P env) → St g P Z H s → RdL Z vs ts → codeAny g.M A (.call (.ref a) ⟨vs, []⟩) (FP g P Z Q) s
theorem fspecA_of {g : Gl} {a i j m : Nat} {ps ls gs cs : List Nat} {ts : List T} {H : Cells} {Q : T → Cells → Prop} (hF : FnAt g.K a i j) (hchk : chkFn (fnI i j) ps ls gs cs = true) (hlen : ts.length = ps.length)
    (hbody : ∀ f l, f.full = true → f.globs = gs → f.cels = cs → f.outer = some l → Exs g f m (fnI i j).body (V0 ps ls ts) H (kFin Q)) : FSpecA g (m + 1) a ts H Q :=
  .mk fun A P Z s vs l hr hl hfr x rd => call_core (outer := some l) hF hchk hlen hr (fun l' e => by cases e; exact ⟨hl, hfr⟩) x rd fun f s₁ h1 h2 h3 h4 hr' R =>
    wpAny_mono ((hbody f l h1 h2 h3 h4).go _ P Z _ hr' R) (fun fl s' h => fp_end h) fun _ _ e => e.elim
end

section
@[reducible] noncomputable def kRet (V : Vs) (Q : SQ) : T → Cells → Prop := fun t H => Q (.ret t) V H
@[reducible] noncomputable def kIfS (g : Gl) (f : Fm) (n : Nat) (x y : List Stmt) (V : Vs) (Q : SQ) : Bool → Cells → Prop := fun b H => if b then Exs g f n x V H Q else Exs g f n y V H Q
@[reducible] noncomputable def kNx (V : Vs) (Q : SQ) : T → Cells → Prop := fun _ H => Q .next V H
@[reducible] noncomputable def kAsg (V : Vs) (k : Nat) (Q : SQ) : T → Cells → Prop := fun t H => Q .next (setT V k t) H
@[reducible] noncomputable def kLoop (I : Vs → Cells → Prop) (Q : SQ) : SQ := fun fl V H => match fl with | .next | .cont => I V H | .brk => Q .next V H | .ret t => Q (.ret t) V H
inductive kLess (I : Nat → Vs → Cells → Prop) (j : Nat) (V : Vs) (H : Cells) : Prop
  | intro (j' : Nat) (h : j' < j) (i : I j' V H)
@[reducible] noncomputable def kWhile (g : Gl) (f : Fm) (n : Nat) (body : List Stmt) (R : SQ) (V : Vs) (Q : SQ) : Bool → Cells → Prop := fun b H => if b then Exs g f n body V H R else Q .next V H
section
variable {g : Gl} {f : Fm} {n : Nat} {V : Vs} {H : Cells} {Q : SQ}

theorem exs_nil (h : Q .next V H) : Exs g f n [] V H Q := .mk fun _ _ Z _ _ x => wpAny_execs_nil ⟨Z, .next, V, H, Sub.rfl, x, .next, h⟩
noncomputable def seqQ (g : Gl) (f : Fm) (n : Nat) (rest : List Stmt) (Q : SQ) : SQ := fun fl V H => match fl with | .next => Exs g f n rest V H Q | fl => Q fl V H
theorem exs_cons {st rest} (h : Ex g f n st V H (seqQ g f n rest Q)) : Exs g f n (st :: rest) V H Q := .mk fun A P Z s hr x => by
  refine wpAny_execs_cons (wpAny_mono (h.go A P Z s hr x) (fun fl s1 ⟨Z1, fl', V1, H1, z1, x1, r1, q1⟩ => ?_) fun _ _ e => e)
  cases r1 with
  | next => exact wpAny_mono (q1.go A P Z1 s1 hr x1) (fun _ _ h => SP.up z1 h) fun _ _ e => e
  | brk => exact ⟨Z1, _, V1, H1, z1, x1, .brk, q1⟩
  | cont => exact ⟨Z1, _, V1, H1, z1, x1, .cont, q1⟩
  | ret r => exact ⟨Z1, _, V1, H1, z1, x1, .ret r, q1⟩
theorem exs_last {st} (h : Ex g f n st V H Q) : Exs g f n [st] V H Q := exs_cons <| .mk fun A P Z s hr x =>
  wpAny_mono (h.go A P Z s hr x) (fun fl s1 ⟨Z1, fl', V1, H1, z1, x1, r1, q1⟩ => ⟨Z1, fl', V1, H1, z1, x1, r1, by cases r1 <;> first | exact exs_nil q1 | exact q1⟩) fun _ _ e => e
theorem Ex.mono {st} {Q' : SQ} (h : Ex g f n st V H Q) (hq : ∀ fl V' H', Q fl V' H' → Q' fl V' H') : Ex g f n st V H Q' := .mk fun A P Z s hr x =>
  wpAny_mono (h.go A P Z s hr x) (fun fl s1 ⟨Z1, fl', V1, H1, z1, x1, r1, q1⟩ => ⟨Z1, fl', V1, H1, z1, x1, r1, hq _ _ _ q1⟩) fun _ _ e => e
theorem Exs.mono {ss} {Q' : SQ} (h : Exs g f n ss V H Q) (hq : ∀ fl V' H', Q fl V' H' → Q' fl V' H') : Exs g f n ss V H Q' := .mk fun A P Z s hr x =>
  wpAny_mono (h.go A P Z s hr x) (fun fl s1 ⟨Z1, fl', V1, H1, z1, x1, r1, q1⟩ => ⟨Z1, fl', V1, H1, z1, x1, r1, hq _ _ _ q1⟩) fun _ _ e => e
theorem Ev.mono {e} {Q Q' : T → Cells → Prop} (h : Ev g f n e V H Q) (hq : ∀ t H', Q t H' → Q' t H') : Ev g f n e V H Q' := .mk fun A P Z s hr x =>
  wpAny_mono (h.go A P Z s hr x) (fun v s1 ⟨Z1, t, H1, z1, x1, r1, q1⟩ => ⟨Z1, t, H1, z1, x1, r1, hq _ _ q1⟩) fun _ _ e => e
/-- a cell made on the way becomes a tree -/
theorem Ev.freeze {e} {Q : T → Cells → Prop} (h : Ev g f n e V H fun t H1 => ∃ a c, t = .ref a ∧ H1 a = some c ∧ Q c.tree (delH H1 a)) : Ev g f n e V H Q := .mk fun A P Z s hr x =>
  wpAny_mono (h.go A P Z s hr x) (fun v s1 ⟨Z1, t, H1, z1, x1, r1, a, c, ht, hc, q1⟩ => by
    subst ht; cases r1.view
    obtain ⟨Z2, z2, x2, r2⟩ := x1.freeze hc
    exact ⟨Z2, _, _, z1.trans z2, x2, r2, q1⟩) fun _ _ e => e
theorem Ev.drop {e} {Q : T → Cells → Prop} (h : Ev g f n e V H fun t H1 => ∃ H2, SubH H2 H1 ∧ Q t H2) : Ev g f n e V H Q := .mk fun A P Z s hr x =>
  wpAny_mono (h.go A P Z s hr x) (fun v s1 ⟨Z1, t, H1, z1, x1, r1, H2, hs, q1⟩ => ⟨Z1, t, H2, z1, x1.drop hs, r1, q1⟩) fun _ _ e => e

theorem ex_pass {pos} (h : Q .next V H) : Ex g f n (.Pass pos) V H Q := .mk fun _ _ Z _ _ x => wpAny_Pass ⟨Z, .next, V, H, Sub.rfl, x, .next, h⟩
theorem ex_break {pos} (h : Q .brk V H) : Ex g f n (.Break pos) V H Q := .mk fun _ _ Z _ _ x => wpAny_Break ⟨Z, .brk, V, H, Sub.rfl, x, .brk, h⟩
theorem ex_continue {pos} (h : Q .cont V H) : Ex g f n (.Continue pos) V H Q := .mk fun _ _ Z _ _ x => wpAny_Continue ⟨Z, .cont, V, H, Sub.rfl, x, .cont, h⟩
theorem ex_return {e pos} (h : Ev g f n e V H (kRet V Q)) : Ex g f n (.Return (some e) pos) V H Q := .mk fun A P Z s hr x =>
  wpAny_Return_some (wpAny_mono (h.go A P Z s hr x) (fun v s1 ⟨Z1, t, H1, z1, x1, r1, q1⟩ => ⟨Z1, .ret t, V, H1, z1, x1, .ret r1, q1⟩) fun _ _ e => e)
theorem ex_if {test body orelse pos} (h : Ts g f n test V H (kIfS g f n body orelse V Q)) : Ex g f n (.If test body orelse pos) V H Q := .mk fun A P Z s hr x =>
  wpAny_If (wpAny_mono (h.go A P Z s hr x) (fun b s1 ⟨Z1, H1, z1, x1, q1⟩ => by
    cases b
    · exact wpAny_mono (q1.go A P Z1 s1 hr x1) (fun _ _ h => SP.up z1 h) fun _ _ e => e
    · exact wpAny_mono (q1.go A P Z1 s1 hr x1) (fun _ _ h => SP.up z1 h) fun _ _ e => e) fun _ _ e => e)
theorem ex_expr {e pos} (h : Ev g f n e V H (kNx V Q)) (hs : ∀ l env, swapsWith e none l env = pure false := by intro _ _; rfl) : Ex g f n (.Expr e pos) V H Q := .mk fun A P Z s hr x =>
  wpAny_Expr_any (wpAny_mono (h.go A P Z s hr x) (fun v s1 ⟨Z1, t, H1, z1, x1, r1, q1⟩ => ⟨Z1, .next, V, H1, z1, x1, .next, q1⟩) fun _ _ e => e)
    (by unfold interactive; rw [x.fo.hk]; rfl) (hs _ _)

theorem store_ok {A : Around} {P Z : OM} {s : Shared} {E : Value → Shared → Prop} (x : Rel g f P Z V H s) {k : Nat} (hk : hasT V k = true) (hf : f.full = true) {v : Value} {t : T} (r : Rd Z v t) :
    wpAny g.M A (storeName f.env (nm k) v) (fun _ s' => Rel g f P Z (setT V k t) H s') E s := by
  obtain ⟨hkn, hkd⟩ := x.fo.kd k (has_mem V k hk)
  rcases hkd with hl | ⟨hl, c, hc⟩
  · obtain ⟨m, hn, _⟩ := x.fo.ns
    exact wpAny_storeName_local hl hn (fun h' hn' hs' => x.setL hkn hl r hn hn' hs') (by rw [x.fo.hk]; rfl)
  · obtain ⟨_, ⟨v₀, hi⟩, _⟩ := x.fo.ce _ _ hc
    exact wpAny_storeName_cell x.fo.hk hl hc hi fun h' hi' hs' => x.setC hkn hl r hc (x.fo.fu hf _ _ hc) (tk := s.toks) hi' hs'
theorem ex_assign {k : Nat} {p e pos} (hf : f.full = true) (hk : hasT V k = true) (h : Ev g f n e V H (kAsg V k Q))
    (hs : ∀ x l env, swapsWith e (some x) l env = pure false := by intro _ _ _; rfl) : Ex g f n (.Assign [.Name (nm k) p] e pos) V H Q := .mk fun A P Z s hr x =>
  wpAny_Assign_Name (wpAny_mono (h.go A P Z s hr x) (fun v s1 ⟨Z1, t, H1, z1, x1, r1, q1⟩ =>
    wpAny_mono (store_ok x1 hk hf r1) (fun _ s2 x2 => ⟨Z1, .next, _, H1, z1, x2, .next, q1⟩) fun _ _ e => e) fun _ _ e => e) (hs _ _ _)

theorem ex_aug {k : Nat} {p op e pos} {i : Int} (hf : f.full = true) (hv : getT V k = some (.int i))
    (h : Ev g f n e V H (kOp2 g f n (inplaceOp op) (.int i) V (kAsg V k Q))) : Ex g f n (.AugAssign (.Name (nm k) p) op e pos) V H Q := .mk fun A P Z s hr x => by
  have hk := get_has V k _ hv
  obtain ⟨hkn, hkd⟩ := x.fo.kd k (has_mem V k hk)
  have load : ∀ {Q' : Value → Shared → Prop}, (∀ v, Rd Z v (.int i) → Q' v s) → wpAny g.M A (loadName f.env (nm k)) Q' NoE s := fun h' => by
    rcases hkd with hl | ⟨hl, c₀, hc₀⟩
    · obtain ⟨m, hn, hm⟩ := x.fo.ns
      obtain ⟨v, a, r⟩ := hm k hkn hl _ hv
      exact wpAny_loadName_local x.fo.hk hl hn a (h' v r)
    · obtain ⟨c, v, hc, hi, r⟩ := x.fo.cs k hkn hl _ hv
      exact wpAny_loadName_cell x.fo.hk hl hc hi (h' v r)
  refine wpAny_AugAssign_Name (load fun v rv => wpAny_mono (h.go A P Z s hr x) (fun v1 s1 ⟨Z1, t, H1, z1, x1, r1, q1⟩ => ?_) fun _ _ e => e)
  exact wpAny_mono (q1.go A P Z1 s1 v v1 hr x1 (rv.mono z1) r1) (fun v2 s2 ⟨Z2, u, H2, z2, x2, r2, q2⟩ =>
    wpAny_mono (store_ok x2 hk hf r2) (fun _ s3 x3 => ⟨Z2, .next, _, H2, z1.trans z2, x3, .next, q2⟩) fun _ _ e => e) fun _ _ e => e
theorem op_iadd_int {a b : Int} {Q : T → Cells → Prop} (h : Q (.int (a + b)) H) : Op2 g f n (inplaceOp .Add) (.int a) (.int b) V H Q := op2_int fun A P Z s _ _ x =>
  iadd_int (EP.mk x.toks (.int _ _) h)
theorem op_isub_int {a b : Int} {Q : T → Cells → Prop} (h : Q (.int (a - b)) H) : Op2 g f n (inplaceOp .Sub) (.int a) (.int b) V H Q := op2_int fun A P Z s _ _ x =>
  isub_int (EP.mk x.toks (.int _ _) h)
theorem op_imul_int {a b : Int} {Q : T → Cells → Prop} (ha : a.natAbs < 2 ^ 60) (h : Q (.int (a * b)) H) : Op2 g f n (inplaceOp .Mult) (.int a) (.int b) V H Q := op2_int fun A P Z s _ _ x =>
  imul_int (EP.mk x.toks (.int _ _) h) (IntMulOk.of_left (bits_small ha))

inductive WhInv (g : Gl) (f : Fm) (P Z : OM) (I : Nat → Vs → Cells → Prop) (j : Nat) (s : Shared) : Prop
  | mk (Z' : OM) (V' : Vs) (H' : Cells) (q1 : Sub Z Z') (q2 : Rel g f P Z' V' H' s) (q3 : I j V' H')
theorem ex_while {test body pos} (I : Nat → Vs → Cells → Prop)
    (turn : ∀ j V H, I j V H → let R := kLoop (kLess I j) Q; Ts g f n test V H (kWhile g f n body R V Q))
    (j : Nat) (h : I j V H) : Ex g f n (.While test body [] pos) V H Q := .mk fun A P Z s hr x => by
  refine wpAny_While (codeAny_whileLoop (WhInv g f P Z I) ?_ j ⟨Z, V, H, Sub.rfl, x, h⟩)
  rintro j s ⟨Z', V', H', z', x', hI⟩
  refine wpAny_mono ((turn j V' H' hI).go A P Z' s hr x') (fun b s1 ⟨Z1, H1, z1, x1, q1⟩ => ?_) fun _ _ e => e.elim
  cases b
  · exact wpAny_execs_nil ⟨Z1, .next, V', H1, z'.trans z1, x1, .next, q1⟩
  · refine wpAny_mono (q1.go A P Z1 s1 hr x1) (fun fl s2 ⟨Z2, fl', V2, H2, z2, x2, r2, q2⟩ => ?_) fun _ _ e => e.elim
    have zz := (z'.trans z1).trans z2
    cases r2 with
    | next => obtain ⟨j', hj, hI'⟩ := q2; exact ⟨j', hj, Z2, V2, H2, zz, x2, hI'⟩
    | cont => obtain ⟨j', hj, hI'⟩ := q2; exact ⟨j', hj, Z2, V2, H2, zz, x2, hI'⟩
    | brk => exact ⟨Z2, .next, V2, H2, zz, x2, .next, q2⟩
    | ret r => exact ⟨Z2, _, V2, H2, zz, x2, .ret r, q2⟩
end

noncomputable def getF : List (Nat × T) → Nat → Option T
  | [], _ => none
  | (j, t) :: r, k => bif Nat.beq j k then some t else getF r k
noncomputable def putF : List (Nat × T) → Nat → T → List (Nat × T)
  | [], k, t => [(k, t)]
  | (j, u) :: r, k, t => bif Nat.beq j k then (j, t) :: r else (j, u) :: putF r k t
theorem getF_hit {j k : Nat} {t : T} {r} (h : j = k) : getF ((j, t) :: r) k = some t := by subst h; simp [getF, Nat.beq_refl]
theorem getF_miss {j k : Nat} {t : T} {r} (h : j ≠ k) : getF ((j, t) :: r) k = getF r k := by simp [getF, beq_no h]
theorem putF_hit {j k : Nat} {t u : T} {r} (h : j = k) : putF ((j, u) :: r) k t = (j, t) :: r := by subst h; simp [putF, Nat.beq_refl]
theorem putF_miss {j k : Nat} {t u : T} {r} (h : j ≠ k) : putF ((j, u) :: r) k t = (j, u) :: putF r k t := by simp [putF, beq_no h]
theorem isStr_nm {j k : Nat} {tk : Tok} (hj : j < nN) (hk : k < nN) : (Value.str (nm j) tk).isStr (nm k) = Nat.beq j k := by
  show (nm j == nm k) = Nat.beq j k
  by_cases h : j = k
  · subst h; simp [Nat.beq_refl]
  · rw [beq_no h]
    cases q : nm j == nm k with
    | false => rfl
    | true => rw [beq_iff_eq] at q; exact absurd (nm_inj hj hk q) h
theorem getL_of {Z : OM} {es : List DictEntry} {fs : List (Nat × T)} {k : Nat} {t : T} (r : RdE Z es fs) (hk : k < nN) : getF fs k = some t → ∃ v, getL (nm k) es = some (some v) ∧ Rd Z v t :=
  r.ind (m := fun es fs => getF fs k = some t → ∃ v, getL (nm k) es = some (some v) ∧ Rd Z v t) (fun h => nomatch h) fun {_ j _ v _ es _} hj a r ih h => by
    by_cases q : j = k
    · rw [getF_hit q] at h
      refine ⟨v, ?_, Option.some.inj h ▸ a⟩
      unfold getL
      rw [List.find?_cons_of_pos (by dsimp only; rw [isStr_nm hj hk, q, Nat.beq_refl])]
    · rw [getF_miss q] at h
      obtain ⟨w, e, b⟩ := ih h
      refine ⟨w, ?_, b⟩
      unfold getL at e ⊢
      rw [List.find?_cons_of_neg (by dsimp only; rw [isStr_nm hj hk, beq_no q]; simp)]
      cases hf : es.find? (·.key.isStr (nm k)) with
      | some en => rw [hf] at e; exact e
      | none => rw [hf] at e; dsimp only at e; split at e <;> cases e
theorem noRef_of {Z : OM} {es : List DictEntry} {fs : List (Nat × T)} (r : RdE Z es fs) : es.any (·.refKey) = false :=
  r.ind (m := fun es _ => es.any (·.refKey) = false) rfl fun _ _ _ ih => by rw [List.any_cons, ih]; rfl
theorem getL_none {Z : OM} {es : List DictEntry} {fs : List (Nat × T)} {k : Nat} (r : RdE Z es fs) (hk : k < nN) : getF fs k = none → getL (nm k) es = some none :=
  r.ind (m := fun es fs => getF fs k = none → getL (nm k) es = some none) (fun _ => rfl) fun {_ j _ v _ es _} hj a r ih h => by
    by_cases q : j = k
    · rw [getF_hit q] at h; exact nomatch h
    · rw [getF_miss q] at h
      have e := ih h
      have hn := noRef_of r
      unfold getL at e ⊢
      rw [List.find?_cons_of_neg (by dsimp only; rw [isStr_nm hj hk, beq_no q]; simp)]
      cases hf : es.find? (·.key.isStr (nm k)) with
      | some en => rw [hf] at e; exact nomatch e
      | none => dsimp only; rw [List.any_cons, hn]; rfl
theorem putL_of {Z : OM} {hsh : Int} {tk : Tok} {v : Value} {t : T} {es : List DictEntry} {fs : List (Nat × T)} {k : Nat} (r : RdE Z es fs) (hk : k < nN) (a : Rd Z v t) : RdE Z (putL (nm k) hsh (.str (nm k) tk) v es) (putF fs k t) :=
  r.ind (m := fun es fs => RdE Z (putL (nm k) hsh (.str (nm k) tk) v es) (putF fs k t)) (.cons hk a .nil) fun {_ j _ _ _ _ _} hj b r ih => by
    by_cases q : j = k
    · rw [putF_hit q]
      unfold putL
      rw [if_pos (by dsimp only; rw [isStr_nm hj hk, q, Nat.beq_refl])]
      exact .cons hj a r
    · rw [putF_miss q]
      unfold putL
      rw [if_neg (by dsimp only; rw [isStr_nm hj hk, beq_no q]; simp)]
      exact .cons hj b ih
theorem RdE.length {Z : OM} {es : List DictEntry} {fs : List (Nat × T)} (r : RdE Z es fs) : es.length = fs.length := r.ind (m := fun es fs => es.length = fs.length) rfl fun _ _ _ i => congrArg (· + 1) i

noncomputable def AsInst (H : Cells) (t : T) (C : Addr) (fs : List (Nat × T)) : Prop := t = .inst C fs ∨ ∃ a dx, t = .ref a ∧ H a = some (.inst C dx fs)
noncomputable def AsList (H : Cells) (t : T) (ts : List T) : Prop := t = .lst ts ∨ ∃ a, t = .ref a ∧ H a = some (.list ts)
theorem AsInst.tree {H : Cells} {C : Addr} {fs : List (Nat × T)} : AsInst H (.inst C fs) C fs := .inl rfl
theorem AsInst.cell {H : Cells} {a C dx : Addr} {fs : List (Nat × T)} (h : H a = some (.inst C dx fs)) : AsInst H (.ref a) C fs := .inr ⟨a, dx, rfl, h⟩
theorem AsList.tree {H : Cells} {ts : List T} : AsList H (.lst ts) ts := .inl rfl
theorem AsList.cell {H : Cells} {a : Addr} {ts : List T} (h : H a = some (.list ts)) : AsList H (.ref a) ts := .inr ⟨a, rfl, h⟩

section
variable {g : Gl} {f : Fm} {n : Nat} {V : Vs} {H : Cells} {P Z : OM} {s : Shared}
inductive InstOf (Z : OM) (s : Shared) (v : Value) (C : Addr) (fs : List (Nat × T)) : Prop
  | mk (a dx : Addr) (es : List DictEntry) (k : Nat) (hv : v = .ref a) (e : s.heap.get? a = some (instObj C dx)) (d : s.heap.get? dx = some (dictOf es k)) (q : RdE Z es fs)
inductive ListOf (Z : OM) (s : Shared) (v : Value) (ts : List T) : Prop
  | mk (a : Addr) (vs : Array Value) (hv : v = .ref a) (hL : s.heap.IsList a vs) (q : RdL Z vs.toList ts)
inductive TupOf (Z : OM) (s : Shared) (v : Value) (ts : List T) : Prop
  | mk (a : Addr) (vs : Array Value) (hv : v = .ref a) (h1 : s.heap.IsTuple a vs) (h2 : IsTup s.heap a vs) (q : RdL Z vs.toList ts)
theorem inst_of (x : St g P Z H s) {t : T} {C : Addr} {fs : List (Nat × T)} (ha : AsInst H t C fs) {v : Value} (r : Rd Z v t) : InstOf Z s v C fs := by
  rcases ha with rfl | ⟨a, dx, rfl, hc⟩
  · obtain ⟨a, dx, es, k, rfl, e, d, q⟩ := r.view
    exact ⟨_, _, _, _, rfl, x.kz _ _ e, x.kz _ _ d, q⟩
  · cases r.view
    obtain ⟨e, es, k, d, q⟩ := x.cl a _ hc
    exact ⟨a, dx, es, k, rfl, e, d, q⟩
theorem list_of (x : St g P Z H s) {t : T} {ts : List T} (ha : AsList H t ts) {v : Value} (r : Rd Z v t) : ListOf Z s v ts := by
  rcases ha with rfl | ⟨a, rfl, hc⟩
  · obtain ⟨a, d, vs, ep, sl, rfl, e, q⟩ := r.view
    exact ⟨_, _, rfl, ⟨_, x.kz _ _ e, rfl, _, rfl⟩, q⟩
  · cases r.view
    obtain ⟨vs, ep, e, q⟩ := x.cl a _ hc
    exact ⟨a, vs, rfl, ⟨_, e, rfl, _, rfl⟩, q⟩
theorem tup_of (x : St g P Z H s) {ts : List T} {v : Value} (r : Rd Z v (.tup ts)) : TupOf Z s v ts := by
  obtain ⟨a, d, vs, ep, sl, rfl, e, q⟩ := r.view
  exact ⟨_, _, rfl, ⟨_, x.kz _ _ e, rfl, _, rfl⟩, ⟨_, x.kz _ _ e, rfl, _, rfl⟩, q⟩
theorem handed_rd {v : Value} {t : T} (r : Rd Z v t) : handedIn v = true := by cases r <;> rfl

/-- facts of a class of the text -/
structure ClsOk (K : Frag) (C : Addr) : Prop where
  get : findIn K (.ref C) "__getattribute__" = some (some (.builtin "object.__getattribute__"))
  noget : findIn K (.ref C) "__getattr__" = some none
  dict : hasDictIn K C = true
  set : findIn K (.ref C) "__setattr__" = some (some (.builtin "object.__setattr__"))
  over : plainOver K C = true
  make : makesIn K C = true
/-- a name that is a field alone -/
noncomputable def FieldOk (K : Frag) (C : Addr) (k : Nat) : Prop := findIn K (.ref C) (nm k) = some none ∧ takerIn K C (nm k) = some none
noncomputable def MethOk (K : Frag) (C : Addr) (k : Nat) (fa : Addr) : Prop := findIn K (.ref C) (nm k) = some (some (.ref fa)) ∧ typeIn K (.ref fa) = some (.type "function") ∧ fnIn K fa = true ∧ keepIn K (.ref fa) = true

theorem getattr_ok {A : Around} {E : Value → Shared → Prop} {Q : Value → Shared → Prop} (x : St g P Z H s) {v : Value} {t u : T} {C : Addr} {fs : List (Nat × T)} {k : Nat} {expr : Bool} (r : Rd Z v t) (ha : AsInst H t C fs) (hk : k < nN)
    (hu : getF fs k = some u) (hC : ClsOk g.K C) (hF : FieldOk g.K C k) (h : ∀ w, Rd Z w u → Q w { s with toks := s.toks + 1 }) : wpAny g.M A (getAttr v (nm k) expr) Q E s := by
  obtain ⟨a, dx, es, j, rfl, e, d, q⟩ := inst_of x ha r
  obtain ⟨w, hw, rw'⟩ := getL_of q hk hu
  have I : InstAt s.heap a (instObj C dx) C (some (dictOf es j)) := ⟨e, rfl, rfl, d⟩
  exact get_value x.KX I hC.get (findObj_own (attr := none) hC.dict hF.1 rfl (by rw [lookIn_dict]; exact hw)) (handed_rd rw') (h w rw')
end
section
variable {g : Gl} {f : Fm} {n : Nat} {V : Vs} {H : Cells} {Q : T → Cells → Prop}
inductive kAttr0 (K : Frag) (k : Nat) (Q : T → Cells → Prop) (t : T) (H : Cells) : Prop
  | mk (C : Addr) (fs : List (Nat × T)) (u : T) (h1 : AsInst H t C fs) (h2 : getF fs k = some u) (h3 : ClsOk K C) (h4 : FieldOk K C k) (h5 : Q u H)
theorem ev_attr {e pos} {k : Nat} (h : Ev g f n e V H (kAttr0 g.K k Q)) (hk : Nat.blt k nN = true := by rfl)
    (hb : ∀ env, attributeBase e (nm k) env (eval e env) = eval e env := by intro _; rfl) : Ev g f n (.Attribute e (nm k) pos) V H Q := .mk fun A P Z s hr x => by
  rw [arm_eval_Attribute, hb]
  rw [Nat.blt_eq] at hk
  refine wpAny_bind (wpAny_mono (h.go A P Z s hr x) (fun v s1 ⟨Z1, t, H1, z1, x1, r1, C, fs, u, ha, hu, hC, hF, q⟩ => ?_) fun _ _ e => e)
  refine wpAny_bind (wpAny_standAt (wpAny_bind (wpAny_holding (getattr_ok x1.st r1 ha hk hu hC hF fun w rw' => ?_))))
  exact wpAny_bind (wpAny_letTemporaryGo (wpAny_pure ⟨Z1, u, H1, z1, x1.toks, rw', q⟩))

theorem ev_sub {value slice pos} (h : Ev g f n value V H (kEv2 g f n slice (subscriptTail value slice) V Q)) : Ev g f n (.Subscript value slice pos) V H Q := .mk fun A P Z s hr x =>
  Subscript_ (wpAny_mono (h.go A P Z s hr x) (fun va s1 ⟨Z1, ta, H1, z1, x1, ra, q1⟩ => wpAny_mono (q1.go A P Z1 s1 hr x1) (fun vb s2 ⟨Z2, tb, H2, z2, x2, rb, q2⟩ =>
    wpAny_mono (q2.go A P Z2 s2 va vb hr x2 (ra.mono z2) rb) (fun v s3 h3 => EP.up (z1.trans z2) h3) fun _ _ e => e) fun _ _ e => e) fun _ _ e => e)
theorem getI {ts : List T} {i : Int} {u : T} (h0 : 0 ≤ i) (h : ts[i.toNat]? = some u) : i < ts.length := by
  have := (List.getElem?_eq_some_iff.mp h).1; walk_at "la"
theorem op_sub_list {value slice} {t u : T} {ts : List T} {i : Int} (ha : AsList H t ts) (h0 : 0 ≤ i) (hl : ts.length ≤ 1000000) (hu : ts[i.toNat]? = some u) (h : Q u H)
    (hs : ∀ o j, subscripted slice false o j = operate [o, j] (getItem o j) := by intro _ _; rfl) : Op2 g f n (subscriptTail value slice) t (.int i) V H Q := .mk fun A P Z s va vb hr x ra rb => by
  obtain ⟨a, vs, rfl, hL, q⟩ := list_of x.st ha ra
  obtain ⟨tb, rfl⟩ := rb.view
  obtain ⟨w, hw, rw'⟩ := q.get hu
  have := getI h0 hu
  exact tail_any hL.typeIs slot_list_getitem.lookup (wpAny_getItem_list hL h0 (by walk_at "la") (by simpa using hw) (EP.mk x rw' h)) (hs _ _)
theorem op_sub_tup {value slice} {u : T} {ts : List T} {i : Int} (h0 : 0 ≤ i) (hl : ts.length ≤ 1000000) (hu : ts[i.toNat]? = some u) (h : Q u H)
    (hs : ∀ o j, subscripted slice false o j = operate [o, j] (getItem o j) := by intro _ _; rfl) : Op2 g f n (subscriptTail value slice) (.tup ts) (.int i) V H Q := .mk fun A P Z s va vb hr x ra rb => by
  obtain ⟨a, vs, rfl, _, hL, q⟩ := tup_of x.st ra
  obtain ⟨tb, rfl⟩ := rb.view
  obtain ⟨w, hw, rw'⟩ := q.get hu
  have h1 := getI h0 hu
  have hj : seqIndex? i vs.size = some i.toNat := by
    have e : vs.size = ts.length := by rw [← q.length]; simp
    have hn : ¬ i < 0 := by walk_at "la"
    rw [e]
    simp [seqIndex?, hn, h0, h1]
  exact tail_any hL.typeIs slot_tuple_getitem.lookup (getItem_tuple hL (by walk_at "la") (by walk_at "la") hj (by simpa using hw) (EP.mk x rw' h)) (hs _ _)
theorem rd_bytes {Z : OM} {v : Value} {b : List UInt8} (r : Rd Z v (.bytes b)) : RdBytes v b := r.view
theorem op_sub_bytes {value slice} {b : List UInt8} {i : Int} (h0 : 0 ≤ i) (hl : b.length ≤ 1000000) (h1 : i < b.length) (h : Q (.int (b.getD i.toNat 0).toNat) H)
    (hs : ∀ o j, subscripted slice false o j = operate [o, j] (getItem o j) := by intro _ _; rfl) : Op2 g f n (subscriptTail value slice) (.bytes b) (.int i) V H Q := .mk fun A P Z s va vb hr x ra rb => by
  obtain ⟨arr, tk, rfl, rfl⟩ := rd_bytes ra
  obtain ⟨tb, rfl⟩ := rb.view
  refine tail_any (typeIs_bytes s arr tk) PySem.W.FB.slot_bytes_getitem.lookup ?_ (hs _ _)
  have := PySem.W.getItem_bytes (prog := g.prog) (w := g.w) (A := A) (E := NoE) (s := s) (t := tk) (u := tb) (l := arr.toList) (i := i) (Q := EP g f P Z V Q) (by walk_at "la") h0 h1 (EP.mk x.toks (.int _ _) h)
  simpa using this
end
end

section
section
variable {g : Gl} {f : Fm} {n : Nat} {V : Vs} {H : Cells} {Q : T → Cells → Prop}

noncomputable def GlobIs (g : Gl) (k : Nat) (v : Value) : Prop := g.mg (nm k) = some v ∨ (g.mg (nm k) = none ∧ g.mb (nm k) = some v)
theorem glob_ok {A : Around} {P Z : OM} {s : Shared} {E : Value → Shared → Prop} {Q : Value → Shared → Prop} (x : Rel g f P Z V H s) {k : Nat} {v : Value} {pos : Pos} (hk : Nat.blt k nN = true) (hm : memN f.globs k = true) (hv : GlobIs g k v) (h : Q v s) :
    wpAny g.M A (eval (.Name (nm k) pos) f.env) Q E s := by
  rw [Nat.blt_eq] at hk
  refine Calls.Name_function_global x.fo.hk (x.fo.gb k hm) ?_ (nm_debug hk)
  have hG : s.heap.Ns f.env.globals g.mg := by rw [x.fo.hg]; exact g.TR.g.keeps x.st.kept
  have hB : s.heap.Ns f.env.builtins g.mb := by rw [x.fo.hb]; exact g.TR.b.keeps x.st.kept
  rcases hv with hv | ⟨h1, h2⟩
  · exact Calls.loadGlobal_global hG hv h
  · exact Calls.loadGlobal_builtin hG h1 hB h2 h
theorem ev_gint {k : Nat} {pos : Pos} {i : Int} (hm : memN f.globs k = true) (hv : ∃ tk, GlobIs g k (.int i tk)) (h : Q (.int i) H) (hk : Nat.blt k nN = true := by rfl) : Ev g f n (.Name (nm k) pos) V H Q := .mk fun A P Z s hr x =>
  let ⟨tk, hv⟩ := hv; glob_ok x hk hm hv (EP.mk x (.int i tk) h)

noncomputable def Kp (g : Gl) (fv : Value) : Prop := ∀ h, g.K.In h → ∃ k, (k = Keeper.frame ∨ k = Keeper.machine ∨ k = Keeper.boundFrame) ∧ Looks g.M h (keeperOf fv) k
theorem kp_builtin {id : String} : Kp g (.builtin id) := fun _ _ => ⟨.machine, .inr (.inl rfl), Looks.of_pure rfl⟩
theorem kp_type {id : String} : Kp g (.type id) := fun _ _ => ⟨.machine, .inr (.inl rfl), Looks.of_pure rfl⟩
theorem kp_keep {a : Addr} (h : keepIn g.K (.ref a) = true) : Kp g (.ref a) := fun h' X => keeps_K h h' X

/-- a call of a value upon values -/
structure Cl (g : Gl) (f : Fm) (n : Nat) (fv : Value) (ts : List T) (V : Vs) (H : Cells) (Q : T → Cells → Prop) : Prop where
  go : ∀ A P Z s vs, RoomF f n A → Rel g f P Z V H s → RdL Z vs ts → wpAny g.M A (call fv vs) (EP g f P Z V Q) NoE s
theorem evalArgs_any {M : Model} {A : Around} {E : Value → Shared → Prop} {s : Shared} {fv : Value} {args : List (Bool × Sem Value)} {Q : Args → Shared → Prop} (hp : args.any (·.1) = false)
    (h : wpAny M A (spliced args) (fun vs s' => Q ⟨vs, []⟩ s') E s) : wpAny M A (evalArgs fv true args []) Q E s := by
  cases args with
  | nil =>
    unfold evalArgs
    show wpAny M A (spliced [] >>= _) Q E s
    refine wpAny_bind (wpAny_mono h (fun vs s' h' => ?_) fun _ _ x => x)
    refine wpAny_bind (wpAny_pure ?_)
    refine wpAny_holding ?_
    exact wpAny_bind (wpAny_pure (wpAny_bind (wpAny_pure (wpAny_pure h'))))
  | cons a rest =>
    obtain ⟨b, x⟩ := a
    rw [List.any_cons, Bool.or_eq_false_iff] at hp
    obtain ⟨rfl, _⟩ := hp
    exact Calls.evalArgs_plain h
theorem callW {A : Around} {P Z : OM} {s : Shared} {Q : Value → Shared → Prop} (hr : RoomF f n A) (x : Rel g f P Z V H s) {fv : Value} {first : List Value} {args : List Expr} {pos : Pos} (hk : Kp g fv)
    (hp : ∀ pos env, (backTo pos (starEach args env)).any (·.1) = false)
    (h : Evs g f n args V H fun ts H1 => ∀ Z1 s1 vs, Sub Z Z1 → Rel g f P Z1 V H1 s1 → RdL Z1 vs ts → wpAny g.M A (call fv (first ++ vs)) Q NoE s1) :
    wpAny g.M A (callWith pos fv first (backTo pos (starEach args f.env)) []) Q NoE s := by
  refine callWith_of (P := fun h => g.K.In h) (by rw [hp]; rfl) hk ?_
  refine evalArgs_any (hp _ _) (wpAny_mono (h.go A P Z s pos hr x) (fun vs s1 ⟨Z1, ts, H1, z1, x1, r1, q1⟩ => ?_) fun _ _ e => e)
  exact ⟨x1.KX, q1 Z1 s1 vs z1 x1 r1⟩

theorem Evs.mono {es} {L L' : List T → Cells → Prop} (h : Evs g f n es V H L) (hq : ∀ ts H', L ts H' → L' ts H') : Evs g f n es V H L' := .mk fun A P Z s pos hr x =>
  wpAny_mono (h.go A P Z s pos hr x) (fun v s1 ⟨Z1, t, H1, z1, x1, r1, q1⟩ => ⟨Z1, t, H1, z1, x1, r1, hq _ _ q1⟩) fun _ _ e => e

/-- a call of a global name -/
theorem ev_call {k : Nat} {p pos : Pos} {args : List Expr} {fv : Value} (hm : memN f.globs k = true) (hv : GlobIs g k fv) (hkp : Kp g fv)
    (h : Evs g f n args V H fun ts H1 => Cl g f n fv ts V H1 Q) (hk : Nat.blt k nN = true := by rfl)
    (hp : ∀ pos env, (backTo pos (starEach args env)).any (·.1) = false := by intro _ _; rfl) : Ev g f n (.Call (.Name (nm k) p) args [] pos) V H Q := .mk fun A P Z s hr x =>
  wpAny_Call_NameR (glob_ok x hk hm hv (callW (first := []) hr x hkp hp (h.mono fun ts H1 hc Z1 s1 vs z1 x1 r1 => wpAny_mono (hc.go A P Z1 s1 vs hr x1 r1) (fun _ _ e => EP.up z1 e) fun _ _ e => e)))

/-- of a def, by its contract -/
theorem cl_fn {fa m : Nat} {ts : List T} (h : FSpec g m fa ts H Q) (hm : m ≤ n) : Cl g f n (.ref fa) ts V H Q := .mk fun A P Z s vs hr x r => by
  obtain ⟨st, back⟩ := x.call
  refine wpAny_call (codeAny_mono (h.go A _ Z s vs (hr.le hm) st r) fun res s' ⟨v, Z', t, H', e, z', st', rd, q⟩ => ?_)
  subst e
  exact ⟨Z', t, H', z', back Z' H' s' z' st', rd, q⟩

/-- of a class, by the contract of its __init__ -/
theorem cl_cls {C fI m : Nat} {ts : List T} (hC : ClsOk g.K C) (hi : findIn g.K (.ref C) "__init__" = some (some (.ref fI))) (hf : typeIn g.K (.ref fI) = some (.type "function"))
    (h : ∀ x dx, H x = none → FSpec g m fI (.ref x :: ts) (updH H x (.inst C dx [])) fun t H' => t = .none ∧ Q (.ref x) H') (hm : m + 1 ≤ n) : Cl g f n (.ref C) ts V H Q := .mk fun A P Z s vs hr x r => by
  obtain ⟨st, back⟩ := x.call
  generalize hPc : calleeP g P Z H s = Pc at st back
  have X := st.KX
  have Y := makes_of (M := g.M) X hC.make
  have hn0 := none_fresh s.heap
  have k1 : ∀ b o, s.heap.get? b = some o → (s.heap.push emptyDict).get? b = some o := fun b o e => Heap.get?_push_of_some _ e
  have k2 : ∀ b o, s.heap.get? b = some o → ((s.heap.push emptyDict).push (instObj C s.heap.objs.size)).get? b = some o := fun b o e => Heap.get?_push_of_some _ (k1 b o e)
  have hx : ((s.heap.push emptyDict).push (instObj C s.heap.objs.size)).get? (s.heap.objs.size + 1) = some (instObj C s.heap.objs.size) := by
    have := Heap.get?_push_size (s.heap.push emptyDict) (o := instObj C s.heap.objs.size) rfl
    rwa [Heap.size_push] at this
  have hd : ((s.heap.push emptyDict).push (instObj C s.heap.objs.size)).get? s.heap.objs.size = some emptyDict := Heap.get?_push_of_some _ (Heap.get?_push_size _ rfl)
  have hn1 : s.heap.get? (s.heap.objs.size + 1) = none := by
    cases q : s.heap.get? (s.heap.objs.size + 1) with
    | none => rfl
    | some o => exact absurd (Heap.lt_size q) (Nat.not_lt.mpr (Nat.le_succ _))
  have st1 : St g Pc Z H { s with heap := (s.heap.push emptyDict).push (instObj C s.heap.objs.size) } := st.keep k2
  have ux := st.un hn1
  have ud := st.un hn0
  have hH : H (s.heap.objs.size + 1) = none := by
    cases e : H (s.heap.objs.size + 1) with
    | none => rfl
    | some c => exact absurd (by cases c <;> simp [Cell.addrs]) (ux.2.2 _ c e)
  have st2 := st1.addH (a := s.heap.objs.size + 1) (c := .inst C s.heap.objs.size []) ⟨hx, [], 0, hd, .nil⟩ (fun d hd' => by
    simp only [Cell.addrs, List.mem_cons, List.not_mem_nil, or_false] at hd'
    rcases hd' with rfl | rfl
    · exact ux
    · exact ud)
  have hr' : Room m (A.under (.builtin "type.__call__" ⟨.ref C :: vs, []⟩)) := ⟨hr.1, by
    rw [depth_under_make]; have h9 := hr.2; have h8 := hm; walk_at "la", by
    rw [units_under_make]; have h9 := hr.3; have h8 := hm; walk_at "la"⟩
  have h1 := (h (s.heap.objs.size + 1) s.heap.objs.size hH).go _ Pc Z _ (.ref (s.heap.objs.size + 1) :: vs) hr' st2 (.cons (.ref _) r)
  obtain ⟨hh, gg, dd, tt, oo⟩ := s
  refine wpAny_call (make_core Y (looks_findIn X hi) (fun self => bind_fn X self hf) (.inl rfl) (codeAny_mono h1 fun res s' ⟨v, Z', t, H', e, z', st', rd, ht, q⟩ => ?_))
  subst e ht
  cases rd
  exact ⟨rfl, Z', _, H', z', back Z' H' s' z' st', .ref _, q⟩

theorem form_ok {args : List Expr} {pos : Pos} {env : Env} (hp : (backTo pos (starEach args env)).any (·.1) = false) (hl : args.length < 20) :
    methodCallForm (args.length + ([] : List Keyword).length) (backTo pos (starEach args env)) (backToKw pos (keywordEach [] env)) = true := by
  unfold methodCallForm
  have h1 : (backTo pos (starEach args env)).all (fun x => !x.1) = true := by
    rw [List.all_eq_not_any_not]
    simp only [Bool.not_not]
    rw [hp]; rfl
  rw [h1]
  have h2 : backToKw pos (keywordEach [] env) = [] := rfl
  rw [h2]
  simp only [List.all_nil, Bool.and_self, List.isEmpty_nil, if_true, Bool.true_and, List.length_nil, Nat.add_zero, decide_eq_true_eq]
  walk_at "la"
/-- a method of an object of the text's own -/
@[reducible] noncomputable def kMeth2 (g : Gl) (n fa : Nat) (t : T) (Q : T → Cells → Prop) : List T → Cells → Prop := fun ts H => FSpec g n fa (t :: ts) H Q
inductive kMeth0 (g : Gl) (f : Fm) (n m k : Nat) (args : List Expr) (V : Vs) (Q : T → Cells → Prop) (t : T) (H : Cells) : Prop
  | mk (C : Addr) (fs : List (Nat × T)) (fa : Addr) (h1 : AsInst H t C fs) (h2 : getF fs k = none) (h3 : ClsOk g.K C) (h4 : MethOk g.K C k fa) (h5 : Evs g f n args V H (kMeth2 g m fa t Q))
theorem ev_meth {o apos pos} {k : Nat} {args : List Expr} {m : Nat}
    (h : Ev g f n o V H (kMeth0 g f n m k args V Q)) (hm : m ≤ n)
    (hk : Nat.blt k nN = true := by rfl) (hp : ∀ pos env, (backTo pos (starEach args env)).any (·.1) = false := by intro _ _; rfl) (hl : args.length < 20 := by decide)
    (hb : ∀ env, attributeBase o (nm k) env (eval o env) = eval o env := by intro _; rfl) (hline : (apos.endLine == pos.line) = true := by rfl) : Ev g f n (.Call (.Attribute o (nm k) apos) args [] pos) V H Q := .mk fun A P Z s hr x => by
  rw [arm_eval_Call, hb]
  rw [Nat.blt_eq] at hk
  refine wpAny_bind (wpAny_mono (h.go A P Z s hr x) (fun v s1 ⟨Z1, t, H1, z1, x1, r1, C, fs, fa, ha, hu, hC, hM, q⟩ => ?_) fun _ _ e => e)
  refine wpAny_bind (wpAny_standAt ?_)
  have hform := form_ok (pos := pos) (env := f.env) (hp _ _) hl
  have hpos : methodCallPos true o f.env apos pos = pure pos := by unfold methodCallPos; simp [hline]
  unfold methodCall
  rw [hform]
  obtain ⟨a, dx, es, j, rfl, e, d, rq⟩ := inst_of x1.st ha r1
  have I : InstAt s1.heap a (instObj C dx) C (some (dictOf es j)) := ⟨e, rfl, rfl, d⟩
  refine wpAny_bind (wpAny_holding (method_fn x1.KX I hC.get hC.noget hM.1 hM.2.1 ?_ ?_))
  · show (lookIn (nm k) (dictOf es j)).map _ = _
    rw [lookIn_dict, getL_none rq hk hu]; rfl
  · refine wpAny_bind (wpAny_of_eq hpos ?_)
    refine callW hr x1 (kp_keep hM.2.2.2) hp (q.mono fun ts H2 hc Z2 s2 vs z2 x2 r2 => ?_)
    exact wpAny_mono ((cl_fn (f := f) (V := V) hc hm).go A P Z2 s2 _ hr x2 (.cons (r1.mono z2) r2)) (fun _ _ e => EP.up (z1.trans z2) e) fun _ _ e => e

inductive kApp2 (Q : T → Cells → Prop) (a : Addr) (u : T) (H : Cells) : Prop
  | mk (ts : List T) (hc : H a = some (.list ts)) (hl : ts.length ≤ 1000) (q : Q .none (updH H a (.list (ts ++ [u]))))
inductive kApp1 (g : Gl) (f : Fm) (n : Nat) (elt : Expr) (V : Vs) (Q : T → Cells → Prop) (t : T) (H : Cells) : Prop
  | mk (a : Addr) (ht : t = .ref a) (ts0 : List T) (h0 : H a = some (.list ts0)) (q : Ev g f n elt V H (kApp2 Q a))
theorem ev_append {o elt apos pos} (h : Ev g f n o V H (kApp1 g f n elt V Q))
    (hb : ∀ env, attributeBase o (nm 64) env (eval o env) = eval o env := by intro _; rfl) (hline : (apos.endLine == pos.line) = true := by rfl)
    (he : ∀ pos env, backTo pos (starEach [elt] env) = [(false, eval elt env)] := by intro _ _; rfl) : Ev g f n (.Call (.Attribute o (nm 64) apos) [elt] [] pos) V H Q := .mk fun A P Z s hr x => by
  refine wpAny_Call_append (hb _) (by rw [he]; rfl) hline (he _ _) (wpAny_mono (h.go A P Z s hr x) (fun v s1 ⟨Z1, t, H1, z1, x1, r1, a, ht, ts0, h0, q1⟩ => ?_) fun _ _ e => e)
  subst ht; cases r1.view
  obtain ⟨vs0, ep0, e0, _⟩ := x1.st.cl a _ h0
  refine ⟨a, vs0, rfl, ⟨_, _, e0, rfl, rfl, rfl⟩, wpAny_mono (q1.go A P Z1 s1 hr x1) (fun y s2 ⟨Z2, u, H2, z2, x2, r2, ts, hc, hl, q2⟩ => ?_) fun _ _ e => e⟩
  obtain ⟨vs, ep, e, r⟩ := x2.st.cl a _ hc
  refine wpAny_list_append_plain (items := vs) ⟨ep, e⟩ (fun h' ⟨ep', e'⟩ hs => ?_) (by have := r.length; simp only [Array.length_toList] at this; rw [sizeLine_eq]; walk_at "la")
  have x3 := x2.setH hc (c' := .list (ts ++ [u])) (h' := h') (tk := s2.toks) (fun b o hb e => hs.extBut b o (by simpa [Cell.addrs] using hb) e)
    ⟨vs.push y, ep', e', by simpa using r.append (.cons r2 .nil)⟩ rfl
  exact ⟨Z2, .none, _, z1.trans z2, x3, .none, q2⟩
end
end

section
noncomputable def rngItems (a b : Int) : List T := (List.range (b - a).toNat).map fun (j : Nat) => T.int (a + (j : Int))
inductive ItOk (H : Cells) : T → List T → Prop
  | list {t ts} : AsList H t ts → ItOk H t ts
  | tup {ts} : ItOk H (.tup ts) ts
  | rng {a b} : -(2 ^ 60) ≤ a → a < 2 ^ 60 → -(2 ^ 60) ≤ b → b < 2 ^ 60 → ItOk H (.rng a b) (rngItems a b)

structure Iter3 (g : Gl) (A : Around) (I : Addr) (ts : List T) (Nx : Nat → Obj → Prop) (Z : OM) (s : Shared) (i : Nat) : Prop where
  item : ∀ u, ts[i]? = some u → ∀ (Q : Option Value → Shared → Prop) E, (∀ w h' tk o', Rd Z w u → h'.get? I = some o' → Nx (i+1) o' → Heap.ExtBut I s.heap h' → Q (some w) { s with heap := h', toks := tk }) → wpAny g.M A (pyNext (.ref I)) Q E s
  stop : ts[i]? = none → ∀ (Q : Option Value → Shared → Prop) E, (∀ h' tk, Heap.ExtBut I s.heap h' → Q none { s with heap := h', toks := tk }) → wpAny g.M A (pyNext (.ref I)) Q E s
  self : ∀ (Q : Value → Shared → Prop) E, Q (.ref I) s → wpAny g.M A (pyIter (.ref I)) Q E s
structure Iter (g : Gl) (I : Addr) (v : Value) (t : T) (ts : List T) (Nx : Nat → Obj → Prop) : Prop where
  nd : ∀ i o, Nx i o → ∀ es n, o.data ≠ .dict es n
  go : ∀ A P Z H s i o, A.handled = none → St g P Z H s → Rd Z v t → ItOk H t ts → s.heap.get? I = some o → Nx i o → Iter3 g A I ts Nx Z s i

theorem iter_list {g : Gl} {I l : Addr} {t : T} {ts : List T} (hl : ∀ ts', t ≠ .tup ts') (hr : ∀ a b, t ≠ .rng a b) :
    Iter g I (.ref l) t ts (fun i o => o.cls = .type "list_iterator" ∧ o.data = .fields #[.ref l, .int i 0]) := by
  refine ⟨fun i o nx es n e => (by rw [nx.2] at e; cases e), fun A P Z H s i o hh x r ok ho nx => ?_⟩
  have ha : AsList H t ts := by cases ok with
    | list h => exact h
    | tup => exact absurd rfl (hl _)
    | rng => exact absurd rfl (hr _ _)
  obtain ⟨a, vs, e, hL, q⟩ := list_of x ha r
  cases e
  have hit : s.heap.IsListIter I l i := ⟨o, ho, nx.1, nx.2⟩
  refine ⟨fun u hu Q E h => ?_, fun hu Q E h => ?_, fun Q E h => wpAny_pyIter_listiter hit h⟩
  · obtain ⟨w, hw, rw'⟩ := q.get hu
    exact wpAny_pyNext_list_item hit hL (by simpa using hw) fun h' ⟨o', e1, e2, e3⟩ hs => h w h' s.toks o' rw' e1 ⟨e2, e3⟩ hs.extBut
  · refine wpAny_pyNext_list_end hh hit hL ?_ fun h' he => h h' s.toks he
    have := q.length
    rw [List.getElem?_eq_none_iff] at hu
    rw [Array.getElem?_eq_none_iff]
    simp only [Array.length_toList] at this
    walk_at "la"
theorem iter_tup {g : Gl} {I l : Addr} {ts : List T} :
    Iter g I (.ref l) (.tup ts) ts (fun i o => o.cls = .type "tuple_iterator" ∧ o.data = .fields #[.ref l, .int i 0]) := by
  refine ⟨fun i o nx es n e => (by rw [nx.2] at e; cases e), fun A P Z H s i o hh x r ok ho nx => ?_⟩
  obtain ⟨a, vs, e, hL, _, q⟩ := tup_of x r
  cases e
  have hit : s.heap.IsTupleIter I l i := ⟨o, ho, nx.1, nx.2⟩
  refine ⟨fun u hu Q E h => ?_, fun hu Q E h => ?_, fun Q E h => wpAny_pyIter_tupleiter hit h⟩
  · obtain ⟨w, hw, rw'⟩ := q.get hu
    exact wpAny_pyNext_tuple_item hit hL (by simpa using hw) fun h' ⟨o', e1, e2, e3⟩ hs => h w h' s.toks o' rw' e1 ⟨e2, e3⟩ hs.extBut
  · refine wpAny_pyNext_tuple_end hh hit hL ?_ fun h' he => h h' s.toks he
    have := q.length
    rw [List.getElem?_eq_none_iff] at hu
    rw [Array.getElem?_eq_none_iff]
    simp only [Array.length_toList] at this
    walk_at "la"
theorem iter_rng {g : Gl} {I : Addr} {v : Value} {a b : Int} :
    Iter g I v (.rng a b) (rngItems a b) (fun i o => i ≤ (b - a).toNat ∧ o = { cls := .type "range_iterator", dict := none, data := .fields #[rawInt (a + i), rawInt ((b - a).toNat - i), rawInt 1], slots := #[] }) := by
  refine ⟨fun i o nx es n e => (by rw [nx.2] at e; cases e), fun A P Z H s i o hh x r ok ho nx => ?_⟩
  obtain ⟨hi, rfl⟩ := nx
  refine ⟨fun u hu Q E h => ?_, fun hu Q E h => ?_, fun Q E h => wpAny_pyIter_rangeiter ho h⟩
  · have hl := (List.getElem?_eq_some_iff.mp hu).1
    simp only [rngItems, List.length_map, List.length_range] at hl
    refine wpAny_pyNext_range_item ho (by walk_at "la") fun h' hit hs => h _ h' _ _ ?_ hit ⟨hl, ?_⟩ hs.extBut
    · simp only [rngItems, List.getElem?_map, List.getElem?_range hl, Option.map_some, Option.some.injEq] at hu
      subst hu
      exact .int _ _
    · have e1 : a + (i : Int) + 1 = a + ((i + 1 : Nat) : Int) := by walk_at "la"
      have e2 : ((b - a).toNat : Int) - i - 1 = ((b - a).toNat : Int) - ((i + 1 : Nat) : Int) := by walk_at "la"
      rw [e1, e2]
  · rw [List.getElem?_eq_none_iff] at hu
    simp only [rngItems, List.length_map, List.length_range] at hu
    exact wpAny_pyNext_range_end hh ho (by walk_at "la") fun h' he => h h' s.toks he

theorem iter_start {g : Gl} {A : Around} {P Z : OM} {H : Cells} {s : Shared} {v : Value} {t : T} {ts : List T} {Q : Value → Shared → Prop} {E : Value → Shared → Prop} (x : St g P Z H s) (r : Rd Z v t) (ok : ItOk H t ts)
    (h : ∀ I o Nx h', s.heap.get? I = none → Iter g I v t ts Nx → Nx 0 o → h'.get? I = some o → (∀ b o, s.heap.get? b = some o → h'.get? b = some o) → Q (.ref I) { s with heap := h' }) :
    wpAny g.M A (pyIter v) Q E s := by
  cases ok with
  | list ha =>
    obtain ⟨a, vs, rfl, hL, q⟩ := list_of x ha r
    refine wpAny_pyIter_list hL (h _ _ _ _ (none_fresh _) (iter_list ?_ ?_) ⟨rfl, rfl⟩ (Heap.get?_push_size _ rfl) fun _ _ e => Heap.get?_push_of_some _ e)
    · rintro ts' rfl; rcases ha with e | ⟨_, e, _⟩ <;> cases e
    · rintro a b rfl; rcases ha with e | ⟨_, e, _⟩ <;> cases e
  | tup =>
    obtain ⟨a, vs, rfl, hL, _, q⟩ := tup_of x r
    exact wpAny_pyIter_tuple hL (h _ _ _ _ (none_fresh _) iter_tup ⟨rfl, rfl⟩ (Heap.get?_push_size _ rfl) fun _ _ e => Heap.get?_push_of_some _ e)
  | rng h1 h2 h3 h4 =>
    rename_i a b
    cases r with
    | rng e =>
      refine wpAny_pyIter_range (x.kz _ _ e) (small_one (by walk_at "la") (by walk_at "la") (by walk_at "la") (by walk_at "la")) (h _ _ _ _ (none_fresh _) iter_rng ⟨Nat.zero_le _, ?_⟩ (Heap.get?_push_size _ rfl) fun _ _ e => Heap.get?_push_of_some _ e)
      have e1 : Builtin.Range.rangeSize a b 1 = (((b - a).toNat : Nat) : Int) - ((0 : Nat) : Int) := by rw [rangeSize_one]; split <;> walk_at "la"
      rw [e1]
      simp

section
variable {g : Gl} {f : Fm} {n : Nat} {V : Vs} {H : Cells} {Q : SQ}
inductive KFor (g : Gl) (f : Fm) (n k : Nat) (body : List Stmt) (V : Vs) (Q : SQ) (t : T) (H1 : Cells) : Prop
  | mk (ts : List T) (ok : ItOk H1 t ts) (I : Nat → Vs → Cells → Prop) (h0 : I 0 V H1)
    (turn : ∀ i u V' H', ts[i]? = some u → I i V' H' → ItOk H' t ts ∧ hasT V' k = true ∧ Exs g f n body (setT V' k u) H' (kLoop (I (i + 1)) Q))
    (fin : ∀ V' H', I ts.length V' H' → ItOk H' t ts ∧ Q .next V' H')
inductive ForInv (g : Gl) (f : Fm) (P Z1 : OM) (I : Addr) (L : Nat) (J : Nat → Vs → Cells → Prop) (Nx : Nat → Obj → Prop) (j : Nat) (s : Shared) : Prop
  | mk (Z' : OM) (V' : Vs) (H' : Cells) (o' : Obj) (i : Nat) (q1 : Sub Z1 Z') (q2 : Rel g f P Z' V' H' s) (q3 : J i V' H') (q4 : i ≤ L) (q5 : j = L + 1 - i) (q6 : Un P Z' H' I) (q7 : s.heap.get? I = some o') (q8 : Nx i o')
/-- for: an invariant over what has been taken -/
theorem ex_for {k : Nat} {p iter body pos} (hf : f.full = true) (hk : hasT V k = true)
    (h : Ev g f n iter V H (KFor g f n k body V Q))
    (hs : ∀ env x, foldedSetIterable iter env x = pure x := by intro _ _; rfl) : Ex g f n (.For (.Name (nm k) p) iter body [] pos) V H Q := .mk fun A P Z s hr x => by
  refine wpAny_For (wpAny_mono (h.go A P Z s hr x) (fun v s1 ⟨Z1, t, H1, z1, x1, r1, ts, ok, J, j0, turn, fin⟩ => ?_) fun _ _ e => e) (hs _)
  refine iter_start x1.st r1 ok fun I o Nx h' hnone it nx ho hk' => ?_
  have un0 := x1.st.un hnone
  have base0 : g.s1.heap.get? I = none := by
    cases q : g.s1.heap.get? I with
    | none => rfl
    | some o' => rw [x1.st.kept _ _ q] at hnone; cases hnone
  have ncell : ∀ y, f.env.cells.lookup y ≠ some I := fun y e => by
    obtain ⟨_, ⟨w, o', e', _⟩, _⟩ := x1.fo.ce y I e
    rw [e'] at hnone; cases hnone
  have nown := x1.fresh_own hnone
  refine codeAny_forLoop (ForInv g f P Z1 I ts.length J Nx) ?_ (ts.length + 1)
    ⟨Z1, V, H1, o, 0, Sub.rfl, x1.keep (tk := s1.toks) hk', j0, Nat.zero_le _, rfl, un0, ho, nx⟩
  rintro j s2 ⟨Z2, V2, H2, o2, i, z2, x2, hJ, hi, rfl, un2, ho2, nx2⟩
  by_cases hlt : i < ts.length
  · have hu : ts[i]? = some ts[i] := List.getElem?_eq_getElem hlt
    obtain ⟨ok2, hk2, hbody⟩ := turn i _ V2 H2 hu hJ
    refine (it.go A P Z2 H2 s2 i o2 hr.1 x2.st (r1.mono z2) ok2 ho2 nx2).item _ hu _ _ fun w h3 tk o3 rw3 ho3 nx3 he3 => ?_
    have x3 : Rel g f P Z2 V2 H2 { s2 with heap := h3, toks := tk } := x2.ext un2 nown he3
    have x4 := x3.protect ho3 un2 nown
    refine wpAny_assign_Name (wpAny_mono (store_ok (E := NoE) x4 hk2 hf rw3) (fun _ s4 x5 => ?_) fun _ _ e => e.elim)
    refine wpAny_mono (hbody.go A _ Z2 s4 hr x5) (fun fl s5 ⟨Z5, fl', V5, H5, z5, x6, r6, q6⟩ => ?_) fun _ _ e => e.elim
    obtain ⟨x7, un7, ho7, _⟩ := x6.unprotect un0.1 base0 x1.st.base ncell (it.nd _ _ nx3)
    have back : J (i + 1) V5 H5 → ∃ m, m < ts.length + 1 - i ∧ ForInv g f P Z1 I ts.length J Nx m s5 := fun hJ' =>
      ⟨ts.length + 1 - (i + 1), dec1 hlt, Z5, V5, H5, o3, i + 1, z2.trans z5, x7, hJ', hlt, rfl, un7, ho7, nx3⟩
    cases r6 with
    | next => exact back q6
    | cont => exact back q6
    | brk => exact ⟨Z5, .next, V5, H5, (z1.trans z2).trans z5, x7, .next, q6⟩
    | ret r => exact ⟨Z5, _, V5, H5, (z1.trans z2).trans z5, x7, .ret r, q6⟩
  · have hi' : i = ts.length := by walk_at "la"
    subst hi'
    obtain ⟨ok2, hq⟩ := fin V2 H2 hJ
    refine (it.go A P Z2 H2 s2 _ o2 hr.1 x2.st (r1.mono z2) ok2 ho2 nx2).stop (List.getElem?_eq_none (Nat.le_refl _)) _ _ fun h3 tk he3 => ?_
    exact wpAny_execs_nil ⟨Z2, .next, V2, H2, z1.trans z2, x2.ext un2 nown he3, .next, hq⟩
end
end

section
theorem putL_len (name : Str) (hsh : Int) (key v : Value) : ∀ es : List DictEntry, (putL name hsh key v es).length ≤ es.length + 1
  | [] => Nat.le_refl _
  | e :: r => by
    unfold putL
    split
    · simp
    · have := putL_len name hsh key v r
      simp only [List.length_cons]; walk_at "la"

theorem mem_has : ∀ (V : Vs) (k : Nat), k ∈ V.map (·.1) → hasT V k = true
  | [], _, h => by simp at h
  | (i, o) :: r, k, h => by
    by_cases q : i = k
    · exact hasT_hit q
    · rw [hasT_miss q]
      rw [List.map_cons, List.mem_cons] at h
      exact mem_has r k (h.resolve_left fun e => q e.symm)

section
variable {prog : Program} {w : World} {A : Around} {R : Result → Shared → Prop} {s : Shared} {K : Frag} {x C : Addr}
theorem osa_raw {ox : Obj} {dx : Addr} {name : Str} {tk : Tok} {v : Value} {es : List DictEntry} {n : Nat} (X : K.In s.heap)
    (I : InstAt s.heap x ox C (some (dictOf es n))) (hd : ox.dict = some dx) (D : s.heap.get? dx = some (dictOf es n)) (hp : plainOver K C = true) (ht : takerIn K C name = some none) (hh : (clsIn K C).any (·.hasDict) = true)
    (hl : (lookIn name (dictOf es n)).isSome = true) (hz : es.length ≤ 999)
    (h : ∀ h' n' tk' hsh, Heap.SameBut dx s.heap h' → h'.get? dx = some (dictOf (putL name hsh (.str name tk') v es) n') → R (.ok (.ret .none)) { s with heap := h', toks := s.toks + 1 }) :
    codeAny (model prog w) A (.call (.builtin "object.__setattr__") ⟨[.ref x, .str name tk, v], []⟩) R s := by
  refine osa_open X I hp ht fun b => ?_
  obtain ⟨cd, hc, hd'⟩ := any_some hh
  obtain ⟨n', e⟩ : ∃ n', Obj.putName name (PyData.keyHash w.params name) (.str name s.toks) v (dictOf es n) = dictOf (putL name (PyData.keyHash w.params name) (.str name s.toks) v es) n' := by
    exact ⟨_, putName_dict ..⟩
  have D' : (s.heap.update dx (Obj.putName name (PyData.keyHash w.params name) (.str name s.toks) v)).get? dx = some (dictOf (putL name (PyData.keyHash w.params name) (.str name s.toks) v es) n') := by
    rw [← e]; exact Heap.get?_update_self _ D (by rw [e]; rfl)
  obtain ⟨hx, hcl, hn, -⟩ := I
  obtain ⟨oc, odi, oda, osl⟩ := ox
  dsimp only at hcl hd
  subst hcl hd
  refine wpAny_bind (wpAny_pure (wpAny_bind (wpAny_bind (wpAny_loadPart hx (wpAny_bind ((looks_clsIn X hc).here ?_))))))
  rw [hd']
  refine wpAny_pure (a := some dx) (wpAny_bind (wpAny_pure (wpAny_bind ?_)))
  unfold nsSet
  refine wpAny_bind (wpAny_bind (wpAny_askSetting (wpAny_pure (wpAny_bind (wpAny_mkText (wpAny_bind (wpAny_loadPart D ?_)))))))
  rw [lookIn_dict] at hl
  unfold getL at hl
  have c : (!es.toArray.any (·.key.isStr name) && es.toArray.any (·.refKey)) = false := by
    rw [← Array.any_toList, ← Array.any_toList]
    split at hl
    · rename_i en he
      rw [List.any_eq_true.mpr ⟨en, List.mem_of_find?_eq_some he, List.find?_some he⟩]; rfl
    · split at hl
      · cases hl
      · rename_i z; rw [Bool.not_eq_true] at z; rw [z, Bool.and_false]
  dsimp only [dictOf]
  rw [aRefKeyMayBeTheName_at, c]
  refine wpAny_updatePart D ?_
  refine wpAny_bind (wpAny_lookBehind D' ?_ ?_)
  · exact pastItsLine_dict (by rw [List.size_toArray, sizeLine_eq]; have := putL_len name (PyData.keyHash w.params name) (.str name s.toks) v es; walk_at "la")
  · exact wpAny_pure (h _ n' s.toks _ (Heap.SameBut.update ..) D')
end

section
variable {prog : Program} {w : World} {A : Around} {E : Value → Shared → Prop} {s : Shared}
theorem setItem_exact {l : Addr} {items : Array Value} {ep : Nat} {k : Int} {t : Tok} {v : Value} {Q : Unit → Shared → Prop} (ho : s.heap.get? l = some ⟨.type "list", none, .seq items ep, #[]⟩)
    (h0 : 0 ≤ k) (hfit : k < 2 ^ 63) (hn : k < items.size)
    (hQ : ∀ h' ep', h'.get? l = some ⟨.type "list", none, .seq (items.setIfInBounds k.toNat v) ep', #[]⟩ → Heap.SameBut l s.heap h' → Q () { s with heap := h' }) :
    wpAny (model prog w) A (setItem (.ref l) (.int k t) v) Q E s := by
  have hl : s.heap.IsList l items := ⟨_, ho, rfl, _, rfl⟩
  unfold setItem
  try with_reducible refine wpAny_holding ?_
  first | refine wpAny_bind (wpAny_pure ?_) | skip
  refine wpAny_bind (wpAny_sequenceKey hl.typeIs (by decide) ?_)
  refine wpAny_bind (wpAny_callSpecial?_slot (name := Str.ofString "__setitem__") hl.typeIs slot_list_setitem
    (wpAny_call_entry slot_list_setitem hl.typeIs entry_list_setitem ?_ (args_list_setitem _ _ _)))
  show wpAny _ _ (Builtin.List.listSubscript? (.int k t) >>= _) _ _ s
  refine wpAny_bind (wpAny_listSubscript_int (fitsIndex_of h0 hfit) ?_)
  clear hfit
  obtain ⟨j, rfl⟩ := Int.eq_ofNat_of_zero_le h0
  have hj : j < items.size := by walk_at "la"
  have hx' : items[j]? = some items[j] := Array.getElem?_eq_getElem hj
  show wpAny _ _ ((seqItemAt l j >>= fun r => pure (r.map (j, ·))) >>= _) _ _ s
  refine wpAny_bind (wpAny_bind (wpAny_seqItemAt ho rfl (wpAny_pure ?_)))
  rw [hx']
  show wpAny _ _ (setSeqItemAt l j v >>= _) _ _ s
  have hfin : ∃ ep', (s.heap.update l (Obj.mapSeq (·.setIfInBounds j v))).get? l = some ⟨.type "list", none, .seq (items.setIfInBounds j v) ep', #[]⟩ :=
    ⟨_, Heap.get?_update_self _ ho rfl⟩
  obtain ⟨ep', hfin⟩ := hfin
  refine wpAny_bind (wpAny_setSeqItemAt ho rfl ?_)
  first
    | exact wpAny_bind (wpAny_pure (wpAny_pure ⟨.none, rfl, wpAny_pure (hQ _ _ hfin (Heap.SameBut.update ..))⟩))
    | exact wpAny_pure ⟨.none, rfl, wpAny_pure (hQ _ _ hfin (Heap.SameBut.update ..))⟩
end

section
variable {g : Gl} {f : Fm} {n : Nat} {V : Vs} {H : Cells} {Q : SQ}
inductive kAsgA0 (K : Frag) (k : Nat) (t : T) (V : Vs) (Q : SQ) (u : T) (H : Cells) : Prop
  | mk (a C dx : Addr) (fs : List (Nat × T)) (hu : u = .ref a) (hc : H a = some (.inst C dx fs)) (hl : fs.length ≤ 900) (hC : ClsOk K C) (hF : FieldOk K C k) (q : Q .next V (updH H a (.inst C dx (putF fs k t))))
@[reducible] noncomputable def kAsgA1 (g : Gl) (f : Fm) (n : Nat) (o : Expr) (k : Nat) (V : Vs) (Q : SQ) : T → Cells → Prop := fun t H => Ev g f n o V H (kAsgA0 g.K k t V Q)
inductive kAsgS3 (V : Vs) (Q : SQ) (t u b : T) (H : Cells) : Prop
  | mk (a : Addr) (ts : List T) (j : Int) (hu : u = .ref a) (hc : H a = some (.list ts)) (hb : b = .int j) (h0 : 0 ≤ j) (h1 : j.toNat < ts.length) (h2 : ts.length ≤ 1000000) (q : Q .next V (updH H a (.list (ts.set j.toNat t))))
@[reducible] noncomputable def kAsgS2 (g : Gl) (f : Fm) (n : Nat) (i : Expr) (V : Vs) (Q : SQ) (t : T) : T → Cells → Prop := fun u H => Ev g f n i V H (kAsgS3 V Q t u)
@[reducible] noncomputable def kAsgS1 (g : Gl) (f : Fm) (n : Nat) (o i : Expr) (V : Vs) (Q : SQ) : T → Cells → Prop := fun t H => Ev g f n o V H (kAsgS2 g f n i V Q t)
theorem ex_asg_attr {k : Nat} {o e apos pos} (h : Ev g f n e V H (kAsgA1 g f n o k V Q))
    (hk : Nat.blt k nN = true := by rfl) (hs : ∀ x l env, swapsWith e (some (.Attribute x (nm k) apos)) l env = pure false := by intro _ _ _; rfl) :
    Ex g f n (.Assign [.Attribute o (nm k) apos] e pos) V H Q := .mk fun A P Z s hr x => by
  rw [Nat.blt_eq] at hk
  refine plainObj_wpAny_Assign_Attribute (wpAny_mono (h.go A P Z s hr x) (fun v s1 ⟨Z1, t, H1, z1, x1, r1, q1⟩ => wpAny_mono (q1.go A P Z1 s1 hr x1) (fun ov s2 ⟨Z2, u, H2, z2, x2, r2, a, C, dx, fs, hu, hc, hl, hC, hF, q2⟩ => ?_) fun _ _ e => e) fun _ _ e => e) (hs _ _ _)
  subst hu; cases r2.view
  obtain ⟨e1, es, j, d, rq⟩ := x2.st.cl a _ hc
  have I : InstAt s2.heap a (instObj C dx) C (some (dictOf es j)) := ⟨e1, rfl, rfl, d⟩
  have hne : dx ≠ a := by
    rintro rfl
    rw [e1] at d
    simp only [instObj, dictOf, Option.some.injEq, Obj.mk.injEq] at d
    cases d.1
  have hlook : (lookIn (nm k) (dictOf es j)).isSome = true := by
    rw [lookIn_dict]
    cases q : getF fs k with
    | none => rw [getL_none rq hk q]; rfl
    | some u => obtain ⟨w', e2, _⟩ := getL_of rq hk q; rw [e2]; rfl
  refine set_plain x2.KX I hC.set (osa_raw (s := { s2 with toks := s2.toks + 1 }) x2.KX I rfl d hC.over hF.2 hC.dict hlook (by rw [rq.length]; walk_at "la") fun h' n' tk' hsh hsb hd' => ?_)
  have x3 := x2.setH hc (c' := .inst C dx (putF fs k t)) (h' := h') (tk := s2.toks + 1 + 1) (fun b o hb e => by
      simp only [Cell.addrs, List.mem_cons, List.not_mem_nil, or_false, not_or] at hb
      exact hsb.extBut b o hb.2 e)
    ⟨hsb.extBut _ _ (Ne.symm hne) e1, _, _, hd', putL_of rq hk (r1.mono z2)⟩ rfl
  exact ⟨Z2, .next, V, _, z1.trans z2, x3, .next, q2⟩
theorem ex_asg_sub {o i e spos pos} (h : Ev g f n e V H (kAsgS1 g f n o i V Q))
    (hs : ∀ x y l env, swapsWith e (some (.Subscript x y spos)) l env = pure false := by intro _ _ _ _; rfl) :
    Ex g f n (.Assign [.Subscript o i spos] e pos) V H Q := .mk fun A P Z s hr x => by
  refine wpAny_Assign_Subscript (wpAny_mono (h.go A P Z s hr x) (fun v s1 ⟨Z1, t, H1, z1, x1, r1, q1⟩ => wpAny_mono (q1.go A P Z1 s1 hr x1) (fun ov s2 ⟨Z2, u, H2, z2, x2, r2, q2⟩ =>
    wpAny_mono (q2.go A P Z2 s2 hr x2) (fun iv s3 ⟨Z3, b, H3, z3, x3, r3, a, ts, j, hu, hc, hb, h0, h1, h2, q3⟩ => ?_) fun _ _ e => e) fun _ _ e => e) fun _ _ e => e) (hs _ _ _ _)
  subst hu hb; cases r2.view; obtain ⟨tj, rfl⟩ := r3.view
  obtain ⟨vs, ep, e, rq⟩ := x3.st.cl a _ hc
  have hsz : vs.size = ts.length := by rw [← rq.length]; simp
  refine setItem_exact e h0 (by walk_at "la") (by walk_at "la") fun h' ep' he' hsb => ?_
  have x4 := x3.setH hc (c' := .list (ts.set j.toNat t)) (h' := h') (tk := s3.toks) (fun b o hb e => hsb.extBut b o (by simpa [Cell.addrs] using hb) e)
    ⟨_, ep', he', by simpa using rq.set j.toNat ((r1.mono z2).mono z3)⟩ rfl
  exact ⟨Z3, .next, V, _, (z1.trans z2).trans z3, x4, .next, q3⟩

noncomputable def setTs : Vs → List Nat → List T → Vs
  | V, k :: ks, t :: ts => setTs (setT V k t) ks ts
  | V, _, _ => V
theorem assigns_ok {A : Around} {P Z : OM} {E : Value → Shared → Prop} (hf : f.full = true) {kps : List (Nat × Pos)} : ∀ {vs : List Value} {ts : List T} {V : Vs} {s : Shared}, Rel g f P Z V H s → RdL Z vs ts → (∀ k ∈ kps.map (·.1), k ∈ V.map (·.1)) →
    wpAny g.M A (assignInOrder (kps.map fun kp => assign (.Name (nm kp.1) kp.2) f.env) vs) (fun _ s' => Rel g f P Z (setTs V (kps.map (·.1)) ts) H s') E s := by
  induction kps with
  | nil =>
    intro vs ts V s x r _
    have : wpAny g.M A (pure ()) (fun _ s' => Rel g f P Z V H s') E s := wpAny_pure x
    cases vs <;> cases ts <;> exact this
  | cons kp kps ih =>
    intro vs ts V s x r hk
    cases vs with
    | nil => cases r.inv0; exact wpAny_pure x
    | cons v vs =>
      obtain ⟨t, ts, rfl, a, r2⟩ := r.inv
      have hh : hasT V kp.1 = true := mem_has V kp.1 (hk kp.1 List.mem_cons_self)
      refine wpAny_bind (wpAny_holding (wpAny_assign_Name (wpAny_mono (store_ok x hh hf a) (fun _ s1 x1 => ?_) fun _ _ e => e)))
      exact ih x1 r2 fun j hj => by rw [keys_set]; exact hk j (List.mem_cons_of_mem _ hj)
inductive kAsgT (kps : List (Nat × Pos)) (V : Vs) (Q : SQ) (t : T) (H : Cells) : Prop
  | mk (ts : List T) (ht : t = .tup ts) (hl : ts.length = kps.length) (q : Q .next (setTs V (kps.map (·.1)) ts) H)
theorem ex_asg_tup {kps : List (Nat × Pos)} {elts : List Expr} {c tpos e pos} (hf : f.full = true) (he : elts = kps.map fun kp => .Name (nm kp.1) kp.2) (hk : (kps.map (·.1)).all (hasT V) = true)
    (h : Ev g f n e V H (kAsgT kps V Q))
    (hs : ∀ l env, swapsWithSole [.Tuple elts c tpos] e l env = pure false := by intro _ _; rfl)
    (hw : ∀ env, swappedStores [.Tuple elts c tpos] e env = pure none := by intro _; rfl)
    (hm : ∀ env, (assignEach elts env).map (·.2) = elts.map fun x => assign x env := by intro _; rfl)
    (hstar : ∀ env, (assignEach elts env).findIdx? (·.1) = none := by intro _; rfl) : Ex g f n (.Assign [.Tuple elts c tpos] e pos) V H Q := .mk fun A P Z s hr x => by
  refine Assign_Tuple (wpAny_mono (h.go A P Z s hr x) (fun v s1 ⟨Z1, t, H1, z1, x1, r1, ts, ht, hl, q1⟩ => ?_) fun _ _ e => e) (hs _ _) (hw _)
  subst ht
  obtain ⟨a, vs, rfl, hT, _, rq⟩ := tup_of x1.st r1
  have hlen : (assignEach elts f.env).length = vs.size := by
    have h1 := congrArg List.length (hm f.env)
    simp only [List.length_map] at h1
    have h2 := rq.length
    simp only [Array.length_toList] at h2
    rw [h1, h2, hl, he, List.length_map]
  refine wpAny_assign_Tuple hr.1 hT hlen (hstar _) fun h' hx => ?_
  rw [hm, he, List.map_map]
  have x2 : Rel g f P Z1 V H1 { s1 with heap := h' } := x1.keep (tk := s1.toks) fun b o e => hx b o (Nat.ne_of_lt (Heap.lt_size e)) e
  refine wpAny_mono (assigns_ok (E := NoE) hf x2 rq fun k hk' => has_mem V k (List.all_eq_true.mp hk k hk')) (fun _ s3 x3 => ?_) fun _ _ e => e
  exact ⟨Z1, .next, _, H1, z1, x3, .next, q1⟩
end
end

section
open PySem.W.FB Builtin
theorem slot_bytes_lt : Slot "bytes" (cmpInfo .Lt).2.1 "bytes.__lt__" :=
  .of (owner := "bytes") (n := "__lt__") (by rw [typeLookup_type, builtinLookup_eq_fast]; kernel_rfl) (by decide +kernel) (by decide +kernel) (by decide +kernel)
    (by first | exact .inl (by decide +kernel) | exact .inr (by decide +kernel)) (by rw [isSubtype_type]; kernel_rfl)
theorem entry_bytes_lt : entryFor table "bytes.__lt__" = some Builtin.«bytes.__lt__» := entryFor_of_tree (by kernel_rfl)
theorem args_bytes_lt_2 (a b : Value) : argsOk "bytes.__lt__" ⟨[a, b], []⟩ := by
  unfold argsOk; rw [signature?_of (id := "bytes.__lt__") (n := ['_', '_', 't', 'l', '_', '_']) (o := ['s', 'e', 't', 'y', 'b']) (by kernel_rfl) owner_bytes]; kernel_rfl
theorem slot_bytes_gt : Slot "bytes" (cmpInfo .Gt).2.1 "bytes.__gt__" :=
  .of (owner := "bytes") (n := "__gt__") (by rw [typeLookup_type, builtinLookup_eq_fast]; kernel_rfl) (by decide +kernel) (by decide +kernel) (by decide +kernel)
    (by first | exact .inl (by decide +kernel) | exact .inr (by decide +kernel)) (by rw [isSubtype_type]; kernel_rfl)
theorem entry_bytes_gt : entryFor table "bytes.__gt__" = some Builtin.«bytes.__gt__» := entryFor_of_tree (by kernel_rfl)
theorem args_bytes_gt_2 (a b : Value) : argsOk "bytes.__gt__" ⟨[a, b], []⟩ := by
  unfold argsOk; rw [signature?_of (id := "bytes.__gt__") (n := ['_', '_', 't', 'g', '_', '_']) (o := ['s', 'e', 't', 'y', 'b']) (by kernel_rfl) owner_bytes]; kernel_rfl
theorem gives_bytes_lt (b c : Array UInt8) (t u : Tok) : Gives («bytes.__lt__» ⟨[.bytes b t, .bytes c u], []⟩) (.val (.bool (Bytes.order b.toList c.toList == .lt))) := by
  refine .of_wp fun M A E s Q hq => ?_
  show wpAny M A (isInstance (.bytes c u) (.type "bytes") >>= fun r => _) _ E s
  refine wpAny_bind (wpAny_isInstance (typeIs_bytes s c u) F.sub_bytes_bytes ?_)
  exact wpAny_pure ⟨_, rfl, hq⟩
theorem gives_bytes_gt (b c : Array UInt8) (t u : Tok) : Gives («bytes.__gt__» ⟨[.bytes b t, .bytes c u], []⟩) (.val (.bool (Bytes.order b.toList c.toList == .gt))) := by
  refine .of_wp fun M A E s Q hq => ?_
  show wpAny M A (isInstance (.bytes c u) (.type "bytes") >>= fun r => _) _ E s
  refine wpAny_bind (wpAny_isInstance (typeIs_bytes s c u) F.sub_bytes_bytes ?_)
  exact wpAny_pure ⟨_, rfl, hq⟩
section
variable {prog : Program} {w : World} {A : Around} {E : Value → Shared → Prop} {s : Shared} {b c : Array UInt8} {t u : Tok}
theorem lt_bytes {Q : Value → Shared → Prop} (h : Q (.bool (Bytes.order b.toList c.toList == .lt)) s) : wpAny (model prog w) A (compareOp .Lt (.bytes b t) (.bytes c u)) Q E s :=
  compareOp_gives (op := .Lt) (typeIs_bytes s b t) (typeIs_bytes s c u) Mine.slot_bytes_lt Mine.entry_bytes_lt (Mine.args_bytes_lt_2 _ _) (gives_bytes_lt b c t u) (fun e => nomatch e) h
theorem gt_bytes {Q : Value → Shared → Prop} (h : Q (.bool (Bytes.order b.toList c.toList == .gt)) s) : wpAny (model prog w) A (compareOp .Gt (.bytes b t) (.bytes c u)) Q E s :=
  compareOp_gives (op := .Gt) (typeIs_bytes s b t) (typeIs_bytes s c u) Mine.slot_bytes_gt Mine.entry_bytes_gt (Mine.args_bytes_gt_2 _ _) (gives_bytes_gt b c t u) (fun e => nomatch e) h

theorem look_bytes_bytes : typeLookup (.type "bytes") "__bytes__" = pure (some (.builtin "bytes.__bytes__")) := by rw [typeLookup_type, builtinLookup_eq_fast]; kernel_rfl
theorem bytes_new {Q : Value → Shared → Prop} (h : Q (.bytes b t) s) : codeAny (model prog w) A (.call (.builtin "bytes.__new__") ⟨[.type "bytes", .bytes b t], []⟩) (wants Q E) s := by
  refine codeAny_of_tree ?_
  show wpAny _ A.in1 (do checkBuiltinCall "bytes.__new__" ⟨[.type "bytes", .bytes b t], []⟩; again (.builtin "bytes.__new__" ⟨[.type "bytes", .bytes b t], []⟩)) _ _ s
  refine wpAny_bind (wpAny_of_eq (F.bm_newCall _) (wpAny_pure ⟨plainId_quiet F.bm_plain _, codeAny_builtin F.bm_entry ?_⟩))
  rw [Around.under_plainId F.bm_plain _]
  unfold Builtin.«bytes.__new__»
  refine wpAny_bind (wpAny_of_eq (a := true) rfl ?_)
  refine bm_if_false rfl ?_
  refine wpAny_bind (wpAny_of_eq F.bm_sub ?_)
  refine bm_if_false rfl ?_
  refine wpAny_bind (wpAny_of_eq (F.bm_bind _) ?_)
  refine wpAny_bind (wpAny_of_eq (a := ()) rfl ?_)
  refine wpAny_bind (wpAny_of_eq (a := ()) rfl ?_)
  refine bm_if_false rfl ?_
  refine wpAny_bind (wpAny_specialOf (typeIs_bytes s b t) look_bytes_bytes ?_)
  refine wpAny_bind (wpAny_rule ?_)
  refine wpAny_bind (wpAny_typeOf (typeIs_bytes s b t) ?_)
  refine bm_if_true rfl ?_
  exact wpAny_pure h
theorem call_bytes_bytes {Q : Value → Shared → Prop} (h : Q (.bytes b t) s) : wpAny (model prog w) A (call (.type "bytes") [.bytes b t]) Q E s := by
  refine callType_codes (Q₁ := fun obj s₁ => s₁.TypeIs obj "bytes" ∧ Q obj s₁) F.bm_called (F.bm_typeCall _) F.entry_object_init
    (bytes_new ⟨typeIs_bytes _ _ _, h⟩) fun obj s₁ h₁ => ?_
  exact ⟨h₁.1, F.args_object_init_2 obj _, object_init_meets F.bm_called.init.lookup F.bm_called.made (by decide) prog w A.in1 _ s₁ ⟨h₁.1, rfl, h₁.2⟩⟩
end
end
section
section
variable {g : Gl} {f : Fm} {n : Nat} {V : Vs} {H : Cells} {Q : T → Cells → Prop}

theorem cl1 {fv : Value} {t : T} (h : ∀ A P Z s v, RoomF f n A → Rel g f P Z V H s → Rd Z v t → wpAny g.M A (call fv [v]) (EP g f P Z V Q) NoE s) : Cl g f n fv [t] V H Q := .mk fun A P Z s vs hr x r => by
  obtain ⟨v, _, rfl, a, r1⟩ := r.inv'; cases r1.inv0'; exact h A P Z s _ hr x a
theorem cl2 {fv : Value} {t u : T} (h : ∀ A P Z s v w, RoomF f n A → Rel g f P Z V H s → Rd Z v t → Rd Z w u → wpAny g.M A (call fv [v, w]) (EP g f P Z V Q) NoE s) : Cl g f n fv [t, u] V H Q := .mk fun A P Z s vs hr x r => by
  obtain ⟨v, _, rfl, a, r1⟩ := r.inv'; obtain ⟨w, _, rfl, b, r2⟩ := r1.inv'; cases r2.inv0'; exact h A P Z s _ _ hr x a b

theorem cl_len_list {t : T} {ts : List T} (ha : AsList H t ts) (hl : ts.length ≤ 1000000) (h : Q (.int ts.length) H) : Cl g f n (.builtin "len") [t] V H Q := cl1 fun A P Z s v hr x r => by
  obtain ⟨a, vs, rfl, hL, q⟩ := list_of x.st ha r
  have e : vs.size = ts.length := by rw [← q.length]; simp
  refine Calls.call_len_list hL (by walk_at "la") ?_
  rw [e]; exact EP.mk x.toks (.int _ _) h
theorem cl_len_tup {ts : List T} (hl : ts.length ≤ 1000000) (h : Q (.int ts.length) H) : Cl g f n (.builtin "len") [.tup ts] V H Q := cl1 fun A P Z s v hr x r => by
  obtain ⟨a, vs, rfl, _, hL, q⟩ := tup_of x.st r
  have e : vs.size = ts.length := by rw [← q.length]; simp
  refine PyProof.Rows.len_tuple hL (by walk_at "la") ?_
  rw [e]; exact EP.mk x.toks (.int _ _) h
theorem cl_len_bytes {b : List UInt8} (hl : b.length ≤ 1000000) (h : Q (.int b.length) H) : Cl g f n (.builtin "len") [.bytes b] V H Q := cl1 fun A P Z s v hr x r => by
  obtain ⟨arr, tk, rfl, rfl⟩ := rd_bytes r
  refine PySem.W.len_bytes (by simp at hl; walk_at "la") ?_
  refine EP.mk x.toks (.int _ _) ?_
  simpa using h

theorem ints_rd {Z : OM} {vs : List Value} {ns : List Int} (r : RdL Z vs (ns.map T.int)) : IntsAre vs ns := by
  induction ns generalizing vs with
  | nil => cases r.inv0'; exact .nil
  | cons n ns ih =>
    obtain ⟨v, vs', rfl, h, r1⟩ := r.inv'
    obtain ⟨tk, rfl⟩ := h.view
    exact .cons _ _ (ih r1)
theorem cl_bytes_ints {t : T} {ns : List Int} (ha : AsList H t (ns.map T.int)) (hr' : ∀ n ∈ ns, 0 ≤ n ∧ n < 256) (hl : ns.length ≤ 1000000) (h : Q (.bytes (ns.map fun n => n.toNat.toUInt8)) H) : Cl g f n (.type "bytes") [t] V H Q := cl1 fun A P Z s v hr x r => by
  obtain ⟨a, vs, rfl, hL, q⟩ := list_of x.st ha r
  have q' := ints_rd q
  have e : vs.toList.length = ns.length := q'.length
  refine call_bytes_ints (vs := vs.toList) (by simpa using hL) q' hr' (by rw [e, sizeLine_eq]; walk_at "la") hr.1 fun h' tk k hk => ?_
  have x2 := x.keep (tk := k) hk
  have := Rd.bytes (Z := Z) (byteArr ns) tk
  rw [show (byteArr ns).toList = ns.map fun n => n.toNat.toUInt8 by simp [byteArr]] at this
  exact EP.mk x2 this h
theorem cl_bytes_bytes {b : List UInt8} (h : Q (.bytes b) H) : Cl g f n (.type "bytes") [.bytes b] V H Q := cl1 fun A P Z s v hr x r => by
  obtain ⟨arr, tk, rfl, rfl⟩ := rd_bytes r
  exact Mine.call_bytes_bytes (EP.mk x r h)
theorem op_add_bytes {a b : List UInt8} (hl : a.length + b.length ≤ 1000000) (h : Q (.bytes (a ++ b)) H) : Op2 g f n (binaryOp .Add) (.bytes a) (.bytes b) V H Q := .mk fun A P Z s va vb hr x ra rb => by
  obtain ⟨arr, tk, rfl, rfl⟩ := rd_bytes ra
  obtain ⟨arr', tk', rfl, rfl⟩ := rd_bytes rb
  refine PySem.W.KBy.add_bytes (by simp at hl; walk_at "la") fun t' k => ?_
  have := Rd.bytes (Z := Z) (arr ++ arr') t'
  rw [Array.toList_append] at this
  exact EP.mk x.toks this h
theorem op_lt_bytes {a b : List UInt8} (h : Q (.bool (Builtin.Bytes.order a b == .lt)) H) : Op2 g f n (compareOp .Lt) (.bytes a) (.bytes b) V H Q := .mk fun A P Z s va vb hr x ra rb => by
  obtain ⟨arr, tk, rfl, rfl⟩ := rd_bytes ra
  obtain ⟨arr', tk', rfl, rfl⟩ := rd_bytes rb
  exact Mine.lt_bytes (EP.mk x (.bool _) h)
theorem op_gt_bytes {a b : List UInt8} (h : Q (.bool (Builtin.Bytes.order a b == .gt)) H) : Op2 g f n (compareOp .Gt) (.bytes a) (.bytes b) V H Q := .mk fun A P Z s va vb hr x ra rb => by
  obtain ⟨arr, tk, rfl, rfl⟩ := rd_bytes ra
  obtain ⟨arr', tk', rfl, rfl⟩ := rd_bytes rb
  exact Mine.gt_bytes (EP.mk x (.bool _) h)
theorem op_eq_bytes {a b : List UInt8} (h : Q (.bool (a == b)) H) : Op2 g f n (compareOp .Eq) (.bytes a) (.bytes b) V H Q := .mk fun A P Z s va vb hr x ra rb => by
  obtain ⟨arr, tk, rfl, rfl⟩ := rd_bytes ra
  obtain ⟨arr', tk', rfl, rfl⟩ := rd_bytes rb
  exact PySem.W.eq_bytes (EP.mk x (.bool _) h)
theorem op_eq_bool {a b : Bool} (h : Q (.bool (a == b)) H) : Op2 g f n (compareOp .Eq) (.bool a) (.bool b) V H Q := .mk fun A P Z s va vb hr x ra rb => by
  cases ra.view; cases rb.view
  exact PyProof.Rows.eq_bool (EP.mk x (.bool _) h)
theorem op_ne_bool {a b : Bool} (h : Q (.bool (a != b)) H) : Op2 g f n (compareOp .NotEq) (.bool a) (.bool b) V H Q := .mk fun A P Z s va vb hr x ra rb => by
  cases ra.view; cases rb.view
  exact PyProof.Rows.ne_bool (EP.mk x (.bool _) h)

theorem cl_range1 {b : Int} (h : Q (.rng 0 b) H) : Cl g f n (.type "range") [.int b] V H Q := cl1 fun A P Z s v hr x r => by
  obtain ⟨tk, rfl⟩ := r.view
  refine call_range_1 ?_
  obtain ⟨z, x2⟩ := new_frozen x { cls := .type "range", data := .fields #[.int 0 s.toks, .int b tk, .int 1 (s.toks + 1)] }
  exact ⟨_, _, H, z, x2.toks, .rng updZ_self, h⟩
theorem cl_range2 {a b : Int} (h : Q (.rng a b) H) : Cl g f n (.type "range") [.int a, .int b] V H Q := cl2 fun A P Z s v w hr x r r' => by
  obtain ⟨tk, rfl⟩ := r.view; obtain ⟨tk', rfl⟩ := r'.view
  refine call_range_2 ?_
  obtain ⟨z, x2⟩ := new_frozen x { cls := .type "range", data := .fields #[.int a tk, .int b tk', .int 1 s.toks] }
  exact ⟨_, _, H, z, x2.toks, .rng updZ_self, h⟩

theorem cl_max2 {a b : Int} (h : Q (.int (max a b)) H) : Cl g f n (.builtin "max") [.int a, .int b] V H Q := cl2 fun A P Z s v w hr x r r' => by
  obtain ⟨tk, rfl⟩ := r.view; obtain ⟨tk', rfl⟩ := r'.view
  refine PySem.Flt.max_two_num hr.1 (.int _ _) (.int _ _) fun h' tk hk => ?_
  have x2 := x.keep (tk := tk) hk
  refine EP.mk (t := .int (max a b)) x2 ?_ h
  show Rd Z (if decide (a < b) = true then _ else _) _
  by_cases q : a < b
  · rw [if_pos (by simpa using q), Int.max_eq_right (by walk_at "la")]; exact .int _ _
  · rw [if_neg (by simpa using q), Int.max_eq_left (by walk_at "la")]; exact .int _ _
theorem cl_min2 {a b : Int} (h : Q (.int (min a b)) H) : Cl g f n (.builtin "min") [.int a, .int b] V H Q := cl2 fun A P Z s v w hr x r r' => by
  obtain ⟨tk, rfl⟩ := r.view; obtain ⟨tk', rfl⟩ := r'.view
  refine PySem.Flt.min_two_num hr.1 (.int _ _) (.int _ _) fun h' tk hk => ?_
  have x2 := x.keep (tk := tk) hk
  refine EP.mk (t := .int (min a b)) x2 ?_ h
  show Rd Z (if decide (b < a) = true then _ else _) _
  by_cases q : b < a
  · rw [if_pos (by simpa using q), Int.min_eq_right (by walk_at "la")]; exact .int _ _
  · rw [if_neg (by simpa using q), Int.min_eq_left (by walk_at "la")]; exact .int _ _

theorem fr_of {h : Heap} {L : Addr} {m : Str → Option Value} (hn : h.Ns L m) : Fr {} L h m := ⟨hn, fun b o e => by simp [Heap.get?] at e, Nat.zero_le _⟩
theorem news_of {h : Heap} {L : Addr} (l : List (Addr × Obj)) (hl : ∀ p ∈ l, h.get? p.1 = some p.2 ∧ p.1 ≠ L) : News {} L h l := fun p hp => ⟨(hl p hp).1, (hl p hp).2, by simp [Heap.get?]⟩

theorem op_add_lists {t u : T} {ts us : List T} (ha : AsList H t ts) (hb : AsList H u us) (hl : ts.length + us.length ≤ 100000) (h : Q (.lst (ts ++ us)) H) : Op2 g f n (binaryOp .Add) t u V H Q := .mk fun A P Z s va vb hr x ra rb => by
  obtain ⟨a, vs, rfl, ⟨oa, hoa, hca, na, hda⟩, q⟩ := list_of x.st ha ra
  obtain ⟨b, ws, rfl, ⟨ob, hob, hcb, nb, hdb⟩, q'⟩ := list_of x.st hb rb
  have e := q.length
  have e' := q'.length
  obtain ⟨ca, da, ta, sa⟩ := oa
  obtain ⟨cb, db, tb, sb⟩ := ob
  dsimp only at hca hcb hda hdb
  subst hca hcb hda hdb
  refine concat_meets ⟨_, hoa, rfl⟩ ⟨_, hob, rfl⟩ noFill_list_add seq_list_add PySem.F.slot_list_add PySem.F.entry_list_add (PySem.F.args_list_add_2 _ _) (list_addW a b vs ws na nb da db sa sb (by simp only [Array.length_toList] at e e'; rw [sizeLine_eq]; walk_at "la")) ⟨hoa, hob, ?_⟩
  obtain ⟨z, x2⟩ := new_frozen x { cls := .type "list", data := .seq (vs ++ ws) }
  exact ⟨_, .lst (ts ++ us), H, z, x2, .lst updZ_self (by simpa using (q.append q').mono z), h⟩
theorem RdL.replicate {Z : OM} {v : Value} {t : T} (r : Rd Z v t) : ∀ n, RdL Z (List.replicate n v) (List.replicate n t)
  | 0 => .nil
  | n + 1 => by rw [List.replicate_succ, List.replicate_succ]; exact .cons r (RdL.replicate r n)
theorem foldl_one (v : Value) : ∀ (n : Nat) (acc : Array Value), (List.foldl (fun x1 x2 => x1 ++ x2) acc (List.replicate n #[v])).toList = acc.toList ++ List.replicate n v
  | 0, acc => by simp
  | n + 1, acc => by
    rw [List.replicate_succ, List.foldl_cons, foldl_one v n]
    simp [List.replicate_succ]
/-- [x] * k -/
theorem op_mul_list1 {a : Addr} {u : T} {k : Int} (hc : H a = some (.list [u])) (h0 : 0 ≤ k) (h1 : k ≤ 1000) (h : Q (.lst (List.replicate k.toNat u)) H) : Op2 g f n (binaryOp .Mult) (.ref a) (.int k) V H Q := .mk fun A P Z s va vb hr x ra rb => by
  cases ra.view; obtain ⟨tk, rfl⟩ := rb.view
  obtain ⟨vs, ep, e, q⟩ := x.st.cl a _ hc
  obtain ⟨v, rfl, rv⟩ : ∃ v, vs = #[v] ∧ Rd Z v u := by
    obtain ⟨l⟩ := vs
    dsimp only at q
    cases q with | cons r1 r2 => cases r2; exact ⟨_, rfl, r1⟩
  refine wpAny_binaryOp_repeat_ref (T := "list") (U := "int") (by decide) ⟨_, e, rfl⟩ (fun s' => typeIs_int s' k tk) noFill_list_mul PySem.F.fills_int_mul PySem.F.slot_int_rmul repeat_list PySem.F.slot_int_index.lookup
    (call_meets PySem.F.slot_int_rmul (typeIs_int s k tk) PySem.F.entry_int_rmul (PySem.F.args_int_rmul_2 _ _) (int___rmul___int_list k tk a #[v] ep)
      ⟨e, rfl, ⟨_, e, rfl⟩, call_meets PySem.F.slot_list_mul ⟨_, e, rfl⟩ PySem.F.entry_list_mul (PySem.F.args_list_mul_2 _ _)
        (AutoListH.list___mul___list_int_3 a #[v] ep k tk (by simp [Builtin.List.listFitsIndex]; walk_at "la") (by simp; walk_at "la") (by simp [Builtin.List.listTooLong, sizeLine]; walk_at "la"))
        ⟨e, ?_⟩⟩)
  obtain ⟨z, x2⟩ := new_frozen x { cls := .type "list", data := .seq (List.foldl (fun x1 x2 => x1 ++ x2) #[] (List.replicate (if (#[v] : Array Value).isEmpty = true then 0 else k.toNat) #[v])) }
  refine ⟨_, .lst (List.replicate k.toNat u), H, z, x2, .lst updZ_self ?_, h⟩
  have e2 : (if (#[v] : Array Value).isEmpty = true then 0 else k.toNat) = k.toNat := if_neg (by simp)
  rw [e2, foldl_one]
  simpa using (RdL.replicate rv k.toNat).mono z
/-- list(xs) -/
theorem cl_list_copy {t : T} {ts : List T} (ha : AsList H t ts) (hl : ts.length ≤ 1000) (h : ∀ a, H a = none → Q (.ref a) (updH H a (.list ts))) : Cl g f n (.type "list") [t] V H Q := cl1 fun A P Z s v hr x r => by
  obtain ⟨a, vs, rfl, ⟨oa, hoa, hca, na, hda⟩, q⟩ := list_of x.st ha r
  have e := q.length
  simp only [Array.length_toList] at e
  refine call_list_seq a (T := "list") (.inl rfl) hoa hca hda (fun h' c' hk hS => ?_) (by rw [sizeLine_eq]; walk_at "la")
  have x2 : Rel g f P Z V H { s with heap := h' } := x.keep (tk := s.toks) hk
  have hn := none_fresh s.heap
  have u := x.st.un hn
  have hH : H s.heap.objs.size = none := by
    cases e : H s.heap.objs.size with
    | none => rfl
    | some c => exact absurd (by cases c <;> simp [Cell.addrs]) (u.2.2 _ c e)
  have x3 := x2.addH (a := s.heap.objs.size) (c := .list ts) ⟨vs, c', hS, q⟩ (fun d hd => by
      simp only [Cell.addrs, List.mem_singleton] at hd
      subst hd
      exact ⟨u, x.fresh_own hn⟩)
  exact ⟨Z, .ref _, _, Sub.rfl, x3, .ref _, h _ hH⟩

theorem cl_str_int {i : Int} (h1 : -1000 ≤ i) (h2 : i ≤ 1000) (h : ∀ t : Str, t.length ≤ 2000 → Q (.str t) H) : Cl g f n (.type "str") [.int i] V H Q := cl1 fun A P Z s v hr x r => by
  obtain ⟨tk, rfl⟩ := r.view
  refine str_of_int_fit (N := 2000) (by split <;> walk_at "la") (by walk_at "la") fun _ => ?_
  refine EP.mk x.toks (.str _ _) (h _ ?_)
  have := len_str_of_int i
  show (Str.ofString (toString i)).length ≤ 2000
  walk_at "la"
theorem op_add_str {a b : Str} (hl : a.length + b.length ≤ 10000) (h : Q (.str (a ++ b)) H) : Op2 g f n (binaryOp .Add) (.str a) (.str b) V H Q := .mk fun A P Z s va vb hr x ra rb => by
  obtain ⟨ta, rfl⟩ := ra.view; obtain ⟨tb, rfl⟩ := rb.view
  exact PyProof.Rows.add_str (fun t' k => EP.mk x.toks (.str _ _) h) (by rw [sizeLine_eq]; walk_at "la")
end
end

section
noncomputable def KOk (lt : Nat → Nat → Bool) (N : Nat) {α : Type} : KasT α → (α → Prop) → Prop
  | .ret a, Q => Q a
  | .ask i j k, Q => i < N ∧ j < N ∧ KOk lt N (k (lt i j)) Q
theorem KOk.bind {lt : Nat → Nat → Bool} {N : Nat} {α β : Type} {f : α → KasT β} {Q : β → Prop} : ∀ {t : KasT α}, KOk lt N t (fun a => KOk lt N (f a) Q) → KOk lt N (t.bind f) Q
  | .ret a, h => h
  | .ask i j k, h => ⟨h.1, h.2.1, KOk.bind (t := k (lt i j)) h.2.2⟩
theorem KOk.mono {lt : Nat → Nat → Bool} {N : Nat} {α : Type} {Q Q' : α → Prop} (hq : ∀ a, Q a → Q' a) : ∀ {t : KasT α}, KOk lt N t Q → KOk lt N t Q'
  | .ret a, h => hq a h
  | .ask i j k, h => ⟨h.1, h.2.1, KOk.mono hq (t := k (lt i j)) h.2.2⟩
theorem KOk.wp {lt : Nat → Nat → Bool} {N : Nat} {α : Type} {Q : α → Prop} {cmp : Nat → Nat → (Bool → Shared → Prop) → Shared → Prop} {R : α → Shared → Prop} {s : Shared}
    (hc : ∀ i j (C : Bool → Shared → Prop), i < N → j < N → C (lt i j) s → cmp i j C s) (hq : ∀ a, Q a → R a s) : ∀ {t : KasT α}, KOk lt N t Q → t.kasWp cmp R s
  | .ret a, h => hq a h
  | .ask i j k, h => hc i j _ h.1 h.2.1 (KOk.wp hc hq (t := k (lt i j)) h.2.2)

section
variable {key : Nat → Int} {N : Nat}
noncomputable def Kp1 (key : Nat → Int) (p : Array Nat) (i : Nat) : Int := key (p.getD i 0)
structure Pm (N : Nat) (p : Array Nat) : Prop where
  perm : p.Perm (List.toArray (List.range N))
theorem Pm.size {p : Array Nat} (h : Pm N p) : p.size = N := by have := h.perm.size_eq; simpa using this
theorem Pm.lt {p : Array Nat} (h : Pm N p) (hN : 0 < N) (i : Nat) : p.getD i 0 < N := by
  by_cases q : i < p.size
  · have hm : p[i] ∈ p := Array.getElem_mem q
    have := (h.perm.mem_iff (a := p[i])).mp hm
    have e : p.getD i 0 = p[i] := by simp [Array.getD, q]
    rw [e]; simpa using this
  · have e : p.getD i 0 = 0 := by simp [Array.getD, q]
    exact e.symm ▸ hN
theorem Pm.rev {p : Array Nat} (h : Pm N p) (i j : Nat) : Pm N (kas_rev p i j) := ⟨(mirror_perm _ _ _ _).trans h.perm⟩
theorem Pm.bub {p : Array Nat} (h : Pm N p) (i j : Nat) : Pm N (bubble p i j) := ⟨(bubble_perm _ _ _).trans h.perm⟩
theorem getD_eq (p : Array Nat) (i : Nat) : p.getD i 0 = (p[i]?).getD 0 := by simp [Array.getD]; split <;> simp_all
theorem K_rev {p : Array Nat} {i j : Nat} (hj : j ≤ p.size) (k : Nat) : Kp1 key (kas_rev p i j) k = if i ≤ k ∧ k < j then Kp1 key p (i + j - 1 - k) else Kp1 key p k := by
  simp only [Kp1, getD_eq]
  rw [kas_rev, getElem?_mirror_all hj k]
  split <;> rfl
theorem K_bub {p : Array Nat} {src d : Nat} (hs : src < p.size) (hd : d ≤ src) (k : Nat) : Kp1 key (bubble p src d) k = if k = src - d then Kp1 key p src else if src - d < k ∧ k ≤ src then Kp1 key p (k - 1) else Kp1 key p k := by
  simp only [Kp1, getD_eq]
  rw [getElem?_bubble hs d hd k]
  split
  · rfl
  · split <;> rfl

noncomputable def Up (key : Nat → Int) (p : Array Nat) (n : Nat) : Prop := ∀ i j, i ≤ j → j < n → Kp1 key p i ≤ Kp1 key p j
noncomputable def Dn (key : Nat → Int) (p : Array Nat) (n : Nat) : Prop := ∀ i j, i ≤ j → j < n → Kp1 key p j ≤ Kp1 key p i
abbrev ltk (key : Nat → Int) : Nat → Nat → Bool := fun i j => decide (key i < key j)

theorem eq_top {n j : Nat} (h : j < n + 1) (q : ¬ j < n) : j = n := Nat.le_antisymm (Nat.le_of_lt_succ h) (Nat.not_lt.mp q)
theorem le_pred {i j : Nat} (h : i ≤ j) (q : ¬ i = j) : i ≤ j - 1 := Nat.le_sub_one_of_lt (Nat.lt_of_le_of_ne h q)
theorem pred_lt1 {n : Nat} (h : 1 ≤ n) : n - 1 < n := Nat.sub_lt h Nat.one_pos
theorem add1r (n f : Nat) : n + 1 + f = n + (f + 1) := Nat.add_right_comm n 1 f
theorem mir1 {a n k : Nat} (h : k < n) : a ≤ a + n - 1 - k := Nat.le_sub_of_add_le (Nat.le_sub_of_add_le (Nat.add_le_add_left h a))
theorem mir2 {a n k : Nat} (h : a ≤ k) (h2 : k < n) : a + n - 1 - k < n := by omega
theorem mir3 {n i j : Nat} (h : i ≤ j) : 0 + n - 1 - j ≤ 0 + n - 1 - i := Nat.sub_le_sub_left h _
theorem mir4 {n i : Nat} (h : 1 ≤ n) : 0 + n - 1 - i < n := Nat.lt_of_le_of_lt (Nat.sub_le _ _) ((Nat.zero_add n).symm ▸ pred_lt1 h)
theorem mid1 {l r : Nat} (h : l ≤ r) : l ≤ (l + r) / 2 := by omega
theorem mid2 {l r : Nat} (h : l < r) : (l + r) / 2 < r := by omega
theorem asc_ok (hN : 0 < N) {p : Array Nat} (hp : Pm N p) (f : Nat) : ∀ (n : Nat), 1 ≤ n → Up key p n → KOk (ltk key) N (kas_asc p f n) fun m => n ≤ m ∧ m ≤ n + f ∧ Up key p m ∧ (m = n + f ∨ Kp1 key p m < Kp1 key p (m - 1)) := by
  induction f with
  | zero => exact fun n h1 hu => ⟨Nat.le_refl _, Nat.le_refl _, hu, .inl rfl⟩
  | succ f ih =>
    intro n h1 hu
    refine ⟨hp.lt hN _, hp.lt hN _, ?_⟩
    by_cases c : Kp1 key p n < Kp1 key p (n - 1)
    · have e : ltk key (p.getD n 0) (p.getD (n - 1) 0) = true := decide_eq_true c
      rw [e]
      exact ⟨Nat.le_refl _, Nat.le_add_right _ _, hu, .inr c⟩
    · have e : ltk key (p.getD n 0) (p.getD (n - 1) 0) = false := decide_eq_false c
      rw [e]
      have hu' : Up key p (n + 1) := fun i j hij hj => by
        by_cases q : j < n
        · exact hu i j hij q
        · cases eq_top hj q
          by_cases q2 : i = n
          · exact q2 ▸ Int.le_refl _
          · exact Int.le_trans (hu i (n - 1) (le_pred hij q2) (pred_lt1 h1)) (Int.not_lt.mp c)
      exact (ih (n + 1) (Nat.le_add_left 1 n) hu').mono fun m hm => ⟨Nat.le_of_succ_le hm.1, Nat.le_trans hm.2.1 (Nat.le_of_eq (add1r n f)), hm.2.2.1, hm.2.2.2.imp_left fun h => h.trans (add1r n f)⟩

structure DS (key : Nat → Int) (N : Nat) (p : Array Nat) (n q : Nat) : Prop where
  pm : Pm N p
  dn : Dn key p n
  q1 : q + 1 ≤ n
  eq : ∀ k, n - (q + 1) ≤ k → k < n → Kp1 key p k = Kp1 key p (n - 1)
theorem desc_ok (hN : 0 < N) (f : Nat) : ∀ (p : Array Nat) (n q : Nat), n + f ≤ N → DS key N p n q → KOk (ltk key) N (kas_desc f p n q) fun r => DS key N r.1 r.2.1 r.2.2 ∧ n ≤ r.2.1 ∧ r.2.1 ≤ n + f := by
  induction f with
  | zero => exact fun p n q hn h => ⟨h, Nat.le_refl _, Nat.le_refl _⟩
  | succ f ih =>
    intro p n q hn h
    have h1n : 1 ≤ n := Nat.le_trans (Nat.le_add_left 1 q) h.q1
    have hn' : n + 1 + f ≤ N := Nat.le_trans (Nat.le_of_eq (add1r n f)) hn
    have up : ∀ {r : Array Nat × Nat × Nat} {A : Prop}, A ∧ n + 1 ≤ r.2.1 ∧ r.2.1 ≤ n + 1 + f → A ∧ n ≤ r.2.1 ∧ r.2.1 ≤ n + (f + 1) := fun hr => ⟨hr.1, Nat.le_of_succ_le hr.2.1, Nat.le_trans hr.2.2 (Nat.le_of_eq (add1r n f))⟩
    refine ⟨h.pm.lt hN _, h.pm.lt hN _, ?_⟩
    by_cases c : Kp1 key p n < Kp1 key p (n - 1)
    · have e : ltk key (p.getD n 0) (p.getD (n - 1) 0) = true := decide_eq_true c
      rw [e]
      dsimp only
      have base : ∀ p', Pm N p' → (∀ k, Kp1 key p' k = Kp1 key p k) → DS key N p' (n + 1) 0 := fun p' hp' hk => by
        refine ⟨hp', fun i j hij hj => ?_, Nat.le_add_left 1 n, fun k h1 h2 => ?_⟩
        · rw [hk, hk]
          by_cases q' : j < n
          · exact h.dn i j hij q'
          · cases eq_top hj q'
            by_cases q2 : i = n
            · exact q2 ▸ Int.le_refl _
            · exact Int.le_trans (Int.le_of_lt c) (h.dn i (n - 1) (le_pred hij q2) (pred_lt1 h1n))
        · cases eq_top h2 (Nat.not_lt.mpr h1)
          rfl
      by_cases hq : q > 0
      · rw [if_pos rfl, if_pos hq]
        refine (ih _ (n + 1) 0 hn' (base _ (h.pm.rev _ _) fun k => ?_)).mono fun r hr => up hr
        rw [K_rev (h.pm.size.symm ▸ Nat.le_of_add_right_le hn)]
        split
        · rename_i hk
          rw [h.eq k hk.1 hk.2, h.eq _ (mir1 hk.2) (mir2 hk.1 hk.2)]
        · rfl
      · rw [if_pos rfl, if_neg hq]
        exact (ih _ (n + 1) 0 hn' (base _ h.pm fun _ => rfl)).mono fun r hr => up hr
    · have e : ltk key (p.getD n 0) (p.getD (n - 1) 0) = false := decide_eq_false c
      rw [e]
      dsimp only
      rw [if_neg Bool.false_ne_true]
      refine ⟨h.pm.lt hN _, h.pm.lt hN _, ?_⟩
      by_cases d : Kp1 key p (n - 1) < Kp1 key p n
      · have e : ltk key (p.getD (n - 1) 0) (p.getD n 0) = true := decide_eq_true d
        rw [e]
        exact ⟨h, Nat.le_refl _, Nat.le_add_right _ _⟩
      · have e : ltk key (p.getD (n - 1) 0) (p.getD n 0) = false := decide_eq_false d
        rw [e]
        dsimp only
        rw [if_neg Bool.false_ne_true]
        have he : Kp1 key p n = Kp1 key p (n - 1) := Int.le_antisymm (Int.not_lt.mp d) (Int.not_lt.mp c)
        refine (ih p (n + 1) (q + 1) hn' ⟨h.pm, fun i j hij hj => ?_, Nat.succ_le_succ h.q1, fun k h1 h2 => ?_⟩).mono fun r hr => up hr
        · by_cases q' : j < n
          · exact h.dn i j hij q'
          · cases eq_top hj q'
            by_cases q2 : i = n
            · exact q2 ▸ Int.le_refl _
            · exact Int.le_trans (Int.le_of_eq he) (h.dn i (n - 1) (le_pred hij q2) (pred_lt1 h1n))
        · show Kp1 key p k = Kp1 key p n
          by_cases q2 : k = n
          · rw [q2]
          · rw [he]; exact h.eq k (Nat.le_trans (Nat.le_of_eq (Nat.succ_sub_succ n (q + 1)).symm) h1) (Nat.lt_of_le_of_ne (Nat.le_of_lt_succ h2) q2)

theorem tail3_ok (hN : 0 < N) {p : Array Nat} {n : Nat} (h1 : 1 ≤ n) (hn : n ≤ N) (hp : Pm N p) (hd : Dn key p n) : KOk (ltk key) N (kas_tail3 n N p) fun r => 1 ≤ r.1 ∧ r.1 ≤ N ∧ Pm N r.2 ∧ Up key r.2 r.1 := by
  refine KOk.bind ((asc_ok hN (hp.rev 0 n) (N - n) n h1 fun i j hij hj => ?_).mono fun m hm => ?_)
  · rw [K_rev (hp.size.symm ▸ hn), K_rev (hp.size.symm ▸ hn), if_pos ⟨Nat.zero_le _, Nat.lt_of_le_of_lt hij hj⟩, if_pos ⟨Nat.zero_le _, hj⟩]
    exact hd _ _ (mir3 hij) (mir4 h1)
  · exact ⟨Nat.le_trans h1 hm.1, Nat.le_trans hm.2.1 (Nat.le_of_eq (Nat.add_sub_cancel' hn)), hp.rev 0 n, hm.2.2.1⟩
theorem descPart_ok (hN : 0 < N) {p : Array Nat} {n : Nat} (h1 : 1 ≤ n) (hn : n < N) (hp : Pm N p) (he : ∀ k, k < n → Kp1 key p k = Kp1 key p 0) (hl : Kp1 key p n < Kp1 key p 0) :
    KOk (ltk key) N (kas_descPart n N p) fun r => 1 ≤ r.1 ∧ r.1 ≤ N ∧ Pm N r.2 ∧ Up key r.2 r.1 := by
  have hNn : n + 1 + (N - (n + 1)) = N := Nat.add_sub_cancel' hn
  have ds : DS key N p (n + 1) 0 := by
    refine ⟨hp, fun i j hij hj => ?_, Nat.le_add_left 1 n, fun k h1 h2 => ?_⟩
    · by_cases q : j < n
      · rw [he i (Nat.lt_of_le_of_lt hij q), he j q]; exact Int.le_refl _
      · cases eq_top hj q
        by_cases q2 : i < n
        · rw [he i q2]; exact Int.le_of_lt hl
        · rw [Nat.le_antisymm hij (Nat.not_lt.mp q2)]; exact Int.le_refl _
    · cases eq_top h2 (Nat.not_lt.mpr h1)
      rfl
  refine KOk.bind ((desc_ok hN _ p (n + 1) 0 (Nat.le_of_eq hNn) ds).mono fun r hr => ?_)
  obtain ⟨h, h2, h3⟩ := hr
  have hrN : r.2.1 ≤ N := Nat.le_trans h3 (Nat.le_of_eq hNn)
  have hr1 : 1 ≤ r.2.1 := Nat.le_trans (Nat.le_add_left 1 n) h2
  by_cases c : r.2.2 > 0
  · rw [if_pos c]
    refine tail3_ok hN hr1 hrN (h.pm.rev _ _) fun i j hij hj => ?_
    have hk : ∀ k, Kp1 key (kas_rev r.1 (r.2.1 - (r.2.2 + 1)) r.2.1) k = Kp1 key r.1 k := fun k => by
      rw [K_rev (h.pm.size.symm ▸ hrN)]
      split
      · rename_i hk; rw [h.eq k hk.1 hk.2, h.eq _ (mir1 hk.2) (mir2 hk.1 hk.2)]
      · rfl
    rw [hk, hk]; exact h.dn i j hij hj
  · rw [if_neg c]
    exact tail3_ok hN hr1 hrN h.pm h.dn
theorem count_ok (hN : 0 < N) {p : Array Nat} (hp : Pm N p) : KOk (ltk key) N (kas_count N p) fun r => 1 ≤ r.1 ∧ r.1 ≤ N ∧ Pm N r.2 ∧ Up key r.2 r.1 := by
  have hN1 : 1 + (N - 1) = N := Nat.add_sub_cancel' hN
  refine KOk.bind ((asc_ok hN hp (N - 1) 1 (Nat.le_refl _) fun i j hij hj => ?_).mono fun m hm => ?_)
  · rw [Nat.le_antisymm hij (Nat.le_trans (Nat.le_of_lt_succ hj) (Nat.zero_le i))]; exact Int.le_refl _
  · obtain ⟨h1, h2, h3, h4⟩ := hm
    have hmN : m ≤ N := Nat.le_trans h2 (Nat.le_of_eq hN1)
    by_cases c : m = N
    · subst c
      rw [if_pos (beq_self_eq_true m)]
      exact ⟨h1, Nat.le_refl _, hp, h3⟩
    · rw [if_neg (fun h => c (eq_of_beq h))]
      have hl : Kp1 key p m < Kp1 key p (m - 1) := h4.resolve_left fun h => c (h.trans hN1)
      by_cases c1 : m > 1
      · rw [if_pos c1]
        refine ⟨hp.lt hN _, hp.lt hN _, ?_⟩
        by_cases d : Kp1 key p 0 < Kp1 key p (m - 1)
        · have e : ltk key (p.getD 0 0) (p.getD (m - 1) 0) = true := decide_eq_true d
          rw [e]
          exact ⟨h1, hmN, hp, h3⟩
        · have e : ltk key (p.getD 0 0) (p.getD (m - 1) 0) = false := decide_eq_false d
          rw [e]
          dsimp only
          rw [if_neg Bool.false_ne_true]
          have hk : ∀ k, k < m → Kp1 key p k = Kp1 key p 0 := fun k hk =>
            Int.le_antisymm (Int.le_trans (h3 k (m - 1) (Nat.le_sub_one_of_lt hk) (pred_lt1 h1)) (Int.not_lt.mp d)) (h3 0 k (Nat.zero_le _) hk)
          have hs : m ≤ p.size := hp.size.symm ▸ hmN
          refine descPart_ok hN h1 (Nat.lt_of_le_of_ne hmN c) (hp.rev 0 m) (fun k hk' => ?_) ?_
          · rw [K_rev hs, K_rev hs, if_pos ⟨Nat.zero_le _, hk'⟩, if_pos ⟨Nat.zero_le _, h1⟩, hk _ (mir4 h1), hk (0 + m - 1 - 0) (mir4 h1)]
          · rw [K_rev hs, K_rev hs, if_neg (fun h => Nat.lt_irrefl _ h.2), if_pos ⟨Nat.zero_le _, h1⟩, hk (0 + m - 1 - 0) (mir4 h1), ← hk (m - 1) (pred_lt1 h1)]; exact hl
      · rw [if_neg c1]
        cases Nat.le_antisymm (Nat.not_lt.mp c1) h1
        exact descPart_ok hN (Nat.le_refl _) (Nat.lt_of_le_of_ne hmN c) hp (fun k hk => by rw [Nat.lt_one_iff.mp hk]) hl

theorem place_ok (hN : 0 < N) {p : Array Nat} {k : Nat} (hp : Pm N p) (hu : Up key p k) (f : Nat) : ∀ (l r : Nat), l ≤ r → r ≤ k → r ≤ l + f → (∀ i, i < l → Kp1 key p i ≤ Kp1 key p k) → (∀ i, r ≤ i → i < k → Kp1 key p k < Kp1 key p i) →
    KOk (ltk key) N (kas_place p k f l r) fun m => m ≤ k ∧ (∀ i, i < m → Kp1 key p i ≤ Kp1 key p k) ∧ (∀ i, m ≤ i → i < k → Kp1 key p k < Kp1 key p i) := by
  induction f with
  | zero => exact fun l r h1 h2 h3 ha hb => ⟨Nat.le_trans h1 h2, ha, fun i hi hik => hb i (Nat.le_trans h3 hi) hik⟩
  | succ f ih =>
    intro l r h1 h2 h3 ha hb
    unfold kas_place
    by_cases c : l ≥ r
    · rw [if_pos c]
      exact ⟨Nat.le_trans h1 h2, ha, fun i hi hik => hb i (Nat.le_trans c hi) hik⟩
    · rw [if_neg c]
      have hlr := mid2 (Nat.not_le.mp c)
      refine ⟨hp.lt hN _, hp.lt hN _, ?_⟩
      by_cases d : Kp1 key p k < Kp1 key p ((l + r) / 2)
      · have e : ltk key (p.getD k 0) (p.getD ((l + r) / 2) 0) = true := decide_eq_true d
        rw [e]
        dsimp only
        rw [if_pos rfl]
        exact ih l ((l + r) / 2) (mid1 h1) (Nat.le_trans (Nat.le_of_lt hlr) h2) (Nat.le_of_lt_succ (Nat.lt_of_lt_of_le hlr h3)) ha fun i hi hik => Int.lt_of_lt_of_le d (hu ((l + r) / 2) i hi hik)
      · have e : ltk key (p.getD k 0) (p.getD ((l + r) / 2) 0) = false := decide_eq_false d
        rw [e]
        dsimp only
        rw [if_neg Bool.false_ne_true]
        exact ih ((l + r) / 2 + 1) r hlr h2 (Nat.le_trans h3 (Nat.le_trans (Nat.add_le_add_right (mid1 h1) (f + 1)) (Nat.le_of_eq (add1r _ f).symm))) (fun i hi => Int.le_trans (hu i ((l + r) / 2) (Nat.le_of_lt_succ hi) (Nat.lt_of_lt_of_le hlr h2)) (Int.not_lt.mp d)) hb
theorem bin_ok (hN : 0 < N) (f : Nat) : ∀ (p : Array Nat) (k : Nat), k + f ≤ N → Pm N p → Up key p k → KOk (ltk key) N (kas_bin f p k) fun q => Pm N q ∧ Up key q (k + f) := by
  induction f with
  | zero => exact fun p k _ hp hu => ⟨hp, hu⟩
  | succ f ih =>
    intro p k hk hp hu
    refine KOk.bind ((place_ok hN hp hu k 0 k (Nat.zero_le _) (Nat.le_refl _) (Nat.le_of_eq (Nat.zero_add k).symm) (fun i hi => absurd hi (Nat.not_lt_zero i)) fun i h1 h2 => absurd h2 (Nat.not_lt.mpr h1)).mono fun l hl => ?_)
    obtain ⟨h1, h2, h3⟩ := hl
    have hs : k < p.size := hp.size.symm ▸ Nat.lt_of_lt_of_le (Nat.lt_add_of_pos_right (Nat.succ_pos f)) hk
    refine (ih _ (k + 1) (Nat.le_trans (Nat.le_of_eq (add1r k f)) hk) (hp.bub _ _) fun i j hij hj => ?_).mono fun q hq => ⟨hq.1, add1r k f ▸ hq.2⟩
    have jk := Nat.le_of_lt_succ hj
    have pj : l < j → j - 1 < k := fun lj => Nat.lt_of_lt_of_le (Nat.sub_lt (Nat.zero_lt_of_lt lj) Nat.one_pos) jk
    rw [K_bub hs (Nat.sub_le k l), K_bub hs (Nat.sub_le k l), Nat.sub_sub_self h1]
    by_cases i1 : i = l
    · rw [if_pos i1]
      by_cases j1 : j = l
      · rw [if_pos j1]; exact Int.le_refl _
      · have lj : l < j := Nat.lt_of_le_of_ne (i1 ▸ hij) (Ne.symm j1)
        rw [if_neg j1, if_pos ⟨lj, jk⟩]
        exact Int.le_of_lt (h3 (j - 1) (Nat.le_sub_one_of_lt lj) (pj lj))
    · rw [if_neg i1]
      by_cases i2 : l < i
      · have lj := Nat.lt_of_lt_of_le i2 hij
        rw [if_pos ⟨i2, Nat.le_trans hij jk⟩, if_neg (Nat.ne_of_gt lj), if_pos ⟨lj, jk⟩]
        exact hu (i - 1) (j - 1) (Nat.sub_le_sub_right hij 1) (pj lj)
      · have il : i < l := Nat.lt_of_le_of_ne (Nat.not_lt.mp i2) i1
        rw [if_neg (fun h => i2 h.1)]
        by_cases j1 : j = l
        · rw [if_pos j1]; exact h2 i il
        · rw [if_neg j1]
          by_cases j2 : l < j
          · rw [if_pos ⟨j2, jk⟩]; exact hu i (j - 1) (Nat.le_sub_one_of_lt (Nat.lt_trans il j2)) (pj j2)
          · rw [if_neg (fun h => j2 h.1)]; exact hu i j hij (Nat.lt_of_lt_of_le (Nat.lt_of_le_of_ne (Nat.not_lt.mp j2) j1) h1)
theorem sort_ok (hN : 0 < N) : KOk (ltk key) N (kas_sort N) fun p => Pm N p ∧ Up key p N := by
  refine KOk.bind ((count_ok hN ⟨Array.Perm.refl _⟩).mono fun r hr => ?_)
  obtain ⟨h1, h2, h3, h4⟩ := hr
  by_cases c : r.1 < N
  · rw [if_pos c, Nat.max_eq_left h1]
    exact (bin_ok hN (N - r.1) r.2 r.1 (Nat.le_of_eq (Nat.add_sub_cancel' h2)) h3 h4).mono fun q hq => ⟨hq.1, (Nat.add_sub_cancel' h2 : r.1 + (N - r.1) = N) ▸ hq.2⟩
  · rw [if_neg c]
    exact ⟨h3, Nat.le_antisymm h2 (Nat.not_lt.mp c) ▸ h4⟩
end

/-- whatever the answers: the same things -/
theorem asc_any {lt : Nat → Nat → Bool} {N : Nat} (hN : 0 < N) {p : Array Nat} (hp : Pm N p) (f : Nat) : ∀ n : Nat, KOk lt N (kas_asc p f n) fun _ => True := by
  induction f with
  | zero => exact fun _ => trivial
  | succ f ih =>
    refine fun n => ⟨hp.lt hN _, hp.lt hN _, ?_⟩
    dsimp only
    split
    · trivial
    · exact ih (n + 1)
theorem desc_any {lt : Nat → Nat → Bool} {N : Nat} (hN : 0 < N) (f : Nat) : ∀ (p : Array Nat) (n q : Nat), Pm N p → KOk lt N (kas_desc f p n q) fun r => Pm N r.1 := by
  induction f with
  | zero => exact fun _ _ _ hp => hp
  | succ f ih =>
    intro p n q hp
    refine ⟨hp.lt hN _, hp.lt hN _, ?_⟩
    dsimp only
    split
    · split
      · exact ih _ _ _ (hp.rev _ _)
      · exact ih _ _ _ hp
    · refine ⟨hp.lt hN _, hp.lt hN _, ?_⟩
      dsimp only
      split
      · exact hp
      · exact ih _ _ _ hp
theorem tail3_any {lt : Nat → Nat → Bool} {N : Nat} (hN : 0 < N) {p : Array Nat} {n m : Nat} (hp : Pm N p) : KOk lt N (kas_tail3 n m p) fun r => Pm N r.2 :=
  KOk.bind ((asc_any hN (hp.rev 0 n) _ _).mono fun _ _ => hp.rev 0 n)
theorem descPart_any {lt : Nat → Nat → Bool} {N : Nat} (hN : 0 < N) {p : Array Nat} {n m : Nat} (hp : Pm N p) : KOk lt N (kas_descPart n m p) fun r => Pm N r.2 :=
  KOk.bind ((desc_any hN _ p _ _ hp).mono fun r hr => by
    split
    · exact tail3_any hN (hr.rev _ _)
    · exact tail3_any hN hr)
theorem count_any {lt : Nat → Nat → Bool} {N : Nat} (hN : 0 < N) {p : Array Nat} {m : Nat} (hp : Pm N p) : KOk lt N (kas_count m p) fun r => Pm N r.2 :=
  KOk.bind ((asc_any hN hp _ _).mono fun r _ => by
    split
    · exact hp
    · split
      · refine ⟨hp.lt hN _, hp.lt hN _, ?_⟩
        dsimp only
        split
        · exact hp
        · exact descPart_any hN (hp.rev _ _)
      · exact descPart_any hN hp)
theorem place_any {lt : Nat → Nat → Bool} {N : Nat} (hN : 0 < N) {p : Array Nat} {k : Nat} (hp : Pm N p) (f : Nat) : ∀ (l r : Nat), KOk lt N (kas_place p k f l r) fun _ => True := by
  induction f with
  | zero => exact fun _ _ => trivial
  | succ f ih =>
    intro l r
    unfold kas_place
    split
    · trivial
    · refine ⟨hp.lt hN _, hp.lt hN _, ?_⟩
      dsimp only
      split
      · exact ih _ _
      · exact ih _ _
theorem bin_any {lt : Nat → Nat → Bool} {N : Nat} (hN : 0 < N) (f : Nat) : ∀ (p : Array Nat) (k : Nat), Pm N p → KOk lt N (kas_bin f p k) fun q => Pm N q := by
  induction f with
  | zero => exact fun _ _ hp => hp
  | succ f ih => exact fun p k hp => KOk.bind ((place_any hN hp _ _ _).mono fun l _ => ih _ _ (hp.bub _ _))
theorem sort_any {lt : Nat → Nat → Bool} {N : Nat} (hN : 0 < N) : KOk lt N (kas_sort N) fun p => Pm N p :=
  KOk.bind ((count_any hN ⟨Array.Perm.refl _⟩).mono fun r hr => by
    split
    · exact bin_any hN _ _ _ hr
    · exact hr)
end

section
open PySem.SeqAt
noncomputable def and2 (o p : Option Bool) : Option Bool := o.bind fun x => p.map fun y => x && y
theorem and2_inv {o p : Option Bool} {r : Bool} (h : and2 o p = some r) : ∃ x y, o = some x ∧ p = some y ∧ r = (x && y) := by
  cases o with
  | none => cases h
  | some x => cases p with
    | none => cases h
    | some y => exact ⟨x, y, rfl, rfl, (Option.some.inj h).symm⟩
noncomputable def eqTs (f : T → T → Option Bool) : List T → List T → Option Bool
  | [], bs => match bs with | [] => some true | _ :: _ => none
  | a :: as, bs => match bs with | [] => none | b :: bs => and2 (f a b) (eqTs f as bs)
noncomputable def eqI (x : Int) : T → Option Bool
  | .int y => some (decide (x = y))
  | _ => none
noncomputable def eqB (x : List UInt8) : T → Option Bool
  | .bytes y => some (x == y)
  | _ => none
noncomputable def eqU (f : T → T → Option Bool) (as : List T) : T → Option Bool
  | .tup bs => eqTs f as bs
  | _ => none
noncomputable def eqL (f : T → T → Option Bool) (as : List T) : T → Option Bool
  | .lst bs => if as.length = bs.length then eqTs f as bs else some false
  | _ => none
noncomputable def eqM (u l : List T → T → Option Bool) : T → T → Option Bool
  | .int x => eqI x
  | .bytes x => eqB x
  | .tup as => u as
  | .lst as => l as
  | _ => fun _ => none
noncomputable def eqT : Nat → T → T → Option Bool
  | 0 => eqM (fun _ _ => none) (fun _ _ => none)
  | d + 1 => eqM (eqU (eqT d)) (eqL (eqT d))
theorem eqT_int {d : Nat} {a b : Int} : eqT d (.int a) (.int b) = some (decide (a = b)) := by cases d <;> rfl
theorem eqT_bytes {d : Nat} {a b : List UInt8} : eqT d (.bytes a) (.bytes b) = some (a == b) := by cases d <;> rfl
theorem nn {p : Prop} {r : Bool} (h : (none : Option Bool) = some r) : p := nomatch h

theorem eqTs_cons {f : T → T → Option Bool} {a b : T} {as bs : List T} {r : Bool} (h : eqTs f (a :: as) (b :: bs) = some r) : ∃ x y, f a b = some x ∧ eqTs f as bs = some y ∧ r = (x && y) := and2_inv h
theorem eqTs_len {f : T → T → Option Bool} {as bs : List T} {r : Bool} (h : eqTs f as bs = some r) : as.length = bs.length := by
  induction as generalizing bs r with
  | nil => cases bs with
    | nil => rfl
    | cons b bs => exact nn h
  | cons a as ih => cases bs with
    | nil => exact nn h
    | cons b bs => obtain ⟨_, _, _, h2, _⟩ := eqTs_cons h; exact congrArg (· + 1) (ih h2)

theorem eqBool_of {A : Around} {s : Shared} {x y : Value} {k : Bool} (hs : x = y → k = true) (hf : ∀ a t, x ≠ .float a t) (h : RcAt A s x y k) : EqAt A s x y k := fun prog w E Q hq => by
  unfold eqBool
  refine wpAny_holding ?_
  refine wpAny_ite_split (fun hab => ?_) (fun _ => ?_)
  · have := hs (by simpa using hab)
    subst this
    exact wpAny_bind (wpAny_rule (wpAny_pure hq))
  · cases x with
    | float a t => exact absurd rfl (hf a t)
    | _ => exact wpAny_bind (h prog w E _ (wpAny_truthy_bool hq))

theorem rc_bytes {A : Around} {s : Shared} (b c : Array UInt8) (t u : Tok) : RcAt A s (.bytes b t) (.bytes c u) (b.toList == c.toList) := fun prog w E Q h =>
  richCompare_gives (typeIs_bytes s b t) (typeIs_bytes s c u) FB.slot_bytes_eq FB.entry_bytes_eq (FB.args_bytes_eq_2 _ _) (gives_bytes_eq b c t u) (fun e => nomatch e) h
theorem rcne_bytes {A : Around} {s : Shared} (b c : Array UInt8) (t u : Tok) : RcNeAt A s (.bytes b t) (.bytes c u) (!(b.toList == c.toList)) := fun prog w E Q h =>
  richCompare_gives (typeIs_bytes s b t) (typeIs_bytes s c u) FB.slot_bytes_ne FB.entry_bytes_ne (FB.args_bytes_ne_2 _ _) (gives_bytes_ne b c t u) (fun e => nomatch e) h
theorem rd_int {Z : OM} {v : Value} {i : Int} (r : Rd Z v (.int i)) : ∃ tk, v = .int i tk := r.view
theorem rd_ref {Z : OM} {v : Value} {a : Addr} (r : Rd Z v (.ref a)) : v = .ref a := r.view
theorem rd_tup {Z : OM} {v : Value} {ts : List T} (r : Rd Z v (.tup ts)) : RdSeq Z "tuple" v ts := r.view
theorem rd_lst {Z : OM} {v : Value} {ts : List T} (r : Rd Z v (.lst ts)) : RdSeq Z "list" v ts := r.view

theorem eqTs_same {Z : OM} {f : T → T → Option Bool} (hf : ∀ v a b r, f a b = some r → Rd Z v a → Rd Z v b → r = true) (vs : List Value) : ∀ {as bs : List T} {r : Bool}, eqTs f as bs = some r → RdL Z vs as → RdL Z vs bs → r = true := by
  induction vs with
  | nil =>
    intro as bs r h p q
    cases p.inv0; cases q.inv0
    exact (Option.some.inj h).symm
  | cons v vs ih =>
    intro as bs r h p q
    obtain ⟨a, as', rfl, p1, p2⟩ := p.inv
    obtain ⟨b, bs', rfl, q1, q2⟩ := q.inv
    obtain ⟨x, y, e1, e2, rfl⟩ := eqTs_cons h
    rw [hf v a b x e1 p1 q1, ih e2 p2 q2]; rfl
/-- which way eqT went -/
inductive EqC (d : Nat) (a b : T) (r : Bool) : Prop
  | int (x y : Int) (ha : a = .int x) (hb : b = .int y) (hr : r = decide (x = y))
  | bytes (x y : List UInt8) (ha : a = .bytes x) (hb : b = .bytes y) (hr : r = (x == y))
  | tup (d' : Nat) (as bs : List T) (hd : d = d' + 1) (ha : a = .tup as) (hb : b = .tup bs) (h : eqTs (eqT d') as bs = some r)
  | lst (d' : Nat) (as bs : List T) (hd : d = d' + 1) (ha : a = .lst as) (hb : b = .lst bs) (hl : as.length = bs.length) (h : eqTs (eqT d') as bs = some r)
  | lstn (d' : Nat) (as bs : List T) (hd : d = d' + 1) (ha : a = .lst as) (hb : b = .lst bs) (hl : as.length ≠ bs.length) (hr : r = false)
theorem eqI_inv {x : Int} {b : T} {r : Bool} : eqI x b = some r → ∃ y, b = .int y ∧ r = decide (x = y) :=
  T.casesOn (motive_1 := fun b => eqI x b = some r → ∃ y, b = .int y ∧ r = decide (x = y)) b nn (fun _ => nn) (fun y h => ⟨y, rfl, (Option.some.inj h).symm⟩) (fun _ => nn) (fun _ => nn) (fun _ => nn) (fun _ => nn) (fun _ _ => nn) (fun _ => nn) fun _ _ => nn
theorem eqB_inv {x : List UInt8} {b : T} {r : Bool} : eqB x b = some r → ∃ y, b = .bytes y ∧ r = (x == y) :=
  T.casesOn (motive_1 := fun b => eqB x b = some r → ∃ y, b = .bytes y ∧ r = (x == y)) b nn (fun _ => nn) (fun _ => nn) (fun _ => nn) (fun y h => ⟨y, rfl, (Option.some.inj h).symm⟩) (fun _ => nn) (fun _ => nn) (fun _ _ => nn) (fun _ => nn) fun _ _ => nn
theorem eqU_inv {f : T → T → Option Bool} {as : List T} {b : T} {r : Bool} : eqU f as b = some r → ∃ y, b = .tup y ∧ eqTs f as y = some r :=
  T.casesOn (motive_1 := fun b => eqU f as b = some r → ∃ y, b = .tup y ∧ eqTs f as y = some r) b nn (fun _ => nn) (fun _ => nn) (fun _ => nn) (fun _ => nn) (fun y h => ⟨y, rfl, h⟩) (fun _ => nn) (fun _ _ => nn) (fun _ => nn) fun _ _ => nn
theorem eqL_inv {f : T → T → Option Bool} {as : List T} {b : T} {r : Bool} : eqL f as b = some r → ∃ y, b = .lst y ∧ (if as.length = y.length then eqTs f as y else some false) = some r :=
  T.casesOn (motive_1 := fun b => eqL f as b = some r → ∃ y, b = .lst y ∧ (if as.length = y.length then eqTs f as y else some false) = some r) b nn (fun _ => nn) (fun _ => nn) (fun _ => nn) (fun _ => nn) (fun _ => nn) (fun y h => ⟨y, rfl, h⟩) (fun _ _ => nn) (fun _ => nn) fun _ _ => nn
theorem eqT_cases {d : Nat} {a b : T} {r : Bool} (h : eqT d a b = some r) : EqC d a b r := by
  cases d with
  | zero => cases a with
    | int x => obtain ⟨y, rfl, rfl⟩ := eqI_inv h; exact .int _ _ rfl rfl rfl
    | bytes x => obtain ⟨y, rfl, rfl⟩ := eqB_inv h; exact .bytes _ _ rfl rfl rfl
    | _ => exact nn h
  | succ d => cases a with
    | int x => obtain ⟨y, rfl, rfl⟩ := eqI_inv h; exact .int _ _ rfl rfl rfl
    | bytes x => obtain ⟨y, rfl, rfl⟩ := eqB_inv h; exact .bytes _ _ rfl rfl rfl
    | tup as => obtain ⟨y, rfl, h⟩ := eqU_inv h; exact .tup _ _ _ rfl rfl rfl h
    | lst as =>
      obtain ⟨y, rfl, h⟩ := eqL_inv h
      by_cases hl : as.length = y.length
      · exact .lst _ _ _ rfl rfl rfl hl ((if_pos hl).symm.trans h)
      · exact .lstn _ _ _ rfl rfl rfl hl (Option.some.inj ((if_neg hl).symm.trans h)).symm
    | _ => exact nn h
noncomputable def EqV (d : Nat) (a : T) (r : Bool) : T → Prop
  | .int y => ∃ x, a = .int x ∧ r = decide (x = y)
  | .bytes y => ∃ x, a = .bytes x ∧ r = (x == y)
  | .tup bs => ∃ d' as, d = d' + 1 ∧ a = .tup as ∧ eqTs (eqT d') as bs = some r
  | .lst bs => ∃ d' as, d = d' + 1 ∧ a = .lst as ∧ (if as.length = bs.length then eqTs (eqT d') as bs else some false) = some r
  | _ => False
theorem eqT_inv {d : Nat} {a b : T} {r : Bool} (h : eqT d a b = some r) : EqV d a r b := by
  rcases eqT_cases h with ⟨x, y, ha, rfl, hr⟩ | ⟨x, y, ha, rfl, hr⟩ | ⟨d', as, bs, hd, ha, rfl, h3⟩ | ⟨d', as, bs, hd, ha, rfl, hl, h3⟩ | ⟨d', as, bs, hd, ha, rfl, hl, hr⟩
  · exact ⟨x, ha, hr⟩
  · exact ⟨x, ha, hr⟩
  · exact ⟨d', as, hd, ha, h3⟩
  · exact ⟨d', as, hd, ha, (if_pos hl).trans h3⟩
  · exact ⟨d', as, hd, ha, (if_neg hl).trans (congrArg some hr.symm)⟩
theorem rd_int2 {Z : OM} {v : Value} {x y : Int} (p : Rd Z v (.int x)) (q : Rd Z v (.int y)) : x = y := by
  obtain ⟨tk, rfl⟩ := rd_int p; obtain ⟨tk', e⟩ := rd_int q; cases e; rfl
theorem rd_bytes2 {Z : OM} {v : Value} {x y : List UInt8} (p : Rd Z v (.bytes x)) (q : Rd Z v (.bytes y)) : x = y := by
  obtain ⟨b1, tk, rfl, rfl⟩ := rd_bytes p; obtain ⟨b2, tk', e, rfl⟩ := rd_bytes q; cases e; rfl
theorem rd_tup2 {Z : OM} {v : Value} {as bs : List T} (p : Rd Z v (.tup as)) (q : Rd Z v (.tup bs)) : ∃ vs, RdL Z vs as ∧ RdL Z vs bs := by
  obtain ⟨a1, _, vs1, _, _, rfl, e1, q1⟩ := rd_tup p
  obtain ⟨a2, _, vs2, _, _, e, e2, q2⟩ := rd_tup q
  cases e; cases e1.symm.trans e2; exact ⟨_, q1, q2⟩
theorem rd_lst2 {Z : OM} {v : Value} {as bs : List T} (p : Rd Z v (.lst as)) (q : Rd Z v (.lst bs)) : ∃ vs, RdL Z vs as ∧ RdL Z vs bs := by
  obtain ⟨a1, _, vs1, _, _, rfl, e1, q1⟩ := rd_lst p
  obtain ⟨a2, _, vs2, _, _, e, e2, q2⟩ := rd_lst q
  cases e; cases e1.symm.trans e2; exact ⟨_, q1, q2⟩
theorem eqT_same {Z : OM} (d : Nat) : ∀ (v : Value) (a b : T) (r : Bool), eqT d a b = some r → Rd Z v a → Rd Z v b → r = true := by
  induction d using Nat.strongRecOn with | _ d ih =>
  intro v a b r h p q
  have h := eqT_inv h
  cases b with
  | int y => obtain ⟨x, rfl, rfl⟩ := h; exact decide_eq_true (rd_int2 p q)
  | bytes y => obtain ⟨x, rfl, rfl⟩ := h; exact rd_bytes2 p q ▸ beq_self_eq_true x
  | tup bs =>
    obtain ⟨d', as, rfl, rfl, h3⟩ := h
    obtain ⟨vs, q1, q2⟩ := rd_tup2 p q
    exact eqTs_same (ih d' (Nat.lt_succ_self _)) vs h3 q1 q2
  | lst bs =>
    obtain ⟨d', as, rfl, rfl, h3⟩ := h
    obtain ⟨vs, q1, q2⟩ := rd_lst2 p q
    exact eqTs_same (ih d' (Nat.lt_succ_self _)) vs ((if_pos (q1.length.symm.trans q2.length)).symm.trans h3) q1 q2
  | _ => exact h.elim

/-- element by element -/
theorem eqTs_get {Z : OM} {f : T → T → Option Bool} (vs : List Value) : ∀ {ws : List Value} {as bs : List T} {r : Bool}, eqTs f as bs = some r → RdL Z vs as → RdL Z ws bs →
    ∃ e : Nat → Bool, (∀ j (h1 : j < vs.length) (h2 : j < ws.length), ∃ a b, f a b = some (e j) ∧ Rd Z vs[j] a ∧ Rd Z ws[j] b) ∧ r = (List.range vs.length).all e := by
  induction vs with
  | nil =>
    intro ws as bs r h p q
    cases p.inv0
    cases bs with
    | nil => exact ⟨fun _ => true, fun j h1 _ => absurd h1 (Nat.not_lt_zero _), (Option.some.inj h).symm⟩
    | cons b bs => cases h
  | cons v vs ih =>
    intro ws as bs r h p q
    obtain ⟨a, as', rfl, p1, p2⟩ := p.inv
    cases bs with
    | nil => cases h
    | cons b bs =>
      obtain ⟨w, ws', rfl, q1, q2⟩ := q.inv'
      obtain ⟨x, y, e1, e2, rfl⟩ := eqTs_cons h
      obtain ⟨e, he, hr⟩ := ih e2 p2 q2
      refine ⟨fun j => j.casesOn x e, fun j h1 h2 => ?_, ?_⟩
      · cases j with
        | zero => exact ⟨a, b, e1, p1, q1⟩
        | succ j => exact he j (Nat.lt_of_succ_lt_succ h1) (Nat.lt_of_succ_lt_succ h2)
      · rw [List.length_cons, List.range_succ_eq_map, List.all_cons, List.all_map, hr]
        rfl

theorem eq_all {s : Shared} {Z : OM} (hz : ∀ a o, Z a = some o → s.heap.get? a = some o) (d : Nat) : ∀ (A : Around) (a b : T) (r : Bool) (va vb : Value), A.units + d < cLine → eqT d a b = some r → Rd Z va a → Rd Z vb b → RcAt A s va vb r ∧ RcNeAt A s va vb (!r) ∧ EqAt A s va vb r := by
  induction d using Nat.strongRecOn with | _ d ih =>
  intro A a b r va vb hu h p q
  have hsame : va = vb → r = true := fun e => eqT_same d va a b r h p (e ▸ q)
  have hnf : ∀ x t, va ≠ .float x t := fun x t e => by subst e; cases p
  suffices hh : RcAt A s va vb r ∧ RcNeAt A s va vb (!r) from ⟨hh.1, hh.2, eqBool_of hsame hnf hh.1⟩
  clear hsame hnf
  have h := eqT_inv h
  cases b with
  | int y =>
    obtain ⟨x, rfl, rfl⟩ := h
    obtain ⟨tk, rfl⟩ := rd_int p; obtain ⟨tk', rfl⟩ := rd_int q
    exact ⟨RcAt.int_int _ _ _ _, RcNeAt.int_int _ _ _ _⟩
  | bytes y =>
    obtain ⟨x, rfl, rfl⟩ := h
    obtain ⟨b1, tk, rfl, rfl⟩ := rd_bytes p; obtain ⟨b2, tk', rfl, rfl⟩ := rd_bytes q
    exact ⟨rc_bytes _ _ _ _, rcne_bytes _ _ _ _⟩
  | tup bs =>
    obtain ⟨d', as, rfl, rfl, h3⟩ := h
    obtain ⟨a1, d1, vs1, ep1, sl1, rfl, e1, q1⟩ := rd_tup p
    obtain ⟨a2, d2, vs2, ep2, sl2, rfl, e2, q2⟩ := rd_tup q
    have t1 : s.heap.IsTuple a1 vs1 := ⟨_, hz _ _ e1, rfl, _, rfl⟩
    have t2 : s.heap.IsTuple a2 vs2 := ⟨_, hz _ _ e2, rfl, _, rfl⟩
    obtain ⟨e, he, hr⟩ := eqTs_get _ h3 q1 q2
    have hlen : vs1.size = vs2.size := q1.length.trans ((eqTs_len h3).trans q2.length.symm)
    have hu' : A.units + 1 + d' < cLine := Nat.add_right_comm A.units d' 1 ▸ hu
    have he' : ∀ j (h1 : j < vs1.size) (h2 : j < vs2.size), EqAt A.in1 s vs1[j] vs2[j] (e j) := fun j h1 h2 => by
      obtain ⟨a, b, x1, x2, x3⟩ := he j h1 h2
      exact (ih d' (Nat.lt_succ_self _) A.in1 a b (e j) _ _ hu' x1 x2 x3).2.2
    have hr' : r = ((List.range (min vs1.size vs2.size)).all e && vs1.size == vs2.size) := by
      rw [hr, hlen]; simp [hlen]
    rw [hr']
    exact ⟨RcAt.tuples t1 t2 (by walk_at "la") he', RcNeAt.tuples t1 t2 (by walk_at "la") he'⟩
  | lst bs =>
    obtain ⟨d', as, rfl, rfl, h3⟩ := h
    obtain ⟨a1, d1, vs1, ep1, sl1, rfl, e1, q1⟩ := rd_lst p
    obtain ⟨a2, d2, vs2, ep2, sl2, rfl, e2, q2⟩ := rd_lst q
    have t1 : s.heap.IsList a1 vs1 := ⟨_, hz _ _ e1, rfl, _, rfl⟩
    have t2 : s.heap.IsList a2 vs2 := ⟨_, hz _ _ e2, rfl, _, rfl⟩
    have hu' : A.units + 1 + d' < cLine := Nat.add_right_comm A.units d' 1 ▸ hu
    have hu2 : A.units < cLine := Nat.lt_of_le_of_lt (Nat.le_add_right _ _) hu
    by_cases hl : as.length = bs.length
    · rw [if_pos hl] at h3
      obtain ⟨e, he, hr⟩ := eqTs_get _ h3 q1 q2
      have hlen : vs1.size = vs2.size := q1.length.trans (hl.trans q2.length.symm)
      have he' : ∀ j (h1 : j < vs1.size) (h2 : j < vs2.size), EqAt A.in1 s vs1[j] vs2[j] (e j) := fun j h1 h2 => by
        obtain ⟨a, b, x1, x2, x3⟩ := he j h1 h2
        exact (ih d' (Nat.lt_succ_self _) A.in1 a b (e j) _ _ hu' x1 x2 x3).2.2
      have hr' : r = (List.range vs1.size).all e := hr
      rw [hr']
      exact ⟨RcAt.lists t1 t2 hlen hu2 he', RcNeAt.lists t1 t2 hlen hu2 he'⟩
    · rw [if_neg hl] at h3
      cases Option.some.inj h3
      have hne : (vs1.size != vs2.size) = true := bne_iff_ne.mpr fun e => hl (q1.length.symm.trans (e.trans q2.length))
      exact ⟨RcAt.lists_lengths t1 t2 hne hu2, RcNeAt.lists_lengths t1 t2 hne hu2⟩
  | _ => exact h.elim

noncomputable def AsT (H : Cells) (t t' : T) : Prop := t' = t ∨ ∃ a ts, t = .ref a ∧ H a = some (.list ts) ∧ t' = .lst ts
theorem AsT.rfl {H : Cells} {t : T} : AsT H t t := .inl (Eq.refl t)
theorem AsT.cell {H : Cells} {a : Addr} {ts : List T} (h : H a = some (.list ts)) : AsT H (.ref a) (.lst ts) := .inr ⟨a, ts, Eq.refl _, h, Eq.refl _⟩
theorem asT_rd {g : Gl} {P Z : OM} {H : Cells} {s : Shared} (x : St g P Z H s) {t t' : T} (ha : AsT H t t') {v : Value} (r : Rd Z v t) : Rd s.heap.get? v t' := by
  have hs : Sub Z s.heap.get? := x.kz
  rcases ha with rfl | ⟨a, ts, rfl, hc, rfl⟩
  · exact r.mono hs
  · cases r
    obtain ⟨vs, ep, e, q⟩ := x.cl a _ hc
    exact .lst e (q.mono hs)

section
variable {g : Gl} {f : Fm} {n : Nat} {V : Vs} {H : Cells} {Q : T → Cells → Prop}
theorem op_eq {t u t' u' : T} {r : Bool} (ha : AsT H t t') (hb : AsT H u u') (he : eqT 8 t' u' = some r) (h : Q (.bool r) H) : Op2 g f n (compareOp .Eq) t u V H Q := .mk fun A P Z s va vb hr x ra rb =>
  (eq_all (Z := s.heap.get?) (fun _ _ e => e) 8 A t' u' r va vb (by have := hr.units; walk_at "la") he (asT_rd x.st ha ra) (asT_rd x.st hb rb)).1 g.prog g.w _ _ (EP.mk x (.bool _) h)
theorem op_ne {t u t' u' : T} {r : Bool} (ha : AsT H t t') (hb : AsT H u u') (he : eqT 8 t' u' = some r) (h : Q (.bool (!r)) H) : Op2 g f n (compareOp .NotEq) t u V H Q := .mk fun A P Z s va vb hr x ra rb =>
  (eq_all (Z := s.heap.get?) (fun _ _ e => e) 8 A t' u' r va vb (by have := hr.units; walk_at "la") he (asT_rd x.st ha ra) (asT_rd x.st hb rb)).2.1 g.prog g.w _ _ (EP.mk x (.bool _) h)

theorem any_eq {Z : OM} (e : Value → Bool) {u : T} {p : T → Bool} (vs : List Value) : ∀ {ts : List T}, RdL Z vs ts → (∀ v t, v ∈ vs → t ∈ ts → Rd Z v t → e v = p t) → vs.any e = ts.any p := by
  induction vs with
  | nil => intro ts r h; cases r.inv0; rfl
  | cons v vs ih =>
    intro ts r0 h
    obtain ⟨t, ts', rfl, a, r⟩ := r0.inv
    rw [List.any_cons, List.any_cons, h _ _ (.head _) (.head _) a, ih r fun v t hv ht => h v t (.tail _ hv) (.tail _ ht)]
theorem eqTs_fun {Z : OM} {f : T → T → Option Bool} (hf : ∀ v a a' b r r', f a b = some r → f a' b = some r' → Rd Z v a → Rd Z v a' → r = r') (vs : List Value) : ∀ {as as' bs : List T} {r r' : Bool}, eqTs f as bs = some r → eqTs f as' bs = some r' → RdL Z vs as → RdL Z vs as' → r = r' := by
  induction vs with
  | nil =>
    intro as as' bs r r' h h' p q
    cases p.inv0; cases q.inv0
    exact Option.some.inj (h.symm.trans h')
  | cons v vs ih =>
    intro as as' bs r r' h h' p q
    obtain ⟨a, as1, rfl, p1, p2⟩ := p.inv
    obtain ⟨a', as1', rfl, q1, q2⟩ := q.inv
    cases bs with
    | nil => cases h
    | cons b bs =>
      obtain ⟨x, y, e1, e2, rfl⟩ := eqTs_cons h
      obtain ⟨x', y', e1', e2', rfl⟩ := eqTs_cons h'
      rw [hf v a a' b x x' e1 e1' p1 q1, ih e2 e2' p2 q2]
theorem eqT_fun {Z : OM} (d : Nat) : ∀ (v : Value) (a a' b : T) (r r' : Bool), eqT d a b = some r → eqT d a' b = some r' → Rd Z v a → Rd Z v a' → r = r' := by
  induction d using Nat.strongRecOn with | _ d ih =>
  intro v a a' b r r' h h' p q
  have h := eqT_inv h
  have h' := eqT_inv h'
  cases b with
  | int y =>
    obtain ⟨x, rfl, rfl⟩ := h; obtain ⟨x', rfl, rfl⟩ := h'
    rw [rd_int2 p q]
  | bytes y =>
    obtain ⟨x, rfl, rfl⟩ := h; obtain ⟨x', rfl, rfl⟩ := h'
    rw [rd_bytes2 p q]
  | tup bs =>
    obtain ⟨d1, as, rfl, rfl, h3⟩ := h
    obtain ⟨d2, as', e, rfl, h2⟩ := h'
    cases e
    obtain ⟨vs, q1, q2⟩ := rd_tup2 p q
    exact eqTs_fun (ih d1 (Nat.lt_succ_self _)) _ h3 h2 q1 q2
  | lst bs =>
    obtain ⟨d1, as, rfl, rfl, h3⟩ := h
    obtain ⟨d2, as', e, rfl, h2⟩ := h'
    cases e
    obtain ⟨vs, q1, q2⟩ := rd_lst2 p q
    rw [← q1.length] at h3
    rw [← q2.length] at h2
    by_cases hl : vs.length = bs.length
    · rw [if_pos hl] at h3 h2
      exact eqTs_fun (ih d1 (Nat.lt_succ_self _)) _ h3 h2 q1 q2
    · rw [if_neg hl] at h3 h2
      exact (Option.some.inj h3).symm.trans (Option.some.inj h2)
  | _ => exact h.elim
theorem op_notin {t u : T} {ts : List T} {p : T → Bool} (ha : AsList H t ts) (he : ∀ a ∈ ts, eqT 8 a u = some (p a)) (h : Q (.bool (!ts.any p)) H) : Op2 g f n (compareOp .NotIn) u t V H Q := .mk fun A P Z s va vb hr x ra rb => by
  obtain ⟨a, vs, rfl, hL, q⟩ := list_of x.st ha rb
  classical
  let e : Value → Bool := fun v => if h : ∃ t, t ∈ ts ∧ Rd Z v t then p (Classical.choose h) else false
  have key : ∀ v t, v ∈ vs.toList → t ∈ ts → Rd Z v t → e v = p t := fun v t _ ht r => by
    have hex : ∃ t, t ∈ ts ∧ Rd Z v t := ⟨t, ht, r⟩
    show (if h : ∃ t, t ∈ ts ∧ Rd Z v t then p (Classical.choose h) else false) = p t
    rw [dif_pos hex]
    have hc := Classical.choose_spec hex
    exact eqT_fun 8 v _ _ u _ _ (he _ hc.1) (he t ht) hc.2 r
  refine notIn_listAt e hL (fun y hy => ?_) ?_
  · obtain ⟨i, hi⟩ := List.mem_iff_getElem?.mp (Array.mem_toList_iff.mpr hy)
    obtain ⟨t', ht', r⟩ := q.get' hi
    have hm := List.mem_of_getElem? ht'
    rw [key y t' (Array.mem_toList_iff.mpr hy) hm r]
    exact (eq_all x.st.kz 8 A.in1 t' u (p t') y va (by have := hr.units; show A.units + 1 + 8 < cLine; walk_at "la") (he t' hm) r ra).2.2
  · have : vs.any e = ts.any p := by rw [← Array.any_toList]; exact any_eq (u := u) e _ q key
    rw [this]
    exact EP.mk x (.bool _) h
end
end

section
open PySem.SeqAt
open AutoSeq1 (wpAny_loadPart')
noncomputable def OpAt (op : CmpOp) (A : Around) (s : Shared) (y x : Value) (b : Bool) : Prop :=
  ∀ (prog : Program) (w : World) (E : Value → Shared → Prop) (Q : Value → Shared → Prop), Q (.bool b) s → wpAny (model prog w) A (richCompare op y x) Q E s
inductive Lex (op : CmpOp) (A : Around) (s : Shared) : List (Value × Value) → Bool → Bool → Prop
  | nil {fin : Bool} : Lex op A s [] fin fin
  | eq {p q : Value} {r : List (Value × Value)} {fin b : Bool} : EqAt A s p q true → Lex op A s r fin b → Lex op A s ((p, q) :: r) fin b
  | ne {p q : Value} {r : List (Value × Value)} {fin b : Bool} : EqAt A s p q false → OpAt op A s p q b → Lex op A s ((p, q) :: r) fin b

theorem tuple_lt (l b : Addr) (items items2 : Array Value) (n n2 : Nat) (dd dd2 : Option Addr) (sl sl2 : Array (Option Value)) (res : Bool) :
    Meets (Builtin.«tuple.__lt__» ⟨[.ref l, .ref b], []⟩)
      (fun A R s => s.heap.get? l = some { cls := .type "tuple", dict := dd, data := .seq items n, slots := sl } ∧ s.heap.get? b = some { cls := .type "tuple", dict := dd2, data := .seq items2 n2, slots := sl2 } ∧
        Lex .Lt A.in1 s (items.toList.zip items2.toList) (decide (items.size < items2.size)) res ∧ R (.ok (.ret (.bool res))) s) :=
  .of_wp fun prog w A R s h => by
    obtain ⟨hp, g, d, tk, os⟩ := s; obtain ⟨hl, hb, he, h⟩ := h
    have f2 := AutoSeq1.sub_tuple_tuple
    wp_walk using wpAny_loadPart' hl, wpAny_loadPart' hb, wpAny_forIn_list _ (fun rest b s' => b.1 = none ∧ s' = ⟨hp, g, d, tk, os⟩ ∧ Lex .Lt A.in1 ⟨hp, g, d, tk, os⟩ rest (decide (items.size < items2.size)) res) _
    case turn =>
      rintro ⟨y, x⟩ rest b s' ⟨hb', rfl, hL⟩
      cases hL with
      | eq e1 e2 =>
        refine wpAny_bind (e1 prog w _ _ ?_)
        wp_walk
        exact ⟨rfl, rfl, e2⟩
      | ne e1 e2 =>
        have e3 := e2 prog w
        refine wpAny_bind (e1 prog w _ _ ?_)
        dsimp only
        generalize richCompare CmpOp.Lt y x = m at e3 ⊢
        wp_walk
        refine wpAny_mono (e3 _ (fun v s' => v = .bool res ∧ s' = ⟨hp, g, d, tk, os⟩) ⟨rfl, rfl⟩) (fun v s' hv => ?_) fun _ _ e => e
        obtain ⟨rfl, rfl⟩ := hv
        wp_walk
        exact ⟨_, rfl, h⟩
    case fin =>
      rintro ⟨b1, b2⟩ s' ⟨hb', rfl, hL⟩
      simp only at hb'
      subst hb'
      cases hL
      wp_walk
      exact ⟨_, rfl, by simpa [Builtin.Tuple.tupleCompareSizes] using h⟩
    case h =>
      exact ⟨rfl, rfl, he⟩
theorem tuple_gt (l b : Addr) (items items2 : Array Value) (n n2 : Nat) (dd dd2 : Option Addr) (sl sl2 : Array (Option Value)) (res : Bool) :
    Meets (Builtin.«tuple.__gt__» ⟨[.ref l, .ref b], []⟩)
      (fun A R s => s.heap.get? l = some { cls := .type "tuple", dict := dd, data := .seq items n, slots := sl } ∧ s.heap.get? b = some { cls := .type "tuple", dict := dd2, data := .seq items2 n2, slots := sl2 } ∧
        Lex .Gt A.in1 s (items.toList.zip items2.toList) (decide (items2.size < items.size)) res ∧ R (.ok (.ret (.bool res))) s) :=
  .of_wp fun prog w A R s h => by
    obtain ⟨hp, g, d, tk, os⟩ := s; obtain ⟨hl, hb, he, h⟩ := h
    have f2 := AutoSeq1.sub_tuple_tuple
    wp_walk using wpAny_loadPart' hl, wpAny_loadPart' hb, wpAny_forIn_list _ (fun rest b s' => b.1 = none ∧ s' = ⟨hp, g, d, tk, os⟩ ∧ Lex .Gt A.in1 ⟨hp, g, d, tk, os⟩ rest (decide (items2.size < items.size)) res) _
    case turn =>
      rintro ⟨y, x⟩ rest b s' ⟨hb', rfl, hL⟩
      cases hL with
      | eq e1 e2 =>
        refine wpAny_bind (e1 prog w _ _ ?_)
        wp_walk
        exact ⟨rfl, rfl, e2⟩
      | ne e1 e2 =>
        have e3 := e2 prog w
        refine wpAny_bind (e1 prog w _ _ ?_)
        dsimp only
        generalize richCompare CmpOp.Gt y x = m at e3 ⊢
        wp_walk
        refine wpAny_mono (e3 _ (fun v s' => v = .bool res ∧ s' = ⟨hp, g, d, tk, os⟩) ⟨rfl, rfl⟩) (fun v s' hv => ?_) fun _ _ e => e
        obtain ⟨rfl, rfl⟩ := hv
        wp_walk
        exact ⟨_, rfl, h⟩
    case fin =>
      rintro ⟨b1, b2⟩ s' ⟨hb', rfl, hL⟩
      simp only at hb'
      subst hb'
      cases hL
      wp_walk
      exact ⟨_, rfl, by simpa [Builtin.Tuple.tupleCompareSizes] using h⟩
    case h =>
      exact ⟨rfl, rfl, he⟩

noncomputable def lex3 (o x y : Option Bool) : Option Bool := o.bind fun b => Bool.casesOn b y x
theorem lex3_inv {o x y : Option Bool} {r : Bool} (h : lex3 o x y = some r) : (o = some true ∧ x = some r) ∨ (o = some false ∧ y = some r) := by
  cases o with
  | none => exact nn h
  | some b => cases b with
    | true => exact .inl ⟨rfl, h⟩
    | false => exact .inr ⟨rfl, h⟩
noncomputable def lexT (fe fo : T → T → Option Bool) (fin : Bool) : List T → List T → Option Bool
  | [], _ => some fin
  | a :: as, bs => match bs with | [] => some fin | b :: bs => lex3 (fe a b) (lexT fe fo fin as bs) (fo a b)
noncomputable def ordI (gt : Bool) (x : Int) : T → Option Bool
  | .int y => some (if gt then decide (y < x) else decide (x < y))
  | _ => none
noncomputable def ordU (gt : Bool) (fe fo : T → T → Option Bool) (as : List T) : T → Option Bool
  | .tup bs => lexT fe fo (if gt then decide (bs.length < as.length) else decide (as.length < bs.length)) as bs
  | _ => none
noncomputable def ordM (gt : Bool) (u : List T → T → Option Bool) : T → T → Option Bool
  | .int x => ordI gt x
  | .tup as => u as
  | _ => fun _ => none
noncomputable def ordT (gt : Bool) : Nat → T → T → Option Bool
  | 0 => ordM gt fun _ _ => none
  | d + 1 => ordM gt (ordU gt (eqT d) (ordT gt d))
theorem ordT_int {gt : Bool} {d : Nat} {a b : Int} : ordT gt d (.int a) (.int b) = some (if gt then decide (b < a) else decide (a < b)) := by cases d <;> rfl
noncomputable def opOf (gt : Bool) : CmpOp := if gt then .Gt else .Lt

theorem rc_lt_int {A : Around} {s : Shared} (a b : Int) (t u : Tok) : OpAt .Lt A s (.int a t) (.int b u) (decide (a < b)) := fun prog w E Q h => PySem.P.lt_int h
theorem rc_gt_int {A : Around} {s : Shared} (a b : Int) (t u : Tok) : OpAt .Gt A s (.int a t) (.int b u) (decide (b < a)) := fun prog w E Q h => PySem.P.gt_int h

theorem lexT_cons {fe fo : T → T → Option Bool} {fin r : Bool} {a b : T} {as bs : List T} (h : lexT fe fo fin (a :: as) (b :: bs) = some r) : (fe a b = some true ∧ lexT fe fo fin as bs = some r) ∨ (fe a b = some false ∧ fo a b = some r) := lex3_inv h
theorem lex_of {gt fin : Bool} {A : Around} {s : Shared} {Z : OM} {d : Nat} (hz : ∀ a o, Z a = some o → s.heap.get? a = some o) (hu : A.units + d < cLine)
    (ih : ∀ a b r va vb, ordT gt d a b = some r → Rd Z va a → Rd Z vb b → OpAt (opOf gt) A s va vb r) (vs : List Value) :
    ∀ {ws : List Value} {as bs : List T} {r : Bool}, lexT (eqT d) (ordT gt d) fin as bs = some r → RdL Z vs as → RdL Z ws bs → Lex (opOf gt) A s (vs.zip ws) fin r := by
  induction vs with
  | nil =>
    intro ws as bs r h p q
    cases p.inv0
    cases (Option.some.inj h : fin = r)
    exact .nil
  | cons v vs ihl =>
    intro ws as bs r h p q
    obtain ⟨a, as', rfl, p1, p2⟩ := p.inv
    cases bs with
    | nil =>
      cases q.inv0'
      cases (Option.some.inj h : fin = r)
      exact .nil
    | cons b bs =>
      obtain ⟨w, ws', rfl, q1, q2⟩ := q.inv'
      rw [List.zip_cons_cons]
      rcases lexT_cons h with ⟨e, h2⟩ | ⟨e, h2⟩
      · exact .eq (eq_all hz d A a b true v w hu e p1 q1).2.2 (ihl h2 p2 q2)
      · exact .ne (eq_all hz d A a b false v w hu e p1 q1).2.2 (ih a b r v w h2 p1 q1)

inductive OrdC (gt : Bool) (d : Nat) (a b : T) (r : Bool) : Prop
  | int (x y : Int) (ha : a = .int x) (hb : b = .int y) (hr : r = if gt then decide (y < x) else decide (x < y))
  | tup (d' : Nat) (as bs : List T) (hd : d = d' + 1) (ha : a = .tup as) (hb : b = .tup bs) (h : lexT (eqT d') (ordT gt d') (if gt then decide (bs.length < as.length) else decide (as.length < bs.length)) as bs = some r)
theorem ordI_inv {gt : Bool} {x : Int} {b : T} {r : Bool} : ordI gt x b = some r → ∃ y, b = .int y ∧ r = if gt then decide (y < x) else decide (x < y) :=
  T.casesOn (motive_1 := fun b => ordI gt x b = some r → ∃ y, b = .int y ∧ r = if gt then decide (y < x) else decide (x < y)) b nn (fun _ => nn) (fun y h => ⟨y, rfl, (Option.some.inj h).symm⟩) (fun _ => nn) (fun _ => nn) (fun _ => nn) (fun _ => nn) (fun _ _ => nn) (fun _ => nn) fun _ _ => nn
theorem ordU_inv {gt : Bool} {fe fo : T → T → Option Bool} {as : List T} {b : T} {r : Bool} : ordU gt fe fo as b = some r → ∃ bs, b = .tup bs ∧ lexT fe fo (if gt then decide (bs.length < as.length) else decide (as.length < bs.length)) as bs = some r :=
  T.casesOn (motive_1 := fun b => ordU gt fe fo as b = some r → ∃ bs, b = .tup bs ∧ lexT fe fo (if gt then decide (bs.length < as.length) else decide (as.length < bs.length)) as bs = some r) b nn (fun _ => nn) (fun _ => nn) (fun _ => nn) (fun _ => nn) (fun y h => ⟨y, rfl, h⟩) (fun _ => nn) (fun _ _ => nn) (fun _ => nn) fun _ _ => nn
theorem ordT_cases {gt : Bool} {d : Nat} {a b : T} {r : Bool} (h : ordT gt d a b = some r) : OrdC gt d a b r := by
  cases d with
  | zero => cases a with
    | int x => obtain ⟨y, rfl, e⟩ := ordI_inv h; exact .int _ _ rfl rfl e
    | _ => exact nn h
  | succ d => cases a with
    | int x => obtain ⟨y, rfl, e⟩ := ordI_inv h; exact .int _ _ rfl rfl e
    | tup as => obtain ⟨y, rfl, h⟩ := ordU_inv h; exact .tup _ _ _ rfl rfl rfl h
    | _ => exact nn h
theorem ord_at {gt : Bool} {s : Shared} {Z : OM} (hz : ∀ a o, Z a = some o → s.heap.get? a = some o) (d : Nat) : ∀ (A : Around) (a b : T) (r : Bool) (va vb : Value), A.units + d < cLine → ordT gt d a b = some r → Rd Z va a → Rd Z vb b → OpAt (opOf gt) A s va vb r := by
  induction d using Nat.strongRecOn with | _ d ih =>
  intro A a b r va vb hu h p q
  rcases ordT_cases h with ⟨x, y, rfl, rfl, rfl⟩ | ⟨d', as, bs, rfl, rfl, rfl, h3⟩
  · obtain ⟨tk, rfl⟩ := rd_int p; obtain ⟨tk', rfl⟩ := rd_int q
    cases gt
    · exact rc_lt_int _ _ _ _
    · exact rc_gt_int _ _ _ _
  · obtain ⟨a1, d1, vs1, ep1, sl1, rfl, e1, q1⟩ := rd_tup p
    obtain ⟨a2, d2, vs2, ep2, sl2, rfl, e2, q2⟩ := rd_tup q
    have hu' : A.units + 1 + d' < cLine := Nat.add_right_comm A.units d' 1 ▸ hu
    have hL := lex_of (A := A.in1) hz hu' (fun a b r va vb h p q => ih d' (Nat.lt_succ_self _) A.in1 a b r va vb hu' h p q) _ h3 q1 q2
    rw [← q1.length, ← q2.length] at hL
    intro prog w E Q hq
    cases gt
    · exact richCompare_meets_room (op := .Lt) ⟨_, hz _ _ e1, rfl⟩ ⟨_, hz _ _ e2, rfl⟩ PySem.F.slot_tuple_lt PySem.F.entry_tuple_lt (PySem.F.args_tuple_lt_2 _ _) (tuple_lt a1 a2 vs1 vs2 ep1 ep2 d1 d2 sl1 sl2 r)
        ⟨hz _ _ e1, hz _ _ e2, hL, show Value.bool r ≠ Value.notImplemented ∧ Q (.bool r) s from ⟨(fun x => nomatch x), hq⟩⟩ (by walk_at "la")
    · exact richCompare_meets_room (op := .Gt) ⟨_, hz _ _ e1, rfl⟩ ⟨_, hz _ _ e2, rfl⟩ PySem.F.slot_tuple_gt PySem.F.entry_tuple_gt (PySem.F.args_tuple_gt_2 _ _) (tuple_gt a1 a2 vs1 vs2 ep1 ep2 d1 d2 sl1 sl2 r)
        ⟨hz _ _ e1, hz _ _ e2, hL, show Value.bool r ≠ Value.notImplemented ∧ Q (.bool r) s from ⟨(fun x => nomatch x), hq⟩⟩ (by walk_at "la")

noncomputable def CmpIn (prog : Program) (w : World) (A : Around) (op : CmpOp) (P : Nat → Value → Prop) (bt : Nat → Nat → Bool) (Inv : Heap → Prop) : Prop :=
  ∀ i j vi vj (s : Shared) (Q : Value → Shared → Prop) (E : Value → Shared → Prop), Inv s.heap → P i vi → P j vj → Q (.bool (bt i j)) s → wpAny (model prog w) A (richCompare op vi vj) Q E s
section
open PySem.Builtin
variable {prog : Program} {w : World} {A : Around} {R : Result → Shared → Prop} {I : Addr} {fp wr : List Addr} {n : Nat} {P : Nat → Value → Prop} {St : Nat → Heap → Prop}
theorem max_loopI {Inv : Heap → Prop} (W : Walks prog w A.in1 I fp wr n P St) (bt : Nat → Nat → Bool) (hcmp : CmpIn prog w A.in1 .Gt P bt Inv) (S : Addr) (hSf : S ∉ fp) (hI : ∀ h h', Inv h → (∀ b o, b ∉ wr → b ≠ S → h.get? b = some o → h'.get? b = some o) → Inv h') :
    ∀ (k j : Nat) (s : Shared) (vb : Value) (c : Nat), n - (j + 1) = k → j + 1 ≤ n → St (j + 1) s.heap → Inv s.heap → P (argBest bt j) vb →
    s.heap.get? S = some { cls := .type "list", dict := none, data := .seq #[vb, vb] c, slots := #[] } →
    (∀ v h' tk, P (argBest bt (n - 1)) v → (∀ b o, b ∉ wr → b ≠ S → s.heap.get? b = some o → h'.get? b = some o) → R (.ok (.ret v)) { s with heap := h', toks := tk }) →
    codeAny (model prog w) A (.builtin "max.loop" ⟨[.ref I, .none, .ref S], []⟩) R s := by
  have hSw : S ∉ wr := fun h => hSf (W.sub _ h)
  have hname : (toString "max" ++ toString ".loop" : String) = "max.loop" := by decide
  intro k
  induction k with
  | zero =>
    intro j s vb c hk hj hst hinv hPb hS hR
    have hin : j + 1 = n := by walk_at "la"
    refine codeAny_builtin PySem.F.entry_max_loop ?_
    rw [Around.under_plainId PySem.F.plain_max_loop _]
    show wpAny _ A.in1 (seqItems? (.ref S) >>= _) _ _ s
    refine wpAny_bind (wpAny_seqItems hS rfl ?_)
    show wpAny _ A.in1 (tryCatch (pyNext (.ref I)) _ >>= _) _ _ s
    refine wpAny_bind (wpAny_tryCatch (W.done s _ _ (hin ▸ hst) fun h' tk hk' => ?_))
    have hS' := hk' S _ hSw hS
    show wpAny _ A.in1 (updateSeq S (fun _ => #[]) >>= _) _ _ _
    refine wpAny_bind ?_
    refine wpAny_updateSeq hS' rfl (wpAny_bind (wpAny_letGo (wpAny_pure ?_)))
    refine hR vb _ tk (by rw [← hin]; exact hPb) fun b o hbw hbS e => (Heap.get?_update_other _ _ (Ne.symm hbS)).trans (hk' b o hbw e)
  | succ k ih =>
    intro j s vb c hk hj hst hinv hPb hS hR
    have hlt : j + 1 < n := by walk_at "la"
    refine codeAny_builtin PySem.F.entry_max_loop ?_
    rw [Around.under_plainId PySem.F.plain_max_loop _]
    show wpAny _ A.in1 (seqItems? (.ref S) >>= _) _ _ s
    refine wpAny_bind (wpAny_seqItems hS rfl ?_)
    show wpAny _ A.in1 (tryCatch (pyNext (.ref I)) _ >>= _) _ _ s
    refine wpAny_bind (wpAny_tryCatch (W.item (j + 1) s _ _ hlt hst fun v h' tk hP hst' hk' => ?_))
    have hS' := hk' S _ hSw hS
    have hinv' := hI _ h' hinv fun b o hb _ e => hk' b o hb e
    show wpAny _ A.in1 (tryCatch (holding [v, v] (richCompare .Gt v vb >>= _)) _ >>= _) _ _ _
    refine wpAny_bind (wpAny_tryCatch (wpAny_holding (wpAny_bind (hcmp (j + 1) (argBest bt j) v vb _ _ _ hinv' hP hPb ?_))))
    refine wpAny_bind (wpAny_holding (wpAny_truthy_bool ?_))
    refine wpAny_bind (wpAny_letGo (wpAny_pure ?_))
    cases hb : bt (j + 1) (argBest bt j) with
    | true =>
      simp only [if_true]
      refine wpAny_bind ?_
      refine wpAny_updateSeq hS' rfl (wpAny_bind (wpAny_letGo ?_))
      rw [hname]
      refine wpAny_pure ⟨plainId_quiet PySem.F.plain_max_loop _, ih (j + 1) _ v _ (by walk_at "la") hlt (W.frame _ _ _ hst' fun b hbf o e => ?_) (hI _ _ hinv' fun b o _ hb e => (Heap.get?_update_other _ _ (Ne.symm hb)).trans e) (by simp only [argBest, hb, if_true]; exact hP) (Heap.get?_update_self _ hS' rfl)
        fun v' h'' tk'' hP' hk'' => ?_⟩
      · exact (Heap.get?_update_other _ _ (fun h : S = b => hSf (by rw [h]; exact hbf))).trans e
      · exact hR v' h'' tk'' hP' fun b o hbw hbS e => hk'' b o hbw hbS ((Heap.get?_update_other _ _ (Ne.symm hbS)).trans (hk' b o hbw e))
    | false =>
      simp only [Bool.false_eq_true, if_false]
      refine wpAny_bind (wpAny_letGo ?_)
      rw [hname]
      refine wpAny_pure ⟨plainId_quiet PySem.F.plain_max_loop _, ih (j + 1) _ vb c (by walk_at "la") hlt hst' hinv' (by simp only [argBest, hb, Bool.false_eq_true, if_false]; exact hPb) hS' fun v' h'' tk'' hP' hk'' => ?_⟩
      exact hR v' h'' tk'' hP' fun b o hbw hbS e => hk'' b o hbw hbS (hk' b o hbw e)

theorem max_firstI {Inv : Heap → Prop} (W : Walks prog w A.in1 I fp wr n P St) (bt : Nat → Nat → Bool) (hcmp : CmpIn prog w A.in1 .Gt P bt Inv) (S : Addr) (hSf : S ∉ fp) (hn : 0 < n) (hI : ∀ h h', Inv h → (∀ b o, b ∉ wr → b ≠ S → h.get? b = some o → h'.get? b = some o) → Inv h') {s : Shared} {c : Nat} (hst : St 0 s.heap) (hinv : Inv s.heap)
    (hS : s.heap.get? S = some { cls := .type "list", dict := none, data := .seq #[] c, slots := #[] })
    (hR : ∀ v h' tk, P (argBest bt (n - 1)) v → (∀ b o, b ∉ wr → b ≠ S → s.heap.get? b = some o → h'.get? b = some o) → R (.ok (.ret v)) { s with heap := h', toks := tk }) :
    codeAny (model prog w) A (.builtin "max.loop" ⟨[.ref I, .none, .ref S], []⟩) R s := by
  have hSw : S ∉ wr := fun h => hSf (W.sub _ h)
  have hname : (toString "max" ++ toString ".loop" : String) = "max.loop" := by decide
  refine codeAny_builtin PySem.F.entry_max_loop ?_
  rw [Around.under_plainId PySem.F.plain_max_loop _]
  show wpAny _ A.in1 (seqItems? (.ref S) >>= _) _ _ s
  refine wpAny_bind (wpAny_seqItems hS rfl ?_)
  show wpAny _ A.in1 (tryCatch (pyNext (.ref I)) _ >>= _) _ _ s
  refine wpAny_bind (wpAny_tryCatch (W.item 0 s _ _ hn hst fun v h' tk hP hst' hk' => ?_))
  have hS' := hk' S _ hSw hS
  show wpAny _ A.in1 (updateSeq S (fun _ => #[v, v]) >>= _) _ _ _
  refine wpAny_bind ?_
  refine wpAny_updateSeq hS' rfl ?_
  rw [hname]
  refine wpAny_pure ⟨plainId_quiet PySem.F.plain_max_loop _, max_loopI W bt hcmp S hSf hI _ 0 _ v _ rfl hn (W.frame _ _ _ hst' fun b hbf o e => ?_) (hI _ _ (hI _ _ hinv fun b o hb _ e => hk' b o hb e) fun b o _ hb e => (Heap.get?_update_other _ _ (Ne.symm hb)).trans e) hP (Heap.get?_update_self _ hS' rfl) fun v' h'' tk'' hP' hk'' => ?_⟩
  · exact (Heap.get?_update_other _ _ (fun h : S = b => hSf (by rw [h]; exact hbf))).trans e
  · exact hR v' h'' tk'' hP' fun b o hbw hbS e => hk'' b o hbw hbS ((Heap.get?_update_other _ _ (Ne.symm hbS)).trans (hk' b o hbw e))
end

section
variable {prog : Program} {w : World} {A : Around} {E : Value → Shared → Prop} {s : Shared}
theorem call_maxI {x : Value} {Q : Value → Shared → Prop}
    (h : wpAny (model prog w) A.in1 (pyIter x) (fun it s₂ => ∃ I fp wr n P St bt Inv, it = .ref I ∧ Walks prog w A.in1 I fp wr n P St ∧ St 0 s₂.heap ∧ (∀ b ∈ fp, b < s₂.heap.objs.size) ∧ 0 < n ∧ CmpIn prog w A.in1 .Gt P bt Inv ∧ Inv s₂.heap ∧ (∀ h h' : Heap, Inv h → (∀ b o, b ∉ wr → b ≠ s₂.heap.objs.size → h.get? b = some o → h'.get? b = some o) → Inv h') ∧
      ∀ v h' tk, P (argBest bt (n - 1)) v → (∀ b o, b ∉ wr → s₂.heap.get? b = some o → h'.get? b = some o) → Q v { s₂ with heap := h', toks := tk }) E s) :
    wpAny (model prog w) A (call (.builtin "max") [x]) Q E s := by
  have hname : (toString "max" ++ toString ".loop" : String) = "max.loop" := by decide
  refine call_function_tree PySem.F.kind_max PySem.F.plain_max PySem.F.entry_max (PySem.F.args_max1 _) ?_
  show wpAny _ A.in1 (Builtin.Builtins.bindParams "max" ["key", "default"] 0 ⟨[], []⟩ >>= _) _ _ s
  refine wpAny_bind (wpAny_of_eq (show Builtin.Builtins.bindParams "max" ["key", "default"] 0 ⟨[], []⟩ = pure [none, none] from rfl) ?_)
  refine wpAny_bind (wpAny_pure ?_)
  refine wpAny_bind (wpAny_mono h (fun it s₂ h₂ => ?_) fun _ _ e => e)
  obtain ⟨I, fp, wr, n, P, St, bt, Inv, rfl, W, hst, hfp, hn, hcmp, hinv, hI, hQ⟩ := h₂
  refine wpAny_bind (wpAny_newObj_type ?_)
  have hSf : s₂.heap.objs.size ∉ fp := fun hm => Nat.lt_irrefl _ (hfp _ hm)
  rw [hname]
  refine wpAny_pure ⟨plainId_quiet PySem.F.plain_max_loop _, max_firstI W bt hcmp s₂.heap.objs.size hSf hn hI (W.frame _ _ _ hst fun b _ o e => Heap.get?_push_of_some _ e) (hI _ _ hinv fun b o _ _ e => Heap.get?_push_of_some _ e) (Heap.get?_push_size _ rfl) fun v h' tk hP hk => ?_⟩
  exact hQ v h' tk hP fun b o hbw e => hk b o hbw (Nat.ne_of_lt (Heap.lt_size e)) (Heap.get?_push_of_some _ e)
end

section
variable {g : Gl} {f : Fm} {n : Nat} {V : Vs} {H : Cells} {Q : T → Cells → Prop}
theorem op_gt_tup {as bs : List T} {r : Bool} (he : ordT true 8 (.tup as) (.tup bs) = some r) (h : Q (.bool r) H) : Op2 g f n (compareOp .Gt) (.tup as) (.tup bs) V H Q := .mk fun A P Z s va vb hr x ra rb =>
  ord_at x.st.kz 8 A (.tup as) (.tup bs) r va vb (by have := hr.units; walk_at "la") he ra rb g.prog g.w _ _ (EP.mk x (.bool _) h)

theorem best_ok {α : Type} {bt : Nat → Nat → Bool} {xs : List α} {gt : α → α → Bool} (hb : ∀ i j a b, xs[i]? = some a → xs[j]? = some b → bt i j = gt a b) (hi : ∀ a, gt a a = false) (ht : ∀ a b c, gt a b = false → gt c b = true → gt a c = false) :
    ∀ k, k < xs.length → argBest bt k < xs.length ∧ ∀ j a b, j ≤ k → xs[j]? = some a → xs[argBest bt k]? = some b → gt a b = false
  | 0, hk => ⟨hk, fun j a b hj ha hb' => by
      have : j = 0 := by walk_at "la"
      subst this
      have e : argBest bt 0 = 0 := rfl
      rw [e, ha] at hb'; cases hb'; exact hi a⟩
  | k + 1, hk => by
    obtain ⟨h1, h2⟩ := best_ok hb hi ht k (by walk_at "la")
    unfold argBest
    have hkk : xs[k + 1]? = some xs[k + 1] := List.getElem?_eq_getElem hk
    have hbb : xs[argBest bt k]? = some xs[argBest bt k] := List.getElem?_eq_getElem h1
    have hv := hb _ _ _ _ hkk hbb
    split
    · rename_i q
      refine ⟨hk, fun j a b hj ha hb' => ?_⟩
      rw [hkk] at hb'; cases hb'
      by_cases hjk : j = k + 1
      · subst hjk; rw [hkk] at ha; cases ha; exact hi _
      · exact ht a _ _ (h2 j a _ (by walk_at "la") ha hbb) (hv ▸ q)
    · rename_i q
      refine ⟨h1, fun j a b hj ha hb' => ?_⟩
      rw [hbb] at hb'; cases hb'
      by_cases hjk : j = k + 1
      · subst hjk; rw [hkk] at ha; cases ha; rw [← hv]; simpa using q
      · exact h2 j a _ (by walk_at "la") ha hbb

theorem cl_max {α : Type} {enc : α → T} {gt : α → α → Bool} {xs : List α} {t : T} (ha : AsList H t (xs.map enc)) (hne : xs ≠ []) (ho : ∀ a ∈ xs, ∀ b ∈ xs, ordT true 8 (enc a) (enc b) = some (gt a b)) (hi : ∀ a, gt a a = false)
    (ht : ∀ a b c, gt a b = false → gt c b = true → gt a c = false) (h : ∀ m ∈ xs, (∀ x ∈ xs, gt x m = false) → Q (enc m) H) : Cl g f n (.builtin "max") [t] V H Q := cl1 fun A P Z s v hr x r => by
  obtain ⟨a, vs, rfl, hL, q⟩ := list_of x.st ha r
  have hlen : vs.size = xs.length := by have := q.length; simpa using this
  have hpos : 0 < xs.length := List.length_pos_iff.mpr hne
  let bt : Nat → Nat → Bool := fun i j => match xs[i]?, xs[j]? with | some a, some b => gt a b | _, _ => false
  have hbt : ∀ i j a b, xs[i]? = some a → xs[j]? = some b → bt i j = gt a b := fun i j a b e1 e2 => by
    show (match xs[i]?, xs[j]? with | some a, some b => gt a b | _, _ => false) = gt a b
    rw [e1, e2]
  have hrd : ∀ (i : Nat) v, vs[i]? = some v → ∃ a, xs[i]? = some a ∧ a ∈ xs ∧ Rd Z v (enc a) := fun i v hv => by
    obtain ⟨t', e, r'⟩ := q.get' (i := i) (v := v) (by simpa using hv)
    rw [List.getElem?_map, Option.map_eq_some_iff] at e
    obtain ⟨a, e1, rfl⟩ := e
    exact ⟨a, e1, List.mem_of_getElem? e1, r'⟩
  have hI : a ≠ s.heap.objs.size := by obtain ⟨o, ho', _⟩ := hL; exact Nat.ne_of_lt (Heap.lt_size ho')
  have hit : ({ s with heap := s.heap.push { cls := .type "list_iterator", data := .fields #[.ref a, .int 0 0] } } : Shared).heap.IsListIter s.heap.objs.size a 0 := ⟨_, Heap.get?_push_size _ rfl, rfl, rfl⟩
  have hfp : ∀ b ∈ [s.heap.objs.size, a], b < ({ s with heap := s.heap.push { cls := .type "list_iterator", data := .fields #[.ref a, .int 0 0] } } : Shared).heap.objs.size := fun b hb => by
    obtain ⟨o, ho', _⟩ := hL
    have := Heap.lt_size ho'
    simp only [Heap.size_push]
    simp only [List.mem_cons, List.not_mem_nil, or_false] at hb
    rcases hb with rfl | rfl
    · exact Nat.lt_succ_self _
    · exact Nat.lt_succ_of_lt this
  have fin : ∀ v h' tk, vs[argBest bt (vs.size - 1)]? = some v → (∀ b o, b ∉ [s.heap.objs.size] → (s.heap.push { cls := .type "list_iterator", data := .fields #[.ref a, .int 0 0] }).get? b = some o → h'.get? b = some o) → EP g f P Z V Q v { s with heap := h', toks := tk } := fun v h' tk hv hk => by
    have x2 := x.keep (h' := h') (tk := tk) fun b o e => hk b o (by simp; exact Nat.ne_of_lt (Heap.lt_size e)) (Heap.get?_push_of_some _ e)
    obtain ⟨m, e1, hm, r'⟩ := hrd _ v hv
    refine EP.mk x2 r' (h m hm fun y hy => ?_)
    obtain ⟨j, hj⟩ := List.mem_iff_getElem?.mp hy
    have hjl := (List.getElem?_eq_some_iff.mp hj).1
    have := best_ok hbt hi ht (xs.length - 1) (by walk_at "la")
    rw [hlen] at e1
    exact this.2 j y m (by walk_at "la") hj e1
  refine call_maxI (wpAny_pyIter_list hL ⟨_, _, _, _, _, _, bt, fun h => ∀ b o, Z b = some o → h.get? b = some o, rfl, Walks.list (A := A.in1) hr.1 _ a hI vs, ⟨hit, hL.push _⟩, hfp, by walk_at "la", fun i j vi vj s' Q' E' hinv hvi hvj hq => ?_, ?_, ?_, fun v h' tk hv hk => fin v h' tk hv hk⟩)
  · obtain ⟨y, e1, m1, r1⟩ := hrd i vi hvi
    obtain ⟨z, e2, m2, r2⟩ := hrd j vj hvj
    rw [hbt i j y z e1 e2] at hq
    exact ord_at (gt := true) hinv 8 A.in1 _ _ _ vi vj (by have := hr.units; show A.units + 1 + 8 < cLine; walk_at "la") (ho y m1 z m2) r1 r2 g.prog g.w _ _ hq
  · exact fun b o e => Heap.get?_push_of_some _ (x.st.kz b o e)
  · intro h h' hinv hk b o e
    have hb := Heap.lt_size (x.st.kz b o e)
    refine hk b o ?_ ?_ (hinv b o e)
    · simp; exact Nat.ne_of_lt hb
    · simp only [Heap.size_push]; exact Nat.ne_of_lt (Nat.lt_succ_of_lt hb)
end
end

section
section
variable {prog : Program} {w : World} {A : Around} {E : Value → Shared → Prop} {s : Shared}
theorem list_sort_one {a : Addr} {v : Value} {n : Nat} {P : Fin → Shared → Prop} (ho : s.heap.get? a = some (seqObj "list" #[v] n))
    (h : P (.done (.ret .none)) { s with heap := sortedHeap s.heap a [v] #[v] }) :
    wpAny (model prog w) A (Builtin.«list.sort» ⟨[.ref a], []⟩) P E s := by
  rw [list_sort_plain]
  have ha : a < s.heap.objs.size := Heap.lt_size ho
  refine wpAny_bind (listItems_at ho rfl ?_)
  refine wpAny_bind (listUpdate_at ho rfl ?_ (by rw [sizeLine_eq]; simp) (Nat.zero_le _))
  obtain ⟨e1, ho1⟩ : ∃ e1, (s.heap.update a (Obj.mapSeq fun _ => #[])).get? a = some (seqObj "list" #[] e1) := ⟨_, get?_update_seq ho (fun _ => #[])⟩
  refine wpAny_bind (seqEpoch_at ho1 rfl ?_)
  refine wpAny_bind (wpAny_newTuple ?_ (by rw [sizeLine_eq]; simp))
  refine wpAny_bind (wpAny_newList ?_ (Nat.zero_le _))
  refine wpAny_holding ?_
  have ho6 : (((s.heap.update a (Obj.mapSeq fun _ => #[])).push (seqObj "tuple" #[v] 0)).push (seqObj "list" #[] 0)).get? a = some (seqObj "list" #[] e1) := by
    rw [Heap.get?_push_ne _ _ _ (by rw [size_push', Heap.size_update]; exact Nat.ne_of_lt (Nat.lt_succ_of_lt ha)), Heap.get?_push_ne _ _ _ (by rw [Heap.size_update]; exact Nat.ne_of_lt ha)]
    exact ho1
  show wpAny (model prog w) A _ P E { s with heap := ((s.heap.update a (Obj.mapSeq fun _ => #[])).push (seqObj "tuple" #[v] 0)).push (seqObj "list" #[] 0) }
  dsimp only
  have h2 : (#[v] : Array Value).size < 2 := by simp
  rw [if_pos h2, if_pos h2]
  refine wpAny_bind (wpAny_pure ?_)
  rw [StateT.run_pure]
  refine wpAny_bind (wpAny_pure ?_)
  dsimp only
  refine wpAny_bind (seqEpoch_at ho6 rfl ?_)
  have e0 : Array.map (fun x => x.2) (arrOf (SortSt.mk' general' ((#[v] : Array Value).zip #[v]) #[] 7 none)) = #[v] := by
    show Array.map (fun x => x.2) ((#[v] : Array Value).zip #[v]) = #[v]
    simp
  rw [e0]
  refine wpAny_bind (listUpdate_at ho6 rfl ?_ (Nat.zero_le _) (by rw [sizeLine_eq]; simp))
  simp only [bne_self_eq_false, Bool.false_eq_true, if_false]
  exact wpAny_pure h
theorem sorted_one {l : Addr} {v : Value} {Q : Value → Shared → Prop} (hl : s.heap.IsList l #[v]) (h : Q (.ref (s.heap.objs.size + 1)) { s with heap := sortedAll s.heap [v] #[v] }) :
    wpAny (model prog w) A (call (.builtin "sorted") [.ref l]) Q E s := by
  refine Calls.call_function_entry kind_sorted plain_sorted entry_sorted (args_sorted1 _) ?_
  unfold Builtin.«sorted»
  refine wpAny_bind (m := checkCount "sorted" 1 1 _) (wpAny_pure ?_)
  refine wpAny_bind (collect_list (vs := [v]) hl ?_ (by rw [sizeLine_eq]; simp))
  refine wpAny_bind (wpAny_newList ?_ (by rw [sizeLine_eq]; simp))
  have hsz : ((s.heap.push (seqObj "list" #[] 0)).update s.heap.objs.size (Obj.mapSeq (· ++ [v].toArray))).objs.size = s.heap.objs.size + 1 := by
    rw [Heap.size_update, size_push']
  have hoL : (((s.heap.push (seqObj "list" #[] 0)).update s.heap.objs.size (Obj.mapSeq (· ++ [v].toArray))).push (seqObj "list" [v].toArray 0)).get? (s.heap.objs.size + 1) = some (seqObj "list" #[v] 0) := by
    rw [← hsz]; exact Heap.get?_push_size _ rfl
  show wpAny _ _ _ _ _ { s with heap := ((s.heap.push (seqObj "list" #[] 0)).update s.heap.objs.size (Obj.mapSeq (· ++ [v].toArray))).push (seqObj "list" [v].toArray 0) }
  rw [hsz]
  refine wpAny_bind (wpAny_holding (wpAny_call_entry slot_list_sort ⟨_, hoL, rfl⟩ entry_list_sort (list_sort_one hoL ⟨_, rfl, ?_⟩) (args_list_sort _)))
  exact wpAny_pure ⟨_, rfl, h⟩
end
end

section
open PySem.SeqAt

section
variable {g : Gl} {f : Fm} {n : Nat} {V : Vs} {H : Cells} {Q : T → Cells → Prop}
theorem Rel.moveL {P Z : OM} {s : Shared} (x : Rel g f P Z V H s) {h' : Heap} {tk : Nat} {m : Str → Option Value} (hm : s.heap.Ns f.env.locals m) (hn : h'.Ns f.env.locals m)
    (up : ∀ b o, b ≠ f.env.locals → s.heap.get? b = some o → h'.get? b = some o) : Rel g f P Z V H { s with heap := h', toks := tk } := by
  have uL := x.fo.ow _ x.fo.lo
  refine ⟨x.st.ext uL (fun b o hb e => up b o hb e), ?_, x.sk⟩
  obtain ⟨m', hm', h⟩ := x.fo.ns
  have em : m' = m := funext fun y => hm'.agree hm y
  subst em
  refine ⟨x.fo.hk, x.fo.hg, x.fo.hb, ⟨_, hn, h⟩, fun j hj hjc t' ht => ?_, x.fo.kd, x.fo.lo, x.fo.ow, fun d hd => ?_, fun y c e => ?_, x.fo.ci, x.fo.fu, x.fo.gb, x.fo.cc⟩
  · obtain ⟨c, v', a, ⟨o, e, d⟩, b⟩ := x.fo.cs j hj hjc t' ht
    exact ⟨c, v', a, ⟨o, up c o (x.fo.ce _ _ a).1 e, d⟩, b⟩
  · by_cases q : d = f.env.locals
    · subst q
      obtain ⟨o, es, ep, e, _⟩ := hn
      exact ⟨o, e⟩
    · obtain ⟨o, e⟩ := x.fo.lv d hd
      exact ⟨o, up d o q e⟩
  · obtain ⟨a, ⟨v', o, e', d⟩, b⟩ := x.fo.ce y c e
    exact ⟨a, ⟨v', o, up c o a e', d⟩, b⟩

noncomputable def ledger (h : Heap) (L : Addr) : List (Addr × Obj) := (List.range h.objs.size).filterMap fun b => if b = L then none else (h.get? b).map (b, ·)
theorem ledger_news (h : Heap) (L : Addr) : News {} L h (ledger h L) := news_of _ fun p hp => by
  unfold ledger at hp
  obtain ⟨b, _, e⟩ := List.mem_filterMap.mp hp
  split at e
  · cases e
  · rename_i hb
    obtain ⟨o, e1, rfl⟩ := Option.map_eq_some_iff.mp e
    exact ⟨e1, hb⟩
theorem ledger_mem {h : Heap} {L b : Addr} {o : Obj} (hb : b ≠ L) (e : h.get? b = some o) : (b, o) ∈ ledger h L := by
  unfold ledger
  refine List.mem_filterMap.mpr ⟨b, List.mem_range.mpr (Heap.lt_size e), ?_⟩
  rw [if_neg hb, e]; rfl

theorem cl_sorted_one {t u : T} (ha : AsList H t [u]) (h : Q (.lst [u]) H) : Cl g f n (.builtin "sorted") [t] V H Q := cl1 fun A P Z s v hr x r => by
  obtain ⟨a, vs, rfl, hL, q⟩ := list_of x.st ha r
  obtain ⟨v, rfl, rv⟩ : ∃ v, vs = #[v] ∧ Rd Z v u := by
    obtain ⟨l⟩ := vs
    dsimp only at q
    cases q with | cons r1 r2 => cases r2; exact ⟨_, rfl, r1⟩
  refine sorted_one hL ?_
  obtain ⟨e, he⟩ := sortedAll_at s.heap [v] #[v]
  have x2 : Rel g f P Z V H { s with heap := sortedAll s.heap [v] #[v] } := x.keep (tk := s.toks) fun b o e => sortedAll_old e
  have hn : s.heap.get? (s.heap.objs.size + 1) = none := by
    cases q : s.heap.get? (s.heap.objs.size + 1) with
    | none => rfl
    | some o => exact absurd (Heap.lt_size q) (Nat.not_lt.mpr (Nat.le_succ _))
  have u' := x.st.un hn
  have x3 := x2.addZ he u' (x.fresh_own hn)
  exact ⟨_, .lst [u], H, sub_updZ u'.2.1, x3, .lst updZ_self (by simpa using (RdL.cons rv .nil).mono (sub_updZ u'.2.1)), h⟩
end

theorem kat_lex {prog : Program} {w : World} {A : Around} {s : Shared} {Z : OM} {d : Nat} {b fin : Bool} {Q : Bool → Shared → Prop} (hz : ∀ a o, Z a = some o → s.heap.get? a = some o) (hu : A.units + d < cLine) (vs : List Value) :
    ∀ {ws : List Value} {as bs : List T} {r : Bool} {i : Nat}, lexT (eqT d) (ordT false d) fin as bs = some r → RdL Z vs as → RdL Z ws bs → (b = true → i = 0 → ∃ k rest, as = .int k :: rest) → Q r s → KatLex prog w A b fin Q (vs.zip ws) i s := by
  induction vs with
  | nil =>
    intro ws as bs r i h p q _ hq
    cases p.inv0
    cases (Option.some.inj h : fin = r)
    exact kat_nil hq
  | cons v vs ihl =>
    intro ws as bs r i h p q hi hq
    obtain ⟨a, as', rfl, p1, p2⟩ := p.inv
    cases bs with
    | nil =>
      cases q.inv0'
      cases (Option.some.inj h : fin = r)
      exact kat_nil hq
    | cons c bs =>
      obtain ⟨w', ws', rfl, q1, q2⟩ := q.inv'
      rw [List.zip_cons_cons]
      rcases lexT_cons h with ⟨e, h2⟩ | ⟨e, h2⟩
      · exact kat_cons ((eq_all hz d A a c true v w' hu e p1 q1).2.2 prog w _ _ (kat_yes (ihl h2 p2 q2 (fun _ h0 => absurd h0 (Nat.succ_ne_zero i)) hq)))
      · refine kat_cons ((eq_all hz d A a c false v w' hu e p1 q1).2.2 prog w _ _ (kat_no ?_))
        by_cases hb : (b && i == 0) = true
        · rw [hb]
          simp only [Bool.and_eq_true, beq_iff_eq] at hb
          obtain ⟨k, rest, e2⟩ := hi hb.1 hb.2
          cases e2
          obtain ⟨tk, rfl⟩ := rd_int p1
          rcases ordT_cases h2 with ⟨x, y, e3, rfl, rfl⟩ | ⟨_, _, _, _, e3, _⟩ <;> cases e3
          obtain ⟨tk', rfl⟩ := rd_int q1
          exact oneLt_int (by simpa using hq)
        · rw [Bool.not_eq_true] at hb
          rw [hb]
          exact kat_one v w' (ord_at (gt := false) hz d A a c r v w' hu h2 p1 q1 prog w _ _ hq)

section
variable {g : Gl} {f : Fm} {n : Nat} {V : Vs} {H : Cells} {Q : T → Cells → Prop}
theorem kat_tups {h : Heap} {Z : OM} (hz : ∀ a o, Z a = some o → h.get? a = some o) : ∀ {vs : List Value} {ts : List T}, RdL Z vs ts → (∀ t ∈ ts, ∃ f0 rest, t = .tup (f0 :: rest)) → ∃ fs, KatTups h vs fs ∧ fs.length = vs.length ∧
    ∀ v ∈ fs, ∃ f0 rest, T.tup (f0 :: rest) ∈ ts ∧ Rd Z v f0 := by
  intro vs
  induction vs with
  | nil => intro ts _ _; exact ⟨[], .nil, rfl, fun v hv => by cases hv⟩
  | cons v vs ih =>
    intro ts q0 ht
    obtain ⟨t, ts', rfl, p, q⟩ := q0.inv
    obtain ⟨fs, k, l, hf⟩ := ih q fun t' h' => ht t' (List.mem_cons_of_mem _ h')
    obtain ⟨f0, rest, rfl⟩ := ht t (.head _)
    obtain ⟨a1, d1, vs1, ep1, sl1, rfl, e1, q1⟩ := rd_tup p
    obtain ⟨l1⟩ := vs1
    obtain ⟨w, ws, e2, r1, r2⟩ := q1.inv'
    dsimp only at e2
    subst e2
    refine ⟨w :: fs, KatTups.cons (hz _ _ e1) rfl rfl (by simp) k, congrArg (· + 1) l, fun v hv => ?_⟩
    rcases List.mem_cons.mp hv with rfl | hv
    · exact ⟨f0, rest, .head _, r1⟩
    · obtain ⟨f0', rest', h1, h2⟩ := hf v hv
      exact ⟨f0', rest', List.mem_cons_of_mem _ h1, h2⟩

theorem sorted_core {t : T} {ts : List T} (ha : AsList H t ts) (h2 : 2 ≤ ts.length) (h64 : ts.length < 64) {fi : Bool}
    (htup : ∀ t ∈ ts, ∃ f0 rest, t = .tup (f0 :: rest) ∧ if fi then ∃ k, f0 = .int k else ∃ l, f0 = .tup l) {lt : Nat → Nat → Bool} {G : Array Nat → Prop} (hK : KOk lt ts.length (kas_sort ts.length) G)
    (hlt : ∀ i j a b, ts[i]? = some a → ts[j]? = some b → ordT false 8 a b = some (lt i j))
    (hG : ∀ p, G p → ∀ i ∈ p.toList, i < ts.length) (h : ∀ p, G p → Q (.lst (p.toList.map fun i => ts.getD i .none)) H) : Cl g f n (.builtin "sorted") [t] V H Q := cl1 fun A P Z s v hr x r => by
  obtain ⟨a, vs, rfl, hL, q⟩ := list_of x.st ha r
  have hlen : vs.toList.length = ts.length := q.length
  obtain ⟨m, hm, hmm⟩ := x.fo.ns
  have hcl : wpAny g.M A (call (.builtin "sorted") [.ref a]) (EP g f P Z V Q) NoE s := by
    refine kat_sorted (vs := vs.toList) (fr_of hm) (ledger_news s.heap f.env.locals) (by simpa using hL) (by walk_at "la") (by walk_at "la") fun D e1 h' F' N' hD => ?_
    have up : ∀ b o, b ≠ f.env.locals → s.heap.get? b = some o → h'.get? b = some o := fun b o hb e => (N' (b, o) (List.mem_cons_of_mem _ (ledger_mem hb e))).1
    have hLn : ∀ b o, Z b = some o → b ≠ f.env.locals := fun b o e hb => by
      have := (x.fo.ow _ x.fo.lo).2.1
      rw [← hb, e] at this; cases this
    have hz : ∀ b o, Z b = some o → h'.get? b = some o := fun b o e => up b o (hLn b o e) (x.st.kz b o e)
    obtain ⟨fs, kt, kl, kf⟩ := kat_tups hz q fun t ht => by obtain ⟨f0, rest, e, _⟩ := htup t ht; exact ⟨f0, rest, e⟩
    refine wpAny_mono (kat_kind (T := if fi then .type "int" else .type "tuple") (Q := fun κ s' => κ = tuples' ((if fi then Value.type "int" else .type "tuple") != Value.type "tuple") ∧ s' = { s with heap := h' }) (s := { s with heap := h' }) kt (by walk_at "la") (fun v hv => ?_) (by cases fi <;> rfl) ⟨rfl, rfl⟩) (fun κ s' hk => ?_) fun _ _ e => e
    · obtain ⟨f0, rest, hm', r'⟩ := kf v hv
      obtain ⟨f1, rest1, e, hfi⟩ := htup _ hm'
      cases e
      cases fi
      · simp only [Bool.false_eq_true, if_false] at hfi ⊢
        obtain ⟨l, rfl⟩ := hfi
        obtain ⟨a1, d1, vs1, ep1, sl1, rfl, e1, q1⟩ := rd_tup r'
        exact (Looks.ld (hz _ _ e1)).andThen .now
      · simp only [if_true] at hfi ⊢
        obtain ⟨k, rfl⟩ := hfi
        obtain ⟨tk, rfl⟩ := rd_int r'
        exact Looks.of_pure rfl
    obtain ⟨rfl, rfl⟩ := hk
    rw [hlen]
    refine KOk.wp (fun i j C hi hj hC => ?_) (fun p hp => ?_) hK
    · obtain ⟨ti, hti⟩ : ∃ t, ts[i]? = some t := ⟨_, List.getElem?_eq_getElem hi⟩
      obtain ⟨tj, htj⟩ : ∃ t, ts[j]? = some t := ⟨_, List.getElem?_eq_getElem hj⟩
      obtain ⟨vi, hvi, ri⟩ := q.get hti
      obtain ⟨vj, hvj, rj⟩ := q.get htj
      have ei : vs.toList.getD i Value.none = vi := by rw [List.getD_eq_getElem?_getD, hvi]; rfl
      have ej : vs.toList.getD j Value.none = vj := by rw [List.getD_eq_getElem?_getD, hvj]; rfl
      unfold kas_ask
      rw [ei, ej]
      have ho := hlt i j ti tj hti htj
      obtain ⟨fi0, resti, rfl, hfi⟩ := htup ti (List.mem_of_getElem? hti)
      obtain ⟨fj0, restj, rfl, hfj⟩ := htup tj (List.mem_of_getElem? htj)
      obtain ⟨a1, d1, vs1, ep1, sl1, rfl, e1, q1⟩ := rd_tup ri
      obtain ⟨a2, d2, vs2, ep2, sl2, rfl, e2, q2⟩ := rd_tup rj
      have l1 := q1.length
      have l2 := q2.length
      simp only [Array.length_toList] at l1 l2
      refine kat_lt (s := { s with heap := h' }) (hz _ _ e1) rfl (hz _ _ e2) rfl ?_
      rw [l1, l2]
      refine kat_lex (d := 7) hz (by have := hr.units; show A.units + 1 + 1 + 7 < cLine; walk_at "la") _ ho q1 q2 (fun hb _ => ?_) hC
      cases fi
      · simp at hb
      · simp only [if_true] at hfi
        obtain ⟨k, rfl⟩ := hfi
        exact ⟨k, _, rfl⟩
    · refine KasFin.intro F' N' (.head fun q hq => Nat.ne_of_lt (hD q hq)) fun h'' c F'' N'' => ?_
      have up2 : ∀ b o, b ≠ f.env.locals → s.heap.get? b = some o → h''.get? b = some o := fun b o hb e => (N'' (b, o) (List.mem_cons_of_mem _ (ledger_mem hb e))).1
      have x2 : Rel g f P Z V H { s with heap := h'' } := x.moveL (tk := s.toks) hm F''.ns up2
      have hDo := (N'' (D, listOf (List.toArray (p.toList.map fun i => vs.toList.getD i Value.none)) c) (by simp)).1
      have hDL := (N'' (D, listOf (List.toArray (p.toList.map fun i => vs.toList.getD i Value.none)) c) (by simp)).2.1
      have hDn : s.heap.get? D = none := by
        cases e : s.heap.get? D with
        | none => rfl
        | some o => exact absurd (hD _ (ledger_mem hDL e)) (Nat.lt_irrefl _)
      have u' := x.st.un hDn
      have x3 := x2.addZ hDo u' (x.fresh_own hDn)
      refine ⟨_, _, H, sub_updZ u'.2.1, x3, .lst updZ_self ?_, h p hp⟩
      have hmap : ∀ l : List Nat, (∀ i ∈ l, i < ts.length) → RdL Z (l.map fun i => vs.toList.getD i Value.none) (l.map fun i => ts.getD i .none) := by
        intro l
        induction l with
        | nil => intro _; exact .nil
        | cons i l ih =>
          intro hl
          refine .cons ?_ (ih fun j hj => hl j (List.mem_cons_of_mem _ hj))
          have hi := hl i (by simp)
          obtain ⟨ti, hti⟩ : ∃ t, ts[i]? = some t := ⟨_, List.getElem?_eq_getElem hi⟩
          obtain ⟨vi, hvi, ri⟩ := q.get hti
          show Rd Z (vs.toList.getD i Value.none) (ts.getD i .none)
          rw [List.getD_eq_getElem?_getD, List.getD_eq_getElem?_getD, hvi, hti]
          exact ri
      have := hmap p.toList (hG p hp)
      simpa using this.mono (sub_updZ u'.2.1)
  exact hcl

theorem range_getD {α : Type} (d : α) (xs : List α) : (List.range xs.length).map (fun i => xs.getD i d) = xs := by
  apply List.ext_getElem
  · simp
  · intro i h1 h2
    simp only [List.length_map, List.length_range] at h1
    simp [h1]
theorem pm_perm {α : Type} {d : α} {xs : List α} {p : Array Nat} (h : Pm xs.length p) : (p.toList.map fun i => xs.getD i d).Perm xs := by
  have h1 : p.toList.Perm (List.range xs.length) := by
    have := h.perm
    rw [Array.perm_iff_toList_perm] at this
    simpa using this
  have := h1.map fun i => xs.getD i d
  rwa [range_getD] at this
theorem pm_lt {N : Nat} {p : Array Nat} (h : Pm N p) : ∀ i ∈ p.toList, i < N := fun i hi => by
  have h1 : p.toList.Perm (List.range N) := by
    have := h.perm
    rw [Array.perm_iff_toList_perm] at this
    simpa using this
  simpa using h1.mem_iff.mp hi

theorem cl_sorted {α : Type} {enc : α → T} {xs : List α} {t : T} (ha : AsList H t (xs.map enc)) (h2 : 2 ≤ xs.length) (h64 : xs.length < 64) {fi : Bool} (d : α)
    (htup : ∀ a ∈ xs, ∃ f0 rest, enc a = .tup (f0 :: rest) ∧ if fi then ∃ k, f0 = .int k else ∃ l, f0 = .tup l) {ltf : α → α → Bool}
    (hlt : ∀ a ∈ xs, ∀ b ∈ xs, ordT false 8 (enc a) (enc b) = some (ltf a b))
    (h : ∀ ys : List α, ys.Perm xs → Q (.lst (ys.map enc)) H) : Cl g f n (.builtin "sorted") [t] V H Q := by
  let lt : Nat → Nat → Bool := fun i j => match xs[i]?, xs[j]? with | some a, some b => ltf a b | _, _ => false
  refine sorted_core (ts := xs.map enc) ha (by simpa using h2) (by simpa using h64) (fi := fi) (fun t ht => ?_) (lt := lt) (G := fun p => Pm xs.length p) ?_ (fun i j a b hi hj => ?_) (fun p hp i hi => ?_) fun p hp => ?_
  · obtain ⟨a, ha', rfl⟩ := List.mem_map.mp ht
    exact htup a ha'
  · rw [List.length_map]; exact sort_any (by walk_at "la")
  · rw [List.getElem?_map, Option.map_eq_some_iff] at hi hj
    obtain ⟨y, e1, rfl⟩ := hi
    obtain ⟨z, e2, rfl⟩ := hj
    rw [hlt y (List.mem_of_getElem? e1) z (List.mem_of_getElem? e2)]
    show _ = some (match xs[i]?, xs[j]? with | some a, some b => ltf a b | _, _ => false)
    rw [e1, e2]
  · rw [List.length_map]; exact pm_lt hp i hi
  · have e : (p.toList.map fun i => (xs.map enc).getD i .none) = (p.toList.map fun i => xs.getD i d).map enc := by
      rw [List.map_map]
      refine List.map_congr_left fun i hi => ?_
      have := pm_lt hp i hi
      simp [this]
    rw [e]
    exact h _ (pm_perm hp)
theorem cl_sorted_key {α : Type} {enc : α → T} {xs : List α} {t : T} (ha : AsList H t (xs.map enc)) (h2 : 2 ≤ xs.length) (h64 : xs.length < 64) {fi : Bool} (d : α)
    (htup : ∀ a ∈ xs, ∃ f0 rest, enc a = .tup (f0 :: rest) ∧ if fi then ∃ k, f0 = .int k else ∃ l, f0 = .tup l) {key : α → Int}
    (hlt : ∀ a ∈ xs, ∀ b ∈ xs, ordT false 8 (enc a) (enc b) = some (decide (key a < key b)))
    (h : ∀ ys : List α, ys.Perm xs → ys.Pairwise (fun a b => key a ≤ key b) → Q (.lst (ys.map enc)) H) : Cl g f n (.builtin "sorted") [t] V H Q := by
  let kN : Nat → Int := fun i => key (xs.getD i d)
  refine sorted_core (ts := xs.map enc) ha (by simpa using h2) (by simpa using h64) (fi := fi) (fun t ht => ?_) (lt := ltk kN) (G := fun p => Pm xs.length p ∧ Up kN p xs.length) ?_ (fun i j a b hi hj => ?_) (fun p hp i hi => ?_) fun p hp => ?_
  · obtain ⟨a, ha', rfl⟩ := List.mem_map.mp ht
    exact htup a ha'
  · rw [List.length_map]; exact sort_ok (by walk_at "la")
  · rw [List.getElem?_map, Option.map_eq_some_iff] at hi hj
    obtain ⟨y, e1, rfl⟩ := hi
    obtain ⟨z, e2, rfl⟩ := hj
    rw [hlt y (List.mem_of_getElem? e1) z (List.mem_of_getElem? e2)]
    show _ = some (decide (key (xs.getD i d) < key (xs.getD j d)))
    rw [List.getD_eq_getElem?_getD, List.getD_eq_getElem?_getD, e1, e2]
    rfl
  · rw [List.length_map]; exact pm_lt hp.1 i hi
  · have e : (p.toList.map fun i => (xs.map enc).getD i .none) = (p.toList.map fun i => xs.getD i d).map enc := by
      rw [List.map_map]
      refine List.map_congr_left fun i hi => ?_
      have := pm_lt hp.1 i hi
      simp [this]
    rw [e]
    refine h _ (pm_perm hp.1) ?_
    rw [List.pairwise_map, List.pairwise_iff_getElem]
    intro i j hi hj hij
    have hs := hp.1.size
    simp only [Array.length_toList] at hi hj
    have := hp.2 i j (by walk_at "la") (by walk_at "la")
    simp only [Kp1, kN] at this
    have e1 : p.getD i 0 = p.toList[i] := by simp [Array.getD, hi]
    have e2 : p.getD j 0 = p.toList[j] := by simp [Array.getD, hj]
    rw [e1, e2] at this
    exact this
end
end

section
open PySem.SeqAt
section
variable {g : Gl} {f : Fm} {n : Nat} {V : Vs} {H : Cells} {Q : T → Cells → Prop}
theorem cl_max_ints {xs : List Int} {t : T} (ha : AsList H t (xs.map T.int)) (hne : xs ≠ []) (h : ∀ m ∈ xs, (∀ x ∈ xs, x ≤ m) → Q (.int m) H) : Cl g f n (.builtin "max") [t] V H Q :=
  cl_max (gt := fun a b => decide (b < a)) ha hne (fun a _ b _ => rfl) (fun a => by simp) (fun a b c h1 h2 => by simp only [decide_eq_false_iff_not, decide_eq_true_eq] at *; walk_at "la") fun m hm hx => h m hm fun x hx' => by have := hx x hx'; simp only [decide_eq_false_iff_not] at this; walk_at "la"
theorem list_iter0 {s : Shared} {a : Addr} {vs : Array Value} (hL : s.heap.IsList a vs) :
    a ≠ s.heap.objs.size ∧ (s.heap.push { cls := .type "list_iterator", data := .fields #[.ref a, .int 0 0] }).IsListIter s.heap.objs.size a 0 ∧ (s.heap.push { cls := .type "list_iterator", data := .fields #[.ref a, .int 0 0] }).IsList a vs ∧
    ∀ b ∈ [s.heap.objs.size, a], b < (s.heap.push { cls := .type "list_iterator", data := .fields #[.ref a, .int 0 0] }).objs.size := by
  have hlt : a < s.heap.objs.size := by obtain ⟨o, ho', _⟩ := hL; exact Heap.lt_size ho'
  refine ⟨Nat.ne_of_lt hlt, ⟨_, Heap.get?_push_size _ rfl, rfl, rfl⟩, hL.push _, fun b hb => ?_⟩
  simp only [Heap.size_push]
  simp only [List.mem_cons, List.not_mem_nil, or_false] at hb
  rcases hb with rfl | rfl
  · exact Nat.lt_succ_self _
  · exact Nat.lt_succ_of_lt hlt
theorem ints_at {Z : OM} {vs : Array Value} {xs : List Int} (q : RdL Z vs.toList (xs.map T.int)) (i : Nat) (v : Value) (hv : vs[i]? = some v) : ∃ a tk, xs[i]? = some a ∧ v = .int a tk := by
  obtain ⟨t', e, r'⟩ := q.get' (i := i) (v := v) (by simpa using hv)
  rw [List.getElem?_map, Option.map_eq_some_iff] at e
  obtain ⟨a, e1, rfl⟩ := e
  obtain ⟨tk, rfl⟩ := rd_int r'
  exact ⟨a, tk, e1, rfl⟩
theorem cl_min_ints {xs : List Int} {t : T} (ha : AsList H t (xs.map T.int)) (hne : xs ≠ []) (h : ∀ m ∈ xs, (∀ x ∈ xs, m ≤ x) → Q (.int m) H) : Cl g f n (.builtin "min") [t] V H Q := cl1 fun A P Z s v hr x r => by
  obtain ⟨a, vs, rfl, hL, q⟩ := list_of x.st ha r
  have hlen : vs.size = xs.length := by have := q.length; simpa using this
  have hpos : 0 < xs.length := List.length_pos_iff.mpr hne
  let bt : Nat → Nat → Bool := fun i j => decide (xs.getD i 0 < xs.getD j 0)
  have hbt : ∀ i j a b, xs[i]? = some a → xs[j]? = some b → bt i j = decide (a < b) := fun i j a b e1 e2 => by
    show decide (xs.getD i 0 < xs.getD j 0) = _
    rw [List.getD_eq_getElem?_getD, List.getD_eq_getElem?_getD, e1, e2]; rfl
  obtain ⟨hI, hit, hl', hfp⟩ := list_iter0 hL
  refine call_min_walk (wpAny_pyIter_list hL ⟨_, _, _, _, _, _, bt, rfl, Walks.list (A := A.in1) hr.1 _ a hI vs, ⟨hit, hl'⟩, hfp, by walk_at "la", fun i j vi vj s' Q' E' hvi hvj hq => ?_, fun v h' tk hv hk => ?_⟩)
  · obtain ⟨y, t1, e1, rfl⟩ := ints_at q i vi hvi
    obtain ⟨z, t2, e2, rfl⟩ := ints_at q j vj hvj
    rw [hbt i j y z e1 e2] at hq
    exact PySem.P.lt_int hq
  · have x2 := x.keep (h' := h') (tk := tk) fun b o e => hk b o (by simp; exact Nat.ne_of_lt (Heap.lt_size e)) (Heap.get?_push_of_some _ e)
    obtain ⟨m, t1, e1, rfl⟩ := ints_at q _ v hv
    refine EP.mk x2 (.int _ _) (h m (List.mem_of_getElem? e1) fun y hy => ?_)
    obtain ⟨j, hj⟩ := List.mem_iff_getElem?.mp hy
    have hjl := (List.getElem?_eq_some_iff.mp hj).1
    have := best_ok (gt := fun a b => decide (a < b)) hbt (fun a => by simp) (fun a b c h1 h2 => by simp only [decide_eq_false_iff_not, decide_eq_true_eq] at *; walk_at "la") (xs.length - 1) (by walk_at "la")
    rw [hlen] at e1
    have := this.2 j y m (by walk_at "la") hj e1
    simp only [decide_eq_false_iff_not] at this
    walk_at "la"
theorem preSum_take (xs : List Int) : ∀ k, k ≤ xs.length → preSum (fun i => xs.getD i 0) k = (xs.take k).sum
  | 0, _ => by simp [preSum]
  | k + 1, h => by
    unfold preSum
    rw [preSum_take xs k (by walk_at "la"), List.take_add_one, List.getElem?_eq_getElem (by walk_at "la" : k < xs.length)]
    rw [List.sum_append]
    simp [List.getD_eq_getElem?_getD, List.getElem?_eq_getElem (by walk_at "la" : k < xs.length)]
theorem sum_bound {B : Int} (hB : 0 ≤ B) : ∀ (xs : List Int), (∀ x ∈ xs, 0 ≤ x ∧ x ≤ B) → 0 ≤ xs.sum ∧ xs.sum ≤ B * xs.length
  | [], _ => by simp
  | a :: r, h => by
    have := sum_bound hB r fun x hx => h x (List.mem_cons_of_mem _ hx)
    have ha := h a (by simp)
    simp only [List.sum_cons, List.length_cons]
    have e : B * ((r.length + 1 : Nat) : Int) = B * r.length + B := by push_cast; rw [Int.mul_add, Int.mul_one]
    rw [e]; walk_at "la"
theorem cl_sum_ints {xs : List Int} {t : T} (ha : AsList H t (xs.map T.int)) (hb : ∀ x ∈ xs, 0 ≤ x ∧ x ≤ 1000000) (hl : xs.length ≤ 1000) (h : Q (.int xs.sum) H) : Cl g f n (.builtin "sum") [t] V H Q := cl1 fun A P Z s v hr x r => by
  obtain ⟨a, vs, rfl, hL, q⟩ := list_of x.st ha r
  have hlen : vs.size = xs.length := by have := q.length; simpa using this
  obtain ⟨hI, hit, hl', hfp⟩ := list_iter0 hL
  refine call_sum_walk (wpAny_pyIter_list hL ⟨_, _, _, _, _, _, fun i => xs.getD i 0, rfl, Walks.list (A := A.in1) hr.1 _ a hI vs, ⟨hit, hl'⟩, hfp, fun i v hv => ?_, fun j hj => ?_, fun h' tk t' hk => ?_⟩)
  · obtain ⟨y, t1, e1, rfl⟩ := ints_at q i v hv
    exact ⟨t1, by show Value.int y t1 = Value.int (xs.getD i 0) t1; rw [List.getD_eq_getElem?_getD, e1]; rfl⟩
  · have hj' : j < xs.length := by walk_at "la"
    have h1 := hb xs[j] (List.getElem_mem hj')
    have e1 : xs.getD j 0 = xs[j] := by simp [hj']
    have h2 := sum_bound (B := 1000000) (by walk_at "la") (xs.take (j + 1)) fun x hx => hb x (List.mem_of_mem_take hx)
    have h3 : (xs.take (j + 1)).length ≤ 1000 := by rw [List.length_take]; walk_at "la"
    have h4 : (1000000 : Int) * ((xs.take (j + 1)).length : Nat) ≤ 1000000 * 1000 := by walk_at "la"
    refine ⟨by show -(2 ^ 63) ≤ xs.getD j 0 ∧ xs.getD j 0 < 2 ^ 63; rw [e1]; walk_at "la", ?_⟩
    rw [preSum_take xs (j + 1) (by walk_at "la")]
    unfold InLong
    walk_at "la"
  · have x2 := x.keep (h' := h') (tk := tk) fun b o e => hk b o (by simp; exact Nat.ne_of_lt (Heap.lt_size e)) (Heap.get?_push_of_some _ e)
    refine EP.mk x2 (.int _ t') ?_
    have e : preSum (fun i => xs.getD i 0) vs.size = xs.sum := by
      rw [hlen, preSum_take xs _ (Nat.le_refl _), List.take_length]
    rw [e]; exact h

theorem slice_upto (items : Array Value) (b : Nat) : slicePick items none (some (b : Int)) none = (items.toList.take b).toArray := by
  have e : sliceBounds none (some (b : Int)) none items.size = ((0 : Int), ((min b items.size : Nat) : Int), 1) := by
    simp only [sliceBounds, Option.getD_none]
    have h2 : ¬ ((b : Int) < 0) := by walk_at "la"
    simp only [h2, if_false, show (1 : Int) > 0 by decide, if_true]
    congr 1
    congr 1
    walk_at "la"
  unfold slicePick
  rw [e]
  have e2 : sliceRange (0 : Int) ((min b items.size : Nat) : Int) 1 = (List.range (min b items.size)).map (0 + ·) := by
    have := sliceRange_one 0 (min b items.size)
    simpa using this
  simp only [e2, pick_run]
  congr 1
  rw [List.drop_zero]
  by_cases hb : b ≤ items.size
  · rw [Nat.min_eq_left hb]
  · rw [Nat.min_eq_right (by walk_at "la"), List.take_of_length_le (by simp), List.take_of_length_le (by simp; walk_at "la")]
/-- xs[:k] -/
inductive kUp2 (Q : T → Cells → Prop) (t u : T) (H : Cells) : Prop
  | mk (ts : List T) (k : Int) (h1 : AsList H t ts) (h2 : u = .int k) (h3 : 0 ≤ k) (h4 : ts.length ≤ 100000) (q : Q (.lst (ts.take k.toNat)) H)
@[reducible] noncomputable def kUp1 (g : Gl) (f : Fm) (n : Nat) (e : Expr) (V : Vs) (Q : T → Cells → Prop) : T → Cells → Prop := fun t H => Ev g f n e V H (kUp2 Q t)
inductive kFrom2 (Q : T → Cells → Prop) (t u : T) (H : Cells) : Prop
  | mk (ts : List T) (k : Int) (h1 : AsList H t ts) (h2 : u = .int k) (h3 : 0 ≤ k) (h4 : k.toNat ≤ ts.length) (h5 : ts.length ≤ 100000) (q : Q (.lst (ts.drop k.toNat)) H)
@[reducible] noncomputable def kFrom1 (g : Gl) (f : Fm) (n : Nat) (e : Expr) (V : Vs) (Q : T → Cells → Prop) : T → Cells → Prop := fun t H => Ev g f n e V H (kFrom2 Q t)
inductive kBUp2 (Q : T → Cells → Prop) (t u : T) (H : Cells) : Prop
  | mk (b : List UInt8) (k : Int) (h1 : t = .bytes b) (h2 : u = .int k) (h3 : 0 ≤ k) (h4 : b.length ≤ 100000) (q : Q (.bytes (b.take k.toNat)) H)
@[reducible] noncomputable def kBUp1 (g : Gl) (f : Fm) (n : Nat) (e : Expr) (V : Vs) (Q : T → Cells → Prop) : T → Cells → Prop := fun t H => Ev g f n e V H (kBUp2 Q t)
theorem ev_upto {value upper p pos} (h : Ev g f n value V H (kUp1 g f n upper V Q))
    (ht : ∀ o r, letTemporaryGo value o r = pure () := by intro _ _; rfl) : Ev g f n (.Subscript value (.Slice none (some upper) none p) pos) V H Q := .mk fun A P Z s hr x => by
  refine wpAny_Subscript_list_slice (wpAny_mono (h.go A P Z s hr x) (fun v s1 ⟨Z1, t, H1, z1, x1, r1, q1⟩ => ?_) fun _ _ e => e) ht
  rw [evalPart_none]
  refine wpAny_pure ?_
  show wpAny _ A (eval upper f.env) _ _ s1
  refine wpAny_mono (q1.go A P Z1 s1 hr x1) (fun vu s2 ⟨Z2, u, H2, z2, x2, r2, ts, k, ha, hu, h0, hl, q2⟩ => ?_) fun _ _ e => e
  subst hu
  obtain ⟨tk, rfl⟩ := rd_int r2
  obtain ⟨a, vs, rfl, hL, q⟩ := list_of x2.st ha (r1.mono z2)
  have hlen := q.length
  simp only [Array.length_toList] at hlen
  refine ⟨a, vs, none, some k, rfl, hL, by rw [sizeLine_eq]; walk_at "la", .none, .int _ _, ?_⟩
  obtain ⟨j, rfl⟩ := Int.eq_ofNat_of_zero_le h0
  rw [show slicePick vs none (some ((j : Nat) : Int)) none = _ from slice_upto vs j]
  obtain ⟨z3, x3⟩ := new_frozen x2 { cls := .type "slice", data := .fields #[.none, .int (j : Int) tk, .none] }
  obtain ⟨z4, x4⟩ := new_frozen x3 { cls := .type "list", data := .seq (vs.toList.take j).toArray }
  have e : (s2.heap.push { cls := .type "slice", data := .fields #[.none, .int (j : Int) tk, .none] }).objs.size = s2.heap.objs.size + 1 := Heap.size_push _ _
  dsimp only at x4 z4
  rw [e] at x4 z4
  exact ⟨_, .lst (ts.take j), H2, ((z1.trans z2).trans z3).trans z4, x4, .lst updZ_self (by simpa using ((q.take j).mono z3).mono z4), q2⟩
/-- xs[1:] and such -/
theorem ev_from {value lower p pos} (h : Ev g f n value V H (kFrom1 g f n lower V Q))
    (ht : ∀ o r, letTemporaryGo value o r = pure () := by intro _ _; rfl) : Ev g f n (.Subscript value (.Slice (some lower) none none p) pos) V H Q := .mk fun A P Z s hr x => by
  refine wpAny_Subscript_list_slice (wpAny_mono (h.go A P Z s hr x) (fun v s1 ⟨Z1, t, H1, z1, x1, r1, q1⟩ => ?_) fun _ _ e => e) ht
  show wpAny _ A (eval lower f.env) _ _ s1
  refine wpAny_mono (q1.go A P Z1 s1 hr x1) (fun vu s2 ⟨Z2, u, H2, z2, x2, r2, ts, k, ha, hu, h0, hk, hl, q2⟩ => ?_) fun _ _ e => e
  rw [evalPart_none]
  refine wpAny_pure ?_
  subst hu
  obtain ⟨tk, rfl⟩ := rd_int r2
  obtain ⟨a, vs, rfl, hL, q⟩ := list_of x2.st ha (r1.mono z2)
  have hlen := q.length
  simp only [Array.length_toList] at hlen
  refine ⟨a, vs, some k, none, rfl, hL, by rw [sizeLine_eq]; walk_at "la", .int _ _, .none, ?_⟩
  obtain ⟨j, rfl⟩ := Int.eq_ofNat_of_zero_le h0
  rw [show slicePick vs (some ((j : Nat) : Int)) none none = _ from slicePick_from vs j (by simp at hk; walk_at "la")]
  obtain ⟨z3, x3⟩ := new_frozen x2 { cls := .type "slice", data := .fields #[.int (j : Int) tk, .none, .none] }
  obtain ⟨z4, x4⟩ := new_frozen x3 { cls := .type "list", data := .seq (vs.toList.drop j).toArray }
  have e : (s2.heap.push { cls := .type "slice", data := .fields #[.int (j : Int) tk, .none, .none] }).objs.size = s2.heap.objs.size + 1 := Heap.size_push _ _
  dsimp only at x4 z4
  rw [e] at x4 z4
  exact ⟨_, .lst (ts.drop j), H2, ((z1.trans z2).trans z3).trans z4, x4, .lst updZ_self (by simpa using ((q.drop j).mono z3).mono z4), q2⟩
/-- b[:k] of bytes -/
theorem ev_bupto {value upper p pos} (h : Ev g f n value V H (kBUp1 g f n upper V Q))
    (ht : ∀ o r, letTemporaryGo value o r = pure () := by intro _ _; rfl) : Ev g f n (.Subscript value (.Slice none (some upper) none p) pos) V H Q := .mk fun A P Z s hr x => by
  refine wpAny_Subscript_Slice (T := "bytes") FB.slot_bytes_getitem.lookup (wpAny_mono (h.go A P Z s hr x) (fun v s1 ⟨Z1, t, H1, z1, x1, r1, q1⟩ => ?_) fun _ _ e => e) ht
  refine wpAny_Slice ?_
  rw [evalPart_none]
  refine wpAny_pure ?_
  show wpAny _ A (eval upper f.env) _ _ s1
  refine wpAny_mono (q1.go A P Z1 s1 hr x1) (fun vu s2 ⟨Z2, u, H2, z2, x2, r2, b, k, hb, hu, h0, hl, q2⟩ => ?_) fun _ _ e => e
  refine wpAny_pure ?_
  subst hu hb
  obtain ⟨tk, rfl⟩ := rd_int r2
  obtain ⟨arr, tb, rfl, rfl⟩ := rd_bytes r1
  refine ⟨typeIs_bytes _ _ _, getItem_meets (typeIs_bytes _ _ _) (by decide) FB.slot_bytes_getitem FB.entry_bytes_getitem (FB.args_bytes_getitem_2 _ _) (KBc.meets_slice2 arr tb _ .none (.int k tk)) ⟨Heap.IsSliceOf.new _ _ _ _, ?_, fun t' kk => ?_⟩⟩
  · refine Nat.le_trans (KBc.size_picked_le _ _ _) ?_
    simp only [Array.length_toList] at hl
    rw [sizeLine_eq]; walk_at "la"
  · obtain ⟨z3, x3⟩ := new_frozen x2 { cls := .type "slice", data := .fields #[.none, .int k tk, .none] }
    refine ⟨_, .bytes (arr.toList.take k.toNat), H2, (z1.trans z2).trans z3, x3.toks, ?_, q2⟩
    have := Rd.bytes (Z := updZ Z2 s2.heap.objs.size { cls := .type "slice", data := .fields #[.none, .int k tk, .none] }) (KBy.picked arr none (some k)) t'
    have e : (KBy.picked arr none (some k)).toList = arr.toList.take k.toNat := by
      rw [KBc.picked_eq]
      obtain ⟨j, rfl⟩ := Int.eq_ofNat_of_zero_le h0
      show ((arr.toList.drop 0).take (clipAt arr.size ((j : Nat) : Int) - 0)) = _
      rw [clipAt_nat, List.drop_zero, Nat.sub_zero]
      show _ = arr.toList.take j
      by_cases hj : j ≤ arr.size
      · rw [Nat.min_eq_left hj]
      · rw [Nat.min_eq_right (by walk_at "la"), List.take_of_length_le (by simp), List.take_of_length_le (by simp; walk_at "la")]
    rwa [e] at this
end
end

section
open PySem.SeqAt
inductive RT (a : Addr) (u : T) : T → T → Prop
  | refl {t} : RT a u t t
  | here : RT a u (.ref a) u
  | tup2 {s t s' t'} : RT a u s s' → RT a u t t' → RT a u (.tup [s, t]) (.tup [s', t'])
theorem RT.rd {Z : OM} {a : Addr} {u : T} (hr : Rd Z (.ref a) u) {t t' : T} {v : Value} (h : RT a u t t') : Rd Z v t → Rd Z v t' := by
  induction h generalizing v with
  | refl => exact id
  | here => exact fun r => rd_ref r ▸ hr
  | tup2 h1 h2 i1 i2 =>
    intro r
    obtain ⟨b, d, vs, ep, sl, rfl, e, q⟩ := rd_tup r
    obtain ⟨l⟩ := vs
    dsimp only at q
    obtain ⟨p, l1, rfl, h3, q1⟩ := q.inv'
    obtain ⟨p', l2, rfl, h4, q2⟩ := q1.inv'
    cases q2.inv0'
    exact .tup e (.cons (i1 h3) (.cons (i2 h4) .nil))
theorem RdE.retree {Z : OM} {a : Addr} {u : T} (hr : Rd Z (.ref a) u) {es : List DictEntry} {fs : List (Nat × T)} {k : Nat} {t t' : T} (r : RdE Z es fs) (h : getF fs k = some t) (ht : RT a u t t') : RdE Z es (putF fs k t') :=
  r.ind (m := fun es fs => getF fs k = some t → RdE Z es (putF fs k t')) (fun h => nomatch h) (fun {_ j _ _ _ _ _} hj b r ih h => by
    by_cases q : j = k
    · rw [getF_hit q] at h
      rw [putF_hit q]
      exact .cons hj (ht.rd hr (Option.some.inj h ▸ b)) r
    · rw [getF_miss q] at h
      rw [putF_miss q]
      exact .cons hj b (ih h)) h
theorem RdL.retree {Z : OM} {a : Addr} {u : T} (hr : Rd Z (.ref a) u) {vs : List Value} {ts : List T} {i : Nat} {t t' : T} (r : RdL Z vs ts) (h : ts[i]? = some t) (ht : RT a u t t') : RdL Z vs (ts.set i t') :=
  r.ind (m := fun vs ts => ∀ i : Nat, ts[i]? = some t → RdL Z vs (ts.set i t')) (fun _ h => nomatch h) (fun b r ih i => Nat.casesOn i (fun h => .cons (ht.rd hr (Option.some.inj h ▸ b)) r) fun i h => .cons b (ih i h)) i h

theorem Rel.setHZ {g : Gl} {f : Fm} {P Z : OM} {V : Vs} {H : Cells} {s : Shared} (x : Rel g f P Z V H s) {a : Addr} {c c' : Cell} (hc : H a = some c) (hc' : CellAt s.heap Z a c') (he : c'.addrs a = c.addrs a) : Rel g f P Z V (updH H a c') s := by
  have := x.setH hc (h' := s.heap) (tk := s.toks) (fun b o _ e => e) hc' he
  exact this

inductive Fz : Cells → T → Cells → T → Prop
  | refl {H t} : Fz H t H t
  | drop {H H' t} : SubH H' H → Fz H t H' t
  | top {H a c t t'} : H a = some c → RT a c.tree t t' → Fz H t (delH H a) t'
  | fld {H t b C dx fs k a c u u'} : H b = some (.inst C dx fs) → getF fs k = some u → H a = some c → a ≠ b → RT a c.tree u u' → Fz H t (updH (delH H a) b (.inst C dx (putF fs k u'))) t
  | itm {H t b ts a c u u'} {i : Nat} : H b = some (.list ts) → ts[i]? = some u → H a = some c → a ≠ b → RT a c.tree u u' → Fz H t (updH (delH H a) b (.list (ts.set i u'))) t
  | trans {H t H' t' H'' t''} : Fz H t H' t' → Fz H' t' H'' t'' → Fz H t H'' t''
theorem Fz.rel {g : Gl} {f : Fm} {P : OM} {V : Vs} {s : Shared} {H H' : Cells} {t t' : T} (h : Fz H t H' t') : ∀ {Z : OM} {v : Value}, Rel g f P Z V H s → Rd Z v t → ∃ Z', Sub Z Z' ∧ Rel g f P Z' V H' s ∧ Rd Z' v t' := by
  induction h with
  | refl => exact fun x r => ⟨_, Sub.rfl, x, r⟩
  | drop h => exact fun x r => ⟨_, Sub.rfl, x.drop h, r⟩
  | top hc ht =>
    intro Z v x r
    obtain ⟨Z', z, x', r'⟩ := x.freeze hc
    exact ⟨Z', z, x', ht.rd r' (r.mono z)⟩
  | fld hb hf hc hne ht =>
    intro Z v x r
    obtain ⟨Z', z, x', r'⟩ := x.freeze hc
    have hb' := (delH_ne (H := _) (Ne.symm hne)).trans hb
    obtain ⟨e, es, n, d, q⟩ := x'.st.cl _ _ hb'
    exact ⟨Z', z, x'.setHZ hb' ⟨e, es, n, d, q.retree r' hf ht⟩ rfl, r.mono z⟩
  | itm hb hf hc hne ht =>
    intro Z v x r
    obtain ⟨Z', z, x', r'⟩ := x.freeze hc
    have hb' := (delH_ne (H := _) (Ne.symm hne)).trans hb
    obtain ⟨vs, ep, e, q⟩ := x'.st.cl _ _ hb'
    exact ⟨Z', z, x'.setHZ hb' ⟨vs, ep, e, q.retree r' hf ht⟩ rfl, r.mono z⟩
  | trans _ _ i1 i2 =>
    intro Z v x r
    obtain ⟨Z1, z1, x1, r1⟩ := i1 x r
    obtain ⟨Z2, z2, x2, r2⟩ := i2 x1 r1
    exact ⟨Z2, z1.trans z2, x2, r2⟩

section
variable {g : Gl} {f : Fm} {n : Nat} {V : Vs} {H : Cells}
theorem Ev.fz {e} {Q : T → Cells → Prop} (h : Ev g f n e V H fun t H1 => ∃ t' H', Fz H1 t H' t' ∧ Q t' H') : Ev g f n e V H Q := .mk fun A P Z s hr x =>
  wpAny_mono (h.go A P Z s hr x) (fun v s1 ⟨Z1, t, H1, z1, x1, r1, t', H', hf, q⟩ => by
    obtain ⟨Z2, z2, x2, r2⟩ := hf.rel x1 r1
    exact ⟨Z2, t', H', z1.trans z2, x2, r2, q⟩) fun _ _ e => e
/-- before a statement -/
theorem Exs.fz {ss} {Q : SQ} {H' : Cells} (hf : Fz H .none H' .none) (h : Exs g f n ss V H' Q) : Exs g f n ss V H Q := .mk fun A P Z s hr x => by
  obtain ⟨Z1, z1, x1, _⟩ := hf.rel x .none
  exact wpAny_mono (h.go A P Z1 s hr x1) (fun _ _ e => SP.up z1 e) fun _ _ e => e
theorem Ex.fz {st} {Q : SQ} {H' : Cells} (hf : Fz H .none H' .none) (h : Ex g f n st V H' Q) : Ex g f n st V H Q := .mk fun A P Z s hr x => by
  obtain ⟨Z1, z1, x1, _⟩ := hf.rel x .none
  exact wpAny_mono (h.go A P Z1 s hr x1) (fun _ _ e => SP.up z1 e) fun _ _ e => e
end
end

section
open PySem.SeqAt
theorem Rel.reT {g : Gl} {f : Fm} {P Z : OM} {V : Vs} {H : Cells} {s : Shared} (x : Rel g f P Z V H s) {k : Nat} {u t' : T} (hu : getT V k = some u) (hr : ∀ v, Rd Z v u → Rd Z v t') : Rel g f P Z (setT V k t') H s := by
  have hh := get_has V k u hu
  refine ⟨x.st, { x.fo with ns := ?_, cs := fun j hj hk t ht => ?_, kd := fun j hj => x.fo.kd j (by rwa [keys_set] at hj) }, x.sk⟩
  · obtain ⟨m, hn, h⟩ := x.fo.ns
    refine ⟨m, hn, fun j hj hk t ht => ?_⟩
    rw [getT_set] at ht
    by_cases q : j = k
    · subst q
      rw [if_pos rfl, if_pos hh] at ht; cases ht
      obtain ⟨v, a, b⟩ := h j hj hk u hu
      exact ⟨v, a, hr v b⟩
    · rw [if_neg q] at ht; exact h j hj hk t ht
  · rw [getT_set] at ht
    by_cases q : j = k
    · subst q
      rw [if_pos rfl, if_pos hh] at ht; cases ht
      obtain ⟨c, v, a, i, b⟩ := x.fo.cs j hj hk u hu
      exact ⟨c, v, a, i, hr v b⟩
    · rw [if_neg q] at ht; exact x.fo.cs j hj hk t ht
/-- a variable's list is written no more -/
theorem Exs.fzV {g : Gl} {f : Fm} {n : Nat} {V : Vs} {H : Cells} {ss} {Q : SQ} {k : Nat} {a : Addr} {c : Cell} (hk : getT V k = some (.ref a)) (hc : H a = some c) (h : Exs g f n ss (setT V k c.tree) (delH H a) Q) : Exs g f n ss V H Q := .mk fun A P Z s hr x => by
  obtain ⟨Z1, z1, x1, r1⟩ := x.freeze hc
  have x2 := x1.reT hk (t' := c.tree) fun v r => by cases r; exact r1
  exact wpAny_mono (h.go A P Z1 s hr x2) (fun _ _ e => SP.up z1 e) fun _ _ e => e

theorem lookup_relabel {env : Env} {names : List (Str × NameKind)} {x : Str} :
    (names.map fun (n, k) => if (k == NameKind.free && env.scope.kind == .function && env.kindOf n == some .cell) then (n, NameKind.cell) else (n, k)).lookup x =
      (names.lookup x).map fun k => if (k == NameKind.free && env.scope.kind == .function && env.kindOf x == some .cell) then NameKind.cell else k := by
  induction names with
  | nil => rfl
  | cons p r ih =>
    obtain ⟨n, k⟩ := p
    rw [List.map_cons]
    have e : (if (k == NameKind.free && env.scope.kind == .function && env.kindOf n == some .cell) = true then (n, NameKind.cell) else (n, k)) = (n, if (k == NameKind.free && env.scope.kind == .function && env.kindOf n == some .cell) = true then NameKind.cell else k) := by split <;> rfl
    dsimp only
    rw [e]
    rw [List.lookup_cons, List.lookup_cons, ih]
    cases hx : x == n with
    | true => have := beq_iff_eq.mp hx; subst this; rfl
    | false => rfl

inductive ClosR (env : Env) (names : List (Str × NameKind)) (cs : List (Str × Addr)) (m : Sem (List (Str × Addr))) : Prop
  | mk (cl : List (Str × Addr)) (e : m = pure cl) (a1 : ∀ n a, (n, a) ∈ cl → env.cells.lookup n = some a) (a2 : ∀ p ∈ cs, p ∈ cl) (a3 : ∀ y ∈ names, y.2 = .free → ∃ a, (y.1, a) ∈ cl) (a4 : ∀ n a, (n, a) ∈ cl → (n, a) ∈ cs ∨ (n, NameKind.free) ∈ names)
theorem clos_ok {env : Env} (names : List (Str × NameKind)) : ∀ (cs : List (Str × Addr)), (∀ y ∈ names, y.2 = .free → ∃ c, env.cells.lookup y.1 = some c) → (∀ n a, (n, a) ∈ cs → env.cells.lookup n = some a) →
    ClosR env names cs (forIn names cs fun (x : Str × NameKind) (r : List (Str × Addr)) => if (x.2 == NameKind.free) = true then do let a ← cellOf env x.1; pure (ForInStep.yield ((x.1, a) :: r)) else pure (ForInStep.yield r)) := by
  induction names with
  | nil => exact fun cs _ h2 => ⟨cs, rfl, h2, fun p hp => hp, (fun y hy => nomatch hy), fun n a h => .inl h⟩
  | cons nk r ih =>
    obtain ⟨n, k⟩ := nk
    intro cs h1 h2
    have h1' : ∀ y ∈ r, y.2 = .free → ∃ c, env.cells.lookup y.1 = some c := fun y hy => h1 y (List.mem_cons_of_mem _ hy)
    rw [List.forIn_cons]
    by_cases hk : k = .free
    · subst hk
      obtain ⟨c, hc⟩ := h1 (n, .free) List.mem_cons_self rfl
      obtain ⟨cl, e, a1, a2, a3, a4⟩ := ih ((n, c) :: cs) h1' fun n' a' hm => by
        rcases List.mem_cons.mp hm with e | hm
        · cases e; exact hc
        · exact h2 n' a' hm
      have hcell : cellOf env n = pure c := by unfold cellOf; exact hc ▸ rfl
      refine ⟨cl, ?_, a1, fun p hp => a2 p (List.mem_cons_of_mem _ hp), fun y hy hf => ?_, fun n' a' h => ?_⟩
      · simp only [beq_self_eq_true, if_true, hcell, pure_bind]
        exact e
      · rcases List.mem_cons.mp hy with rfl | hy
        · exact ⟨c, a2 _ List.mem_cons_self⟩
        · exact a3 y hy hf
      · rcases a4 n' a' h with h | h
        · rcases List.mem_cons.mp h with e | h
          · cases e; exact .inr List.mem_cons_self
          · exact .inl h
        · exact .inr (List.mem_cons_of_mem _ h)
    · obtain ⟨cl, e, a1, a2, a3, a4⟩ := ih cs h1' h2
      refine ⟨cl, ?_, a1, a2, fun y hy hf => ?_, fun n' a' h => (a4 n' a' h).imp_right fun h => List.mem_cons_of_mem _ h⟩
      · rw [if_neg (fun h => hk (eq_of_beq h)), pure_bind]
        exact e
      · rcases List.mem_cons.mp hy with rfl | hy
        · exact absurd hf hk
        · exact a3 y hy hf
theorem closure_ok {env : Env} {scope : Scope} (h1 : ∀ y ∈ scope.names, y.2 = .free → ∃ c, env.cells.lookup y.1 = some c) :
    ∃ cl, closureFor scope env = (pure cl : Sem _) ∧ (∀ n a, (n, a) ∈ cl → env.cells.lookup n = some a) ∧ (∀ y ∈ scope.names, y.2 = .free → ∃ a, (y.1, a) ∈ cl) ∧ ∀ n a, (n, a) ∈ cl → (n, NameKind.free) ∈ scope.names := by
  obtain ⟨cl, e, a1, _, a3, a4⟩ := clos_ok (env := env) scope.names [] h1 (fun _ _ h => nomatch h)
  refine ⟨cl, ?_, a1, a3, fun n a h => (a4 n a h).resolve_left (by simp)⟩
  simp only [closureFor, bind_pure]
  exact e
end

section
open PySem.SeqAt
theorem cells_all (names : List (Str × NameKind)) : ∀ (h : Heap) (acc : List (Str × Addr)), (∀ n n' c, (n, c) ∈ acc → (n', c) ∈ acc → n = n') → (∀ n c, (n, c) ∈ acc → c < h.objs.size) →
    (∀ n n' c, (n, c) ∈ cellsFrom h.objs.size names acc → (n', c) ∈ cellsFrom h.objs.size names acc → n = n') ∧
    ∀ n c, (n, c) ∈ cellsFrom h.objs.size names acc → (n, c) ∈ acc ∨ (h.objs.size ≤ c ∧ (pushCells h names).IsCell c none ∧ (n, NameKind.cell) ∈ names) := by
  induction names with
  | nil => exact fun h acc h1 h2 => ⟨h1, fun n c hm => .inl hm⟩
  | cons nk r IH =>
    obtain ⟨name, kind⟩ := nk
    intro h acc h1 h2
    unfold pushCells cellsFrom
    split
    · rename_i hk
      have hs : (h.push { cls := .type "cell", data := .cell none }).objs.size = h.objs.size + 1 := Heap.size_push _ _
      have ih := IH (h.push { cls := .type "cell", data := .cell none }) ((name, h.objs.size) :: acc) (fun n n' c m m' => by
        rcases List.mem_cons.mp m with e | m <;> rcases List.mem_cons.mp m' with e' | m'
        · cases e; cases e'; rfl
        · cases e; exact absurd (h2 _ _ m') (Nat.lt_irrefl _)
        · cases e'; exact absurd (h2 _ _ m) (Nat.lt_irrefl _)
        · exact h1 n n' c m m') (fun n c m => by
        rw [hs]
        rcases List.mem_cons.mp m with e | m
        · cases e; exact Nat.lt_succ_self _
        · exact Nat.lt_succ_of_lt (h2 n c m))
      rw [hs] at ih
      refine ⟨ih.1, fun n c hm => ?_⟩
      rcases ih.2 n c hm with m | ⟨a, b, c'⟩
      · rcases List.mem_cons.mp m with e | m
        · cases e
          refine .inr ⟨Nat.le_refl _, ⟨_, pushCells_keeps r _ _ _ (Heap.get?_push_size _ rfl), rfl⟩, ?_⟩
          have := beq_iff_eq.mp hk; subst this; exact List.mem_cons_self
        · exact .inl m
      · exact .inr ⟨Nat.le_of_succ_le a, b, List.mem_cons_of_mem _ c'⟩
    · have ih := IH h acc h1 h2
      refine ⟨ih.1, fun n c hm => ?_⟩
      rcases ih.2 n c hm with m | ⟨a, b, c'⟩
      · exact .inl m
      · exact .inr ⟨a, b, List.mem_cons_of_mem _ c'⟩

section
variable {M : Model} {A : Around} {E : Value → Shared → Prop} {s : Shared}
theorem comp_env {scope : Scope} {globals : Addr} {cl : List (Str × Addr)} {qual : Str} {outer : Env} {Q : Env → Shared → Prop}
    (h : Q (newEnv scope s.heap.objs.size globals (cellsFrom (s.heap.objs.size + 1) scope.names cl) qual none .none (some outer) builtinsNs) { s with heap := pushCells (s.heap.push { cls := .type "dict", data := .dict #[] }) scope.names }) :
    wpAny M A (newFunctionEnv scope globals cl [] qual none .none (some outer)) Q E s := by
  simp only [newFunctionEnv, Option.isSome_some, if_true]
  refine wpAny_bind (wpAny_alloc ?_)
  refine wpAny_bind (wpAny_layCells _ (fun name kind cells => by cases hkc : kind == NameKind.cell <;> simp) _ _ _ _ ?_)
  rw [show ({ s with heap := s.heap.push { cls := .type "dict", data := .dict #[] } } : Shared).heap.objs.size = s.heap.objs.size + 1 from Heap.size_push ..]
  refine wpAny_bind ?_
  rw [List.forIn_nil]
  exact wpAny_pure (wpAny_pure h)
end

noncomputable def capV (V : Vs) (cps : List Nat) : Vs := cps.map fun c => (c, getT V c)
noncomputable def compCels (scope : Scope) (k : Nat) (cps : List Nat) : List Nat := if kindIs scope k .cell then k :: cps else cps
noncomputable def chkComp (scope : Scope) (k : Nat) (cps gs : List Nat) : Bool :=
  scope.kind == .function && Nat.blt k nN && (kindIs scope k .local || kindIs scope k .cell) && cps.all (fun c => Nat.blt c nN && kindIs scope c .free) && gs.all (kindIs scope · .globalImplicit) &&
  scope.names.all (fun y => (y.2 != .free || (cps.map nm).contains y.1) && (y.2 != .local || scope.names.lookup y.1 == some .local) && (y.1 != nm k || y.2 != .free) && (y.2 != .cell || y.1 == nm k))

noncomputable def CBody (g : Gl) (fc : Fm) (n : Nat) : List Expr → Expr → Vs → Cells → Option T → Prop
  | [], elt, V, H, r => ∃ u, r = some u ∧ Ev g fc n elt V H fun t H' => t = u ∧ SubH H H'
  | c :: cs, elt, V, H, r => Ts g fc n c V H fun b H' => SubH H H' ∧ if b then CBody g fc n cs elt V H r else r = none

theorem ifs_false {g : Gl} {A : Around} {env : Env} {E : Value → Shared → Prop} {s : Shared} {Q : Bool → Shared → Prop} (h : Q false s) : ∀ ifs : List Expr,
    wpAny g.M A (forIn ifs false fun c r => if r = true then do let ok ← isTrue c env (eval c env); pure (ForInStep.yield ok) else pure (ForInStep.yield r)) Q E s
  | [] => by rw [List.forIn_nil]; exact wpAny_pure h
  | c :: cs => by
    rw [List.forIn_cons, if_neg (by simp)]
    exact wpAny_bind (wpAny_pure (ifs_false h cs))
theorem ifs_ok {g : Gl} {fc : Fm} {n : Nat} {A : Around} {P : OM} (hr : RoomF fc n A) {elt : Expr} {V : Vs} {H : Cells} {r : Option T} {E : Value → Shared → Prop} {Q : Bool → Shared → Prop} : ∀ {ifs : List Expr} {Z : OM} {s : Shared}, CBody g fc n ifs elt V H r → Rel g fc P Z V H s →
    (∀ Z' s', Sub Z Z' → Rel g fc P Z' V H s' → (∃ u, r = some u ∧ Ev g fc n elt V H fun t H' => t = u ∧ SubH H H') → Q true s') → (∀ Z' s', Sub Z Z' → Rel g fc P Z' V H s' → r = none → Q false s') →
    wpAny g.M A (forIn ifs true fun c r => if r = true then do let ok ← isTrue c fc.env (eval c fc.env); pure (ForInStep.yield ok) else pure (ForInStep.yield r)) Q E s
  | [], Z, s, hb, x, h1, h2 => by
    rw [List.forIn_nil]
    exact wpAny_pure (h1 Z s Sub.rfl x hb)
  | c :: cs, Z, s, hb, x, h1, h2 => by
    rw [List.forIn_cons, if_pos rfl]
    refine wpAny_bind (wpAny_bind (wpAny_mono (hb.go A P Z s hr x) (fun b s' ⟨Z', H', z', x', hs, hq⟩ => ?_) fun _ _ e => e.elim))
    have x'' := x'.drop hs
    cases b
    · exact wpAny_pure (ifs_false (h2 Z' s' z' x'' hq) cs)
    · exact wpAny_pure (ifs_ok hr hq x'' (fun Z2 s2 z2 => h1 Z2 s2 (z'.trans z2)) fun Z2 s2 z2 => h2 Z2 s2 (z'.trans z2))

theorem getT_capV {V : Vs} {j : Nat} {t : T} : ∀ {cps : List Nat}, getT (capV V cps) j = some t → j ∈ cps ∧ getT V j = some t
  | [], h => by simp [capV, getT] at h
  | c :: cps, h => by
    show _ ∧ _
    have h' : getT ((c, getT V c) :: capV V cps) j = some t := h
    by_cases q : c = j
    · rw [getT_hit q] at h'; subst q; exact ⟨by simp, h'⟩
    · rw [getT_miss q] at h'
      obtain ⟨a, b⟩ := getT_capV h'
      exact ⟨List.mem_cons_of_mem _ a, b⟩

/-- what the frame of a comprehension is -/
structure CompEnvOk (f : Fm) (scope : Scope) (k : Nat) (cps gs : List Nat) (fc : Fm) : Prop where
  globs : fc.globs = gs
  cels : fc.cels = compCels scope k cps

section
variable {g : Gl} {f : Fm} {n : Nat} {V : Vs} {H : Cells} {P Z : OM} {s : Shared}

noncomputable def ClOk (f : Fm) (scope : Scope) (cl : List (Str × Addr)) : Prop := (∀ n a, (n, a) ∈ cl → f.env.cells.lookup n = some a) ∧ (∀ y ∈ scope.names, y.2 = .free → ∃ a, (y.1, a) ∈ cl) ∧ ∀ n a, (n, a) ∈ cl → (n, NameKind.free) ∈ scope.names
theorem comp_clos (x : Rel g f P Z V H s) {scope : Scope} {k : Nat} {cps gs : List Nat} (hchk : chkComp scope k cps gs = true) (hcap : cps.all (fun c => memN f.cels c && hasT V c) = true) :
    ∃ cl, closureFor scope f.env = (pure cl : Sem _) ∧ ClOk f scope cl := by
  simp only [chkComp, Bool.and_eq_true, Bool.or_eq_true, beq_iff_eq] at hchk
  obtain ⟨⟨⟨⟨⟨c1, c2⟩, c3⟩, c4⟩, c5⟩, c6⟩ := hchk
  refine closure_ok fun y hy hf => ?_
  have h1 := List.all_eq_true.mp c6 y hy
  simp only [Bool.and_eq_true, Bool.or_eq_true, bne_iff_ne, ne_eq, List.contains_iff_mem, beq_iff_eq] at h1
  obtain ⟨c, hc, e⟩ := List.mem_map.mp (h1.1.1.1.resolve_left fun h => h hf)
  rw [← e]
  have h2 := List.all_eq_true.mp hcap c hc
  simp only [Bool.and_eq_true] at h2
  rcases (x.fo.kd c (has_mem V c h2.2)).2 with h | ⟨_, h⟩
  · rw [(x.fo.cc c h2.1).2] at h; cases h
  · exact h
inductive CompFr (g : Gl) (f : Fm) (V : Vs) (H : Cells) (scope : Scope) (k : Nat) (cps gs : List Nat) (cells : List (Str × Addr)) (s2 : Shared) (C : Addr) (hF : Heap) (Z2 P2 : OM) : Prop
  | mk (fc : Fm) (q1 : fc.outer = none) (q2 : fc.globs = gs) (q3 : fc.cels = compCels scope k cps) (q4 : fc.env = { newEnv scope C f.env.globals cells f.env.qual none .none (some f.env) builtinsNs with scope := relabel scope f.env })
    (q5 : Rel g fc P2 Z2 ((k, none) :: capV V cps) H { s2 with heap := hF })
    (q6 : fc.env.kindOf (nm k) = some .local ∨ (fc.env.kindOf (nm k) = some .cell ∧ ∃ c, fc.env.cells.lookup (nm k) = some c ∧ c ∈ fc.own)) (q7 : ∀ d ∈ fc.own, C ≤ d)
theorem comp_frame (x : Rel g f P Z V H s) {scope : Scope} {k : Nat} {cps gs : List Nat} (hchk : chkComp scope k cps gs = true) (hcap : cps.all (fun c => memN f.cels c && hasT V c) = true) {cl : List (Str × Addr)} (hclok : ClOk f scope cl) :
    ∀ s2 Z2, (∀ b o, s.heap.get? b = some o → s2.heap.get? b = some o) → Sub Z Z2 → ∀ P2, (∀ c, (∃ o, P c = some o) ∨ c ∈ f.own → ∃ o, P2 c = some o) → St g P2 Z2 H s2 →
      CompFr g f V H scope k cps gs (cellsFrom (s2.heap.objs.size + 1) scope.names cl) s2 s2.heap.objs.size (pushCells (s2.heap.push { cls := .type "dict", data := .dict #[] }) scope.names) Z2 P2 := by
  simp only [chkComp, Bool.and_eq_true, Bool.or_eq_true, beq_iff_eq] at hchk
  obtain ⟨⟨⟨⟨⟨c1, c2⟩, c3⟩, c4⟩, c5⟩, c6⟩ := hchk
  have hcp : ∀ c ∈ cps, c < nN ∧ scope.names.lookup (nm c) = some .free ∧ f.env.kindOf (nm c) = some .cell ∧ hasT V c = true := fun c hc => by
    have h1 := List.all_eq_true.mp c4 c hc
    simp only [Bool.and_eq_true, kindIs, beq_iff_eq, Nat.blt_eq] at h1
    have h2 := List.all_eq_true.mp hcap c hc
    simp only [Bool.and_eq_true] at h2
    exact ⟨h1.1, h1.2, (x.fo.cc c h2.1).2, h2.2⟩
  have hnm : ∀ y ∈ scope.names, (y.2 = .free → y.1 ∈ cps.map nm) ∧ (y.1 = nm k → y.2 ≠ .free) ∧ (y.2 = .cell → y.1 = nm k) := fun y hy => by
    have h1 := List.all_eq_true.mp c6 y hy
    simp only [Bool.and_eq_true, Bool.or_eq_true, bne_iff_ne, ne_eq, List.contains_iff_mem, beq_iff_eq] at h1
    obtain ⟨⟨⟨h2, h3⟩, h4⟩, h5⟩ := h1
    exact ⟨fun e => h2.resolve_left fun h => h e, fun e => h4.resolve_left fun h => h e, fun e => h5.resolve_left fun h => h e⟩
  have hlook : ∀ c ∈ cps, ∃ a, f.env.cells.lookup (nm c) = some a := fun c hc => by
    obtain ⟨q1, q2, q3, q4⟩ := hcp c hc
    rcases (x.fo.kd c (has_mem V c q4)).2 with h | ⟨_, h⟩
    · rw [q3] at h; cases h
    · exact h
  obtain ⟨hc1, hc2, hc3⟩ := hclok
  intro s2 Z2 hk2 hz2 P2 hP2 st
  -- where the frame's objects lie
  generalize hC : s2.heap.objs.size = C
  have hsz : (s2.heap.push { cls := .type "dict", data := .dict #[] }).objs.size = C + 1 := by rw [Heap.size_push, hC]
  generalize hh0 : s2.heap.push { cls := .type "dict", data := .dict #[] } = h0 at hsz
  have hk0 : ∀ b o, s2.heap.get? b = some o → h0.get? b = some o := fun b o e => hh0 ▸ Heap.get?_push_of_some _ e
  have hkp : ∀ b o, s2.heap.get? b = some o → (pushCells h0 scope.names).get? b = some o := fun b o e => pushCells_keeps _ _ _ _ (hk0 b o e)
  have hcl2 : ∀ n c, (n, c) ∈ cl → c < C ∧ f.env.cells.lookup n = some c := fun n c hm => by
    have e := hc1 n c hm
    obtain ⟨_, ⟨v, o, e', _⟩, _⟩ := x.fo.ce n c e
    exact ⟨hC ▸ Heap.lt_size (hk2 c o e'), e⟩
  obtain ⟨A1, A2⟩ := cells_all scope.names h0 cl (fun n n' c m m' => x.fo.ci n n' c (hc1 _ _ m) (hc1 _ _ m')) (fun n c m => by rw [hsz]; exact Nat.lt_succ_of_lt (hcl2 n c m).1)
  rw [hsz] at A1 A2
  generalize hcells : cellsFrom (C + 1) scope.names cl = cells at A1 A2
  have hnew : ∀ d, C ≤ d → s2.heap.get? d = none := fun d hd => by
    cases q : s2.heap.get? d with
    | none => rfl
    | some o => exact absurd (Heap.lt_size q) (Nat.not_lt.mpr (hC ▸ hd))
  have kindl : ∀ z, ({ newEnv scope C f.env.globals cells f.env.qual none .none (some f.env) builtinsNs with scope := relabel scope f.env } : Env).kindOf z = (scope.names.lookup z).map fun k => if (k == NameKind.free && f.env.scope.kind == .function && f.env.kindOf z == some .cell) then NameKind.cell else k := fun z => lookup_relabel
  let own : List Addr := C :: (cells.filter fun y => decide (C < y.2)).map (·.2)
  have hown : ∀ d ∈ own, C ≤ d ∧ (d = C ∨ ∃ n, (n, d) ∈ cells ∧ C < d) := fun d hd => by
    rcases List.mem_cons.mp hd with rfl | hd
    · exact ⟨Nat.le_refl _, .inl rfl⟩
    · obtain ⟨⟨n, c⟩, hm, rfl⟩ := List.mem_map.mp hd
      obtain ⟨m1, m2⟩ := List.mem_filter.mp hm
      simp only [decide_eq_true_eq] at m2
      exact ⟨Nat.le_of_lt m2, .inr ⟨n, m1, m2⟩⟩
  have cellin : ∀ n c, (n, c) ∈ cells → (c < C ∧ f.env.cells.lookup n = some c ∧ (n, c) ∈ cl) ∨ (C < c ∧ (pushCells h0 scope.names).IsCell c none ∧ c ∈ own ∧ (n, NameKind.cell) ∈ scope.names) := fun n c hm => by
    rcases A2 n c hm with h | ⟨h1, h2, h3⟩
    · exact .inl ⟨(hcl2 n c h).1, (hcl2 n c h).2, h⟩
    · refine .inr ⟨by walk_at "la", h2, List.mem_cons_of_mem _ (List.mem_map.mpr ⟨(n, c), List.mem_filter.mpr ⟨hm, by simp only [decide_eq_true_eq]; walk_at "la"⟩, rfl⟩), h3⟩
  have capk : ∀ c ∈ cps, ({ newEnv scope C f.env.globals cells f.env.qual none .none (some f.env) builtinsNs with scope := relabel scope f.env } : Env).kindOf (nm c) = some .cell := fun c hc => by
    obtain ⟨q1, q2, q3, q4⟩ := hcp c hc
    rw [kindl, q2]
    simp [q3, x.fo.hk]
  have caplook : ∀ c ∈ cps, ∃ a, cells.lookup (nm c) = some a ∧ f.env.cells.lookup (nm c) = some a ∧ a < C := fun c hc => by
    obtain ⟨q1, q2, q3, q4⟩ := hcp c hc
    obtain ⟨a, ha⟩ := hc2 (nm c, .free) (mem_of_lookup q2) rfl
    have hsome : (cells.lookup (nm c)).isSome = true := by
      rw [← hcells]
      refine cellsFrom_some _ _ _ (.inr ?_)
      cases h : cl.lookup (nm c) with
      | some _ => rfl
      | none => exact absurd (List.lookup_eq_none_iff.mp h _ ha) (by simp)
    obtain ⟨b, hb⟩ := Option.isSome_iff_exists.mp hsome
    rcases cellin _ _ (mem_of_lookup hb) with ⟨h1, h2, _⟩ | ⟨h1, h2, h3, h4⟩
    · exact ⟨b, hb, h2, h1⟩
    · have e := (hnm _ h4).2.2 rfl
      rcases c3 with c3 | c3 <;> simp only [kindIs, beq_iff_eq] at c3 <;> rw [← e, q2] at c3 <;> cases c3
  have kk : ({ newEnv scope C f.env.globals cells f.env.qual none .none (some f.env) builtinsNs with scope := relabel scope f.env } : Env).kindOf (nm k) = some .local ∨
      (({ newEnv scope C f.env.globals cells f.env.qual none .none (some f.env) builtinsNs with scope := relabel scope f.env } : Env).kindOf (nm k) = some .cell ∧ ∃ c, cells.lookup (nm k) = some c ∧ c ∈ own) := by
    rcases c3 with c3 | c3 <;> simp only [kindIs, beq_iff_eq] at c3
    · left; rw [kindl, c3]; rfl
    · right
      refine ⟨by rw [kindl, c3]; rfl, ?_⟩
      have hsome : (cells.lookup (nm k)).isSome = true := by
        rw [← hcells]; exact cellsFrom_some _ _ _ (.inl c3)
      obtain ⟨b, hb⟩ := Option.isSome_iff_exists.mp hsome
      rcases cellin _ _ (mem_of_lookup hb) with ⟨h1, h2, h3⟩ | ⟨h1, h2, h3, h4⟩
      · exact absurd rfl ((hnm _ (hc3 _ _ h3)).2.1 rfl)
      · exact ⟨b, hb, h3⟩
  have hkc : k ∉ cps := fun h => by
    have := (hcp k h).2.1
    rcases c3 with c3 | c3 <;> simp only [kindIs, beq_iff_eq] at c3 <;> rw [this] at c3 <;> cases c3
  have getT_cap : ∀ {j : Nat} {t : T}, getT ((k, none) :: capV V cps) j = some t → ((j = k ∧ (none : Option T) = some t) ∨ j ∈ cps) ∧ (j ≠ k → getT V j = some t) := fun {j t} h => by
    by_cases q : k = j
    · rw [getT_hit q] at h; cases h
    · rw [getT_miss q] at h
      obtain ⟨h1, h2⟩ := getT_capV h
      exact ⟨.inr h1, fun _ => h2⟩
  have x2 : St g P2 Z2 H { s2 with heap := pushCells h0 scope.names } := st.keep (tk := s2.toks) hkp
  refine ⟨⟨{ newEnv scope C f.env.globals cells f.env.qual none .none (some f.env) builtinsNs with scope := relabel scope f.env }, own, false, gs, compCels scope k cps, none⟩, rfl, rfl, rfl, rfl, ⟨x2, ?_, fun l e => by cases e⟩, kk, fun d hd => (hown d hd).1⟩
  refine ⟨c1, x.fo.hg, x.fo.hb, ⟨fun _ => none, ?_, fun j hj hl t ht => ?_⟩, fun j hj hl t ht => ?_, fun j hj => ?_, List.mem_cons_self, fun d hd => ?_, fun d hd => ?_, fun z c e => ?_, fun z z' c e e' => ?_, fun h => (by cases h), fun j hj => ?_, fun j hj => ?_⟩
  · have := (Heap.Ns.new s2.heap (.type "dict")).keeps (pushCells_keeps scope.names _)
    rw [hC, hh0] at this
    exact this
  · obtain ⟨h1, h2⟩ := getT_cap ht
    rcases h1 with ⟨_, e⟩ | h1
    · cases e
    · rw [capk j h1] at hl; cases hl
  · obtain ⟨h1, h2⟩ := getT_cap ht
    rcases h1 with ⟨_, e⟩ | h1
    · cases e
    · obtain ⟨q1, q2, q3, q4⟩ := hcp j h1
      obtain ⟨a, a1, a2, a3⟩ := caplook j h1
      obtain ⟨c, v, e1, ⟨o, e2, e3⟩, e4⟩ := x.fo.cs j q1 q3 t (h2 (by rintro rfl; exact hkc h1))
      rw [a2] at e1; cases e1
      exact ⟨a, v, a1, ⟨o, hkp _ _ (hk2 _ _ e2), e3⟩, e4.mono hz2⟩
  · rw [List.map_cons, List.mem_cons] at hj
    rcases hj with rfl | hj
    · refine ⟨by rwa [Nat.blt_eq] at c2, kk.imp_right fun h => ⟨h.1, let ⟨c, h2, _⟩ := h.2; ⟨c, h2⟩⟩⟩
    · have hj' : j ∈ cps := by simpa [capV] using hj
      exact ⟨(hcp j hj').1, .inr ⟨capk j hj', let ⟨a, h1, _⟩ := caplook j hj'; ⟨a, h1⟩⟩⟩
  · exact st.un (hnew d (hown d hd).1)
  · rcases (hown d hd).2 with rfl | ⟨n, hm, hlt⟩
    · have := (Heap.Ns.new s2.heap (.type "dict")).keeps (pushCells_keeps scope.names _)
      rw [hC, hh0] at this
      obtain ⟨o, es, ep, e, _⟩ := this
      exact ⟨o, e⟩
    · rcases cellin n d hm with ⟨h1, _⟩ | ⟨_, ⟨o, e, _⟩, _⟩
      · exact absurd (Nat.lt_trans h1 hlt) (Nat.lt_irrefl _)
      · exact ⟨o, e⟩
  · rcases cellin z c (mem_of_lookup e) with ⟨h1, h2, _⟩ | ⟨h1, h2, h3, _⟩
    · obtain ⟨_, ⟨v, o, e', d⟩, b⟩ := x.fo.ce z c h2
      exact ⟨Nat.ne_of_lt h1, ⟨v, o, hkp _ _ (hk2 _ _ e'), d⟩, .inr (hP2 c (b.elim .inr .inl))⟩
    · exact ⟨Nat.ne_of_gt h1, ⟨_, h2⟩, .inl h3⟩
  · exact A1 z z' c (mem_of_lookup e) (mem_of_lookup e')
  · have := List.all_eq_true.mp c5 j (mem_memN _ hj)
    simp only [kindIs, beq_iff_eq] at this
    rw [kindl, this]; rfl
  · have hj2 := mem_memN _ hj
    unfold compCels at hj2
    split at hj2
    · rename_i hkk
      rcases List.mem_cons.mp hj2 with rfl | h
      · refine ⟨by rwa [Nat.blt_eq] at c2, ?_⟩
        simp only [kindIs, beq_iff_eq] at hkk
        rw [kindl, hkk]; rfl
      · exact ⟨(hcp j h).1, capk j h⟩
    · exact ⟨(hcp j hj2).1, capk j hj2⟩
end
end

section
open PySem.SeqAt
section
variable {g : Gl} {f : Fm} {n : Nat} {V : Vs} {H : Cells}

theorem callee_sub {P Z : OM} {s : Shared} (x : Rel g f P Z V H s) : Sub P (calleeP g P Z H s) ∧ ∀ d ∈ f.own, ∃ o, calleeP g P Z H s d = some o :=
  ⟨calleeP_sub x.st, fun d hd => let ⟨o, e⟩ := x.fo.lv d hd; ⟨o, calleeP_own x d hd o e⟩⟩

/-- a store of a comprehension's own variable -/
theorem store_comp {A : Around} {P Z : OM} {s : Shared} {E : Value → Shared → Prop} {fc : Fm} (x : Rel g fc P Z V H s) {k : Nat} (hkn : k < nN) (hk : fc.env.kindOf (nm k) = some .local ∨ (fc.env.kindOf (nm k) = some .cell ∧ ∃ c, fc.env.cells.lookup (nm k) = some c ∧ c ∈ fc.own)) {v : Value} {t : T} (r : Rd Z v t) :
    wpAny g.M A (storeName fc.env (nm k) v) (fun _ s' => Rel g fc P Z (setT V k t) H s') E s := by
  rcases hk with hl | ⟨hl, c, hc, ho⟩
  · obtain ⟨m, hn, _⟩ := x.fo.ns
    exact wpAny_storeName_local hl hn (fun h' hn' hs' => x.setL hkn hl r hn hn' hs') (by rw [x.fo.hk]; rfl)
  · obtain ⟨_, ⟨v₀, hi⟩, _⟩ := x.fo.ce _ _ hc
    exact wpAny_storeName_cell x.fo.hk hl hc hi fun h' hi' hs' => x.setC hkn hl r hc ho (tk := s.toks) hi' hs'

inductive CompIt (g : Gl) (n : Nat) (scope : Scope) (k : Nat) (cps gs : List Nat) (ifs : List Expr) (elt : Expr) (V : Vs) (K : List T → Cells → Prop) (t : T) (H : Cells) : Prop
  | mk (α : Type) (xs : List α) (enc : α → T) (Fx : α → Option T) (h1 : ItOk H t (xs.map enc)) (h2 : xs.length ≤ 100000)
    (h3 : ∀ a ∈ xs, ∀ fc : Fm, fc.globs = gs → fc.cels = compCels scope k cps → CBody g fc n ifs elt ((k, some (enc a)) :: capV V cps) H (Fx a)) (h4 : K (xs.filterMap Fx) H)
inductive CompFin (g : Gl) (f : Fm) (P Z : OM) (V : Vs) (K : List T → Cells → Prop) (D C : Addr) (s' : Shared) : Prop
  | mk (Z' : OM) (out : List T) (H1 : Cells) (vs : Array Value) (ep : Nat) (m : Str → Option Value) (h1 : Sub Z Z') (h2 : Rel g f P Z' V H1 s') (h3 : K out H1) (h4 : s'.heap.get? D = some ⟨.type "list", none, .seq vs ep, #[]⟩) (h5 : RdL Z' vs.toList out) (h6 : Un P Z' H1 D) (h7 : D ∉ f.own) (h8 : s'.heap.Ns C m) (h9 : Un P Z' H1 C) (h10 : C ∉ f.own) (h11 : C ≠ D) (h12 : ∀ y, f.env.cells.lookup y ≠ some C)

inductive CompInv (g : Gl) (fc : Fm) (Pc Z1 : OM) (k : Nat) (W : Vs) (H1 : Cells) (D I : Addr) {α : Type} (xs : List α) (Fx : α → Option T) (Nx : Nat → Obj → Prop) (j : Nat) (s : Shared) : Prop
  | mk (Z' : OM) (o : Option T) (i : Nat) (vs : Array Value) (ep : Nat) (oI : Obj) (q1 : Sub Z1 Z') (q2 : Rel g fc Pc Z' ((k, o) :: W) H1 s) (q3 : j = xs.length + 1 - i) (q4 : i ≤ xs.length) (q5 : s.heap.get? D = some ⟨.type "list", none, .seq vs ep, #[]⟩)
    (q6 : RdL Z' vs.toList ((xs.take i).filterMap Fx)) (q7 : Un Pc Z' H1 D) (q8 : Un Pc Z' H1 I) (q9 : s.heap.get? I = some oI) (q10 : Nx i oI)
theorem comp_all {A : Around} {P Z : OM} {s : Shared} (hr : RoomF f n A) (x : Rel g f P Z V H s) {use : Option (Value → Sem Unit)} {Q' : Value → Shared → Prop} {K : List T → Cells → Prop} {scope : Scope} {k : Nat} {cps gs : List Nat} {elt iter : Expr} {ifs : List Expr} {p pos pos' : Pos}
    (hchk : chkComp scope k cps gs = true) (hcap : cps.all (fun c => memN f.cels c && hasT V c) = true)
    (hiter : Ev g f n iter V H (CompIt g n scope k cps gs ifs elt V K))
    (hs : ∀ x, foldedSetIterable iter f.env x = pure x)
    (hfin : ∀ D C s', CompFin g f P Z V K D C s' → match use with
      | none => ∀ h', Heap.SameBut C s'.heap h' → Q' (.ref D) { s' with heap := h' }
      | some u => wpAny g.M A (u (.ref D)) (fun _ s'' => ∃ m, s''.heap.Ns C m ∧ ∀ h', Heap.SameBut C s''.heap h' → Q' .none { s'' with heap := h' }) NoE s') :
    wpAny g.M A (comprehension (.ListComp elt [⟨.Name (nm k) p, iter, ifs, 0⟩] scope pos) scope f.env pos' (newList []) false (eval iter f.env) use) Q' NoE s := by
  obtain ⟨cl, hcl, hclok⟩ := comp_clos x hchk hcap
  have hchk' := hchk
  simp only [chkComp, Bool.and_eq_true, Bool.or_eq_true, beq_iff_eq] at hchk'
  obtain ⟨⟨⟨⟨⟨c1, c2⟩, c3⟩, c4⟩, c5⟩, c6⟩ := hchk'
  have hkn : k < nN := by rwa [Nat.blt_eq] at c2
  refine wpAny_comprehension_free rfl hs hcl c1 (fun y hy hl => ?_) ?_
  · have h1 := List.all_eq_true.mp c6 y hy
    simp only [Bool.and_eq_true, Bool.or_eq_true, bne_iff_ne, ne_eq, beq_iff_eq] at h1
    exact h1.1.1.2.resolve_left fun h => h hl
  refine wpAny_mono (hiter.go A P Z s hr x) (fun v s1 ⟨Z1, t, H1, z1, x1, r1, α, xs, enc, Fx, ok, hlen, hbody, hK⟩ => ?_) fun _ _ e => e
  obtain ⟨st1, back⟩ := x1.call
  obtain ⟨hsub, hown⟩ := callee_sub x1
  generalize hPc : calleeP g P Z1 H1 s1 = Pc at st1 back hsub hown
  refine iter_start st1 r1 ok fun I oI Nx h2 hInone it nx hoI hk2 => ?_
  have base0 : ∀ d, s1.heap.get? d = none → g.s1.heap.get? d = none := fun d hd => by
    cases q : g.s1.heap.get? d with
    | none => rfl
    | some o' => rw [x1.st.kept _ _ q] at hd; cases hd
  -- the list that is made
  refine wpAny_newList ?_ (Nat.zero_le _)
  generalize hD : h2.objs.size = D
  have hDnone2 : h2.get? D = none := hD ▸ none_fresh h2
  have hDnone : s1.heap.get? D = none := by
    cases q : s1.heap.get? D with
    | none => rfl
    | some o => rw [hk2 _ _ q] at hDnone2; cases hDnone2
  have hDI : D ≠ I := by rintro rfl; rw [hDnone2] at hoI; cases hoI
  generalize hh3 : h2.push { cls := .type "list", data := .seq ([] : List Value).toArray } = h3
  have hk3 : ∀ b o, h2.get? b = some o → h3.get? b = some o := fun b o e => hh3 ▸ Heap.get?_push_of_some _ e
  have hD3 : h3.get? D = some ⟨.type "list", none, .seq #[] 0, #[]⟩ := by rw [← hh3, ← hD]; exact Heap.get?_push_size _ rfl
  refine comp_env ?_
  dsimp only
  have st3 : St g Pc Z1 H1 { s1 with heap := h3 } := st1.keep (tk := s1.toks) fun b o e => hk3 b o (hk2 b o e)
  obtain ⟨fc, hf0, hf1, hf2, hfe, xf, hkk, hfo⟩ := comp_frame x1 hchk hcap hclok { s1 with heap := h3 } Z1 (fun b o e => hk3 b o (hk2 b o e)) Sub.rfl Pc (fun c hc => hc.elim (fun ⟨o, e⟩ => ⟨o, hsub c o e⟩) (hown c)) st3
  dsimp only at hfe xf hfo
  generalize hC : h3.objs.size = C at hfe hfo xf
  generalize hh4 : pushCells (h3.push { cls := .type "dict", data := .dict #[] }) scope.names = h4 at xf
  have hk4 : ∀ b o, h3.get? b = some o → h4.get? b = some o := fun b o e => hh4 ▸ pushCells_keeps _ _ _ _ (Heap.get?_push_of_some _ e)
  have hCnone3 : h3.get? C = none := hC ▸ none_fresh h3
  have hCloc : fc.env.locals = C := by rw [hfe]; rfl
  have hCnone : s1.heap.get? C = none := by
    cases q : s1.heap.get? C with
    | none => rfl
    | some o => rw [hk3 _ _ (hk2 _ _ q)] at hCnone3; cases hCnone3
  have hCD : C ≠ D := by rintro rfl; rw [hD3] at hCnone3; cases hCnone3
  have hDlt : D < C := by rw [← hC]; exact Heap.lt_size hD3
  have hIlt : I < C := by rw [← hC]; exact Heap.lt_size (hk3 _ _ hoI)
  have hCce : ∀ y, f.env.cells.lookup y ≠ some C := fun y e => by
    obtain ⟨_, ⟨w, o', e', _⟩, _⟩ := x1.fo.ce y C e
    rw [e'] at hCnone; cases hCnone
  have uD := st1.un hDnone
  have uI := st1.un hInone
  have nD : D ∉ fc.own := fun h => absurd (hfo D h) (Nat.not_le.mpr hDlt)
  have nI : I ∉ fc.own := fun h => absurd (hfo I h) (Nat.not_le.mpr hIlt)
  have ceq : ∀ d, d < C → s1.heap.get? d = none → (∀ y, fc.env.cells.lookup y ≠ some d) := fun d hd hn y e => by
    obtain ⟨_, _, h⟩ := xf.fo.ce y d e
    rcases h with h | ⟨o, h⟩
    · exact absurd (hfo d h) (Nat.not_le.mpr hd)
    · obtain ⟨o', e', _⟩ := st1.kp d o h; rw [e'] at hn; cases hn
  have main : ∀ (Z' : OM) (s' : Shared), Sub Z1 Z' → Rel g fc Pc Z' ((k, none) :: capV V cps) H1 s' → s'.heap.get? D = some ⟨.type "list", none, .seq #[] 0, #[]⟩ → Un Pc Z' H1 D → Un Pc Z' H1 I → s'.heap.get? I = some oI →
      codeAny g.M A (.compLoop (.ListComp elt [⟨.Name (nm k) p, iter, ifs, 0⟩] scope pos) 0 (.ref I) (.ref D) fc.env) (compPost g.M A NoE use Q' (.ref D) C) s' := by
    intro Z0 s0 z0 x0 hD0 uD0 uI0 hI0
    refine codeAny_compLoop_tests (CompInv g fc Pc Z1 k (capV V cps) H1 D I xs Fx Nx) ?_ (xs.length + 1)
      ⟨Z0, none, 0, #[], 0, oI, z0, x0, rfl, Nat.zero_le _, hD0, by simpa using RdL.nil, uD0, uI0, hI0, nx⟩
    rintro j s2 ⟨Z2, o2, i, vs, ep, oI2, z2, x2, rfl, hi, hD2, rd2, uD2, uI2, hI2, nx2⟩
    by_cases hlt : i < xs.length
    · have hu : (xs.map enc)[i]? = some (enc xs[i]) := by rw [List.getElem?_map, List.getElem?_eq_getElem hlt]; rfl
      refine (it.go A Pc Z2 H1 s2 i oI2 hr.1 x2.st (r1.mono z2) ok hI2 nx2).item _ hu _ _ fun w h5 tk oI3 rw5 hoI5 nx5 he5 => ?_
      have x5 : Rel g fc Pc Z2 ((k, o2) :: capV V cps) H1 { s2 with heap := h5, toks := tk } := x2.ext uI2 nI he5
      have hD5 : h5.get? D = some ⟨.type "list", none, .seq vs ep, #[]⟩ := he5 D _ hDI hD2
      have x6 := x5.protect hoI5 uI2 nI
      have uD6 : Un (updZ Pc I oI3) Z2 H1 D := ⟨by rw [updZ_ne hDI]; exact uD2.1, uD2.2⟩
      have x7 := x6.protect hD5 uD6 nD
      refine wpAny_assign_Name (wpAny_mono (store_comp (E := NoE) x7 hkn hkk rw5) (fun _ s8 x8 => ?_) fun _ _ e => e.elim)
      rw [setT_hit rfl] at x8
      refine ifs_ok (hr.to hf0) (hbody xs[i] (List.getElem_mem hlt) fc hf1 hf2) x8 (fun Z9 s9 z9 x9 ⟨u, hFu, hEv⟩ => ?tt) fun Z9 s9 z9 x9 hFn => ?ff
      case tt =>
        rw [if_pos rfl]
        refine wpAny_mono (hEv.go A _ Z9 s9 (hr.to hf0) x9) (fun y s10 ⟨Z10, u', H10, z10, x10, r10, hu', hs10⟩ => ?_) fun _ _ e => e.elim
        subst hu'
        have x11 := x10.drop hs10
        obtain ⟨x12, uD12, hD12, _⟩ := x11.unprotect (by rw [updZ_ne hDI]; exact uD2.1) (base0 D hDnone) (x2.st.base.trans (sub_updZ uI2.1)) (ceq D hDlt hDnone) (fun _ _ e => by cases e)
        obtain ⟨x13, uI13, hI13, _⟩ := x12.unprotect uI2.1 (base0 I hInone) x2.st.base (ceq I hIlt hInone) (it.nd _ _ nx5)
        have uD13 : Un Pc Z10 H1 D := ⟨uD2.1, uD12.2⟩
        refine wpAny_list_append_plain (items := vs) ⟨ep, hD12⟩ (fun h14 ⟨ep', e14⟩ hs14 => ?_) ?_
        · have x14 : Rel g fc Pc Z10 ((k, some (enc xs[i])) :: capV V cps) H1 { s10 with heap := h14 } := x13.ext (tk := s10.toks) uD13 nD hs14.extBut
          refine ⟨xs.length + 1 - (i + 1), dec1 hlt, Z10, some (enc xs[i]), i + 1, vs.push y, ep', oI3, (z2.trans z9).trans z10, x14, rfl, hlt, e14, ?_, uD13, uI13, hs14.extBut I _ (Ne.symm hDI) hI13, nx5⟩
          rw [List.take_add_one, List.getElem?_eq_getElem hlt]
          simp only [Option.toList_some, List.filterMap_append, List.filterMap_cons, hFu, List.filterMap_nil]
          simpa using (rd2.mono (z9.trans z10)).append (.cons r10 .nil)
        · have := rd2.length
          have h1 : ((xs.take i).filterMap Fx).length ≤ (xs.take i).length := List.length_filterMap_le _ _
          have h2 : (xs.take i).length ≤ xs.length := by rw [List.length_take]; walk_at "la"
          simp only [Array.length_toList] at this
          rw [sizeLine_eq]; walk_at "la"
      case ff =>
        rw [if_neg (by simp)]
        obtain ⟨x12, uD12, hD12, _⟩ := x9.unprotect (by rw [updZ_ne hDI]; exact uD2.1) (base0 D hDnone) (x2.st.base.trans (sub_updZ uI2.1)) (ceq D hDlt hDnone) (fun _ _ e => by cases e)
        obtain ⟨x13, uI13, hI13, _⟩ := x12.unprotect uI2.1 (base0 I hInone) x2.st.base (ceq I hIlt hInone) (it.nd _ _ nx5)
        refine ⟨xs.length + 1 - (i + 1), dec1 hlt, Z9, some (enc xs[i]), i + 1, vs, ep, oI3, z2.trans z9, x13, rfl, hlt, hD12, ?_, ⟨uD2.1, uD12.2⟩, uI13, hI13, nx5⟩
        rw [List.take_add_one, List.getElem?_eq_getElem hlt]
        simp only [Option.toList_some, List.filterMap_append, List.filterMap_cons, hFn, List.filterMap_nil]
        simpa using rd2.mono z9
    · have hi' : i = xs.length := by walk_at "la"
      subst hi'
      refine (it.go A Pc Z2 H1 s2 _ oI2 hr.1 x2.st (r1.mono z2) ok hI2 nx2).stop (List.getElem?_eq_none (by simp)) _ _ fun h5 tk he5 => ?_
      have x5 : Rel g fc Pc Z2 ((k, o2) :: capV V cps) H1 { s2 with heap := h5, toks := tk } := x2.ext uI2 nI he5
      have hD5 : h5.get? D = some ⟨.type "list", none, .seq vs ep, #[]⟩ := he5 D _ hDI hD2
      have xb := back Z2 H1 _ z2 x5.st
      obtain ⟨m, hNs, _⟩ := x5.fo.ns
      have uC := x5.fo.ow _ x5.fo.lo
      rw [hCloc] at hNs uC
      have pn : ∀ d, Pc d = none → P d = none := fun d e => by
        cases q : P d with
        | none => rfl
        | some o => rw [hsub d o q] at e; cases e
      rw [List.take_length] at rd2
      have fin := hfin D C _ ⟨Z2, _, H1, vs, ep, m, z1.trans z2, xb, hK, hD5, rd2, ⟨pn D uD2.1, uD2.2⟩, x1.fresh_own hDnone, hNs, ⟨pn C uC.1, uC.2⟩, x1.fresh_own hCnone, hCD, hCce⟩
      cases use with
      | none => exact ⟨m, hNs, fin⟩
      | some u => exact fin
  have hself := (it.go A Pc Z1 H1 { s1 with heap := h4 } 0 oI hr.1 xf.st r1 ok (hk4 _ _ (hk3 _ _ hoI)) nx).self
  rw [hfe] at main
  have m1 := main Z1 _ Sub.rfl xf (hk4 _ _ hD3) uD uI (hk4 _ _ (hk3 _ _ hoI))
  exact codeAny_compStart_list m1 (hself _ _ m1)
end
end

section
open PySem.SeqAt
/-- what a comprehension has to show -/
noncomputable def CompOk (g : Gl) (f : Fm) (n : Nat) (scope : Scope) (k : Nat) (cps gs : List Nat) (iter : Expr) (ifs : List Expr) (elt : Expr) (V : Vs) (H : Cells) (K : List T → Cells → Prop) : Prop :=
  Ev g f n iter V H (CompIt g n scope k cps gs ifs elt V K)

section
variable {g : Gl} {f : Fm} {n : Nat} {V : Vs} {H : Cells}
theorem fin_list {P Z : OM} {s' : Shared} {K : List T → Cells → Prop} {D C : Addr} (h : CompFin g f P Z V K D C s') : ∃ Z' out H1, Sub Z Z' ∧ Rel g f P Z' V H1 s' ∧ K out H1 ∧ Rd Z' (.ref D) (.lst out) ∧ D ∉ f.own ∧ C ∉ f.own ∧ Un P Z' H1 C ∧ (∃ m, s'.heap.Ns C m) ∧ ∀ y, f.env.cells.lookup y ≠ some C := by
  obtain ⟨Z', out, H1, vs, ep, m, z, x, hK, hD, rd, uD, nD, hNs, uC, nC, hCD, hce⟩ := h
  have x2 := x.addZ hD uD nD
  refine ⟨_, out, H1, z.trans (sub_updZ uD.2.1), x2, hK, .lst updZ_self (rd.mono (sub_updZ uD.2.1)), nD, nC, ⟨uC.1, by rw [updZ_ne hCD]; exact uC.2.1, uC.2.2⟩, ⟨m, hNs⟩, hce⟩
theorem ev_comp {k : Nat} {elt iter : Expr} {ifs : List Expr} {p pos : Pos} {scope : Scope} {Q : T → Cells → Prop} (cps gs : List Nat) (hchk : chkComp scope k cps gs = true) (hcap : cps.all (fun c => memN f.cels c && hasT V c) = true)
    (h : CompOk g f n scope k cps gs iter ifs elt V H fun out H1 => Q (.lst out) H1)
    (hs : ∀ env x, foldedSetIterable iter env x = pure x := by intro _ _; rfl) : Ev g f n (.ListComp elt [⟨.Name (nm k) p, iter, ifs, 0⟩] scope pos) V H Q := .mk fun A P Z s hr x => by
  rw [eval_ListComp]
  refine comp_all (use := none) (K := fun out H1 => Q (.lst out) H1) hr x hchk hcap h (hs _) fun D C s' hfin => ?_
  intro h' hsb
  obtain ⟨Z', out, H1, z, x1, hK, rd, nD, nC, uC, _, _⟩ := fin_list hfin
  have x2 : Rel g f P Z' V H1 { s' with heap := h' } := x1.ext (tk := s'.toks) uC nC hsb.extBut
  exact ⟨Z', .lst out, H1, z, x2, rd, hK⟩
/-- the list is to be written to -/
theorem ev_compc {k : Nat} {elt iter : Expr} {ifs : List Expr} {p pos : Pos} {scope : Scope} {Q : T → Cells → Prop} (cps gs : List Nat) (hchk : chkComp scope k cps gs = true) (hcap : cps.all (fun c => memN f.cels c && hasT V c) = true)
    (h : CompOk g f n scope k cps gs iter ifs elt V H fun out H1 => ∀ a, H1 a = none → Q (.ref a) (updH H1 a (.list out)))
    (hs : ∀ env x, foldedSetIterable iter env x = pure x := by intro _ _; rfl) : Ev g f n (.ListComp elt [⟨.Name (nm k) p, iter, ifs, 0⟩] scope pos) V H Q := .mk fun A P Z s hr x => by
  rw [eval_ListComp]
  refine comp_all (use := none) (K := fun out H1 => ∀ a, H1 a = none → Q (.ref a) (updH H1 a (.list out))) hr x hchk hcap h (hs _) fun D C s' hfin => ?_
  intro h' hsb
  obtain ⟨Z', out, H1, vs, ep, m, z, x1, hK, hD, rd, uD, nD, hNs, uC, nC, hCD, hce⟩ := hfin
  have x2 : Rel g f P Z' V H1 { s' with heap := h' } := x1.ext (tk := s'.toks) uC nC hsb.extBut
  have hD' : h'.get? D = some ⟨.type "list", none, .seq vs ep, #[]⟩ := hsb.extBut D _ (Ne.symm hCD) hD
  have hH : H1 D = none := by
    cases e : H1 D with
    | none => rfl
    | some c => exact absurd (by cases c <;> simp [Cell.addrs]) (uD.2.2 _ c e)
  have x3 := x2.addH (a := D) (c := .list out) ⟨vs, ep, hD', rd⟩ (fun d hd => by
      simp only [Cell.addrs, List.mem_singleton] at hd
      subst hd
      exact ⟨uD, nD⟩)
  exact ⟨Z', .ref D, _, z, x3, .ref _, hK D hH⟩

/-- y = [.. for ..] -/
theorem ex_assign_comp {y k : Nat} {elt iter : Expr} {ifs : List Expr} {p py pos spos : Pos} {scope : Scope} {Q : SQ} (cps gs : List Nat) (hf : f.full = true) (hy : hasT V y = true) (hchk : chkComp scope k cps gs = true) (hcap : cps.all (fun c => memN f.cels c && hasT V c) = true)
    (h : CompOk g f n scope k cps gs iter ifs elt V H fun out H1 => Q .next (setT V y (.lst out)) H1)
    (hs : ∀ env x, foldedSetIterable iter env x = pure x := by intro _ _; rfl) : Ex g f n (.Assign [.Name (nm y) py] (.ListComp elt [⟨.Name (nm k) p, iter, ifs, 0⟩] scope pos) spos) V H Q := .mk fun A P Z s hr x => by
  obtain ⟨b, hb, hloc⟩ : ∃ b : Bool, swapsWith (.ListComp elt [⟨.Name (nm k) p, iter, ifs, 0⟩] scope pos) (some (.Name (nm y) py)) spos.line f.env = pure b ∧ (b = true → f.env.kindOf (nm y) = some .local) := by
    refine ⟨_, rfl, fun e => ?_⟩
    simp only [Bool.and_eq_true, beq_iff_eq] at e
    exact e.1.1.2
  cases b with
  | false =>
    exact wpAny_Assign_Name (wpAny_mono ((ev_comp (Q := fun t H1 => Q .next (setT V y t) H1) cps gs hchk hcap h hs).go A P Z s hr x) (fun v s1 ⟨Z1, t, H1, z1, x1, r1, q1⟩ =>
      wpAny_mono (store_ok x1 hy hf r1) (fun _ s2 x2 => ⟨Z1, .next, _, H1, z1, x2, .next, q1⟩) fun _ _ e => e) fun _ _ e => e) hb
  | true =>
    rw [exec_Assign_Name_used _ _ _ _ hb]
    refine wpAny_bind (wpAny_standAt (wpAny_bind ?_))
    show wpAny _ A (do let _ ← comprehension (.ListComp elt [⟨.Name (nm k) p, iter, ifs, 0⟩] scope pos) scope f.env _ (newList []) false (eval iter f.env) (some (assign (.Name (nm y) py) f.env))) _ _ s
    refine wpAny_bind (wpAny_mono (comp_all (use := some (assign (.Name (nm y) py) f.env)) (Q' := fun _ s' => SP g f P Z Q .next s') (K := fun out H1 => Q .next (setT V y (.lst out)) H1) hr x hchk hcap h (hs _) fun D C s' hfin => ?_) (fun _ s' hq => wpAny_pure (wpAny_pure hq)) fun _ _ e => e)
    obtain ⟨Z', out, H1, z, x1, hK, rd, nD, nC, uC, ⟨m, hNs⟩, hce⟩ := fin_list hfin
    have hl := hloc rfl
    obtain ⟨hyn, _⟩ := x1.fo.kd y (has_mem V y hy)
    obtain ⟨mL, hnL, _⟩ := x1.fo.ns
    have hLC : C ≠ f.env.locals := fun e => nC (e ▸ x1.fo.lo)
    refine wpAny_assign_Name (wpAny_storeName_local hl hnL (fun h2 hn2 hs2 => ?_) (by rw [x1.fo.hk]; rfl))
    refine ⟨m, hNs.sameBut hs2 hLC, fun h3 hs3 => ?_⟩
    have x2 := x1.setL (tk := s'.toks + 1) hyn hl rd hnL hn2 hs2
    have x3 : Rel g f P Z' (setT V y (.lst out)) H1 { s' with heap := h3, toks := s'.toks + 1 } := x2.ext (tk := s'.toks + 1) uC nC hs3.extBut
    exact ⟨Z', .next, _, H1, z, x3, .next, hK⟩
end
end

section
noncomputable def tabGet {α : Type} : List (Nat × α) → Nat → Option α
  | [], _ => none
  | (j, v) :: r, k => bif Nat.beq j k then some v else tabGet r k
noncomputable def tabGet2 {α : Type} : List ((Nat × Nat) × α) → Nat → Nat → Option α
  | [], _, _ => none
  | ((i, j), v) :: r, a, b => bif Nat.beq i a && Nat.beq j b then some v else tabGet2 r a b
noncomputable def tabHas2 : List (Nat × Nat) → Nat → Nat → Bool
  | [], _, _ => false
  | (i, j) :: r, a, b => bif Nat.beq i a && Nat.beq j b then true else tabHas2 r a b
theorem tabGet_mem {α : Type} {k : Nat} {v : α} : ∀ {l : List (Nat × α)}, tabGet l k = some v → (k, v) ∈ l
  | [], h => by simp [tabGet] at h
  | (j, u) :: r, h => by
    unfold tabGet at h
    cases q : Nat.beq j k with
    | true => rw [q] at h; cases h; rw [beq_of q]; exact List.mem_cons_self
    | false => rw [q] at h; exact List.mem_cons_of_mem _ (tabGet_mem h)
theorem tabGet2_mem {α : Type} {a b : Nat} {v : α} : ∀ {l : List ((Nat × Nat) × α)}, tabGet2 l a b = some v → ((a, b), v) ∈ l
  | [], h => by simp [tabGet2] at h
  | ((i, j), u) :: r, h => by
    unfold tabGet2 at h
    cases q : (Nat.beq i a && Nat.beq j b) with
    | true => rw [q] at h; cases h; rw [Bool.and_eq_true] at q; rw [beq_of q.1, beq_of q.2]; exact List.mem_cons_self
    | false => rw [q] at h; exact List.mem_cons_of_mem _ (tabGet2_mem h)
theorem tabHas2_mem {a b : Nat} : ∀ {l : List (Nat × Nat)}, tabHas2 l a b = true → (a, b) ∈ l
  | [], h => by simp [tabHas2] at h
  | (i, j) :: r, h => by
    unfold tabHas2 at h
    cases q : (Nat.beq i a && Nat.beq j b) with
    | true => rw [Bool.and_eq_true] at q; rw [beq_of q.1, beq_of q.2]; exact List.mem_cons_self
    | false => rw [q] at h; exact List.mem_cons_of_mem _ (tabHas2_mem h)

noncomputable def globL : List (Nat × Value) := [(7, .ref 138), (11, .ref 145), (2, .ref 103), (5, .ref 110), (77, .ref 477), (79, .ref 484), (95, .ref 547), (97, .ref 554), (121, .ref 617), (123, .ref 624), (125, .ref 631), (129, .ref 638), (135, .ref 643), (137, .ref 648), (138, .ref 653), (141, .ref 658), (143, .ref 663), (145, .ref 668), (146, .ref 675), (148, .ref 680), (154, .ref 687), (158, .ref 692), (161, .ref 697), (163, .ref 704), (168, .ref 709), (170, .ref 714), (180, .ref 721), (185, .ref 726), (188, .ref 731), (113, .ref 80), (18, .ref 218), (91, .ref 272), (192, .ref 305), (140, .ref 340), (92, .ref 375), (139, .ref 466), (109, .ref 536), (193, .ref 606)]
noncomputable def builtL : List (Nat × Value) := [(4, .builtin "len"), (9, .type "bytes"), (63, .type "range"), (144, .builtin "max"), (134, .builtin "min"), (142, .builtin "sum"), (175, .builtin "sorted"), (182, .type "list"), (114, .type "str")]
noncomputable def gintL : List (Nat × Int) := [(8, 8), (23, 1)]
noncomputable def clsL : List (Nat × Nat) := [(218, 0), (272, 0), (305, 0), (340, 0), (375, 0), (466, 0), (536, 0), (606, 0)]
noncomputable def fldL : List (Nat × Nat) := [(272, 17), (305, 22), (305, 24), (305, 25), (305, 26), (305, 27), (305, 28), (305, 29), (305, 30), (305, 31), (305, 32), (305, 33), (305, 34), (305, 35), (305, 36), (305, 37), (305, 38), (305, 39), (305, 40), (305, 41), (305, 42), (305, 43), (340, 44), (340, 45), (340, 46), (340, 47), (375, 49), (375, 50), (375, 51), (375, 52), (375, 53), (375, 54), (375, 55), (375, 56), (466, 36), (466, 57), (466, 58), (466, 60), (466, 61), (466, 62), (536, 59), (536, 80), (536, 81), (536, 57), (536, 82), (536, 83), (536, 84), (536, 85), (536, 86), (536, 87), (536, 88), (536, 89), (536, 90), (606, 81), (606, 57)]
noncomputable def methL : List ((Nat × Nat) × Nat) := [((218, 15), 159), ((272, 15), 241), ((340, 48), 337), ((466, 67), 407), ((466, 75), 442), ((536, 93), 505), ((536, 94), 512), ((606, 103), 575), ((606, 104), 582), ((606, 107), 589), ((606, 111), 596), ((606, 110), 603)]
noncomputable def iniL : List (Nat × Nat) := [(272, 234), (305, 288), (340, 330), (375, 358), (466, 400), (536, 498), (606, 568)]
noncomputable def fnL : List (Nat × (Nat × Nat)) := [(103, (14, 0)), (110, (15, 0)), (138, (28, 0)), (145, (29, 0)), (159, (30, 0)), (234, (32, 0)), (241, (32, 1)), (288, (33, 0)), (330, (36, 0)), (337, (36, 1)), (358, (37, 0)), (400, (39, 0)), (407, (39, 1)), (442, (39, 6)), (477, (41, 0)), (484, (42, 0)), (498, (43, 0)), (505, (43, 1)), (512, (43, 2)), (547, (44, 0)), (554, (45, 0)), (568, (46, 0)), (575, (46, 1)), (582, (46, 2)), (589, (46, 3)), (596, (46, 4)), (603, (46, 5)), (617, (48, 0)), (624, (49, 0)), (631, (50, 0)), (638, (51, 0)), (643, (52, 0)), (648, (53, 0)), (653, (54, 0)), (658, (55, 0)), (663, (56, 0)), (668, (57, 0)), (675, (58, 0)), (680, (59, 0)), (687, (60, 0)), (692, (61, 0)), (697, (62, 0)), (704, (63, 0)), (709, (64, 0)), (714, (65, 0)), (721, (66, 0)), (726, (67, 0)), (731, (68, 0))]

structure PF (g : Gl) : Prop where
  glob : ∀ k v, tabGet globL k = some v → GlobIs g k v
  built : ∀ k v, tabGet builtL k = some v → GlobIs g k v
  gint : ∀ k i, tabGet gintL k = some i → ∃ tk, GlobIs g k (.int i tk)
  cls : ∀ C, tabHas2 clsL C 0 = true → ClsOk g.K C
  fld : ∀ C k, tabHas2 fldL C k = true → FieldOk g.K C k
  meth : ∀ C k fa, tabGet2 methL C k = some fa → MethOk g.K C k fa
  ini : ∀ C fI, tabGet iniL C = some fI → findIn g.K (.ref C) "__init__" = some (some (.ref fI)) ∧ typeIn g.K (.ref fI) = some (.type "function")
  ini0 : findIn g.K (.ref 218) "__init__" = some (some (.builtin "object.__init__"))
  fn : ∀ a ij, tabGet fnL a = some ij → FnAt g.K a ij.1 ij.2
  kp : ∀ k v, tabGet globL k = some v → Kp g v
  bad : OwnCls (nm 113) 80 [.type "Exception", .type "BaseException", .type "object"] "Exception.__new__" g.mg g.s1.heap
end

section
open PySem.Calls
noncomputable def runT (ok : Thread → Bool) (st : SharedT → Thread → Option (SharedT × Thread)) (n : Nat) : SharedT → Thread → Option SharedT :=
  @Nat.rec (fun _ => SharedT → Thread → Option SharedT) (fun _ _ => none)
    (fun _ ih s t => match through t with
      | true => some s
      | false => match ok t with
        | false => none
        | true => match st s t with
          | some (s', t') => ih s' t'
          | none => none) n
theorem runT_of {tb : String → Option Builtin} {p : Program} {w : World} {m : Nat} {ann : Option Value} : ∀ {n : Nat} {s s' : SharedT} {t : Thread},
    runT (stepOk m ann) (stepT (denote tb) p w) n s t = some s' → topRun tb p w m ann n s.abs t = some s'.abs
  | 0, _, _, _, h => by cases h
  | n + 1, s, s', t, h => by
    unfold topRun
    have h' : (match through t with
      | true => some s
      | false => match stepOk m ann t with
        | false => none
        | true => match stepT (denote tb) p w s t with
          | some (s', t') => runT (stepOk m ann) (stepT (denote tb) p w) n s' t'
          | none => none) = some s' := h
    cases ht : through t with
    | true => rw [ht] at h'; cases h'; rfl
    | false =>
      rw [ht] at h'
      cases hk : stepOk m ann t with
      | false => rw [hk] at h'; cases h'
      | true =>
        rw [hk] at h'
        cases hs : stepT (denote tb) p w s t with
        | none => rw [hs] at h'; cases h'
        | some r => obtain ⟨s₂, t₂⟩ := r; rw [hs] at h'; rw [stepT_spec hs]; exact runT_of h'
noncomputable def btOf (l : List Obj) : BT := (l.foldl (fun (x : BT × Nat) o => (x.1.ins x.2 o, x.2 + 1)) (.nil, 0)).1
noncomputable def s0T (P : Params) (os : OsState) : SharedT := ⟨btOf (boot_heap P).objs.toList, 11, (boot_heap P).life, #[], boot_drawn, boot_toks, os⟩
noncomputable def pg : Program := PySem.Challenge.rw_xm0865_01.row.prog
noncomputable def runF (w : World) (n : Nat) : SharedT → Thread → Option SharedT :=
  runT (Fast.tw6613529449190102663 11 (some (.ref 6))) (Fast.tw10156331382660048174 (Fast.tw11892475500146522536 Fast.tw14364793385576792824) pg w) n
noncomputable def pq : Program := view pg [68]
noncomputable def pl : List Str := (pg.main.scope.names.map (·.1)).filter fun x => !(x == Str.ofString "law")
noncomputable def xt (s : Shared) : Bool := xlAt pq [] s && recOk (RowW.records PySem.Challenge.rw_xm0865_01.row.toRowW) s
end

section
noncomputable def fragOf (h : Heap) (as : List Addr) : Frag := as.filterMap fun a => (h.get? a).map (a, ·)
theorem frag_in (h : Heap) : ∀ as : List Addr, (fragOf h as).In h
  | [], a, o, e => by cases e
  | b :: as, a, o, e => by
    unfold fragOf at e
    rw [List.filterMap_cons] at e
    cases q : h.get? b with
    | none => rw [q] at e; exact frag_in h as a o e
    | some o' =>
      rw [q] at e
      have e : List.lookup a ((b, o') :: fragOf h as) = some o := e
      rw [List.lookup_cons] at e
      cases hb : (a == b) with
      | true => rw [hb] at e; cases e; rw [beq_iff_eq.mp hb]; exact q
      | false => rw [hb] at e; exact frag_in h as a o e
noncomputable def withNext (h : Heap) (a : Addr) : List Addr := match h.get? a with
  | some ⟨_, _, .cls cd, _⟩ => [a, cd.ns]
  | some ⟨_, _, .func fd, _⟩ => (match fd.code with
    | .ref c => [a, c]
    | _ => [a])
  | _ => [a]
noncomputable def kAs (h : Heap) : List Addr := mainGlobals :: ((clsL.map (·.1) ++ 80 :: fnL.map (·.1)).flatMap (withNext h) ++ List.range 732)
noncomputable def fnView (K : Frag) (a : Addr) : Option ((Arguments × FuncBody × Scope) × (Addr × List (Str × Addr)) × (Value × Value) × Addr × Bool) := match K.lookup a with
  | some ⟨_, _, .func fd, _⟩ => some ((fd.params, fd.body, fd.scope), (fd.globals, fd.closure), (fd.defaults, fd.kwdefaults), fd.builtins, codeIn K fd.code fd.qualname)
  | _ => none
noncomputable def intView (K : Frag) (x : Str) : Option Int := match nsIn K mainGlobals x with
  | some (some (.int i _)) => some i
  | _ => none
noncomputable def yK (K : Frag) :=
  (globL.map (fun x => (nsIn K mainGlobals (nm x.1), keepIn K x.2)),
   builtL.map (fun x => nsIn K mainGlobals (nm x.1)),
   gintL.map (fun x => intView K (nm x.1)),
   fldL.map (fun x => (findIn K (.ref x.1) (nm x.2), takerIn K x.1 (nm x.2))),
   methL.map (fun x => (findIn K (.ref x.1.1) (nm x.1.2), typeIn K (.ref x.2), fnIn K x.2, keepIn K (.ref x.2))),
   iniL.map (fun x => (findIn K (.ref x.1) "__init__", typeIn K (.ref x.2))),
   clsL.map (fun x => (findIn K (.ref x.1) "__getattribute__", findIn K (.ref x.1) "__getattr__", hasDictIn K x.1, findIn K (.ref x.1) "__setattr__", plainOver K x.1, makesIn K x.1)),
   findIn K (.ref 218) "__init__",
   fnL.map (fun x => fnView K x.1),
   nsIn K mainGlobals (nm 113), excIn K 80 [.type "Exception", .type "BaseException", .type "object"] "Exception.__new__")
noncomputable def yV :=
  (globL.map (fun x => (some (some x.2), true)),
   builtL.map (fun _ => (some none : Option (Option Value))),
   gintL.map (fun x => some x.2),
   fldL.map (fun _ => ((some none, some none) : Option (Option Value) × Option (Option Value))),
   methL.map (fun x => (some (some (Value.ref x.2)), some (Value.type "function"), true, true)),
   iniL.map (fun x => (some (some (Value.ref x.2)), some (Value.type "function"))),
   clsL.map (fun _ => (some (some (Value.builtin "object.__getattribute__")), (some none : Option (Option Value)), true, some (some (Value.builtin "object.__setattr__")), true, true)),
   some (some (Value.builtin "object.__init__")),
   fnL.map (fun x => some (((fnI x.2.1 x.2.2).params, FuncBody.stmts (fnI x.2.1 x.2.2).body, (fnI x.2.1 x.2.2).scope), (mainGlobals, ([] : List (Str × Addr))), (Value.none, Value.none), builtinsNs, true)),
   some (some (Value.ref 80)), true)
theorem map_all {α β : Type} {l : List α} {f h : α → β} (e : l.map f = l.map h) : ∀ a ∈ l, f a = h a := List.map_inj_left.mp e
theorem fn_at {K : Frag} {a i j : Nat} (e : fnView K a = some (((fnI i j).params, FuncBody.stmts (fnI i j).body, (fnI i j).scope), (mainGlobals, ([] : List (Str × Addr))), (Value.none, Value.none), builtinsNs, true)) : FnAt K a i j := by
  unfold fnView at e
  split at e
  · rename_i oc od fd osl h
    obtain ⟨name, qual, params, body, scope, gl, clo, dV, kV, doc, pm, an, cdv, ct, bl⟩ := fd
    simp only [Option.some.injEq, Prod.mk.injEq] at e
    obtain ⟨⟨rfl, rfl, rfl⟩, ⟨rfl, rfl⟩, ⟨rfl, rfl⟩, rfl, hc⟩ := e
    exact ⟨oc, od, osl, name, qual, doc, pm, an, cdv, ct, h, hc⟩
  · cases e
theorem int_view {K : Frag} {x : Str} {i : Int} (q : intView K x = some i) : ∃ tk, nsIn K mainGlobals x = some (some (.int i tk)) := by
  unfold intView at q
  split at q
  · rename_i i' tk e; cases q; exact ⟨tk, e⟩
  · cases q
theorem kp_val {g : Gl} {v : Value} (q : keepIn g.K v = true) : Kp g v := by
  cases v with
  | ref a => exact kp_keep q
  | _ => cases q
theorem pf_of {g : Gl} (hY : yK g.K = yV) : PF g := by
  have X := g.KX
  have e1 : globL.map (fun x => (nsIn g.K mainGlobals (nm x.1), keepIn g.K x.2)) = globL.map (fun x => (some (some x.2), true)) := congrArg Prod.fst hY
  have hY := congrArg Prod.snd hY
  have e2 : builtL.map (fun x => nsIn g.K mainGlobals (nm x.1)) = builtL.map (fun _ => (some none : Option (Option Value))) := congrArg Prod.fst hY
  have hY := congrArg Prod.snd hY
  have e3 : gintL.map (fun x => intView g.K (nm x.1)) = gintL.map (fun x => some x.2) := congrArg Prod.fst hY
  have hY := congrArg Prod.snd hY
  have e5 : fldL.map (fun x => (findIn g.K (.ref x.1) (nm x.2), takerIn g.K x.1 (nm x.2))) = fldL.map (fun _ => ((some none, some none) : Option (Option Value) × Option (Option Value))) := congrArg Prod.fst hY
  have hY := congrArg Prod.snd hY
  have e6 : methL.map (fun x => (findIn g.K (.ref x.1.1) (nm x.1.2), typeIn g.K (.ref x.2), fnIn g.K x.2, keepIn g.K (.ref x.2))) = methL.map (fun x => (some (some (Value.ref x.2)), some (Value.type "function"), true, true)) := congrArg Prod.fst hY
  have hY := congrArg Prod.snd hY
  have e7 : iniL.map (fun x => (findIn g.K (.ref x.1) "__init__", typeIn g.K (.ref x.2))) = iniL.map (fun x => (some (some (Value.ref x.2)), some (Value.type "function"))) := congrArg Prod.fst hY
  have hY := congrArg Prod.snd hY
  have e8 : clsL.map (fun x => (findIn g.K (.ref x.1) "__getattribute__", findIn g.K (.ref x.1) "__getattr__", hasDictIn g.K x.1, findIn g.K (.ref x.1) "__setattr__", plainOver g.K x.1, makesIn g.K x.1)) = clsL.map (fun _ => (some (some (Value.builtin "object.__getattribute__")), (some none : Option (Option Value)), true, some (some (Value.builtin "object.__setattr__")), true, true)) := congrArg Prod.fst hY
  have hY := congrArg Prod.snd hY
  have e9 : findIn g.K (.ref 218) "__init__" = some (some (Value.builtin "object.__init__")) := congrArg Prod.fst hY
  have hY := congrArg Prod.snd hY
  have e10 : fnL.map (fun x => fnView g.K x.1) = fnL.map (fun x => some (((fnI x.2.1 x.2.2).params, FuncBody.stmts (fnI x.2.1 x.2.2).body, (fnI x.2.1 x.2.2).scope), (mainGlobals, ([] : List (Str × Addr))), (Value.none, Value.none), builtinsNs, true)) := congrArg Prod.fst hY
  have hY := congrArg Prod.snd hY
  have e11 : nsIn g.K mainGlobals (nm 113) = some (some (Value.ref 80)) := congrArg Prod.fst hY
  have e12 : excIn g.K 80 [.type "Exception", .type "BaseException", .type "object"] "Exception.__new__" = true := congrArg Prod.snd hY
  clear hY
  refine ⟨fun k v h => ?_, fun k v h => ?_, fun k i h => ?_, fun C h => ?_, fun C k h => ?_, fun C k fa h => ?_, fun C fI h => ?_, e9, fun a ij h => ?_, fun k v h => ?_, ?_⟩
  · exact .inl (mg_of X g.TR.g (Prod.mk.inj (map_all e1 _ (tabGet_mem h))).1)
  · have q := map_all e2 _ (tabGet_mem h)
    have eb : builtL.map (fun x => bootBuiltins (nm x.1)) = builtL.map fun x => some x.2 := by kernel_rfl
    have en : builtL.all (fun x => decide (nm x.1 ≠ "__name__")) = true := by kernel_rfl
    exact .inr ⟨mg_none_of X g.TR.g q, (g.TR.builtins _ (of_decide_eq_true (List.all_eq_true.mp en _ (tabGet_mem h)))).trans (map_all eb _ (tabGet_mem h))⟩
  · obtain ⟨tk, e⟩ := int_view (map_all e3 _ (tabGet_mem h))
    exact ⟨tk, .inl (mg_of X g.TR.g e)⟩
  · obtain ⟨a, b⟩ := Prod.mk.inj (map_all e8 _ (tabHas2_mem h))
    obtain ⟨b, c⟩ := Prod.mk.inj b
    obtain ⟨c, d⟩ := Prod.mk.inj c
    obtain ⟨d, e⟩ := Prod.mk.inj d
    obtain ⟨e, f⟩ := Prod.mk.inj e
    exact ⟨a, b, c, d, e, f⟩
  · exact Prod.mk.inj (map_all e5 _ (tabHas2_mem h))
  · obtain ⟨a, b⟩ := Prod.mk.inj (map_all e6 _ (tabGet2_mem h))
    obtain ⟨b, c⟩ := Prod.mk.inj b
    obtain ⟨c, d⟩ := Prod.mk.inj c
    exact ⟨a, b, c, d⟩
  · exact Prod.mk.inj (map_all e7 _ (tabGet_mem h))
  · exact fn_at (map_all e10 _ (tabGet_mem h))
  · exact kp_val (Prod.mk.inj (map_all e1 _ (tabGet_mem h))).2
  · exact own_of_in X g.TR e11 e12
noncomputable def says (w : World) (h : Heap) : Prop := ∃ K : Frag, K.In h ∧ yK K = yV
theorem says_of (w : World) (s : Shared) (e : yK (fragOf s.heap (kAs s.heap)) = yV) : says w s.heap := ⟨_, frag_in _ _, e⟩
theorem says_keeps (w : World) (h h' : Heap) (x : says w h) (k : ∀ b o, h.get? b = some o → h'.get? b = some o) : says w h' := x.elim fun K y => ⟨K, y.1.keeps k, y.2⟩
end

section
open PySem.Calls
set_option maxHeartbeats 0
theorem boot_abs (P : Params) : boot_heap P = absHeap (btOf (boot_heap P).objs.toList) 11 (boot_heap P).life := by kernel_rfl
theorem top_run (w : World) (os : OsState) : (runF w 11384 (s0T w.params os) (topStub pg)).map (fun s => (namesBound pg s.abs.heap && gensDone s.abs && staticsOk (importedModules pg.main.body) (boot_heap w.params) s.abs.heap && laidKept (boot_heap w.params) s.abs.heap,
    openSeen pq pl (importedModules pg.main.body) xt true s.abs, yK (fragOf s.abs.heap (kAs s.abs.heap)))) = some (true, openGood pq pl, yV) := by kernel_rfl
end

section
open PySem.Calls
theorem boot_size (P : Params) : ((boot_heap P).isNs mainGlobals, (boot_heap P).objs.size, (boot_heap P).nsMap mainGlobals "__annotations__") = (true, 11, some (.ref 6)) := by kernel_rfl
theorem runF_eq (w : World) (n : Nat) : runF w n = runT (stepOk 11 (some (.ref 6))) (stepT (denote treeTable) pg w) n := by
  unfold runF
  rw [← Fast.te6613529449190102663, ← Fast.te10156331382660048174, ← Fast.te11892475500146522536, ← Fast.te14364793385576792824]
theorem left : LeftO pg pq pl xt (fun s => yK (fragOf s.heap (kAs s.heap))) (fun _ => yV) 11384 := fun w => by
  obtain ⟨s, e, e'⟩ := Option.map_eq_some_iff.mp (boot_open (p := pg) (N := 11384) (by kernel_rfl) (by rfl) (fun s => by rfl) w)
  obtain ⟨h, gs, d, k, os⟩ := s
  obtain ⟨rfl, rfl, rfl, rfl⟩ : h = boot_heap w.params ∧ gs = #[] ∧ d = boot_drawn ∧ k = boot_toks := by simpa using e'
  obtain ⟨s1, r, e1⟩ := Option.map_eq_some_iff.mp (top_run w os)
  rw [runF_eq] at r
  have r := runT_of r
  have ea : (s0T w.params os).abs = ⟨boot_heap w.params, #[], boot_drawn, boot_toks, os⟩ := by
    unfold s0T SharedT.abs
    dsimp only
    rw [← boot_abs]
  rw [ea] at r
  obtain ⟨a1, a2⟩ := Prod.mk.inj e1
  simp only [Bool.and_eq_true] at a1
  obtain ⟨⟨⟨b1, b2⟩, b3⟩, b4⟩ := a1
  obtain ⟨z1, z2⟩ := Prod.mk.inj (boot_size w.params)
  obtain ⟨z2, z3⟩ := Prod.mk.inj z2
  unfold openEnds
  rw [e, Option.bind_some]
  unfold topFrom
  dsimp only
  rw [z1, z2, z3]
  rw [show ((#[] : Array GenState).size == 0) = true from rfl, Bool.and_self]
  rw [r, Option.bind_some, b1, b2, b3, b4]
  exact congrArg some a2
end

section
set_option maxHeartbeats 0 in
theorem well_said : PySem.Challenge.rw_xm0865_01.wellSaid = true := by
  unfold OpenLaw.wellSaid OpenRow.wellSaid OpenRow.partSaid looksOpen
  repeat' (with_reducible refine look_both ?_ ?_)
  all_goals (try rw [Fast.te8326940854005059898])
  all_goals (try rw [Fast.te17691160309236699985])
  all_goals (try rw [Fast.te13343964577679436407])
  all_goals (try rw [Fast.te8377067652309620493])
  all_goals (try rw [Fast.te17119622794617984870])
  all_goals (try rw [Fast.te17868728402115742887])
  all_goals decide +kernel
end

section
theorem N_0 : Str.ofString "data" = nm 0 := rfl
theorem N_1 : Str.ofString "at" = nm 1 := rfl
theorem N_2 : Str.ofString "read_fixed32" = nm 2 := rfl
theorem N_3 : Str.ofString "ShortOctets" = nm 3 := rfl
theorem N_4 : Str.ofString "len" = nm 4 := rfl
theorem N_5 : Str.ofString "read_fixed64" = nm 5 := rfl
theorem N_6 : Str.ofString "ik" = nm 6 := rfl
theorem N_7 : Str.ofString "user_of" = nm 7 := rfl
theorem N_8 : Str.ofString "TAG_LENGTH" = nm 8 := rfl
theorem N_9 : Str.ofString "bytes" = nm 9 := rfl
theorem N_10 : Str.ofString "Corrupt" = nm 10 := rfl
theorem N_11 : Str.ofString "tag_of" = nm 11 := rfl
theorem N_12 : Str.ofString "self" = nm 12 := rfl
theorem N_13 : Str.ofString "a" = nm 13 := rfl
theorem N_14 : Str.ofString "b" = nm 14 := rfl
theorem N_15 : Str.ofString "compare" = nm 15 := rfl
theorem N_16 : Str.ofString "__init__" = nm 16 := rfl
theorem N_17 : Str.ofString "user_order" = nm 17 := rfl
theorem N_18 : Str.ofString "BytesOrder" = nm 18 := rfl
theorem N_19 : Str.ofString "c" = nm 19 := rfl
theorem N_20 : Str.ofString "tag_a" = nm 20 := rfl
theorem N_21 : Str.ofString "tag_b" = nm 21 := rfl
theorem N_22 : Str.ofString "check" = nm 22 := rfl
theorem N_23 : Str.ofString "CHECK_CRC" = nm 23 := rfl
theorem N_24 : Str.ofString "log_block" = nm 24 := rfl
theorem N_25 : Str.ofString "sync_writes" = nm 25 := rfl
theorem N_26 : Str.ofString "create_missing" = nm 26 := rfl
theorem N_27 : Str.ofString "paranoid" = nm 27 := rfl
theorem N_28 : Str.ofString "write_buffer" = nm 28 := rfl
theorem N_29 : Str.ofString "max_height" = nm 29 := rfl
theorem N_30 : Str.ofString "heights" = nm 30 := rfl
theorem N_31 : Str.ofString "block_size" = nm 31 := rfl
theorem N_32 : Str.ofString "restart_interval" = nm 32 := rfl
theorem N_33 : Str.ofString "filter_bits" = nm 33 := rfl
theorem N_34 : Str.ofString "filter_base_lg" = nm 34 := rfl
theorem N_35 : Str.ofString "max_file_size" = nm 35 := rfl
theorem N_36 : Str.ofString "num_levels" = nm 36 := rfl
theorem N_37 : Str.ofString "l0_trigger" = nm 37 := rfl
theorem N_38 : Str.ofString "l0_stop" = nm 38 := rfl
theorem N_39 : Str.ofString "base_bytes" = nm 39 := rfl
theorem N_40 : Str.ofString "level_factor" = nm 40 := rfl
theorem N_41 : Str.ofString "max_mem_level" = nm 41 := rfl
theorem N_42 : Str.ofString "grandparent_factor" = nm 42 := rfl
theorem N_43 : Str.ofString "expand_factor" = nm 43 := rfl
theorem N_44 : Str.ofString "number" = nm 44 := rfl
theorem N_45 : Str.ofString "size" = nm 45 := rfl
theorem N_46 : Str.ofString "smallest" = nm 46 := rfl
theorem N_47 : Str.ofString "largest" = nm 47 := rfl
theorem N_48 : Str.ofString "row" = nm 48 := rfl
theorem N_49 : Str.ofString "comparator" = nm 49 := rfl
theorem N_50 : Str.ofString "log_number" = nm 50 := rfl
theorem N_51 : Str.ofString "next_file" = nm 51 := rfl
theorem N_52 : Str.ofString "last_seq" = nm 52 := rfl
theorem N_53 : Str.ofString "compact_pointers" = nm 53 := rfl
theorem N_54 : Str.ofString "deleted" = nm 54 := rfl
theorem N_55 : Str.ofString "added" = nm 55 := rfl
theorem N_56 : Str.ofString "reset" = nm 56 := rfl
theorem N_57 : Str.ofString "order" = nm 57 := rfl
theorem N_58 : Str.ofString "files" = nm 58 := rfl
theorem N_59 : Str.ofString "level" = nm 59 := rfl
theorem N_60 : Str.ofString "refs" = nm 60 := rfl
theorem N_61 : Str.ofString "score" = nm 61 := rfl
theorem N_62 : Str.ofString "score_level" = nm 62 := rfl
theorem N_63 : Str.ofString "range" = nm 63 := rfl
theorem N_64 : Str.ofString "append" = nm 64 := rfl
theorem N_65 : Str.ofString "low_user" = nm 65 := rfl
theorem N_66 : Str.ofString "high_user" = nm 66 := rfl
theorem N_67 : Str.ofString "overlapping" = nm 67 := rfl
theorem N_68 : Str.ofString "low" = nm 68 := rfl
theorem N_69 : Str.ofString "high" = nm 69 := rfl
theorem N_70 : Str.ofString "found" = nm 70 := rfl
theorem N_71 : Str.ofString "i" = nm 71 := rfl
theorem N_72 : Str.ofString "meta" = nm 72 := rfl
theorem N_73 : Str.ofString "first" = nm 73 := rfl
theorem N_74 : Str.ofString "last" = nm 74 := rfl
theorem N_75 : Str.ofString "level_octets" = nm 75 := rfl
theorem N_76 : Str.ofString "octets" = nm 76 := rfl
theorem N_77 : Str.ofString "total_size" = nm 77 := rfl
theorem N_78 : Str.ofString "total" = nm 78 := rfl
theorem N_79 : Str.ofString "key_range" = nm 79 := rfl
theorem N_80 : Str.ofString "version" = nm 80 := rfl
theorem N_81 : Str.ofString "options" = nm 81 := rfl
theorem N_82 : Str.ofString "users" = nm 82 := rfl
theorem N_83 : Str.ofString "inputs" = nm 83 := rfl
theorem N_84 : Str.ofString "grandparents" = nm 84 := rfl
theorem N_85 : Str.ofString "edit" = nm 85 := rfl
theorem N_86 : Str.ofString "manual" = nm 86 := rfl
theorem N_87 : Str.ofString "grand_at" = nm 87 := rfl
theorem N_88 : Str.ofString "grand_octets" = nm 88 := rfl
theorem N_89 : Str.ofString "seen_key" = nm 89 := rfl
theorem N_90 : Str.ofString "places" = nm 90 := rfl
theorem N_91 : Str.ofString "InternalOrder" = nm 91 := rfl
theorem N_92 : Str.ofString "VersionEdit" = nm 92 := rfl
theorem N_93 : Str.ofString "grand_limit" = nm 93 := rfl
theorem N_94 : Str.ofString "trivial" = nm 94 := rfl
theorem N_95 : Str.ofString "max_octets_of" = nm 95 := rfl
theorem N_96 : Str.ofString "result" = nm 96 := rfl
theorem N_97 : Str.ofString "score_of" = nm 97 := rfl
theorem N_98 : Str.ofString "best_top" = nm 98 := rfl
theorem N_99 : Str.ofString "best_bottom" = nm 99 := rfl
theorem N_100 : Str.ofString "best_level" = nm 100 := rfl
theorem N_101 : Str.ofString "top" = nm 101 := rfl
theorem N_102 : Str.ofString "bottom" = nm 102 := rfl
theorem N_103 : Str.ofString "needs_compaction" = nm 103 := rfl
theorem N_104 : Str.ofString "user_range" = nm 104 := rfl
theorem N_105 : Str.ofString "ends" = nm 105 := rfl
theorem N_106 : Str.ofString "pointers" = nm 106 := rfl
theorem N_107 : Str.ofString "pick" = nm 107 := rfl
theorem N_108 : Str.ofString "pointer" = nm 108 := rfl
theorem N_109 : Str.ofString "Compaction" = nm 109 := rfl
theorem N_110 : Str.ofString "set_up_other" = nm 110 := rfl
theorem N_111 : Str.ofString "pick_range" = nm 111 := rfl
theorem N_112 : Str.ofString "count" = nm 112 := rfl
theorem N_113 : Str.ofString "BadOption" = nm 113 := rfl
theorem N_114 : Str.ofString "str" = nm 114 := rfl
theorem N_115 : Str.ofString "span" = nm 115 := rfl
theorem N_116 : Str.ofString "grown" = nm 116 := rfl
theorem N_117 : Str.ofString "room" = nm 117 := rfl
theorem N_118 : Str.ofString "cost" = nm 118 := rfl
theorem N_119 : Str.ofString "above" = nm 119 := rfl
theorem N_120 : Str.ofString "nums" = nm 120 := rfl
theorem N_121 : Str.ofString "_law_draw" = nm 121 := rfl
theorem N_122 : Str.ofString "u" = nm 122 := rfl
theorem N_123 : Str.ofString "_law_user" = nm 123 := rfl
theorem N_124 : Str.ofString "key" = nm 124 := rfl
theorem N_125 : Str.ofString "_law_ikey" = nm 125 := rfl
theorem N_126 : Str.ofString "y" = nm 126 := rfl
theorem N_127 : Str.ofString "q" = nm 127 := rfl
theorem N_128 : Str.ofString "w" = nm 128 := rfl
theorem N_129 : Str.ofString "_law_lay" = nm 129 := rfl
theorem N_130 : Str.ofString "levels" = nm 130 := rfl
theorem N_131 : Str.ofString "j" = nm 131 := rfl
theorem N_132 : Str.ofString "s" = nm 132 := rfl
theorem N_133 : Str.ofString "k" = nm 133 := rfl
theorem N_134 : Str.ofString "min" = nm 134 := rfl
theorem N_135 : Str.ofString "_law_rows" = nm 135 := rfl
theorem N_136 : Str.ofString "f" = nm 136 := rfl
theorem N_137 : Str.ofString "_law_metas" = nm 137 := rfl
theorem N_138 : Str.ofString "_law_version" = nm 138 := rfl
theorem N_139 : Str.ofString "Version" = nm 139 := rfl
theorem N_140 : Str.ofString "FileMeta" = nm 140 := rfl
theorem N_141 : Str.ofString "_law_octets" = nm 141 := rfl
theorem N_142 : Str.ofString "sum" = nm 142 := rfl
theorem N_143 : Str.ofString "_law_span" = nm 143 := rfl
theorem N_144 : Str.ofString "max" = nm 144 := rfl
theorem N_145 : Str.ofString "_law_touch" = nm 145 := rfl
theorem N_146 : Str.ofString "_law_joined" = nm 146 := rfl
theorem N_147 : Str.ofString "g" = nm 147 := rfl
theorem N_148 : Str.ofString "_law_best" = nm 148 := rfl
theorem N_149 : Str.ofString "parts" = nm 149 := rfl
theorem N_150 : Str.ofString "fullest" = nm 150 := rfl
theorem N_151 : Str.ofString "p" = nm 151 := rfl
theorem N_152 : Str.ofString "r" = nm 152 := rfl
theorem N_153 : Str.ofString "world" = nm 153 := rfl
theorem N_154 : Str.ofString "_law_scored" = nm 154 := rfl
theorem N_155 : Str.ofString "want" = nm 155 := rfl
theorem N_156 : Str.ofString "got" = nm 156 := rfl
theorem N_157 : Str.ofString "worlds" = nm 157 := rfl
theorem N_158 : Str.ofString "_law_stands" = nm 158 := rfl
theorem N_159 : Str.ofString "place" = nm 159 := rfl
theorem N_160 : Str.ofString "most" = nm 160 := rfl
theorem N_161 : Str.ofString "_law_upper" = nm 161 := rfl
theorem N_162 : Str.ofString "upper" = nm 162 := rfl
theorem N_163 : Str.ofString "_law_whole" = nm 163 := rfl
theorem N_164 : Str.ofString "lower" = nm 164 := rfl
theorem N_165 : Str.ofString "grand" = nm 165 := rfl
theorem N_166 : Str.ofString "more" = nm 166 := rfl
theorem N_167 : Str.ofString "cheap" = nm 167 := rfl
theorem N_168 : Str.ofString "_law_told" = nm 168 := rfl
theorem N_169 : Str.ofString "alone" = nm 169 := rfl
theorem N_170 : Str.ofString "_law_done" = nm 170 := rfl
theorem N_171 : Str.ofString "fresh" = nm 171 := rfl
theorem N_172 : Str.ofString "rest" = nm 172 := rfl
theorem N_173 : Str.ofString "pivot" = nm 173 := rfl
theorem N_174 : Str.ofString "part" = nm 174 := rfl
theorem N_175 : Str.ofString "sorted" = nm 175 := rfl
theorem N_176 : Str.ofString "pair" = nm 176 := rfl
theorem N_177 : Str.ofString "away" = nm 177 := rfl
theorem N_178 : Str.ofString "x" = nm 178 := rfl
theorem N_179 : Str.ofString "others" = nm 179 := rfl
theorem N_180 : Str.ofString "_law_readied" = nm 180 := rfl
theorem N_181 : Str.ofString "which" = nm 181 := rfl
theorem N_182 : Str.ofString "list" = nm 182 := rfl
theorem N_183 : Str.ofString "picker" = nm 183 := rfl
theorem N_184 : Str.ofString "kept" = nm 184 := rfl
theorem N_185 : Str.ofString "_law_picked" = nm 185 := rfl
theorem N_186 : Str.ofString "refused" = nm 186 := rfl
theorem N_187 : Str.ofString "script" = nm 187 := rfl
theorem N_188 : Str.ofString "law" = nm 188 := rfl
theorem N_189 : Str.ofString "head" = nm 189 := rfl
theorem N_190 : Str.ofString "t" = nm 190 := rfl
theorem N_191 : Str.ofString "one" = nm 191 := rfl
theorem N_192 : Str.ofString "Options" = nm 192 := rfl
theorem N_193 : Str.ofString "Picker" = nm 193 := rfl
theorem N_194 : Str.ofString "given" = nm 194 := rfl
theorem N_195 : Str.ofString "z" = nm 195 := rfl
theorem N_196 : Str.ofString "again" = nm 196 := rfl
theorem N_197 : Str.ofString "good" = nm 197 := rfl

@[reducible] noncomputable def kCall (g : Gl) (f : Fm) (n : Nat) (fv : Value) (V : Vs) (Q : T → Cells → Prop) : List T → Cells → Prop := fun ts H => Cl g f n fv ts V H Q
inductive kAttr (k : Nat) (Q : T → Cells → Prop) (t : T) (H : Cells) : Prop
  | mk (C : Addr) (fs : List (Nat × T)) (u : T) (h1 : AsInst H t C fs) (h2 : getF fs k = some u) (h3 : tabHas2 fldL C k = true) (h4 : tabHas2 clsL C 0 = true) (h5 : Q u H)
inductive kMeth (g : Gl) (f : Fm) (n : Nat) (k : Nat) (args : List Expr) (V : Vs) (Q : T → Cells → Prop) (t : T) (H : Cells) : Prop
  | mk (C : Addr) (fs : List (Nat × T)) (fa : Addr) (h1 : AsInst H t C fs) (h2 : getF fs k = none) (h3 : tabGet2 methL C k = some fa) (h4 : tabHas2 clsL C 0 = true) (h5 : Evs g f n args V H (kMeth2 g n fa t Q))
inductive kAsgA2 (k : Nat) (t : T) (V : Vs) (Q : SQ) (u : T) (H : Cells) : Prop
  | mk (a C dx : Addr) (fs : List (Nat × T)) (q1 : u = .ref a) (q2 : H a = some (.inst C dx fs)) (q3 : fs.length ≤ 900) (q4 : tabHas2 fldL C k = true) (q5 : tabHas2 clsL C 0 = true) (q6 : Q .next V (updH H a (.inst C dx (putF fs k t))))
@[reducible] noncomputable def kAsgA (g : Gl) (f : Fm) (n : Nat) (o : Expr) (k : Nat) (V : Vs) (Q : SQ) : T → Cells → Prop := fun t H => Ev g f n o V H (kAsgA2 k t V Q)
section
variable {g : Gl} {f : Fm} {n : Nat} {V : Vs} {H : Cells}
theorem seq_next {rest} {Q : SQ} (h : Exs g f n rest V H Q) : seqQ g f n rest Q .next V H := h
theorem seq_ret {rest} {Q : SQ} {t : T} (h : Q (.ret t) V H) : seqQ g f n rest Q (.ret t) V H := h
theorem seq_brk {rest} {Q : SQ} (h : Q .brk V H) : seqQ g f n rest Q .brk V H := h
theorem seq_cont {rest} {Q : SQ} (h : Q .cont V H) : seqQ g f n rest Q .cont V H := h
variable {gs cs : List Nat}
theorem ev_gintG {Q : T → Cells → Prop} {k : Nat} {pos : Pos} {i : Int} (pf : PF g) (hg : f.globs = gs) (hm : memN gs k = true) (hv : tabGet gintL k = some i) (h : Q (.int i) H) (hk : Nat.blt k nN = true := by rfl) : Ev g f n (.Name (nm k) pos) V H Q :=
  ev_gint (by rw [hg]; exact hm) (pf.gint k i hv) h hk
theorem ev_callG {Q : T → Cells → Prop} {k : Nat} {p pos : Pos} {args : List Expr} {fv : Value} (pf : PF g) (hg : f.globs = gs) (hm : memN gs k = true) (hv : tabGet globL k = some fv)
    (h : Evs g f n args V H (kCall g f n fv V Q)) (hk : Nat.blt k nN = true := by rfl)
    (hp : ∀ pos env, (backTo pos (starEach args env)).any (·.1) = false := by intro _ _; rfl) : Ev g f n (.Call (.Name (nm k) p) args [] pos) V H Q :=
  ev_call (by rw [hg]; exact hm) (pf.glob k fv hv) (pf.kp k fv hv) h hk hp
theorem built_kp {k : Nat} {fv : Value} (h : tabGet builtL k = some fv) : Kp g fv := by
  have hm := tabGet_mem h
  simp only [builtL, List.mem_cons, Prod.mk.injEq, List.not_mem_nil, or_false] at hm
  rcases hm with ⟨_, rfl⟩ | ⟨_, rfl⟩ | ⟨_, rfl⟩ | ⟨_, rfl⟩ | ⟨_, rfl⟩ | ⟨_, rfl⟩ | ⟨_, rfl⟩ | ⟨_, rfl⟩ | ⟨_, rfl⟩
  all_goals first | exact kp_builtin | exact kp_type
theorem ev_callB {Q : T → Cells → Prop} {k : Nat} {p pos : Pos} {args : List Expr} {fv : Value} (pf : PF g) (hg : f.globs = gs) (hm : memN gs k = true) (hv : tabGet builtL k = some fv)
    (h : Evs g f n args V H (kCall g f n fv V Q)) (hk : Nat.blt k nN = true := by rfl)
    (hp : ∀ pos env, (backTo pos (starEach args env)).any (·.1) = false := by intro _ _; rfl) : Ev g f n (.Call (.Name (nm k) p) args [] pos) V H Q :=
  ev_call (by rw [hg]; exact hm) (pf.built k fv hv) (built_kp hv) h hk hp
theorem ev_attrG {Q : T → Cells → Prop} {e pos} {k : Nat} (pf : PF g) (h : Ev g f n e V H (kAttr k Q)) (hk : Nat.blt k nN = true := by rfl)
    (hb : ∀ env, attributeBase e (nm k) env (eval e env) = eval e env := by intro _; rfl) : Ev g f n (.Attribute e (nm k) pos) V H Q :=
  ev_attr (h.mono fun t H' ⟨C, fs, u, a, b, c, d, q⟩ => ⟨C, fs, u, a, b, pf.cls C d, pf.fld C k c, q⟩) hk hb
theorem ex_asg_attrG {Q : SQ} {k : Nat} {o e apos pos} (pf : PF g) (h : Ev g f n e V H (kAsgA g f n o k V Q))
    (hk : Nat.blt k nN = true := by rfl) (hs : ∀ x l env, swapsWith e (some (.Attribute x (nm k) apos)) l env = pure false := by intro _ _ _; rfl) :
    Ex g f n (.Assign [.Attribute o (nm k) apos] e pos) V H Q :=
  ex_asg_attr (h.mono fun t H1 h1 => h1.mono fun u H2 ⟨a, C, dx, fs, q1, q2, q3, q4, q5, q6⟩ => ⟨a, C, dx, fs, q1, q2, q3, pf.cls C q5, pf.fld C k q4, q6⟩) hk hs
theorem ev_methG {Q : T → Cells → Prop} {o apos pos} {k : Nat} {args : List Expr} (pf : PF g)
    (h : Ev g f n o V H (kMeth g f n k args V Q))
    (hk : Nat.blt k nN = true := by rfl) (hp : ∀ pos env, (backTo pos (starEach args env)).any (·.1) = false := by intro _ _; rfl) (hl : args.length < 20 := by decide)
    (hb : ∀ env, attributeBase o (nm k) env (eval o env) = eval o env := by intro _; rfl) (hline : (apos.endLine == pos.line) = true := by rfl) : Ev g f n (.Call (.Attribute o (nm k) apos) args [] pos) V H Q :=
  ev_meth (h.mono fun t H1 ⟨C, fs, fa, a, b, c, d, q⟩ => ⟨C, fs, fa, a, b, pf.cls C d, pf.meth C k fa c, q⟩) (Nat.le_refl _) hk hp hl hb hline
theorem cl_clsG {Q : T → Cells → Prop} {C fI m : Nat} {ts : List T} (pf : PF g) (hi : tabGet iniL C = some fI) (hc : tabHas2 clsL C 0 = true)
    (h : ∀ x dx, H x = none → FSpec g m fI (.ref x :: ts) (updH H x (.inst C dx [])) fun t H' => t = .none ∧ Q (.ref x) H') (hm : m + 1 ≤ n) : Cl g f n (.ref C) ts V H Q :=
  cl_cls (pf.cls C hc) (pf.ini C fI hi).1 (pf.ini C fI hi).2 h hm
end

theorem cl_cls0 {g : Gl} {f : Fm} {n : Nat} {V : Vs} {H : Cells} {Q : T → Cells → Prop} {C : Addr} (hC : ClsOk g.K C) (hi : findIn g.K (.ref C) "__init__" = some (some (.builtin "object.__init__")))
    (h : ∀ x dx, H x = none → Q (.ref x) (updH H x (.inst C dx []))) : Cl g f n (.ref C) [] V H Q := .mk fun A P Z s vs hr x r => by
  cases r
  obtain ⟨st, back⟩ := x.call
  generalize hPc : calleeP g P Z H s = Pc at st back
  have X := st.KX
  have Y := makes_of (M := g.M) X hC.make
  have hn0 := none_fresh s.heap
  have k1 : ∀ b o, s.heap.get? b = some o → (s.heap.push emptyDict).get? b = some o := fun b o e => Heap.get?_push_of_some _ e
  have k2 : ∀ b o, s.heap.get? b = some o → ((s.heap.push emptyDict).push (instObj C s.heap.objs.size)).get? b = some o := fun b o e => Heap.get?_push_of_some _ (k1 b o e)
  have hx : ((s.heap.push emptyDict).push (instObj C s.heap.objs.size)).get? (s.heap.objs.size + 1) = some (instObj C s.heap.objs.size) := by
    have := Heap.get?_push_size (s.heap.push emptyDict) (o := instObj C s.heap.objs.size) rfl
    rwa [Heap.size_push] at this
  have hd : ((s.heap.push emptyDict).push (instObj C s.heap.objs.size)).get? s.heap.objs.size = some emptyDict := Heap.get?_push_of_some _ (Heap.get?_push_size _ rfl)
  have hn1 : s.heap.get? (s.heap.objs.size + 1) = none := by
    cases q : s.heap.get? (s.heap.objs.size + 1) with
    | none => rfl
    | some o => exact absurd (Heap.lt_size q) (Nat.not_lt.mpr (Nat.le_succ _))
  have st1 : St g Pc Z H { s with heap := (s.heap.push emptyDict).push (instObj C s.heap.objs.size) } := st.keep k2
  have ux := st.un hn1
  have ud := st.un hn0
  have hH : H (s.heap.objs.size + 1) = none := by
    cases e : H (s.heap.objs.size + 1) with
    | none => rfl
    | some c => exact absurd (by cases c <;> simp [Cell.addrs]) (ux.2.2 _ c e)
  have st2 := st1.addH (a := s.heap.objs.size + 1) (c := .inst C s.heap.objs.size []) ⟨hx, [], 0, hd, .nil⟩ (fun d hd' => by
    simp only [Cell.addrs, List.mem_cons, List.not_mem_nil, or_false] at hd'
    rcases hd' with rfl | rfl
    · exact ux
    · exact ud)
  obtain ⟨hh, gg, dd, tt, oo⟩ := s
  refine wpAny_call (make_core Y (looks_findIn X hi) (fun self => Looks.of_pure (oi_bind self)) (.inr ⟨rfl, rfl⟩) ?_)
  have t1 : Looks g.M ((hh.push emptyDict).push (instObj C hh.objs.size)) (typeOf (.ref (hh.objs.size + 1))) (.ref C) := (Looks.ld hx).andThen .now
  have t2 : Looks g.M ((hh.push emptyDict).push (instObj C hh.objs.size)) (isInstance (.ref (hh.objs.size + 1)) (.type "object")) true := t1.andThen (Y.top.keeps k2)
  refine codeAny_call_builtin oi_plain entry_oi (@check_slot g.M _ _ _ "object.__init__" "object" "__init__" (.ref (hh.objs.size + 1)) [] [] _ oi_kind oi_split t2 (oi_args (.ref (hh.objs.size + 1))) ?_)
  rw [oi_run]
  exact wpAny_pure (And.intro rfl ⟨Z, _, _, Sub.rfl, back Z _ _ Sub.rfl st2, .ref _, h _ _ hH⟩)

theorem attr_tree {H : Cells} {Q : T → Cells → Prop} {C : Addr} {fs : List (Nat × T)} {k : Nat} {u : T} (h1 : getF fs k = some u) (h2 : tabHas2 fldL C k = true) (h3 : tabHas2 clsL C 0 = true) (h : Q u H) : kAttr k Q (.inst C fs) H := ⟨C, fs, u, .tree, h1, h2, h3, h⟩
theorem attr_cell {H : Cells} {Q : T → Cells → Prop} {a C dx : Addr} {fs : List (Nat × T)} {k : Nat} {u : T} (hc : H a = some (.inst C dx fs)) (h1 : getF fs k = some u) (h2 : tabHas2 fldL C k = true) (h3 : tabHas2 clsL C 0 = true) (h : Q u H) : kAttr k Q (.ref a) H := ⟨C, fs, u, .cell hc, h1, h2, h3, h⟩
section
variable {g : Gl} {f : Fm} {n : Nat} {V : Vs} {H : Cells} {Q : T → Cells → Prop}
theorem meth_tree {C : Addr} {fs : List (Nat × T)} {k fa : Nat} {args : List Expr} (h1 : getF fs k = none) (h2 : tabGet2 methL C k = some fa) (h3 : tabHas2 clsL C 0 = true) (h : Evs g f n args V H (kMeth2 g n fa (.inst C fs) Q)) : kMeth g f n k args V Q (.inst C fs) H := ⟨C, fs, fa, .tree, h1, h2, h3, h⟩
theorem meth_cell {a C dx : Addr} {fs : List (Nat × T)} {k fa : Nat} {args : List Expr} (hc : H a = some (.inst C dx fs)) (h1 : getF fs k = none) (h2 : tabGet2 methL C k = some fa) (h3 : tabHas2 clsL C 0 = true) (h : Evs g f n args V H (kMeth2 g n fa (.ref a) Q)) : kMeth g f n k args V Q (.ref a) H := ⟨C, fs, fa, .cell hc, h1, h2, h3, h⟩
theorem asgn_cell {Q : SQ} {a C dx : Addr} {fs : List (Nat × T)} {k : Nat} {t : T} (hc : H a = some (.inst C dx fs)) (hl : fs.length ≤ 900) (h2 : tabHas2 fldL C k = true) (h3 : tabHas2 clsL C 0 = true) (h : Q .next V (updH H a (.inst C dx (putF fs k t)))) : kAsgA2 k t V Q (.ref a) H := ⟨a, C, dx, fs, rfl, hc, hl, h2, h3, h⟩
theorem asgs_cell {Q : SQ} {a : Addr} {ts : List T} {j : Int} {t : T} (hc : H a = some (.list ts)) (h0 : 0 ≤ j) (h1 : j.toNat < ts.length) (h2 : ts.length ≤ 1000000) (h : Q .next V (updH H a (.list (ts.set j.toNat t)))) : kAsgS3 V Q t (.ref a) (.int j) H := ⟨a, ts, j, rfl, hc, rfl, h0, h1, h2, h⟩
theorem app_cell {a : Addr} {ts : List T} {e : Expr} (hc : H a = some (.list ts)) (h : Ev g f n e V H (kApp2 Q a)) : kApp1 g f n e V Q (.ref a) H := ⟨a, rfl, ts, hc, h⟩
theorem exs_letV {ss : List Stmt} {Q : SQ} (h : let V' : Vs := V; Exs g f n ss V' H Q) : Exs g f n ss V H Q := h
end
theorem ite_dec {p : Prop} [Decidable p] {X Y : Prop} (h1 : p → X) (h2 : ¬ p → Y) : if decide p = true then X else Y := by
  by_cases h : p
  · rw [if_pos (by simpa using h)]; exact h1 h
  · rw [if_neg (by simpa using h)]; exact h2 h
theorem ite_ndec {p : Prop} [Decidable p] {X Y : Prop} (h1 : ¬ p → X) (h2 : p → Y) : if (!decide p) = true then X else Y := by
  by_cases h : p
  · rw [if_neg (by simpa using h)]; exact h2 h
  · rw [if_pos (by simpa using h)]; exact h1 h
theorem ite_b {b : Bool} {X Y : Prop} (h1 : b = true → X) (h2 : b = false → Y) : if b = true then X else Y := by
  cases b
  · exact h2 rfl
  · exact h1 rfl
theorem ite_t {X Y : Prop} (h1 : X) : if true = true then X else Y := h1
theorem ite_f {X Y : Prop} (h1 : Y) : if false = true then X else Y := h1
section
variable {g : Gl} {f : Fm} {n : Nat} {V : Vs} {H : Cells} {Q : T → Cells → Prop}
theorem op_sub_list_c {value slice} {a : Addr} {u : T} {ts : List T} {i : Int} (h : Q u H) (hc : H a = some (.list ts) := by walk_at "H") (hi : (decide (0 ≤ i) && Nat.ble ts.length 1000000) = true := by rfl) (hu : ts[i.toNat]? = some u := by rfl)
    (hs : ∀ o j, subscripted slice false o j = operate [o, j] (getItem o j) := by intro _ _; rfl) : Op2 g f n (subscriptTail value slice) (.ref a) (.int i) V H Q := by
  simp only [Bool.and_eq_true, decide_eq_true_eq] at hi
  exact op_sub_list (.cell hc) hi.1 (Nat.le_of_ble_eq_true hi.2) hu h hs
theorem op_sub_tup_c {value slice} {u : T} {ts : List T} {i : Int} (h : Q u H) (hi : (decide (0 ≤ i) && Nat.ble ts.length 1000000) = true := by rfl) (hu : ts[i.toNat]? = some u := by rfl)
    (hs : ∀ o j, subscripted slice false o j = operate [o, j] (getItem o j) := by intro _ _; rfl) : Op2 g f n (subscriptTail value slice) (.tup ts) (.int i) V H Q := by
  simp only [Bool.and_eq_true, decide_eq_true_eq] at hi
  exact op_sub_tup hi.1 (Nat.le_of_ble_eq_true hi.2) hu h hs
theorem asgs_cell_c {Q : SQ} {a : Addr} {ts : List T} {j : Int} {t : T} (h : Q .next V (updH H a (.list (ts.set j.toNat t)))) (hc : H a = some (.list ts) := by walk_at "H") (hi : (decide (0 ≤ j) && Nat.ble (j.toNat + 1) ts.length && Nat.ble ts.length 1000000) = true := by rfl) : kAsgS3 V Q t (.ref a) (.int j) H := by
  simp only [Bool.and_eq_true, decide_eq_true_eq] at hi
  exact asgs_cell hc hi.1.1 (Nat.lt_of_succ_le (Nat.le_of_ble_eq_true hi.1.2)) (Nat.le_of_ble_eq_true hi.2) h
theorem asgn_cell_c {Q : SQ} {a C dx : Addr} {fs : List (Nat × T)} {k : Nat} {t : T} (h : Q .next V (updH H a (.inst C dx (putF fs k t)))) (hc : H a = some (.inst C dx fs) := by walk_at "H") (hl : Nat.ble fs.length 900 = true := by rfl) (h2 : tabHas2 fldL C k = true := by rfl) (h3 : tabHas2 clsL C 0 = true := by rfl) : kAsgA2 k t V Q (.ref a) H :=
  asgn_cell hc (Nat.le_of_ble_eq_true hl) h2 h3 h
theorem attr_tree_c {C : Addr} {fs : List (Nat × T)} {k : Nat} {u : T} (h : Q u H) (h1 : getF fs k = some u := by rfl) (h2 : tabHas2 fldL C k = true := by rfl) (h3 : tabHas2 clsL C 0 = true := by rfl) : kAttr k Q (.inst C fs) H := attr_tree h1 h2 h3 h
theorem attr_cell_c {a C dx : Addr} {fs : List (Nat × T)} {k : Nat} {u : T} (h : Q u H) (hc : H a = some (.inst C dx fs) := by walk_at "H") (h1 : getF fs k = some u := by rfl) (h2 : tabHas2 fldL C k = true := by rfl) (h3 : tabHas2 clsL C 0 = true := by rfl) : kAttr k Q (.ref a) H := attr_cell hc h1 h2 h3 h
theorem meth_tree_c {C : Addr} {fs : List (Nat × T)} {k fa : Nat} {args : List Expr} (h : Evs g f n args V H (kMeth2 g n fa (.inst C fs) Q)) (h1 : getF fs k = none := by rfl) (h2 : tabGet2 methL C k = some fa := by rfl) (h3 : tabHas2 clsL C 0 = true := by rfl) : kMeth g f n k args V Q (.inst C fs) H := meth_tree h1 h2 h3 h
theorem meth_cell_c {a C dx : Addr} {fs : List (Nat × T)} {k fa : Nat} {args : List Expr} (h : Evs g f n args V H (kMeth2 g n fa (.ref a) Q)) (hc : H a = some (.inst C dx fs) := by walk_at "H") (h1 : getF fs k = none := by rfl) (h2 : tabGet2 methL C k = some fa := by rfl) (h3 : tabHas2 clsL C 0 = true := by rfl) : kMeth g f n k args V Q (.ref a) H := meth_cell hc h1 h2 h3 h
theorem op_is_none_c {a : T} {b : Bool} (h : Q (.bool b) H) (hb : b = (match a with | .none => true | _ => false) := by rfl) : Op2 g f n (compareOp .Is) a .none V H Q := op_is_none hb h
theorem op_isnot_none_c {a : T} {b : Bool} (h : Q (.bool b) H) (hb : b = (match a with | .none => false | _ => true) := by rfl) : Op2 g f n (compareOp .IsNot) a .none V H Q := op_isnot_none hb h
theorem app_cell_c {a : Addr} {ts : List T} {e : Expr} (h : Ev g f n e V H (kApp2 Q a)) (hc : H a = some (.list ts) := by walk_at "H") : kApp1 g f n e V Q (.ref a) H := app_cell hc h
theorem tup_c {ts : List T} {p : Prop} (h : p) (h1 : Nat.ble ts.length 1000 = true := by rfl) : ts.length ≤ 1000 ∧ p := ⟨Nat.le_of_ble_eq_true h1, h⟩
end
end
local macro_rules | `(tactic| walk_at "H") => `(tactic| first | assumption | exact updH_self | (refine (updH_ne (by first | assumption | (apply Ne.symm; assumption))).trans ?_; walk_at "H"))
local macro_rules | `(tactic| walk_at "s") => `(tactic| first
  | (guard_target = Ev ..; first
    | refine ev_name rfl ?_ | refine ev_int ?_ | refine ev_attrG ‹_› ?_ | ((fail_if_success guard_target = Ev _ _ _ (.Subscript _ (.Slice ..) _) ..); refine ev_sub ?_) | refine ev_binop ?_ | refine ev_cmp ?_
    | refine ev_callB ‹_› ‹_› rfl rfl ?_ | refine ev_callG ‹_› ‹_› rfl rfl ?_ | refine ev_gintG ‹_› ‹_› rfl rfl ?_ | refine ev_append ?_ | refine ev_methG ‹_› ?_
    | refine ev_tuple ?_ | refine ev_none ?_ | refine ev_bool ?_ | refine ev_bytes ?_ | refine ev_unop ?_ | refine ev_ifexp ?_ | refine ev_str ?_)
  | (guard_target = Evs ..; first | refine evs_cons ?_ | refine evs_nil ?_)
  | with_reducible (first | refine op_lt_int ?_ | refine op_le_int ?_ | refine op_gt_int ?_ | refine op_ge_int ?_ | refine op_eq_int ?_ | refine op_ne_int ?_ | refine op_add_int ?_ | refine op_sub_int ?_ | refine op_iadd_int ?_ | refine op_isub_int ?_ | refine kts_b ?_ | refine kand_b ?_ | refine kor_b ?_ | refine knot_b ?_ | refine op_neg_int ?_)
  | (guard_target = if true = true then _ else _; refine ite_t ?_) | (guard_target = if false = true then _ else _; refine ite_f ?_)
  | (guard_target = Op2 _ _ _ (compareOp .Is) ..; refine op_is_none_c ?_) | (guard_target = Op2 _ _ _ (compareOp .IsNot) ..; refine op_isnot_none_c ?_)
  | (guard_target = Op2 _ _ _ (subscriptTail _ _) (.ref _) (.int _) ..; refine op_sub_list_c ?_) | (guard_target = Op2 _ _ _ (subscriptTail _ _) (.tup _) (.int _) ..; refine op_sub_tup_c ?_)
  | (guard_target = Ts ..; (fail_if_success guard_target = Ts _ _ _ (.BoolOp .And [.Compare _ [.IsNot] .., _] _) ..); first | refine ts_cmp ?_ | refine ts_boolop ?_ | refine ts_not ?_ | refine ts_value ?_)
  | (guard_target = seqQ ..; first | refine seq_next ?_ | refine seq_ret ?_ | refine seq_brk ?_ | refine seq_cont ?_)
  | (guard_target = Exs ..; first | refine exs_last ?_ | refine exs_cons ?_ | refine exs_nil ?_)
  | (guard_target = Ex ..; first
    | refine ex_assign ‹_› rfl ?_ | refine ex_return ?_ | refine ex_if ?_ | refine ex_aug ‹_› rfl ?_ | refine ex_asg_attrG ‹_› ?_ | refine ex_asg_sub ?_ | refine ex_expr ?_ | refine ex_continue ?_ | refine ex_break ?_ | refine ex_pass ?_)
  | (guard_target = Tall ..; first | refine ta_and ?_ | refine ta_or ?_ | refine ta_and_nil ?_ | refine ta_or_nil ?_)
  | (guard_target = kAttr ..; first | refine attr_tree_c ?_ | refine attr_cell_c ?_)
  | (guard_target = kMeth ..; first | refine meth_tree_c ?_ | refine meth_cell_c ?_)
  | (guard_target = kAsgS3 ..; refine asgs_cell_c ?_)
  | (guard_target = kApp1 ..; refine app_cell_c ?_)
  | (guard_target = kAsgA2 ..; refine asgn_cell_c ?_)
  | (guard_target = List.length _ ≤ 1000 ∧ _; refine tup_c ?_))
local macro_rules | `(tactic| walk_at "let") => `(tactic| try ((fail_if_success (with_reducible show ∀ _, _)); intro))
local macro_rules | `(tactic| walk_at "wi") => `(tactic| ((walk_at "let"); (try (refine exs_letV ?_; intro)); repeat ((fail_if_success (with_reducible show Exs _ _ _ (Stmt.If _ _ _ _ :: _) _ _ _)); walk_at "s")))
local macro_rules | `(tactic| walk_at "w") => `(tactic| ((walk_at "let"); (try (refine exs_letV ?_; intro)); repeat walk_at "s"))

section
open PySem.Calls
section
variable {g : Gl} {f : Fm} {n : Nat} {V : Vs} {H : Cells} {P Z : OM} {s : Shared}

/-- a frame's dict, as nothing else tracks it -/
noncomputable def Lk (g : Gl) (Z : OM) (H : Cells) (h : Heap) (b : Addr) : Prop := g.s1.heap.get? b = none ∧ Z b = none ∧ (∀ a c, H a = some c → b ∉ c.addrs a) ∧ ∀ o, h.get? b = some o → ∃ es n, o.data = .dict es n
noncomputable def SlotsAt (Ls : List Addr) (h h' : Heap) : Prop := (∀ b o, b ∉ Ls → h.get? b = some o → h'.get? b = some o) ∧ ∀ b ∈ Ls, ∀ o, h.get? b = some o → (∃ es n, o.data = .dict es n) → ∃ sl, h'.get? b = some { o with slots := sl }

theorem stays_of {Ls : List Addr} {h' : Heap} (hs : SlotsAt Ls s.heap h') (hl : ∀ b ∈ Ls, Lk g Z H s.heap b) : ∀ b o, s.heap.get? b = some o → Stays h' b o := fun b o e => by
  by_cases hb : b ∈ Ls
  · have hd := (hl b hb).2.2.2 o e
    obtain ⟨sl, e'⟩ := hs.2 b hb o e hd
    exact ⟨_, e', .inr ⟨hd, sl, rfl⟩⟩
  · exact .of (hs.1 b o hb e)
theorem St.slots (x : St g P Z H s) {Ls : List Addr} {h' : Heap} (hs : SlotsAt Ls s.heap h') (hl : ∀ b ∈ Ls, Lk g Z H s.heap b) : St g P Z H { s with heap := h' } where
  sh := by obtain ⟨h, tk, rfl⟩ := x.sh; exact ⟨h', tk, rfl⟩
  base := x.base
  kept := fun b o e => hs.1 b o (fun hb => by rw [(hl b hb).1] at e; cases e) (x.kept b o e)
  kp := fun b o e => (x.kp b o e).trans fun o' e' => stays_of hs hl b o' e'
  kz := fun b o e => hs.1 b o (fun hb => by rw [(hl b hb).2.1] at e; cases e) (x.kz b o e)
  zp := x.zp
  cl := fun a c e => (x.cl a c e).move fun d hd o q => hs.1 d o (fun hb => (hl d hb).2.2.1 a c e hd) q
  ow := x.ow
  ap := x.ap
theorem Rel.slots (x : Rel g f P Z V H s) {Ls : List Addr} {h' : Heap} (hs : SlotsAt Ls s.heap h') (hl : ∀ b ∈ Ls, Lk g Z H s.heap b) : Rel g f P Z V H { s with heap := h' } :=
  ⟨x.st.slots hs hl, x.fo.move Sub.rfl x.fo.ow fun b o _ e => stays_of hs hl b o e, x.sk⟩

theorem Lk.of_P (x : St g P Z H s) {L : Addr} {o : Obj} (h1 : g.s1.heap.get? L = none) (h2 : P L = some o) (h3 : ∃ es n, o.data = .dict es n) : Lk g Z H s.heap L := by
  refine ⟨h1, ?_, fun a c e hm => ?_, fun o' e => ?_⟩
  · cases q : Z L with
    | none => rfl
    | some o' =>
      rcases x.zp L o' q with r | ⟨o'', r⟩
      · rw [h2] at r; cases r
      · rw [h1] at r; cases r
  · have := (x.ow a c e L hm).1; rw [h2] at this; cases this
  · obtain ⟨o2, e2, l⟩ := x.kp L o h2
    rw [e] at e2; cases e2
    obtain ⟨es, n, h3⟩ := h3
    exact ⟨es, n, l.data.trans h3⟩
theorem Lk.of_own (x : Rel g f P Z V H s) (h1 : g.s1.heap.get? f.env.locals = none) : Lk g Z H s.heap f.env.locals := by
  have u := x.fo.ow _ x.fo.lo
  refine ⟨h1, u.2.1, u.2.2, fun o e => ?_⟩
  obtain ⟨m, ⟨o', es, ep, e', d, _⟩, _⟩ := x.fo.ns
  rw [e] at e'; cases e'
  exact ⟨es, ep, d⟩

/-- in flight behind the callee -/
inductive Flies (g : Gl) (P Z : OM) (H : Cells) (l : List Env) (e : Addr) (s' : Shared) : Prop
  | mk (h2 B : Heap) (t : Addr) (Ls : List Addr) (q1 : St g P Z H { s' with heap := h2 }) (q2 : ∀ b o, b ∉ Ls → h2.get? b = some o → B.get? b = some o) (q3 : ∀ b ∈ Ls, Lk g Z H h2 b) (q4 : h2.UpToSlots s'.heap) (q5 : Heap.FlyingW B l e (.ref 80) (.ref t) s'.heap)
inductive FRP (g : Gl) (P Z : OM) (l : List Env) (R : Cells → Prop) (r : Result) (s' : Shared) : Prop
  | mk (e : Addr) (Z' : OM) (H' : Cells) (q1 : r = .error (.ref e)) (q2 : Sub Z Z') (q3 : Flies g P Z' H' l e s') (q4 : R H')
structure FRaise (g : Gl) (n : Nat) (a : Addr) (ts : List T) (H : Cells) (R : Cells → Prop) : Prop where
  go : ∀ A P Z s vs l, Room n A → A.frames = some l → (∀ env ∈ l, FrOk g P env) → St g P Z H s → RdL Z vs ts →
    codeAny g.M A (.call (.ref a) ⟨vs, []⟩) (FRP g P Z l R) s

/-- the raise itself -/
inductive XM (g : Gl) (f : Fm) (P Z : OM) (R : Cells → Prop) (e : Value) (s' : Shared) : Prop
  | mk (a : Addr) (Z' : OM) (V' : Vs) (H' : Cells) (s2 : Shared) (h' : Heap) (vs : List Value) (q1 : e = .ref a) (q2 : Sub Z Z') (q3 : Rel g f P Z' V' H' s2) (q4 : s' = { s2 with heap := h' }) (q5 : Heap.MadeExcOf s2.heap h' a (.ref 80) vs) (q6 : R H')
structure XExs (g : Gl) (f : Fm) (n : Nat) (ss : List Stmt) (V : Vs) (H : Cells) (R : Cells → Prop) : Prop where
  go : ∀ A P Z s, RoomF f n A → Rel g f P Z V H s → wpAny g.M A (execs ss f.env) (fun _ _ => False) (XM g f P Z R) s

theorem bad_raise {gs : List Nat} {e₀ : Expr} {np cpos rpos : Pos} {R : Cells → Prop} (pf : PF g) (hg : f.globs = gs) (hm : memN gs 113 = true) (h : Ev g f n e₀ V H fun _ H' => R H')
    (he : ∀ env, starEach [e₀] env = (false, eval e₀ env) :: starEach [] env := by intro _; rfl) : ∀ A P Z s, RoomF f n A → Rel g f P Z V H s → wpAny g.M A (exec (.Raise (some (.Call (.Name (nm 113) np) [e₀] [] cpos)) none rpos) f.env) (fun _ _ => False) (XM g f P Z R) s := fun A P Z s hr x => by
  obtain ⟨tl, N, nm', q, bs, hdct, sn, sub, ab, col, dd, k0, k1, k2, k3, k5, mN, hC, hN, hni, T⟩ := pf.bad.obj
  refine wpAny_Raise_call_subT (C := 80) (nm := nm') (q := q) (N := N) (bs := bs) (bm := tl) (hdct := hdct) (sn := sn) (sub := sub) (ab := ab) (col := col) (dd := dd) (k0 := k0) (k1 := k1) (k2 := k2) (k3 := k3) (k5 := k5)
    PySem.F.excBase_Exception (mN := mN) (T.hasType PySem.F.excBase_Exception.hasBase) hr.1 (by rw [he]; rfl) hni (glob_ok x (by rfl) (by rw [hg]; exact hm) (.inl pf.bad.bound) ⟨rfl, ?_⟩)
  rw [he]
  refine Calls.evalArgs_plain (spliced_cons ?_)
  refine wpAny_mono (h.go A P Z s hr x) (fun v s1 ⟨Z1, t, H1, z1, x1, r1, q1⟩ => ?_) noE
  refine spliced_nil ⟨rfl, by show 1 ≤ sizeLine; rw [sizeLine_eq]; walk_at "la", x1.st.kept _ _ hC, hN.keeps x1.st.kept, T.keeps x1.st.kept, fun h' e hm' => ?_⟩
  exact ⟨e, Z1, V, H1, s1, h', [v], rfl, z1, x1, rfl, hm', q1⟩
theorem xs_if_raise {gs : List Nat} {test e₀ : Expr} {np cpos rpos ipos : Pos} {orelse rest : List Stmt} {R : Cells → Prop} (pf : PF g) (hg : f.globs = gs) (hm : memN gs 113 = true)
    (h : Ts g f n test V H fun b H1 => b = true ∧ Ev g f n e₀ V H1 fun _ H' => R H')
    (he : ∀ env, starEach [e₀] env = (false, eval e₀ env) :: starEach [] env := by intro _; rfl) : XExs g f n (.If test [.Raise (some (.Call (.Name (nm 113) np) [e₀] [] cpos)) none rpos] orelse ipos :: rest) V H R := .mk fun A P Z s hr x => by
  refine wpAny_execs_cons (wpAny_If (wpAny_mono (h.go A P Z s hr x) (fun b s1 ⟨Z1, H1, z1, x1, hb, q1⟩ => ?_) noE))
  subst hb
  rw [if_pos rfl]
  refine wpAny_execs_cons (wpAny_mono (bad_raise pf hg hm q1 he A P Z1 s1 hr x1) (fun _ _ e => e.elim) fun e s2 q => q.casesOn fun a Z' V' H' s3 h' vs q1 q2 q3 q4 q5 q6 => ⟨a, Z', V', H', s3, h', vs, q1, z1.trans q2, q3, q4, q5, q6⟩)

theorem fraise_of {a i j m : Nat} {ps ls gs cs : List Nat} {ts : List T} {R : Cells → Prop} (hF : FnAt g.K a i j) (hchk : chkFn (fnI i j) ps ls gs cs = true) (hlen : ts.length = ps.length)
    (hbody : ∀ f l, f.full = true → f.globs = gs → f.cels = cs → f.outer = some l → XExs g f m (fnI i j).body (V0 ps ls ts) H R) : FRaise g (m + 1) a ts H R :=
  .mk fun A P Z s vs l hr hl hfr x rd => call_core (outer := some l) hF hchk hlen hr (fun l' e => by cases e; exact ⟨hl, hfr⟩) x rd fun f s₁ h1 h2 h3 h4 hr' x1 => by
    refine wpAny_mono ((hbody f l h1 h2 h3 h4).go _ P Z _ hr' x1) (fun _ _ e => e.elim) fun e s' ⟨a, Z', V', H', s2, h', vs, q1, z1, x2, q2, q3, q4⟩ => ?_
    subst q1; subst q2
    obtain ⟨k1, k2, k3⟩ := x2.sk l h4
    have hfl := hr'.fr l h4
    -- the dicts of the frames
    let Ls := (f.env :: l).filterMap (·.frame)
    have hfrs : ∀ env ∈ f.env :: l, env.scope.kind ≠ .module ∧ ∃ L, env.frame = some L ∧ Lk g Z' H' s2.heap L ∧ ∃ o, s2.heap.get? L = some o ∧ ∀ vs, o.data ≠ .fields vs := fun env he => by
      rcases List.mem_cons.mp he with rfl | he
      · refine ⟨by rw [x2.fo.hk]; decide, _, k1, Lk.of_own x2 k2, ?_⟩
        obtain ⟨m, ⟨o', es, ep, e', d, _⟩, _⟩ := x2.fo.ns
        exact ⟨o', e', fun vs q => by rw [d] at q; cases q⟩
      · obtain ⟨q1, L, o, q2, q3, q4, es, n, q5⟩ := k3 env he
        refine ⟨q1, L, q2, Lk.of_P x2.st q3 q4 ⟨es, n, q5⟩, ?_⟩
        obtain ⟨o', e', l'⟩ := x2.st.kp L o q4
        exact ⟨o', e', fun vs q => by rw [l'.data, q5] at q; cases q⟩
    have hLs : ∀ b ∈ Ls, Lk g Z' H' s2.heap b := fun b hb => by
      obtain ⟨env, he, hf⟩ := List.mem_filterMap.mp hb
      obtain ⟨_, L, hL, h5, _⟩ := hfrs env he
      rw [hL] at hf; cases hf; exact h5
    have hff : ∀ l', (∀ env ∈ l', env ∈ f.env :: l) → s2.heap.FunFrames (hideAll s2.heap Ls) l' := fun l' => by
      induction l' with
      | nil => intro _; trivial
      | cons env r ih =>
        intro hin
        obtain ⟨q1, L, q2, _, o, q3, q4⟩ := hfrs env (hin env (.head _))
        exact ⟨q1, ⟨L, o, q2, hideAll_none _ (List.mem_filterMap.mpr ⟨env, hin env (.head _), q2⟩), q3, q4⟩, ih fun e he => hin e (.tail _ he)⟩
    refine wpAny_leaves_madeW hfl k1 (fun b o q => of_hideAll _ q) (hff _ fun _ h => h) q3 fun h3 t y1 y2 y3 y4 => ?_
    refine ⟨a, Z', H', rfl, z1, ⟨s2.heap, hideAll s2.heap Ls, t, Ls, x2.st, fun b o hb e => hideAll_get _ e hb, hLs, (Heap.UpToSlots.of_keeps q3.keeps).trans y4, y1⟩, q4⟩

/-- caught behind the call -/
theorem ex_try_ok {body : List Stmt} {h₀ hs pos} {Q : SQ} (h : Exs g f n body V H Q) : Ex g f n (.Try body (h₀ :: hs) [] [] pos) V H Q := .mk fun A P Z s hr x => by
  refine wpAny_Try_except (wpAny_mono (h.go A P Z s hr x) (fun fl s1 h1 => ?_) fun _ _ e => e.elim)
  cases fl with
  | next => exact wpAny_execs_nil h1
  | _ => exact h1

/-- what is in flight in the frame that called -/
inductive XP (g : Gl) (f : Fm) (P Z : OM) (V : Vs) (R : Cells → Prop) (e : Value) (s' : Shared) : Prop
  | mk (a : Addr) (Z' : OM) (H' : Cells) (l : List Env) (h2 B : Heap) (t : Addr) (Ls : List Addr) (q1 : e = .ref a) (q2 : Sub Z Z') (q3 : f.outer = some l) (q4 : Rel g f P Z' V H' { s' with heap := h2 }) (q5 : ∀ b o, b ∉ Ls → h2.get? b = some o → B.get? b = some o) (q6 : ∀ b ∈ Ls, Lk g Z' H' h2 b) (q7 : h2.UpToSlots s'.heap)
    (q8 : Heap.FlyingW B (f.env :: l) a (.ref 80) (.ref t) s'.heap) (q9 : R H')
structure XEv (g : Gl) (f : Fm) (n : Nat) (e : Expr) (V : Vs) (H : Cells) (R : Cells → Prop) : Prop where
  go : ∀ A P Z s, RoomF f n A → Rel g f P Z V H s → wpAny g.M A (eval e f.env) (fun _ _ => False) (XP g f P Z V R) s
theorem XP.up {Z' : OM} {R : Cells → Prop} {e : Value} {s' : Shared} (hz : Sub Z Z') (h : XP g f P Z' V R e s') : XP g f P Z V R e s' :=
  h.casesOn fun a Z'' H' l h2 B t Ls q1 q2 q3 q4 q5 q6 q7 q8 q9 => ⟨a, Z'', H', l, h2, B, t, Ls, q1, hz.trans q2, q3, q4, q5, q6, q7, q8, q9⟩

theorem frames_in (x : Rel g f P Z V H s) {l : List Env} (ho : f.outer = some l) : ∀ env ∈ f.env :: l, FrOk g (calleeP g P Z H s) env := fun env he => by
  obtain ⟨k1, k2, k3⟩ := x.sk l ho
  rcases List.mem_cons.mp he with rfl | he
  · obtain ⟨m, ⟨o', es, ep, e', d, _⟩, _⟩ := x.fo.ns
    exact ⟨by rw [x.fo.hk]; decide, _, o', k1, k2, calleeP_own x _ x.fo.lo _ e', es, ep, d⟩
  · obtain ⟨q1, L, o, q2, q3, q4, q5⟩ := k3 env he
    exact ⟨q1, L, o, q2, q3, calleeP_sub x.st _ _ q4, q5⟩

/-- a def that has to know the frames around it -/
theorem cl_fnA {fa m : Nat} {ts : List T} {l : List Env} {Q : T → Cells → Prop} (h : FSpecA g m fa ts H Q) (ho : f.outer = some l) (hm : m ≤ n) : Cl g f n (.ref fa) ts V H Q := .mk fun A P Z s vs hr x r => by
  have hfr := frames_in x ho
  obtain ⟨st, back⟩ := x.call
  refine wpAny_call (codeAny_mono (h.go A _ Z s vs _ (hr.le hm) (hr.fr l ho) hfr st r) fun res s' ⟨v, Z', t, H', e, z', st', rd, q⟩ => ?_)
  subst e
  exact ⟨Z', t, H', z', back Z' H' s' z' st', rd, q⟩

@[reducible] noncomputable def kMethX2 (g : Gl) (m fa : Nat) (t : T) (R : Cells → Prop) : List T → Cells → Prop := fun ts H => FRaise g m fa (t :: ts) H R
inductive kMethX (g : Gl) (f : Fm) (n m k : Nat) (args : List Expr) (V : Vs) (R : Cells → Prop) (t : T) (H : Cells) : Prop
  | mk (C : Addr) (fs : List (Nat × T)) (fa : Addr) (h1 : AsInst H t C fs) (h2 : getF fs k = none) (h3 : ClsOk g.K C) (h4 : MethOk g.K C k fa) (h5 : Evs g f n args V H (kMethX2 g m fa t R))
theorem xv_meth {o apos pos} {k : Nat} {args : List Expr} {m : Nat} {l : List Env} {R : Cells → Prop} (ho : f.outer = some l)
    (h : Ev g f n o V H (kMethX g f n m k args V R)) (hm : m ≤ n)
    (hk : Nat.blt k nN = true := by rfl) (hp : ∀ pos env, (backTo pos (starEach args env)).any (·.1) = false := by intro _ _; rfl) (hl : args.length < 20 := by decide)
    (hb : ∀ env, attributeBase o (nm k) env (eval o env) = eval o env := by intro _; rfl) (hline : (apos.endLine == pos.line) = true := by rfl) : XEv g f n (.Call (.Attribute o (nm k) apos) args [] pos) V H R := .mk fun A P Z s hr x => by
  rw [arm_eval_Call, hb]
  rw [Nat.blt_eq] at hk
  refine wpAny_bind (wpAny_mono (h.go A P Z s hr x) (fun v s1 ⟨Z1, t, H1, z1, x1, r1, C, fs, fa, ha, hu, hC, hM, q⟩ => ?_) noE)
  refine wpAny_bind (wpAny_standAt ?_)
  have hform := form_ok (pos := pos) (env := f.env) (hp _ _) hl
  have hpos : methodCallPos true o f.env apos pos = pure pos := by unfold methodCallPos; simp [hline]
  unfold methodCall
  rw [hform]
  obtain ⟨a, dx, es, j, rfl, e, d, rq⟩ := inst_of x1.st ha r1
  have I : InstAt s1.heap a (instObj C dx) C (some (dictOf es j)) := ⟨e, rfl, rfl, d⟩
  refine wpAny_bind (wpAny_holding (method_fn x1.KX I hC.get hC.noget hM.1 hM.2.1 ?_ ?_))
  · show (lookIn (nm k) (dictOf es j)).map _ = _
    rw [lookIn_dict, getL_none rq hk hu]; rfl
  · refine wpAny_bind (wpAny_of_eq hpos ?_)
    refine callWith_of (P := fun h => g.K.In h) (by rw [hp]; rfl) (kp_keep hM.2.2.2) ?_
    refine evalArgs_any (hp _ _) (wpAny_mono (q.go A P Z1 s1 pos hr x1) (fun vs s2 ⟨Z2, ts, H2, z2, x2, r2, q2⟩ => ?_) noE)
    refine ⟨x2.KX, ?_⟩
    have hfr := frames_in x2 ho
    obtain ⟨st, back⟩ := x2.call
    refine wpAny_call (codeAny_mono (q2.go A _ Z2 s2 _ _ (hr.le hm) (hr.fr l ho) hfr st (.cons (r1.mono z2) r2)) fun res s' ⟨e', Z', H', q1, z', fl, hR⟩ => ?_)
    subst q1
    obtain ⟨h2, B, t', Ls, w1, w2, w3, w4, w5⟩ := fl
    exact ⟨e', Z', H', l, h2, B, t', Ls, rfl, (z1.trans z2).trans z', ho, back Z' H' _ z' w1, w2, w3, w4, w5, hR⟩
theorem slotsAt_of {h2 B h' : Heap} {Ls : List Addr} (hB : ∀ b o, b ∉ Ls → h2.get? b = some o → B.get? b = some o) (hs : B.StaysIn h') (hu : h2.UpToSlots h') : SlotsAt Ls h2 h' :=
  ⟨fun b o hb e => hs b o (hB b o hb e), fun b _ o e ⟨es, n, d⟩ => hu b o e fun vs q => by rw [d] at q; cases q⟩
/-- try: x = call; except BadOption: y = True -/
theorem ex_try_bad {gs : List Nat} {kc kr : Nat} {pc np pr pb : Pos} {kk} {e : Expr} {apos qpos hpos pos : Pos} {R : Cells → Prop} {Q : SQ} (pf : PF g) (hg : f.globs = gs) (hm : memN gs 113 = true) (hf : f.full = true) (hkr : hasT V kr = true)
    (h : XEv g f n e V H R) (hq : ∀ H', R H' → Q .next (setT V kr (.bool true)) H')
    (hs : ∀ x l env, swapsWith e (some x) l env = pure false := by intro _ _ _; rfl) :
    Ex g f n (.Try [.Assign [.Name (nm kc) pc] e apos] [.ExceptHandler (some (.Name (nm 113) np)) none [.Assign [.Name (nm kr) pr] (.Constant (.bool true) kk pb) qpos] hpos] [] [] pos) V H Q := .mk fun A P Z s hr x => by
  refine wpAny_Try_except (wpAny_execs_cons (wpAny_Assign_Name (wpAny_mono (h.go A P Z s hr x) (fun _ _ e => e.elim) fun e s1 ⟨a, Z1, H1, l, h2, B, t, Ls, q1, z1, ho, x1, w2, w3, w4, w5, hR⟩ => ?_) (hs _ _ _)))
  subst q1
  obtain ⟨k1, k2, k3⟩ := x1.sk l ho
  refine wpAny_looks_onW (hr.fr l ho) k1 w5 fun h4 y1 y2 => ?_
  refine wpAny_landsW y1 fun h5 y3 y4 => ?_
  have u5 := (w4.trans y2).trans y4
  have x5 : Rel g f P Z1 V H1 { s1 with heap := h5 } := x1.slots (slotsAt_of w2 y3.1 u5) w3
  obtain ⟨ob, hob, hobc⟩ := y3.there
  refine wpAny_handleBy_cons (codeAny_handlers_test (glob_ok x5 (by rfl) (by rw [hg]; exact hm) (.inl pf.bad.bound) ?_)) (by intro q; cases q)
  obtain ⟨bm, N, nm', qn, bs, hdct, sn, sub, ab, col, dd, c0, c1, c2, c3, c5, mN, hC, hN, hni, TL⟩ := pf.bad.obj
  refine wpAny_excMatches_sub_self (x5.st.kept _ _ hC) hob hobc (TL.hasType PySem.F.excBase_Exception.hasBase) (codeAny_handlers_suite ?_)
  refine lands_againW y3 fun h6 y5 y6 => ?_
  have x6 : Rel g f P Z1 V H1 { s1 with heap := h6 } := x1.slots (slotsAt_of w2 y5.1 (u5.trans y6)) w3
  refine wpAny_execs_cons (wpAny_Assign_Name (wpAny_Constant_bool (wpAny_mono (store_ok (E := NoE) x6 hkr hf (.bool true)) (fun _ s7 x7 => ?_) fun _ _ e => e.elim)) (by rfl))
  exact wpAny_execs_nil ⟨Z1, .next, _, H1, z1, x7, .next, hq H1 hR⟩
end
end

section
inductive E2 {α0 α1 : Type} (p : α0 → α1 → Prop) : Prop
  | mk (a0 : α0) (a1 : α1) (h : p a0 a1)
inductive E3 {α0 α1 α2 : Type} (p : α0 → α1 → α2 → Prop) : Prop
  | mk (a0 : α0) (a1 : α1) (a2 : α2) (h : p a0 a1 a2)
inductive E4 {α0 α1 α2 α3 : Type} (p : α0 → α1 → α2 → α3 → Prop) : Prop
  | mk (a0 : α0) (a1 : α1) (a2 : α2) (a3 : α3) (h : p a0 a1 a2 a3)
inductive E5 {α0 α1 α2 α3 α4 : Type} (p : α0 → α1 → α2 → α3 → α4 → Prop) : Prop
  | mk (a0 : α0) (a1 : α1) (a2 : α2) (a3 : α3) (a4 : α4) (h : p a0 a1 a2 a3 a4)
inductive E6 {α0 α1 α2 α3 α4 α5 : Type} (p : α0 → α1 → α2 → α3 → α4 → α5 → Prop) : Prop
  | mk (a0 : α0) (a1 : α1) (a2 : α2) (a3 : α3) (a4 : α4) (a5 : α5) (h : p a0 a1 a2 a3 a4 a5)
inductive E7 {α0 α1 α2 α3 α4 α5 α6 : Type} (p : α0 → α1 → α2 → α3 → α4 → α5 → α6 → Prop) : Prop
  | mk (a0 : α0) (a1 : α1) (a2 : α2) (a3 : α3) (a4 : α4) (a5 : α5) (a6 : α6) (h : p a0 a1 a2 a3 a4 a5 a6)
inductive E8 {α0 α1 α2 α3 α4 α5 α6 α7 : Type} (p : α0 → α1 → α2 → α3 → α4 → α5 → α6 → α7 → Prop) : Prop
  | mk (a0 : α0) (a1 : α1) (a2 : α2) (a3 : α3) (a4 : α4) (a5 : α5) (a6 : α6) (a7 : α7) (h : p a0 a1 a2 a3 a4 a5 a6 a7)
inductive A3 (p0 p1 p2 : Prop) : Prop
  | mk (h0 : p0) (h1 : p1) (h2 : p2)
inductive A4 (p0 p1 p2 p3 : Prop) : Prop
  | mk (h0 : p0) (h1 : p1) (h2 : p2) (h3 : p3)
inductive A5 (p0 p1 p2 p3 p4 : Prop) : Prop
  | mk (h0 : p0) (h1 : p1) (h2 : p2) (h3 : p3) (h4 : p4)
inductive A6 (p0 p1 p2 p3 p4 p5 : Prop) : Prop
  | mk (h0 : p0) (h1 : p1) (h2 : p2) (h3 : p3) (h4 : p4) (h5 : p5)
inductive A7 (p0 p1 p2 p3 p4 p5 p6 : Prop) : Prop
  | mk (h0 : p0) (h1 : p1) (h2 : p2) (h3 : p3) (h4 : p4) (h5 : p5) (h6 : p6)
inductive A8 (p0 p1 p2 p3 p4 p5 p6 p7 : Prop) : Prop
  | mk (h0 : p0) (h1 : p1) (h2 : p2) (h3 : p3) (h4 : p4) (h5 : p5) (h6 : p6) (h7 : p7)
inductive A10 (p0 p1 p2 p3 p4 p5 p6 p7 p8 p9 : Prop) : Prop
  | mk (h0 : p0) (h1 : p1) (h2 : p2) (h3 : p3) (h4 : p4) (h5 : p5) (h6 : p6) (h7 : p7) (h8 : p8) (h9 : p9)

noncomputable def usr (u : Nat) : List UInt8 := [[], [97], [97, 0], [98], [98, 97], [99], [99, 255], [100]].getD u []
structure Key where
  u : Nat
  m : Nat
structure Key.Ok (κ : Key) : Prop where
  u : κ.u < 8
  m : κ.m < 256
noncomputable def tagB (m : Nat) : List UInt8 := [1, m.toUInt8, 0, 0, 0, 0, 0, 0]
noncomputable def ikB (κ : Key) : List UInt8 := usr κ.u ++ tagB κ.m
noncomputable def Key.rank (κ : Key) : Int := (κ.u : Int) * 1000 - (κ.m : Int)
noncomputable def keyT (κ : Key) : T := .tup [.int κ.u, .int (-(κ.m : Int))]
noncomputable def cmpI (a b : Int) : Int := if a < b then -1 else if b < a then 1 else 0
theorem usr_len : ∀ u, (usr u).length ≤ 2 := by
  intro u
  unfold usr
  by_cases h : u < 8
  · have : ∀ u < 8, (([[], [97], [97, 0], [98], [98, 97], [99], [99, 255], [100]] : List (List UInt8)).getD u []).length ≤ 2 := by decide +kernel
    exact this u h
  · rw [List.getD_eq_getElem?_getD, List.getElem?_eq_none (by simp; walk_at "la")]; simp
theorem ikB_len (κ : Key) : (ikB κ).length = (usr κ.u).length + 8 := by simp [ikB, tagB]
theorem usr_lt : ∀ u < 8, ∀ v < 8, (Builtin.Bytes.order (usr u) (usr v) == .lt) = decide (u < v) := by decide +kernel
theorem usr_gt : ∀ u < 8, ∀ v < 8, (Builtin.Bytes.order (usr u) (usr v) == .gt) = decide (v < u) := by decide +kernel

section
variable {g : Gl} (pf : PF g) {H : Cells} {Q : T → Cells → Prop}
include pf
theorem sp_user_of {κ : Key} (h : Q (.bytes (usr κ.u)) H) : FSpec g 2 138 [.bytes (ikB κ)] H Q := by
  have hl := ikB_len κ
  have hu := usr_len κ.u
  refine fspec_of (m := 1) (ps := [6]) (ls := []) (gs := [4, 8, 10, 9]) (cs := []) (pf.fn 138 _ rfl) (by decide +kernel) rfl fun f hf hg hc => ?_
  conv => arg 4; whnf
  simp only [N_0, N_1, N_2, N_3, N_4, N_5, N_6, N_7, N_8, N_9, N_10, N_11, N_12, N_13, N_14, N_15, N_16, N_17, N_18, N_19, N_20, N_21, N_22, N_23, N_24, N_25, N_26, N_27, N_28, N_29, N_30, N_31, N_32, N_33, N_34, N_35, N_36, N_37, N_38, N_39, N_40, N_41, N_42, N_43, N_44, N_45, N_46, N_47, N_48, N_49, N_50, N_51, N_52, N_53, N_54, N_55, N_56, N_57, N_58, N_59, N_60, N_61, N_62, N_63, N_64, N_65, N_66, N_67, N_68, N_69, N_70, N_71, N_72, N_73, N_74, N_75, N_76, N_77, N_78, N_79, N_80, N_81, N_82, N_83, N_84, N_85, N_86, N_87, N_88, N_89, N_90, N_91, N_92, N_93, N_94, N_95, N_96, N_97, N_98, N_99, N_100, N_101, N_102, N_103, N_104, N_105, N_106, N_107, N_108, N_109, N_110, N_111, N_112, N_113, N_114, N_115, N_116, N_117, N_118, N_119, N_120, N_121, N_122, N_123, N_124, N_125, N_126, N_127, N_128, N_129, N_130, N_131, N_132, N_133, N_134, N_135, N_136, N_137, N_138, N_139, N_140, N_141, N_142, N_143, N_144, N_145, N_146, N_147, N_148, N_149, N_150, N_151, N_152, N_153, N_154, N_155, N_156, N_157, N_158, N_159, N_160, N_161, N_162, N_163, N_164, N_165, N_166, N_167, N_168, N_169, N_170, N_171, N_172, N_173, N_174, N_175, N_176, N_177, N_178, N_179, N_180, N_181, N_182, N_183, N_184, N_185, N_186, N_187, N_188, N_189, N_190, N_191, N_192, N_193, N_194, N_195, N_196, N_197]
  walk_at "w"
  refine cl_len_bytes (by walk_at "la") ?_
  walk_at "w"
  refine ite_dec (fun h => by exfalso; walk_at "la") fun _ => ?_
  walk_at "w"
  refine ev_bupto ?_
  walk_at "w"
  refine cl_len_bytes (by walk_at "la") ?_
  walk_at "w"
  refine ⟨_, _, rfl, rfl, by walk_at "la", by walk_at "la", ?_⟩
  walk_at "w"
  refine cl_bytes_bytes ?_
  have e : ((ikB κ).length - 8 : Int).toNat = (usr κ.u).length := by walk_at "la"
  rw [e, show (ikB κ).take (usr κ.u).length = usr κ.u by simp [ikB]]
  exact ⟨H, SubH.rfl, h⟩

omit pf in
theorem or_tag : ∀ m : Nat, m < 256 → Builtin.bitOr (Builtin.bitOr (Builtin.bitOr (((tagB m).getD 0 0).toNat : Int) ((((tagB m).getD 1 0).toNat : Int) * 2 ^ (8 : Int).toNat)) ((((tagB m).getD 2 0).toNat : Int) * 2 ^ (16 : Int).toNat)) ((((tagB m).getD 3 0).toNat : Int) * 2 ^ (24 : Int).toNat) = 1 + 256 * (m : Int) := by decide +kernel
omit pf in
theorem or_zero : ∀ m : Nat, m < 256 → Builtin.bitOr (Builtin.bitOr (Builtin.bitOr (((tagB m).getD 4 0).toNat : Int) ((((tagB m).getD 5 0).toNat : Int) * 2 ^ (8 : Int).toNat)) ((((tagB m).getD 6 0).toNat : Int) * 2 ^ (16 : Int).toNat)) ((((tagB m).getD 7 0).toNat : Int) * 2 ^ (24 : Int).toNat) = 0 := by decide +kernel
omit pf in
theorem or_both : ∀ m : Nat, m < 256 → Builtin.bitOr (1 + 256 * (m : Int)) ((0 : Int) * 2 ^ (32 : Int).toNat) = 1 + 256 * (m : Int) := by decide +kernel
omit pf in
theorem tag_get (p : List UInt8) (m i : Nat) : (p ++ tagB m).getD (p.length + i) 0 = (tagB m).getD i 0 := by
  simp [List.getD_eq_getElem?_getD, List.getElem?_append_right]
omit pf in
theorem op_sub_tag {f : Fm} {n : Nat} {V : Vs} {p : List UInt8} {m : Nat} (k : Nat) {i : Int} {value slice} (hi : i = p.length + (k : Int)) (hk : k < 8) (hp : p.length ≤ 100) (h : Q (.int ((tagB m).getD k 0).toNat) H)
    (hs : ∀ o j, subscripted slice false o j = operate [o, j] (getItem o j) := by intro _ _; rfl) : Op2 g f n (subscriptTail value slice) (.bytes (p ++ tagB m)) (.int i) V H Q := by
  have hl : (p ++ tagB m).length = p.length + 8 := by simp [tagB]
  refine op_sub_bytes (by walk_at "la") (by walk_at "la") (by walk_at "la") ?_ hs
  rw [hi, show (p.length + (k : Int)).toNat = p.length + k by walk_at "la", tag_get]
  exact h
omit pf in
theorem byte_lt (x : UInt8) : ((x.toNat : Nat) : Int).natAbs < 2 ^ 64 := by
  have := x.toNat_lt
  rw [Int.natAbs_natCast]; walk_at "la"
theorem sp_read32a {p : List UInt8} {m : Nat} (hp : p.length ≤ 100) (hm : m < 256) (h : Q (.int (1 + 256 * (m : Int))) H) : FSpec g 2 103 [.bytes (p ++ tagB m), .int p.length] H Q := by
  have hl : (p ++ tagB m).length = p.length + 8 := by simp [tagB]
  refine fspec_of (m := 1) (ps := [0, 1]) (ls := []) (gs := [4, 3]) (cs := []) (pf.fn 103 _ rfl) (by decide +kernel) rfl fun f hf hg hc => ?_
  conv => arg 4; whnf
  simp only [N_0, N_1, N_2, N_3, N_4, N_5, N_6, N_7, N_8, N_9, N_10, N_11, N_12, N_13, N_14, N_15, N_16, N_17, N_18, N_19, N_20, N_21, N_22, N_23, N_24, N_25, N_26, N_27, N_28, N_29, N_30, N_31, N_32, N_33, N_34, N_35, N_36, N_37, N_38, N_39, N_40, N_41, N_42, N_43, N_44, N_45, N_46, N_47, N_48, N_49, N_50, N_51, N_52, N_53, N_54, N_55, N_56, N_57, N_58, N_59, N_60, N_61, N_62, N_63, N_64, N_65, N_66, N_67, N_68, N_69, N_70, N_71, N_72, N_73, N_74, N_75, N_76, N_77, N_78, N_79, N_80, N_81, N_82, N_83, N_84, N_85, N_86, N_87, N_88, N_89, N_90, N_91, N_92, N_93, N_94, N_95, N_96, N_97, N_98, N_99, N_100, N_101, N_102, N_103, N_104, N_105, N_106, N_107, N_108, N_109, N_110, N_111, N_112, N_113, N_114, N_115, N_116, N_117, N_118, N_119, N_120, N_121, N_122, N_123, N_124, N_125, N_126, N_127, N_128, N_129, N_130, N_131, N_132, N_133, N_134, N_135, N_136, N_137, N_138, N_139, N_140, N_141, N_142, N_143, N_144, N_145, N_146, N_147, N_148, N_149, N_150, N_151, N_152, N_153, N_154, N_155, N_156, N_157, N_158, N_159, N_160, N_161, N_162, N_163, N_164, N_165, N_166, N_167, N_168, N_169, N_170, N_171, N_172, N_173, N_174, N_175, N_176, N_177, N_178, N_179, N_180, N_181, N_182, N_183, N_184, N_185, N_186, N_187, N_188, N_189, N_190, N_191, N_192, N_193, N_194, N_195, N_196, N_197]
  walk_at "w"
  refine ite_dec (fun h => by exfalso; walk_at "la") fun _ => ?_
  walk_at "w"
  refine cl_len_bytes (by walk_at "la") ?_
  walk_at "w"
  refine ite_dec (fun h => by exfalso; walk_at "la") fun _ => ?_
  walk_at "w"
  refine op_sub_tag 0 (by walk_at "la") (by walk_at "la") hp ?_
  walk_at "w"
  refine op_sub_tag 1 (by walk_at "la") (by walk_at "la") hp ?_
  walk_at "w"
  refine op_shl_int (by walk_at "la") (by walk_at "la") (byte_lt _) (op_or_int ?_)
  walk_at "w"
  refine op_sub_tag 2 (by walk_at "la") (by walk_at "la") hp ?_
  walk_at "w"
  refine op_shl_int (by walk_at "la") (by walk_at "la") (byte_lt _) (op_or_int ?_)
  walk_at "w"
  refine op_sub_tag 3 (by walk_at "la") (by walk_at "la") hp ?_
  walk_at "w"
  refine op_shl_int (by walk_at "la") (by walk_at "la") (byte_lt _) (op_or_int ⟨H, SubH.rfl, ?_⟩)
  try dsimp only
  rw [or_tag m hm]; exact h
theorem sp_read32b {p : List UInt8} {m : Nat} (hp : p.length ≤ 100) (hm : m < 256) (h : Q (.int 0) H) : FSpec g 2 103 [.bytes (p ++ tagB m), .int (p.length + 4)] H Q := by
  have hl : (p ++ tagB m).length = p.length + 8 := by simp [tagB]
  refine fspec_of (m := 1) (ps := [0, 1]) (ls := []) (gs := [4, 3]) (cs := []) (pf.fn 103 _ rfl) (by decide +kernel) rfl fun f hf hg hc => ?_
  conv => arg 4; whnf
  simp only [N_0, N_1, N_2, N_3, N_4, N_5, N_6, N_7, N_8, N_9, N_10, N_11, N_12, N_13, N_14, N_15, N_16, N_17, N_18, N_19, N_20, N_21, N_22, N_23, N_24, N_25, N_26, N_27, N_28, N_29, N_30, N_31, N_32, N_33, N_34, N_35, N_36, N_37, N_38, N_39, N_40, N_41, N_42, N_43, N_44, N_45, N_46, N_47, N_48, N_49, N_50, N_51, N_52, N_53, N_54, N_55, N_56, N_57, N_58, N_59, N_60, N_61, N_62, N_63, N_64, N_65, N_66, N_67, N_68, N_69, N_70, N_71, N_72, N_73, N_74, N_75, N_76, N_77, N_78, N_79, N_80, N_81, N_82, N_83, N_84, N_85, N_86, N_87, N_88, N_89, N_90, N_91, N_92, N_93, N_94, N_95, N_96, N_97, N_98, N_99, N_100, N_101, N_102, N_103, N_104, N_105, N_106, N_107, N_108, N_109, N_110, N_111, N_112, N_113, N_114, N_115, N_116, N_117, N_118, N_119, N_120, N_121, N_122, N_123, N_124, N_125, N_126, N_127, N_128, N_129, N_130, N_131, N_132, N_133, N_134, N_135, N_136, N_137, N_138, N_139, N_140, N_141, N_142, N_143, N_144, N_145, N_146, N_147, N_148, N_149, N_150, N_151, N_152, N_153, N_154, N_155, N_156, N_157, N_158, N_159, N_160, N_161, N_162, N_163, N_164, N_165, N_166, N_167, N_168, N_169, N_170, N_171, N_172, N_173, N_174, N_175, N_176, N_177, N_178, N_179, N_180, N_181, N_182, N_183, N_184, N_185, N_186, N_187, N_188, N_189, N_190, N_191, N_192, N_193, N_194, N_195, N_196, N_197]
  walk_at "w"
  refine ite_dec (fun h => by exfalso; walk_at "la") fun _ => ?_
  walk_at "w"
  refine cl_len_bytes (by walk_at "la") ?_
  walk_at "w"
  refine ite_dec (fun h => by exfalso; walk_at "la") fun _ => ?_
  walk_at "w"
  refine op_sub_tag 4 (by walk_at "la") (by walk_at "la") hp ?_
  walk_at "w"
  refine op_sub_tag 5 (by walk_at "la") (by walk_at "la") hp ?_
  walk_at "w"
  refine op_shl_int (by walk_at "la") (by walk_at "la") (byte_lt _) (op_or_int ?_)
  walk_at "w"
  refine op_sub_tag 6 (by walk_at "la") (by walk_at "la") hp ?_
  walk_at "w"
  refine op_shl_int (by walk_at "la") (by walk_at "la") (byte_lt _) (op_or_int ?_)
  walk_at "w"
  refine op_sub_tag 7 (by walk_at "la") (by walk_at "la") hp ?_
  walk_at "w"
  refine op_shl_int (by walk_at "la") (by walk_at "la") (byte_lt _) (op_or_int ⟨H, SubH.rfl, ?_⟩)
  try dsimp only
  rw [or_zero m hm]; exact h
theorem sp_read64 {p : List UInt8} {m : Nat} (hp : p.length ≤ 100) (hm : m < 256) (h : Q (.int (1 + 256 * (m : Int))) H) : FSpec g 3 110 [.bytes (p ++ tagB m), .int p.length] H Q := by
  have hl : (p ++ tagB m).length = p.length + 8 := by simp [tagB]
  refine fspec_of (m := 2) (ps := [0, 1]) (ls := []) (gs := [4, 3, 2]) (cs := []) (pf.fn 110 _ rfl) (by decide +kernel) rfl fun f hf hg hc => ?_
  conv => arg 4; whnf
  simp only [N_0, N_1, N_2, N_3, N_4, N_5, N_6, N_7, N_8, N_9, N_10, N_11, N_12, N_13, N_14, N_15, N_16, N_17, N_18, N_19, N_20, N_21, N_22, N_23, N_24, N_25, N_26, N_27, N_28, N_29, N_30, N_31, N_32, N_33, N_34, N_35, N_36, N_37, N_38, N_39, N_40, N_41, N_42, N_43, N_44, N_45, N_46, N_47, N_48, N_49, N_50, N_51, N_52, N_53, N_54, N_55, N_56, N_57, N_58, N_59, N_60, N_61, N_62, N_63, N_64, N_65, N_66, N_67, N_68, N_69, N_70, N_71, N_72, N_73, N_74, N_75, N_76, N_77, N_78, N_79, N_80, N_81, N_82, N_83, N_84, N_85, N_86, N_87, N_88, N_89, N_90, N_91, N_92, N_93, N_94, N_95, N_96, N_97, N_98, N_99, N_100, N_101, N_102, N_103, N_104, N_105, N_106, N_107, N_108, N_109, N_110, N_111, N_112, N_113, N_114, N_115, N_116, N_117, N_118, N_119, N_120, N_121, N_122, N_123, N_124, N_125, N_126, N_127, N_128, N_129, N_130, N_131, N_132, N_133, N_134, N_135, N_136, N_137, N_138, N_139, N_140, N_141, N_142, N_143, N_144, N_145, N_146, N_147, N_148, N_149, N_150, N_151, N_152, N_153, N_154, N_155, N_156, N_157, N_158, N_159, N_160, N_161, N_162, N_163, N_164, N_165, N_166, N_167, N_168, N_169, N_170, N_171, N_172, N_173, N_174, N_175, N_176, N_177, N_178, N_179, N_180, N_181, N_182, N_183, N_184, N_185, N_186, N_187, N_188, N_189, N_190, N_191, N_192, N_193, N_194, N_195, N_196, N_197]
  walk_at "w"
  refine ite_dec (fun h => by exfalso; walk_at "la") fun _ => ?_
  walk_at "w"
  refine cl_len_bytes (by walk_at "la") ?_
  walk_at "w"
  refine ite_dec (fun h => by exfalso; walk_at "la") fun _ => ?_
  walk_at "w"
  refine cl_fn (sp_read32a pf hp hm ?_) (by walk_at "la")
  walk_at "w"
  refine cl_fn (sp_read32b pf hp hm ?_) (by walk_at "la")
  walk_at "w"
  refine op_shl_int (by walk_at "la") (by walk_at "la") (by decide) (op_or_int ⟨H, SubH.rfl, ?_⟩)
  try dsimp only
  rw [or_both m hm]; exact h
theorem sp_tag_of {κ : Key} (hκ : κ.Ok) (h : Q (.int (1 + 256 * (κ.m : Int))) H) : FSpec g 4 145 [.bytes (ikB κ)] H Q := by
  have hl := ikB_len κ
  have hu := usr_len κ.u
  refine fspec_of (m := 3) (ps := [6]) (ls := []) (gs := [4, 8, 10, 5]) (cs := []) (pf.fn 145 _ rfl) (by decide +kernel) rfl fun f hf hg hc => ?_
  conv => arg 4; whnf
  simp only [N_0, N_1, N_2, N_3, N_4, N_5, N_6, N_7, N_8, N_9, N_10, N_11, N_12, N_13, N_14, N_15, N_16, N_17, N_18, N_19, N_20, N_21, N_22, N_23, N_24, N_25, N_26, N_27, N_28, N_29, N_30, N_31, N_32, N_33, N_34, N_35, N_36, N_37, N_38, N_39, N_40, N_41, N_42, N_43, N_44, N_45, N_46, N_47, N_48, N_49, N_50, N_51, N_52, N_53, N_54, N_55, N_56, N_57, N_58, N_59, N_60, N_61, N_62, N_63, N_64, N_65, N_66, N_67, N_68, N_69, N_70, N_71, N_72, N_73, N_74, N_75, N_76, N_77, N_78, N_79, N_80, N_81, N_82, N_83, N_84, N_85, N_86, N_87, N_88, N_89, N_90, N_91, N_92, N_93, N_94, N_95, N_96, N_97, N_98, N_99, N_100, N_101, N_102, N_103, N_104, N_105, N_106, N_107, N_108, N_109, N_110, N_111, N_112, N_113, N_114, N_115, N_116, N_117, N_118, N_119, N_120, N_121, N_122, N_123, N_124, N_125, N_126, N_127, N_128, N_129, N_130, N_131, N_132, N_133, N_134, N_135, N_136, N_137, N_138, N_139, N_140, N_141, N_142, N_143, N_144, N_145, N_146, N_147, N_148, N_149, N_150, N_151, N_152, N_153, N_154, N_155, N_156, N_157, N_158, N_159, N_160, N_161, N_162, N_163, N_164, N_165, N_166, N_167, N_168, N_169, N_170, N_171, N_172, N_173, N_174, N_175, N_176, N_177, N_178, N_179, N_180, N_181, N_182, N_183, N_184, N_185, N_186, N_187, N_188, N_189, N_190, N_191, N_192, N_193, N_194, N_195, N_196, N_197]
  walk_at "w"
  refine cl_len_bytes (by walk_at "la") ?_
  walk_at "w"
  refine ite_dec (fun h => by exfalso; walk_at "la") fun _ => ?_
  walk_at "w"
  refine cl_len_bytes (by walk_at "la") ?_
  walk_at "w"
  have e : ((ikB κ).length : Int) - 8 = ((usr κ.u).length : Int) := by walk_at "la"
  rw [e]
  exact cl_fn (sp_read64 pf (by walk_at "la") hκ.m ⟨H, SubH.rfl, h⟩) (by walk_at "la")

theorem sp_bcompare {t : T} {u v : Nat} (hu : u < 8) (hv : v < 8) (h : Q (.int (cmpI u v)) H) : FSpec g 2 159 [t, .bytes (usr u), .bytes (usr v)] H Q := by
  refine fspec_of (m := 1) (ps := [12, 13, 14]) (ls := []) (gs := []) (cs := []) (pf.fn 159 _ rfl) (by decide +kernel) rfl fun f hf hg hc => ?_
  conv => arg 4; whnf
  simp only [N_0, N_1, N_2, N_3, N_4, N_5, N_6, N_7, N_8, N_9, N_10, N_11, N_12, N_13, N_14, N_15, N_16, N_17, N_18, N_19, N_20, N_21, N_22, N_23, N_24, N_25, N_26, N_27, N_28, N_29, N_30, N_31, N_32, N_33, N_34, N_35, N_36, N_37, N_38, N_39, N_40, N_41, N_42, N_43, N_44, N_45, N_46, N_47, N_48, N_49, N_50, N_51, N_52, N_53, N_54, N_55, N_56, N_57, N_58, N_59, N_60, N_61, N_62, N_63, N_64, N_65, N_66, N_67, N_68, N_69, N_70, N_71, N_72, N_73, N_74, N_75, N_76, N_77, N_78, N_79, N_80, N_81, N_82, N_83, N_84, N_85, N_86, N_87, N_88, N_89, N_90, N_91, N_92, N_93, N_94, N_95, N_96, N_97, N_98, N_99, N_100, N_101, N_102, N_103, N_104, N_105, N_106, N_107, N_108, N_109, N_110, N_111, N_112, N_113, N_114, N_115, N_116, N_117, N_118, N_119, N_120, N_121, N_122, N_123, N_124, N_125, N_126, N_127, N_128, N_129, N_130, N_131, N_132, N_133, N_134, N_135, N_136, N_137, N_138, N_139, N_140, N_141, N_142, N_143, N_144, N_145, N_146, N_147, N_148, N_149, N_150, N_151, N_152, N_153, N_154, N_155, N_156, N_157, N_158, N_159, N_160, N_161, N_162, N_163, N_164, N_165, N_166, N_167, N_168, N_169, N_170, N_171, N_172, N_173, N_174, N_175, N_176, N_177, N_178, N_179, N_180, N_181, N_182, N_183, N_184, N_185, N_186, N_187, N_188, N_189, N_190, N_191, N_192, N_193, N_194, N_195, N_196, N_197]
  walk_at "w"
  refine op_lt_bytes ?_
  rw [usr_lt u hu v hv]
  walk_at "w"
  refine ite_dec (fun h1 => ?_) fun h1 => ?_
  · walk_at "w"
    exact ⟨H, SubH.rfl, by unfold cmpI at h; rwa [if_pos (by walk_at "la")] at h⟩
  walk_at "w"
  refine op_gt_bytes ?_
  rw [usr_gt u hu v hv]
  walk_at "w"
  refine ite_dec (fun h2 => ?_) fun h2 => ?_
  · walk_at "w"
    exact ⟨H, SubH.rfl, by unfold cmpI at h; rwa [if_neg (by walk_at "la"), if_pos (by walk_at "la")] at h⟩
  walk_at "w"
  exact ⟨H, SubH.rfl, by unfold cmpI at h; rwa [if_neg (by walk_at "la"), if_neg (by walk_at "la")] at h⟩
end
noncomputable def bordT : T := .inst 218 []
noncomputable def iordT : T := .inst 272 [(17, bordT)]
section
variable {g : Gl} (pf : PF g) {H : Cells} {Q : T → Cells → Prop}
include pf
theorem sp_icompare {κ ρ : Key} (hκ : κ.Ok) (hρ : ρ.Ok) (h : Q (.int (cmpI κ.rank ρ.rank)) H) : FSpec g 5 241 [iordT, .bytes (ikB κ), .bytes (ikB ρ)] H Q := by
  have k1 := hκ.u
  have k2 := hκ.m
  have r1 := hρ.u
  have r2 := hρ.m
  have e1 : κ.rank = (κ.u : Int) * 1000 - (κ.m : Int) := rfl
  have e2 : ρ.rank = (ρ.u : Int) * 1000 - (ρ.m : Int) := rfl
  unfold cmpI at h
  refine fspec_of (m := 4) (ps := [12, 13, 14]) (ls := [19, 20, 21]) (gs := [7, 11]) (cs := []) (pf.fn 241 _ rfl) (by decide +kernel) rfl fun f hf hg hc => ?_
  conv => arg 4; whnf
  simp only [N_0, N_1, N_2, N_3, N_4, N_5, N_6, N_7, N_8, N_9, N_10, N_11, N_12, N_13, N_14, N_15, N_16, N_17, N_18, N_19, N_20, N_21, N_22, N_23, N_24, N_25, N_26, N_27, N_28, N_29, N_30, N_31, N_32, N_33, N_34, N_35, N_36, N_37, N_38, N_39, N_40, N_41, N_42, N_43, N_44, N_45, N_46, N_47, N_48, N_49, N_50, N_51, N_52, N_53, N_54, N_55, N_56, N_57, N_58, N_59, N_60, N_61, N_62, N_63, N_64, N_65, N_66, N_67, N_68, N_69, N_70, N_71, N_72, N_73, N_74, N_75, N_76, N_77, N_78, N_79, N_80, N_81, N_82, N_83, N_84, N_85, N_86, N_87, N_88, N_89, N_90, N_91, N_92, N_93, N_94, N_95, N_96, N_97, N_98, N_99, N_100, N_101, N_102, N_103, N_104, N_105, N_106, N_107, N_108, N_109, N_110, N_111, N_112, N_113, N_114, N_115, N_116, N_117, N_118, N_119, N_120, N_121, N_122, N_123, N_124, N_125, N_126, N_127, N_128, N_129, N_130, N_131, N_132, N_133, N_134, N_135, N_136, N_137, N_138, N_139, N_140, N_141, N_142, N_143, N_144, N_145, N_146, N_147, N_148, N_149, N_150, N_151, N_152, N_153, N_154, N_155, N_156, N_157, N_158, N_159, N_160, N_161, N_162, N_163, N_164, N_165, N_166, N_167, N_168, N_169, N_170, N_171, N_172, N_173, N_174, N_175, N_176, N_177, N_178, N_179, N_180, N_181, N_182, N_183, N_184, N_185, N_186, N_187, N_188, N_189, N_190, N_191, N_192, N_193, N_194, N_195, N_196, N_197]
  walk_at "w"
  refine cl_fn (sp_user_of pf ?_) (by walk_at "la")
  walk_at "w"
  refine cl_fn (sp_user_of pf ?_) (by walk_at "la")
  walk_at "w"
  refine (sp_bcompare pf k1 r1 ?_).le (by walk_at "la")
  walk_at "w"
  refine ite_ndec (fun h1 => ?_) fun h1 => ?_
  · walk_at "w"
    refine ⟨H, SubH.rfl, ?_⟩
    unfold cmpI at h1 ⊢
    by_cases c1 : κ.u < ρ.u
    · rw [if_pos (by walk_at "la")] at h ⊢; exact h
    · by_cases c2 : ρ.u < κ.u
      · rw [if_neg (by walk_at "la"), if_pos (by walk_at "la")] at h ⊢; exact h
      · rw [if_neg (by walk_at "la"), if_neg (by walk_at "la")] at h1; exact absurd rfl h1
  have eu : κ.u = ρ.u := by
    unfold cmpI at h1
    split at h1
    · walk_at "la"
    · split at h1 <;> walk_at "la"
  walk_at "w"
  refine cl_fn (sp_tag_of pf hκ ?_) (by walk_at "la")
  walk_at "w"
  refine cl_fn (sp_tag_of pf hρ ?_) (by walk_at "la")
  walk_at "w"
  refine ite_dec (fun h1 => ?_) fun h1 => ?_
  · walk_at "w"
    exact ⟨H, SubH.rfl, by rwa [if_pos (by walk_at "la")] at h⟩
  walk_at "w"
  refine ite_dec (fun h2 => ?_) fun h2 => ?_
  · walk_at "w"
    exact ⟨H, SubH.rfl, by rwa [if_neg (by walk_at "la"), if_pos (by walk_at "la")] at h⟩
  walk_at "w"
  exact ⟨H, SubH.rfl, by rwa [if_neg (by walk_at "la"), if_neg (by walk_at "la")] at h⟩
end
end

section
inductive KForL (g : Gl) (f : Fm) (n k : Nat) (body : List Stmt) (V : Vs) (Q : SQ) (t : T) (H : Cells) : Prop
  | mk (α : Type) (xs : List α) (enc : α → T) (h1 : ItOk H t (xs.map enc)) (I : Nat → Vs → Cells → Prop) (h2 : I 0 V H)
    (h3 : ∀ i a V' H', xs[i]? = some a → I i V' H' → ItOk H' t (xs.map enc) ∧ hasT V' k = true ∧ let R := kLoop (I (i + 1)) Q; Exs g f n body (setT V' k (enc a)) H' R)
    (h4 : ∀ V' H', I xs.length V' H' → ItOk H' t (xs.map enc) ∧ Q .next V' H')
inductive KForR (g : Gl) (f : Fm) (n k : Nat) (body : List Stmt) (V : Vs) (Q : SQ) (t : T) (H : Cells) : Prop
  | mk (a b : Int) (h : t = .rng a b) (hb : -1000000 ≤ a ∧ a ≤ 1000000 ∧ -1000000 ≤ b ∧ b ≤ 1000000) (I : Nat → Vs → Cells → Prop) (h2 : I 0 V H)
    (h3 : ∀ (i : Nat) V' H', (i : Int) < b - a → I i V' H' → hasT V' k = true ∧ let R := kLoop (I (i + 1)) Q; Exs g f n body (setT V' k (.int (a + i))) H' R)
    (h4 : ∀ V' H', I (b - a).toNat V' H' → Q .next V' H')
section
variable {g : Gl} {f : Fm} {n : Nat} {V : Vs} {H : Cells} {Q : T → Cells → Prop}
theorem Cl.fz {fv : Value} {ts : List T} (h : Cl g f n fv ts V H fun t H1 => ∃ t' H', Fz H1 t H' t' ∧ Q t' H') : Cl g f n fv ts V H Q := .mk fun A P Z s vs hr x r =>
  wpAny_mono (h.go A P Z s vs hr x r) (fun v s1 ⟨Z1, t, H1, z1, x1, r1, t', H', hf, q⟩ => by
    obtain ⟨Z2, z2, x2, r2⟩ := hf.rel x1 r1
    exact ⟨Z2, t', H', z1.trans z2, x2, r2, q⟩) fun _ _ e => e
theorem fz_new {x : Addr} {c : Cell} {H' : Cells} (hn : H x = none) (hs : SubH (updH H x c) H') : Fz H' (.ref x) H c.tree := by
  refine .trans (.top (hs _ _ updH_self) .here) (.drop fun a c' e => ?_)
  by_cases q : a = x
  · subst q; rw [hn] at e; cases e
  · rw [delH_ne q]; exact hs _ _ (by rw [updH_ne q]; exact e)
theorem updH_comm {H : Cells} {a b : Addr} {c d : Cell} (h : a ≠ b) : updH (updH H a c) b d = updH (updH H b d) a c := by
  funext z
  unfold updH
  by_cases q : z = b
  · rw [if_pos q, if_neg (fun e => h (e.symm.trans q)), if_pos q]
  · rw [if_neg q]
    by_cases q2 : z = a
    · rw [if_pos q2, if_pos q2]
    · rw [if_neg q2, if_neg q2, if_neg q]

/-- for over xs, with what holds when i of them have been taken -/
theorem ex_forL {Q : SQ} {k : Nat} {p iter body pos} (hf : f.full = true) (hk : hasT V k = true)
    (h : Ev g f n iter V H (KForL g f n k body V Q))
    (hs : ∀ env x, foldedSetIterable iter env x = pure x := by intro _ _; rfl) : Ex g f n (.For (.Name (nm k) p) iter body [] pos) V H Q :=
  ex_for hf hk (h.mono fun t H1 ⟨α, xs, enc, h1, I, h2, h3, h4⟩ => ⟨xs.map enc, h1, I, h2, fun i u V' H' hu hI => by
    rw [List.getElem?_map, Option.map_eq_some_iff] at hu
    obtain ⟨a, ha, rfl⟩ := hu
    exact h3 i a V' H' ha hI, fun V' H' hI => h4 V' H' (by simpa using hI)⟩) hs
inductive FzF : Cells → Fl → Cells → Fl → Prop
  | ret {H t H' t'} : Fz H t H' t' → FzF H (.ret t) H' (.ret t')
  | same {H fl} : FzF H fl H fl
/-- what is given back is written no more -/
theorem Exs.fzr {ss} {Q : SQ} (h : Exs g f n ss V H fun fl V' H' => E2 fun fl' H'' => FzF H' fl H'' fl' ∧ Q fl' V' H'') : Exs g f n ss V H Q := .mk fun A P Z s hr x =>
  wpAny_mono (h.go A P Z s hr x) (fun fl s1 ⟨Z1, fl1, V1, H1, z1, x1, r1, fl', H'', hf, q⟩ => by
    cases hf with
    | same => exact ⟨Z1, _, V1, _, z1, x1, r1, q⟩
    | ret hf =>
      cases r1 with
      | ret r =>
        obtain ⟨Z2, z2, x2, r2⟩ := hf.rel x1 r
        exact ⟨Z2, _, V1, _, z1.trans z2, x2, .ret r2, q⟩) fun _ _ e => e
theorem fz_cell {H' : Cells} {a : Addr} {c : Cell} (hn : H a = none) (hs : SubH H H') (hc : H' a = some c) : Fz H' (.ref a) H c.tree :=
  .trans (.top hc .here) (.drop fun b d e => by
    rw [delH_ne (by rintro rfl; rw [hn] at e; cases e)]; exact hs b d e)
/-- for over a range -/
theorem ex_forR {Q : SQ} {k : Nat} {p iter body pos} (hf : f.full = true) (hk : hasT V k = true)
    (h : Ev g f n iter V H (KForR g f n k body V Q))
    (hs : ∀ env x, foldedSetIterable iter env x = pure x := by intro _ _; rfl) : Ex g f n (.For (.Name (nm k) p) iter body [] pos) V H Q :=
  ex_for hf hk (h.mono fun t H1 ⟨a, b, h1, hb, I, h2, h3, h4⟩ => by
    subst h1
    refine ⟨rngItems a b, .rng (by walk_at "la") (by walk_at "la") (by walk_at "la") (by walk_at "la"), I, h2, fun i u V' H' hu hI => ?_, fun V' H' hI => ⟨.rng (by walk_at "la") (by walk_at "la") (by walk_at "la") (by walk_at "la"), h4 V' H' (by simpa [rngItems] using hI)⟩⟩
    have hl := (List.getElem?_eq_some_iff.mp hu).1
    simp only [rngItems, List.length_map, List.length_range] at hl
    have hu' : u = .int (a + i) := by
      simp only [rngItems, List.getElem?_map, List.getElem?_range hl, Option.map_some, Option.some.injEq] at hu
      exact hu.symm
    subst hu'
    exact ⟨.rng (by walk_at "la") (by walk_at "la") (by walk_at "la") (by walk_at "la"), h3 i V' H' (by walk_at "la") hI⟩) hs
/-- an object that nobody writes to any more -/
theorem cl_clsT {C fI m : Nat} {ts : List T} (pf : PF g) (hi : tabGet iniL C = some fI) (hc : tabHas2 clsL C 0 = true)
    (h : ∀ x dx, H x = none → FSpec g m fI (.ref x :: ts) (updH H x (.inst C dx [])) fun t H' => t = .none ∧ ∃ fs, SubH (updH H x (.inst C dx fs)) H' ∧ Q (.inst C fs) H) (hm : m + 1 ≤ n) : Cl g f n (.ref C) ts V H Q :=
  Cl.fz (cl_clsG pf hi hc (fun x dx hn => (h x dx hn).mono fun t H' ⟨a, fs, hs, q⟩ => ⟨a, _, _, fz_new hn hs, q⟩) hm)
theorem cl_cls0T {C : Nat} (pf : PF g) (hC : C = 218) (h : Q (.inst C []) H) : Cl g f n (.ref C) [] V H Q := by
  subst hC
  exact Cl.fz (cl_cls0 (pf.cls 218 rfl) pf.ini0 fun x dx hn => ⟨_, _, fz_new hn SubH.rfl, h⟩)
end

section
variable {g : Gl} (pf : PF g) {H : Cells} {Q : T → Cells → Prop}
include pf
theorem sp_iord {x dx : Addr} (hx : H x = some (.inst 272 dx [])) (h : Q .none (updH H x (.inst 272 dx [(17, bordT)]))) : FSpec g 3 234 [.ref x] H Q := by
  refine fspec_of (m := 2) (ps := [12]) (ls := []) (gs := [18]) (cs := []) (pf.fn 234 _ rfl) (by decide +kernel) rfl fun f hf hg hc => ?_
  conv => arg 4; whnf
  simp only [N_0, N_1, N_2, N_3, N_4, N_5, N_6, N_7, N_8, N_9, N_10, N_11, N_12, N_13, N_14, N_15, N_16, N_17, N_18, N_19, N_20, N_21, N_22, N_23, N_24, N_25, N_26, N_27, N_28, N_29, N_30, N_31, N_32, N_33, N_34, N_35, N_36, N_37, N_38, N_39, N_40, N_41, N_42, N_43, N_44, N_45, N_46, N_47, N_48, N_49, N_50, N_51, N_52, N_53, N_54, N_55, N_56, N_57, N_58, N_59, N_60, N_61, N_62, N_63, N_64, N_65, N_66, N_67, N_68, N_69, N_70, N_71, N_72, N_73, N_74, N_75, N_76, N_77, N_78, N_79, N_80, N_81, N_82, N_83, N_84, N_85, N_86, N_87, N_88, N_89, N_90, N_91, N_92, N_93, N_94, N_95, N_96, N_97, N_98, N_99, N_100, N_101, N_102, N_103, N_104, N_105, N_106, N_107, N_108, N_109, N_110, N_111, N_112, N_113, N_114, N_115, N_116, N_117, N_118, N_119, N_120, N_121, N_122, N_123, N_124, N_125, N_126, N_127, N_128, N_129, N_130, N_131, N_132, N_133, N_134, N_135, N_136, N_137, N_138, N_139, N_140, N_141, N_142, N_143, N_144, N_145, N_146, N_147, N_148, N_149, N_150, N_151, N_152, N_153, N_154, N_155, N_156, N_157, N_158, N_159, N_160, N_161, N_162, N_163, N_164, N_165, N_166, N_167, N_168, N_169, N_170, N_171, N_172, N_173, N_174, N_175, N_176, N_177, N_178, N_179, N_180, N_181, N_182, N_183, N_184, N_185, N_186, N_187, N_188, N_189, N_190, N_191, N_192, N_193, N_194, N_195, N_196, N_197]
  walk_at "w"
  refine cl_cls0T pf rfl ?_
  walk_at "w"
  exact ⟨_, SubH.rfl, h⟩
theorem cl_iord {f : Fm} {n : Nat} {V : Vs} (hn : 4 ≤ n) (h : Q iordT H) : Cl g f n (.ref 272) [] V H Q :=
  cl_clsT pf rfl rfl (fun x dx hx => sp_iord pf (H := updH H x (.inst 272 dx [])) updH_self ⟨rfl, _, by rw [updH_updH]; exact SubH.rfl, h⟩) hn
theorem cl_bord {f : Fm} {n : Nat} {V : Vs} (h : Q bordT H) : Cl g f n (.ref 218) [] V H Q := cl_cls0T pf rfl h

noncomputable def optFs : List (Nat × T) := [(22, .int 1), (24, .int 32768), (25, .bool true), (26, .bool true), (27, .bool false), (28, .int 4194304), (29, .int 12), (30, .tup [.int 1, .int 2, .int 1, .int 3, .int 1, .int 2, .int 1, .int 4]), (31, .int 4096), (32, .int 16), (33, .int 10), (34, .int 11), (35, .int 2097152),
  (36, .int 7), (37, .int 4), (38, .int 12), (39, .int 10485760), (40, .int 10), (41, .int 2), (42, .int 10), (43, .int 25)]
theorem sp_options {x dx : Addr} (hx : H x = some (.inst 305 dx [])) (h : Q .none (updH H x (.inst 305 dx optFs))) : FSpec g 2 288 [.ref x] H Q := by
  refine fspec_of (m := 1) (ps := [12]) (ls := []) (gs := [23]) (cs := []) (pf.fn 288 _ rfl) (by decide +kernel) rfl fun f hf hg hc => ?_
  conv => arg 4; whnf
  simp only [N_0, N_1, N_2, N_3, N_4, N_5, N_6, N_7, N_8, N_9, N_10, N_11, N_12, N_13, N_14, N_15, N_16, N_17, N_18, N_19, N_20, N_21, N_22, N_23, N_24, N_25, N_26, N_27, N_28, N_29, N_30, N_31, N_32, N_33, N_34, N_35, N_36, N_37, N_38, N_39, N_40, N_41, N_42, N_43, N_44, N_45, N_46, N_47, N_48, N_49, N_50, N_51, N_52, N_53, N_54, N_55, N_56, N_57, N_58, N_59, N_60, N_61, N_62, N_63, N_64, N_65, N_66, N_67, N_68, N_69, N_70, N_71, N_72, N_73, N_74, N_75, N_76, N_77, N_78, N_79, N_80, N_81, N_82, N_83, N_84, N_85, N_86, N_87, N_88, N_89, N_90, N_91, N_92, N_93, N_94, N_95, N_96, N_97, N_98, N_99, N_100, N_101, N_102, N_103, N_104, N_105, N_106, N_107, N_108, N_109, N_110, N_111, N_112, N_113, N_114, N_115, N_116, N_117, N_118, N_119, N_120, N_121, N_122, N_123, N_124, N_125, N_126, N_127, N_128, N_129, N_130, N_131, N_132, N_133, N_134, N_135, N_136, N_137, N_138, N_139, N_140, N_141, N_142, N_143, N_144, N_145, N_146, N_147, N_148, N_149, N_150, N_151, N_152, N_153, N_154, N_155, N_156, N_157, N_158, N_159, N_160, N_161, N_162, N_163, N_164, N_165, N_166, N_167, N_168, N_169, N_170, N_171, N_172, N_173, N_174, N_175, N_176, N_177, N_178, N_179, N_180, N_181, N_182, N_183, N_184, N_185, N_186, N_187, N_188, N_189, N_190, N_191, N_192, N_193, N_194, N_195, N_196, N_197]
  walk_at "w"
  refine ⟨_, SubH.rfl, ?_⟩
  simp only [updH_updH]
  exact h

omit pf in
theorem subH_upd_upd {H : Cells} {a : Addr} {c c' : Cell} : SubH (updH H a c') (updH (updH H a c) a c') := by rw [updH_updH]; exact SubH.rfl

structure F where
  n : Int
  s : Int
  lo : Key
  hi : Key
noncomputable def fT (x : F) : T := .tup [.int x.n, .int x.s, keyT x.lo, keyT x.hi]
noncomputable def rowT (x : F) : T := .tup [.int x.n, .int x.s, .bytes (ikB x.lo), .bytes (ikB x.hi)]
noncomputable def metaFs (x : F) : List (Nat × T) := [(44, .int x.n), (45, .int x.s), (46, .bytes (ikB x.lo)), (47, .bytes (ikB x.hi))]
noncomputable def mT (x : F) : T := .inst 340 (metaFs x)
structure F.Ok (x : F) : Prop where
  s0 : 0 ≤ x.s
  s1 : x.s ≤ 1000
  lo : x.lo.Ok
  hi : x.hi.Ok
  le : x.lo.u ≤ x.hi.u
theorem sp_meta {a dx : Addr} {p q r t : T} (hx : H a = some (.inst 340 dx [])) (h : Q .none (updH H a (.inst 340 dx [(44, p), (45, q), (46, r), (47, t)]))) : FSpec g 2 330 [.ref a, p, q, r, t] H Q := by
  refine fspec_of (m := 1) (ps := [12, 44, 45, 46, 47]) (ls := []) (gs := []) (cs := []) (pf.fn 330 _ rfl) (by decide +kernel) rfl fun f hf hg hc => ?_
  conv => arg 4; whnf
  simp only [N_0, N_1, N_2, N_3, N_4, N_5, N_6, N_7, N_8, N_9, N_10, N_11, N_12, N_13, N_14, N_15, N_16, N_17, N_18, N_19, N_20, N_21, N_22, N_23, N_24, N_25, N_26, N_27, N_28, N_29, N_30, N_31, N_32, N_33, N_34, N_35, N_36, N_37, N_38, N_39, N_40, N_41, N_42, N_43, N_44, N_45, N_46, N_47, N_48, N_49, N_50, N_51, N_52, N_53, N_54, N_55, N_56, N_57, N_58, N_59, N_60, N_61, N_62, N_63, N_64, N_65, N_66, N_67, N_68, N_69, N_70, N_71, N_72, N_73, N_74, N_75, N_76, N_77, N_78, N_79, N_80, N_81, N_82, N_83, N_84, N_85, N_86, N_87, N_88, N_89, N_90, N_91, N_92, N_93, N_94, N_95, N_96, N_97, N_98, N_99, N_100, N_101, N_102, N_103, N_104, N_105, N_106, N_107, N_108, N_109, N_110, N_111, N_112, N_113, N_114, N_115, N_116, N_117, N_118, N_119, N_120, N_121, N_122, N_123, N_124, N_125, N_126, N_127, N_128, N_129, N_130, N_131, N_132, N_133, N_134, N_135, N_136, N_137, N_138, N_139, N_140, N_141, N_142, N_143, N_144, N_145, N_146, N_147, N_148, N_149, N_150, N_151, N_152, N_153, N_154, N_155, N_156, N_157, N_158, N_159, N_160, N_161, N_162, N_163, N_164, N_165, N_166, N_167, N_168, N_169, N_170, N_171, N_172, N_173, N_174, N_175, N_176, N_177, N_178, N_179, N_180, N_181, N_182, N_183, N_184, N_185, N_186, N_187, N_188, N_189, N_190, N_191, N_192, N_193, N_194, N_195, N_196, N_197]
  walk_at "w"
  refine ⟨_, SubH.rfl, ?_⟩
  simp only [updH_updH]
  exact h
theorem cl_meta {f : Fm} {n : Nat} {V : Vs} {p q r t : T} (hn : 3 ≤ n) (h : Q (.inst 340 [(44, p), (45, q), (46, r), (47, t)]) H) : Cl g f n (.ref 340) [p, q, r, t] V H Q :=
  cl_clsT pf rfl rfl (fun x dx hx => sp_meta pf (H := updH H x (.inst 340 dx [])) updH_self ⟨rfl, _, subH_upd_upd, h⟩) hn
theorem sp_row {x : F} (h : Q (rowT x) H) : FSpec g 2 337 [mT x] H Q := by
  refine fspec_of (m := 1) (ps := [12]) (ls := []) (gs := []) (cs := []) (pf.fn 337 _ rfl) (by decide +kernel) rfl fun f hf hg hc => ?_
  conv => arg 4; whnf
  simp only [N_0, N_1, N_2, N_3, N_4, N_5, N_6, N_7, N_8, N_9, N_10, N_11, N_12, N_13, N_14, N_15, N_16, N_17, N_18, N_19, N_20, N_21, N_22, N_23, N_24, N_25, N_26, N_27, N_28, N_29, N_30, N_31, N_32, N_33, N_34, N_35, N_36, N_37, N_38, N_39, N_40, N_41, N_42, N_43, N_44, N_45, N_46, N_47, N_48, N_49, N_50, N_51, N_52, N_53, N_54, N_55, N_56, N_57, N_58, N_59, N_60, N_61, N_62, N_63, N_64, N_65, N_66, N_67, N_68, N_69, N_70, N_71, N_72, N_73, N_74, N_75, N_76, N_77, N_78, N_79, N_80, N_81, N_82, N_83, N_84, N_85, N_86, N_87, N_88, N_89, N_90, N_91, N_92, N_93, N_94, N_95, N_96, N_97, N_98, N_99, N_100, N_101, N_102, N_103, N_104, N_105, N_106, N_107, N_108, N_109, N_110, N_111, N_112, N_113, N_114, N_115, N_116, N_117, N_118, N_119, N_120, N_121, N_122, N_123, N_124, N_125, N_126, N_127, N_128, N_129, N_130, N_131, N_132, N_133, N_134, N_135, N_136, N_137, N_138, N_139, N_140, N_141, N_142, N_143, N_144, N_145, N_146, N_147, N_148, N_149, N_150, N_151, N_152, N_153, N_154, N_155, N_156, N_157, N_158, N_159, N_160, N_161, N_162, N_163, N_164, N_165, N_166, N_167, N_168, N_169, N_170, N_171, N_172, N_173, N_174, N_175, N_176, N_177, N_178, N_179, N_180, N_181, N_182, N_183, N_184, N_185, N_186, N_187, N_188, N_189, N_190, N_191, N_192, N_193, N_194, N_195, N_196, N_197]
  walk_at "w"
  exact ⟨_, SubH.rfl, h⟩

noncomputable def editFs (p : T) : List (Nat × T) := [(49, .none), (50, .none), (51, .none), (52, .none), (53, p), (54, .lst []), (55, .lst []), (56, .bool false)]
theorem sp_edit {x dx : Addr} (hx : H x = some (.inst 375 dx [])) (h : ∀ p, p ≠ x → H p = none → Q .none (updH (updH H p (.list [])) x (.inst 375 dx (editFs (.ref p))))) : FSpec g 2 358 [.ref x] H Q := by
  refine fspec_of (m := 1) (ps := [12]) (ls := []) (gs := []) (cs := []) (pf.fn 358 _ rfl) (by decide +kernel) rfl fun f hf hg hc => ?_
  conv => arg 4; whnf
  simp only [N_0, N_1, N_2, N_3, N_4, N_5, N_6, N_7, N_8, N_9, N_10, N_11, N_12, N_13, N_14, N_15, N_16, N_17, N_18, N_19, N_20, N_21, N_22, N_23, N_24, N_25, N_26, N_27, N_28, N_29, N_30, N_31, N_32, N_33, N_34, N_35, N_36, N_37, N_38, N_39, N_40, N_41, N_42, N_43, N_44, N_45, N_46, N_47, N_48, N_49, N_50, N_51, N_52, N_53, N_54, N_55, N_56, N_57, N_58, N_59, N_60, N_61, N_62, N_63, N_64, N_65, N_66, N_67, N_68, N_69, N_70, N_71, N_72, N_73, N_74, N_75, N_76, N_77, N_78, N_79, N_80, N_81, N_82, N_83, N_84, N_85, N_86, N_87, N_88, N_89, N_90, N_91, N_92, N_93, N_94, N_95, N_96, N_97, N_98, N_99, N_100, N_101, N_102, N_103, N_104, N_105, N_106, N_107, N_108, N_109, N_110, N_111, N_112, N_113, N_114, N_115, N_116, N_117, N_118, N_119, N_120, N_121, N_122, N_123, N_124, N_125, N_126, N_127, N_128, N_129, N_130, N_131, N_132, N_133, N_134, N_135, N_136, N_137, N_138, N_139, N_140, N_141, N_142, N_143, N_144, N_145, N_146, N_147, N_148, N_149, N_150, N_151, N_152, N_153, N_154, N_155, N_156, N_157, N_158, N_159, N_160, N_161, N_162, N_163, N_164, N_165, N_166, N_167, N_168, N_169, N_170, N_171, N_172, N_173, N_174, N_175, N_176, N_177, N_178, N_179, N_180, N_181, N_182, N_183, N_184, N_185, N_186, N_187, N_188, N_189, N_190, N_191, N_192, N_193, N_194, N_195, N_196, N_197]
  walk_at "w"
  refine ev_listc ?_
  walk_at "w"
  intro p hp
  simp only [updH_updH] at hp ⊢
  have hpx : p ≠ x := by rintro rfl; rw [updH_self] at hp; cases hp
  have hp' : H p = none := by rwa [updH_ne hpx] at hp
  rw [updH_comm (Ne.symm hpx)]
  walk_at "w"
  refine ev_list ?_
  walk_at "w"
  refine ev_list ?_
  walk_at "w"
  simp only [updH_updH]
  exact ⟨_, SubH.rfl, h p hpx hp'⟩

theorem sp_picker {x dx : Addr} {o r : T} (hx : H x = some (.inst 606 dx [])) (h : Q .none (updH H x (.inst 606 dx [(81, o), (57, r)]))) : FSpec g 2 568 [.ref x, o, r] H Q := by
  refine fspec_of (m := 1) (ps := [12, 81, 57]) (ls := []) (gs := []) (cs := []) (pf.fn 568 _ rfl) (by decide +kernel) rfl fun f hf hg hc => ?_
  conv => arg 4; whnf
  simp only [N_0, N_1, N_2, N_3, N_4, N_5, N_6, N_7, N_8, N_9, N_10, N_11, N_12, N_13, N_14, N_15, N_16, N_17, N_18, N_19, N_20, N_21, N_22, N_23, N_24, N_25, N_26, N_27, N_28, N_29, N_30, N_31, N_32, N_33, N_34, N_35, N_36, N_37, N_38, N_39, N_40, N_41, N_42, N_43, N_44, N_45, N_46, N_47, N_48, N_49, N_50, N_51, N_52, N_53, N_54, N_55, N_56, N_57, N_58, N_59, N_60, N_61, N_62, N_63, N_64, N_65, N_66, N_67, N_68, N_69, N_70, N_71, N_72, N_73, N_74, N_75, N_76, N_77, N_78, N_79, N_80, N_81, N_82, N_83, N_84, N_85, N_86, N_87, N_88, N_89, N_90, N_91, N_92, N_93, N_94, N_95, N_96, N_97, N_98, N_99, N_100, N_101, N_102, N_103, N_104, N_105, N_106, N_107, N_108, N_109, N_110, N_111, N_112, N_113, N_114, N_115, N_116, N_117, N_118, N_119, N_120, N_121, N_122, N_123, N_124, N_125, N_126, N_127, N_128, N_129, N_130, N_131, N_132, N_133, N_134, N_135, N_136, N_137, N_138, N_139, N_140, N_141, N_142, N_143, N_144, N_145, N_146, N_147, N_148, N_149, N_150, N_151, N_152, N_153, N_154, N_155, N_156, N_157, N_158, N_159, N_160, N_161, N_162, N_163, N_164, N_165, N_166, N_167, N_168, N_169, N_170, N_171, N_172, N_173, N_174, N_175, N_176, N_177, N_178, N_179, N_180, N_181, N_182, N_183, N_184, N_185, N_186, N_187, N_188, N_189, N_190, N_191, N_192, N_193, N_194, N_195, N_196, N_197]
  walk_at "w"
  refine ⟨_, SubH.rfl, ?_⟩
  simp only [updH_updH]
  exact h
theorem cl_picker {f : Fm} {n : Nat} {V : Vs} {o r : T} (hn : 3 ≤ n) (h : Q (.inst 606 [(81, o), (57, r)]) H) : Cl g f n (.ref 606) [o, r] V H Q :=
  cl_clsT pf rfl rfl (fun x dx hx => sp_picker pf (H := updH H x (.inst 606 dx [])) updH_self ⟨rfl, _, subH_upd_upd, h⟩) hn

/-- what is asked of the options -/
structure Opt where
  fs : List (Nat × T)
  levels : Int
  trig : Int
  base : Int
  fac : Int
  most : Int
  grand : Int
  expand : Int
structure Opt.Ok (o : Opt) : Prop where
  l : getF o.fs 36 = some (.int o.levels)
  t : getF o.fs 37 = some (.int o.trig)
  b : getF o.fs 39 = some (.int o.base)
  f : getF o.fs 40 = some (.int o.fac)
  m : getF o.fs 35 = some (.int o.most)
  g : getF o.fs 42 = some (.int o.grand)
  e : getF o.fs 43 = some (.int o.expand)
  l1 : 1 ≤ o.levels ∧ o.levels ≤ 8
  t1 : 1 ≤ o.trig ∧ o.trig ≤ 100
  b1 : 1 ≤ o.base ∧ o.base ≤ 1000
  f1 : 1 ≤ o.fac ∧ o.fac ≤ 10
  m1 : 1 ≤ o.most ∧ o.most ≤ 10000000
  g1 : 1 ≤ o.grand ∧ o.grand ≤ 1000
  e1 : 1 ≤ o.expand ∧ o.expand ≤ 1000
noncomputable def Opt.T (o : Opt) : Mine.T := .inst 305 o.fs
omit pf in
theorem opt_attr {o : Opt} {k : Nat} {u : T} (h1 : getF o.fs k = some u) (h2 : tabHas2 fldL 305 k = true) (h : Q u H) :
    kAttr k Q o.T H := ⟨305, o.fs, u, .tree, h1, h2, rfl, h⟩
end
end
local macro_rules | `(tactic| walk_at "o") => `(tactic| (refine opt_attr (by first | exact Opt.Ok.l (by assumption) | exact Opt.Ok.t (by assumption) | exact Opt.Ok.b (by assumption) | exact Opt.Ok.f (by assumption) | exact Opt.Ok.m (by assumption) | exact Opt.Ok.g (by assumption) | exact Opt.Ok.e (by assumption)) (by rfl) ?_; walk_at "w"))
section
section
variable {g : Gl} (pf : PF g) {H : Cells} {Q : T → Cells → Prop}
include pf
noncomputable def octets (xs : List F) : Int := (xs.map (·.s)).sum
omit pf in
theorem octets_take {xs : List F} {i : Nat} {a : F} (h : xs[i]? = some a) : octets (xs.take (i + 1)) = octets (xs.take i) + a.s := by
  unfold octets
  rw [List.take_add_one, h]
  simp
theorem sp_total {t : T} {xs : List F} (ha : AsList H t (xs.map mT)) (h : Q (.int (octets xs)) H) : FSpec g 2 477 [t] H Q := by
  refine fspec_of (m := 1) (ps := [58]) (ls := [78, 72]) (gs := []) (cs := []) (pf.fn 477 _ rfl) (by decide +kernel) rfl fun f hf hg hc => ?_
  conv => arg 4; whnf
  simp only [N_0, N_1, N_2, N_3, N_4, N_5, N_6, N_7, N_8, N_9, N_10, N_11, N_12, N_13, N_14, N_15, N_16, N_17, N_18, N_19, N_20, N_21, N_22, N_23, N_24, N_25, N_26, N_27, N_28, N_29, N_30, N_31, N_32, N_33, N_34, N_35, N_36, N_37, N_38, N_39, N_40, N_41, N_42, N_43, N_44, N_45, N_46, N_47, N_48, N_49, N_50, N_51, N_52, N_53, N_54, N_55, N_56, N_57, N_58, N_59, N_60, N_61, N_62, N_63, N_64, N_65, N_66, N_67, N_68, N_69, N_70, N_71, N_72, N_73, N_74, N_75, N_76, N_77, N_78, N_79, N_80, N_81, N_82, N_83, N_84, N_85, N_86, N_87, N_88, N_89, N_90, N_91, N_92, N_93, N_94, N_95, N_96, N_97, N_98, N_99, N_100, N_101, N_102, N_103, N_104, N_105, N_106, N_107, N_108, N_109, N_110, N_111, N_112, N_113, N_114, N_115, N_116, N_117, N_118, N_119, N_120, N_121, N_122, N_123, N_124, N_125, N_126, N_127, N_128, N_129, N_130, N_131, N_132, N_133, N_134, N_135, N_136, N_137, N_138, N_139, N_140, N_141, N_142, N_143, N_144, N_145, N_146, N_147, N_148, N_149, N_150, N_151, N_152, N_153, N_154, N_155, N_156, N_157, N_158, N_159, N_160, N_161, N_162, N_163, N_164, N_165, N_166, N_167, N_168, N_169, N_170, N_171, N_172, N_173, N_174, N_175, N_176, N_177, N_178, N_179, N_180, N_181, N_182, N_183, N_184, N_185, N_186, N_187, N_188, N_189, N_190, N_191, N_192, N_193, N_194, N_195, N_196, N_197]
  walk_at "w"
  refine ex_forL (by assumption) rfl ?_
  walk_at "w"
  refine ⟨F, xs, mT, .list ha, fun i V' H' => H' = H ∧ ∃ o, V' = [(58, some t), (78, some (.int (octets (xs.take i)))), (72, o)], ⟨rfl, none, rfl⟩, ?_, ?_⟩
  · rintro i a V' H' hi ⟨rfl, o, rfl⟩
    refine ⟨.list ha, rfl, ?_⟩
    walk_at "w"
    exact ⟨rfl, some (mT a), by rw [octets_take hi]; rfl⟩
  · rintro V' H' ⟨rfl, o, rfl⟩
    refine ⟨.list ha, ?_⟩
    walk_at "w"
    exact ⟨_, SubH.rfl, by rwa [List.take_length]⟩

noncomputable def lvT (l : List F) : T := .lst (l.map mT)
noncomputable def verFs (cnt : Int) (fs sc : T) (sl : Int) : List (Nat × T) := [(36, .int cnt), (57, iordT), (58, fs), (60, .int 0), (61, sc), (62, .int sl)]
noncomputable def verC (dx : Addr) (cnt : Int) (L : List (List F)) (sc : T) (sl : Int) : Cell := .inst 466 dx (verFs cnt (.lst (L.map lvT)) sc sl)
omit pf in
theorem ver_attr {v dx : Addr} {cnt sl : Int} {L : List (List F)} {sc u : T} {k : Nat} (hv : H v = some (verC dx cnt L sc sl)) (h1 : getF (verFs cnt (.lst (L.map lvT)) sc sl) k = some u) (h2 : tabHas2 fldL 466 k = true) (h : Q u H) :
    kAttr k Q (.ref v) H := ⟨466, _, u, .cell hv, h1, h2, rfl, h⟩
theorem sp_level_octets {v dx : Addr} {cnt sl : Int} {L : List (List F)} {sc : T} {lev : Nat} {l : List F} (hv : H v = some (verC dx cnt L sc sl)) (hL : L.length ≤ 100) (hl : L[lev]? = some l) (h : Q (.int (octets l)) H) : FSpec g 2 442 [.ref v, .int (lev : Int)] H Q := by
  refine fspec_of (m := 1) (ps := [12, 59]) (ls := [76, 72]) (gs := []) (cs := []) (pf.fn 442 _ rfl) (by decide +kernel) rfl fun f hf hg hc => ?_
  conv => arg 4; whnf
  simp only [N_0, N_1, N_2, N_3, N_4, N_5, N_6, N_7, N_8, N_9, N_10, N_11, N_12, N_13, N_14, N_15, N_16, N_17, N_18, N_19, N_20, N_21, N_22, N_23, N_24, N_25, N_26, N_27, N_28, N_29, N_30, N_31, N_32, N_33, N_34, N_35, N_36, N_37, N_38, N_39, N_40, N_41, N_42, N_43, N_44, N_45, N_46, N_47, N_48, N_49, N_50, N_51, N_52, N_53, N_54, N_55, N_56, N_57, N_58, N_59, N_60, N_61, N_62, N_63, N_64, N_65, N_66, N_67, N_68, N_69, N_70, N_71, N_72, N_73, N_74, N_75, N_76, N_77, N_78, N_79, N_80, N_81, N_82, N_83, N_84, N_85, N_86, N_87, N_88, N_89, N_90, N_91, N_92, N_93, N_94, N_95, N_96, N_97, N_98, N_99, N_100, N_101, N_102, N_103, N_104, N_105, N_106, N_107, N_108, N_109, N_110, N_111, N_112, N_113, N_114, N_115, N_116, N_117, N_118, N_119, N_120, N_121, N_122, N_123, N_124, N_125, N_126, N_127, N_128, N_129, N_130, N_131, N_132, N_133, N_134, N_135, N_136, N_137, N_138, N_139, N_140, N_141, N_142, N_143, N_144, N_145, N_146, N_147, N_148, N_149, N_150, N_151, N_152, N_153, N_154, N_155, N_156, N_157, N_158, N_159, N_160, N_161, N_162, N_163, N_164, N_165, N_166, N_167, N_168, N_169, N_170, N_171, N_172, N_173, N_174, N_175, N_176, N_177, N_178, N_179, N_180, N_181, N_182, N_183, N_184, N_185, N_186, N_187, N_188, N_189, N_190, N_191, N_192, N_193, N_194, N_195, N_196, N_197]
  walk_at "w"
  refine ex_forL (by assumption) rfl ?_
  walk_at "w"
  refine op_sub_list .tree (by walk_at "la") (by simp; walk_at "la") (u := lvT l) (by simp [hl]) ?_
  refine ⟨F, l, mT, .list .tree, fun i V' H' => H' = H ∧ ∃ o, V' = [(12, some (.ref v)), (59, some (.int lev)), (76, some (.int (octets (l.take i)))), (72, o)], ⟨rfl, none, rfl⟩, ?_, ?_⟩
  · rintro i a V' H' hi ⟨rfl, o, rfl⟩
    refine ⟨.list .tree, rfl, ?_⟩
    walk_at "w"
    exact ⟨rfl, some (mT a), by rw [octets_take hi]; rfl⟩
  · rintro V' H' ⟨rfl, o, rfl⟩
    refine ⟨.list .tree, ?_⟩
    walk_at "w"
    exact ⟨_, SubH.rfl, by rwa [List.take_length]⟩

noncomputable def loK : List F → Key
  | [] => ⟨0, 0⟩
  | x :: r => r.foldl (fun k y => if y.lo.rank < k.rank then y.lo else k) x.lo
noncomputable def hiK : List F → Key
  | [] => ⟨0, 0⟩
  | x :: r => r.foldl (fun k y => if k.rank < y.hi.rank then y.hi else k) x.hi
omit pf in
theorem fold_take {α β : Type} (f : β → α → β) (b : β) {l : List α} {i : Nat} {a : α} (h : l[i]? = some a) : (l.take (i + 1)).foldl f b = f ((l.take i).foldl f b) a := by
  rw [List.take_add_one, h]; simp
omit pf in
theorem lo_ok : ∀ (r : List F) (k : Key), k.Ok → (∀ x ∈ r, x.Ok) → (r.foldl (fun k y => if y.lo.rank < k.rank then y.lo else k) k).Ok
  | [], k, h, _ => h
  | y :: r, k, h, hr => by
    rw [List.foldl_cons]
    refine lo_ok r _ ?_ fun x hx => hr x (List.mem_cons_of_mem _ hx)
    split
    · exact (hr y (by simp)).lo
    · exact h
omit pf in
theorem hi_ok : ∀ (r : List F) (k : Key), k.Ok → (∀ x ∈ r, x.Ok) → (r.foldl (fun k y => if k.rank < y.hi.rank then y.hi else k) k).Ok
  | [], k, h, _ => h
  | y :: r, k, h, hr => by
    rw [List.foldl_cons]
    refine hi_ok r _ ?_ fun x hx => hr x (List.mem_cons_of_mem _ hx)
    split
    · exact (hr y (by simp)).hi
    · exact h
theorem sp_key_range {t : T} {xs : List F} (ha : AsList H t (xs.map mT)) (hne : xs ≠ []) (hl : xs.length ≤ 10000) (hok : ∀ x ∈ xs, x.Ok) (h : Q (.tup [.bytes (ikB (loK xs)), .bytes (ikB (hiK xs))]) H) : FSpec g 7 484 [t, iordT] H Q := by
  obtain ⟨x0, r, rfl⟩ : ∃ x0 r, xs = x0 :: r := by cases xs with | nil => exact absurd rfl hne | cons a b => exact ⟨a, b, rfl⟩
  have hr : ∀ x ∈ r, x.Ok := fun x hx => hok x (List.mem_cons_of_mem _ hx)
  have h0 := hok x0 (by simp)
  refine fspec_of (m := 6) (ps := [58, 57]) (ls := [46, 47, 72]) (gs := []) (cs := []) (pf.fn 484 _ rfl) (by decide +kernel) rfl fun f hf hg hc => ?_
  conv => arg 4; whnf
  simp only [N_0, N_1, N_2, N_3, N_4, N_5, N_6, N_7, N_8, N_9, N_10, N_11, N_12, N_13, N_14, N_15, N_16, N_17, N_18, N_19, N_20, N_21, N_22, N_23, N_24, N_25, N_26, N_27, N_28, N_29, N_30, N_31, N_32, N_33, N_34, N_35, N_36, N_37, N_38, N_39, N_40, N_41, N_42, N_43, N_44, N_45, N_46, N_47, N_48, N_49, N_50, N_51, N_52, N_53, N_54, N_55, N_56, N_57, N_58, N_59, N_60, N_61, N_62, N_63, N_64, N_65, N_66, N_67, N_68, N_69, N_70, N_71, N_72, N_73, N_74, N_75, N_76, N_77, N_78, N_79, N_80, N_81, N_82, N_83, N_84, N_85, N_86, N_87, N_88, N_89, N_90, N_91, N_92, N_93, N_94, N_95, N_96, N_97, N_98, N_99, N_100, N_101, N_102, N_103, N_104, N_105, N_106, N_107, N_108, N_109, N_110, N_111, N_112, N_113, N_114, N_115, N_116, N_117, N_118, N_119, N_120, N_121, N_122, N_123, N_124, N_125, N_126, N_127, N_128, N_129, N_130, N_131, N_132, N_133, N_134, N_135, N_136, N_137, N_138, N_139, N_140, N_141, N_142, N_143, N_144, N_145, N_146, N_147, N_148, N_149, N_150, N_151, N_152, N_153, N_154, N_155, N_156, N_157, N_158, N_159, N_160, N_161, N_162, N_163, N_164, N_165, N_166, N_167, N_168, N_169, N_170, N_171, N_172, N_173, N_174, N_175, N_176, N_177, N_178, N_179, N_180, N_181, N_182, N_183, N_184, N_185, N_186, N_187, N_188, N_189, N_190, N_191, N_192, N_193, N_194, N_195, N_196, N_197]
  walk_at "w"
  refine op_sub_list ha (by walk_at "la") (by simp at hl ⊢; walk_at "la") (u := mT x0) (by rfl) ?_
  walk_at "w"
  refine op_sub_list ha (by walk_at "la") (by simp at hl ⊢; walk_at "la") (u := mT x0) (by rfl) ?_
  walk_at "w"
  refine ex_forL (by assumption) rfl ?_
  refine ev_from ?_
  walk_at "w"
  refine ⟨_, _, ha, rfl, by walk_at "la", by simp, by simp at hl ⊢; walk_at "la", ?_⟩
  let fl := fun (k : Key) (y : F) => if y.lo.rank < k.rank then y.lo else k
  let fh := fun (k : Key) (y : F) => if k.rank < y.hi.rank then y.hi else k
  refine ⟨F, r, mT, .list .tree, fun i V' H' => H' = H ∧ ∃ o, V' = [(58, some t), (57, some iordT), (46, some (.bytes (ikB ((r.take i).foldl fl x0.lo)))), (47, some (.bytes (ikB ((r.take i).foldl fh x0.hi)))), (72, o)], ⟨rfl, none, rfl⟩, ?_, ?_⟩
  · rintro i a V' H' hi ⟨rfl, o, rfl⟩
    have hta : ∀ x ∈ r.take i, x.Ok := fun x hx => hr x (List.mem_of_mem_take hx)
    have hav := hr a (List.mem_of_getElem? hi)
    refine ⟨.list .tree, rfl, ?_⟩
    walk_at "w"
    have q1 : ((r.take i).foldl fl x0.lo).Ok := lo_ok (r.take i) x0.lo h0.lo hta
    have q2 : ((r.take i).foldl fh x0.hi).Ok := hi_ok (r.take i) x0.hi h0.hi hta
    refine (sp_icompare pf hav.lo q1 ?_).le (by walk_at "la")
    walk_at "w"
    have e1 : (r.take (i + 1)).foldl fl x0.lo = if a.lo.rank < ((r.take i).foldl fl x0.lo).rank then a.lo else (r.take i).foldl fl x0.lo := fold_take fl _ hi
    have e2 : (r.take (i + 1)).foldl fh x0.hi = if ((r.take i).foldl fh x0.hi).rank < a.hi.rank then a.hi else (r.take i).foldl fh x0.hi := fold_take fh _ hi
    refine ite_dec (fun h1 => ?_) fun h1 => ?_
    all_goals
      unfold cmpI at h1
      walk_at "w"
      refine (sp_icompare pf hav.hi q2 ?_).le (by walk_at "la")
      walk_at "w"
      refine ite_dec (fun h2 => ?_) fun h2 => ?_
      all_goals
        unfold cmpI at h2
        walk_at "w"
        refine ⟨rfl, some (mT a), ?_⟩
    · rw [e1, e2, if_pos, if_pos]; rfl
      · split at h2
        · walk_at "la"
        · split at h2 <;> walk_at "la"
      · split at h1
        · walk_at "la"
        · split at h1 <;> walk_at "la"
    · rw [e1, e2, if_pos, if_neg]; rfl
      · split at h2
        · walk_at "la"
        · split at h2 <;> walk_at "la"
      · split at h1
        · walk_at "la"
        · split at h1 <;> walk_at "la"
    · rw [e1, e2, if_neg, if_pos]; rfl
      · split at h2
        · walk_at "la"
        · split at h2 <;> walk_at "la"
      · split at h1
        · walk_at "la"
        · split at h1 <;> walk_at "la"
    · rw [e1, e2, if_neg, if_neg]; rfl
      · split at h2
        · walk_at "la"
        · split at h2 <;> walk_at "la"
      · split at h1
        · walk_at "la"
        · split at h1 <;> walk_at "la"
  · rintro V' H' ⟨rfl, o, rfl⟩
    refine ⟨.list .tree, ?_⟩
    walk_at "w"
    exact ⟨_, SubH.rfl, by rwa [List.take_length]⟩

theorem sp_max_octets {o : Opt} (ho : o.Ok) {lev : Nat} (h1 : 1 ≤ lev) (h2 : lev ≤ 3) (h : Q (.int (o.base * o.fac ^ (lev - 1))) H) : FSpec g 2 547 [o.T, .int (lev : Int)] H Q := by
  have hb := ho.b1
  have hf1 := ho.f1
  refine fspec_of (m := 1) (ps := [81, 59]) (ls := [96]) (gs := []) (cs := []) (pf.fn 547 _ rfl) (by decide +kernel) rfl fun f hf hg hc => ?_
  conv => arg 4; whnf
  simp only [N_0, N_1, N_2, N_3, N_4, N_5, N_6, N_7, N_8, N_9, N_10, N_11, N_12, N_13, N_14, N_15, N_16, N_17, N_18, N_19, N_20, N_21, N_22, N_23, N_24, N_25, N_26, N_27, N_28, N_29, N_30, N_31, N_32, N_33, N_34, N_35, N_36, N_37, N_38, N_39, N_40, N_41, N_42, N_43, N_44, N_45, N_46, N_47, N_48, N_49, N_50, N_51, N_52, N_53, N_54, N_55, N_56, N_57, N_58, N_59, N_60, N_61, N_62, N_63, N_64, N_65, N_66, N_67, N_68, N_69, N_70, N_71, N_72, N_73, N_74, N_75, N_76, N_77, N_78, N_79, N_80, N_81, N_82, N_83, N_84, N_85, N_86, N_87, N_88, N_89, N_90, N_91, N_92, N_93, N_94, N_95, N_96, N_97, N_98, N_99, N_100, N_101, N_102, N_103, N_104, N_105, N_106, N_107, N_108, N_109, N_110, N_111, N_112, N_113, N_114, N_115, N_116, N_117, N_118, N_119, N_120, N_121, N_122, N_123, N_124, N_125, N_126, N_127, N_128, N_129, N_130, N_131, N_132, N_133, N_134, N_135, N_136, N_137, N_138, N_139, N_140, N_141, N_142, N_143, N_144, N_145, N_146, N_147, N_148, N_149, N_150, N_151, N_152, N_153, N_154, N_155, N_156, N_157, N_158, N_159, N_160, N_161, N_162, N_163, N_164, N_165, N_166, N_167, N_168, N_169, N_170, N_171, N_172, N_173, N_174, N_175, N_176, N_177, N_178, N_179, N_180, N_181, N_182, N_183, N_184, N_185, N_186, N_187, N_188, N_189, N_190, N_191, N_192, N_193, N_194, N_195, N_196, N_197]
  walk_at "w"
  refine opt_attr ho.b rfl ?_
  walk_at "w"
  refine ex_while (fun j V' H' => H' = H ∧ ∃ r : Int, A5 (V' = [(81, some o.T), (59, some (.int ((j : Int) + 1))), (96, some (.int r))]) (r * o.fac ^ j = o.base * o.fac ^ (lev - 1)) (0 ≤ r) (r * 10 ^ j ≤ 100000) (j ≤ 2)) ?_ (lev - 1) ⟨rfl, o.base, ?_, rfl, by walk_at "la", ?_, by walk_at "la"⟩
  · rintro j V' H' ⟨rfl, r, rfl, e, r0, r1, hj⟩
    walk_at "w"
    refine ite_dec (fun hlt => ?_) fun hlt => ?_
    · have hle : r * o.fac ≤ r * 10 := Int.mul_le_mul_of_nonneg_left hf1.2 r0
      have hge : 0 ≤ r * o.fac := Int.mul_nonneg r0 (by walk_at "la")
      walk_at "w"
      refine opt_attr ho.f rfl ?_
      have hrb : r ≤ 100000 := by
        obtain rfl | rfl : j = 1 ∨ j = 2 := by walk_at "la"
        · walk_at "la"
        · walk_at "la"
      refine op_imul_int (by walk_at "la") ?_
      walk_at "w"
      refine ⟨j - 1, by walk_at "la", rfl, r * o.fac, ?_, ?_, hge, ?_, by walk_at "la"⟩
      · have ej : (j : Int) + 1 - 1 = ((j - 1 : Nat) : Int) + 1 := by walk_at "la"
        rw [ej]; rfl
      · rw [← e, Int.mul_assoc, ← Int.pow_succ', show j - 1 + 1 = j by walk_at "la"]
      · obtain rfl | rfl : j = 1 ∨ j = 2 := by walk_at "la"
        · simp at r1 ⊢; walk_at "la"
        · simp at r1 ⊢; walk_at "la"
    · have hj0 : j = 0 := by walk_at "la"
      subst hj0
      walk_at "w"
      rw [Int.pow_zero, Int.mul_one] at e
      exact ⟨_, SubH.rfl, by rw [e]; exact h⟩
  · have el : ((lev - 1 : Nat) : Int) + 1 = (lev : Int) := by walk_at "la"
    rw [el]; rfl
  · obtain h3 | h3 | h3 : lev - 1 = 0 ∨ lev - 1 = 1 ∨ lev - 1 = 2 := by walk_at "la"
    all_goals rw [h3]; simp; walk_at "la"

noncomputable def pickT (o : Opt) : T := .inst 606 [(81, o.T), (57, iordT)]
theorem sp_user_range {o : Opt} {t : T} {xs : List F} (ha : AsList H t (xs.map mT)) (hne : xs ≠ []) (hl : xs.length ≤ 10000) (hok : ∀ x ∈ xs, x.Ok) (h : Q (.tup [.bytes (usr (loK xs).u), .bytes (usr (hiK xs).u)]) H) : FSpec g 9 582 [pickT o, t] H Q := by
  refine fspec_of (m := 8) (ps := [12, 58]) (ls := [105]) (gs := [79, 7]) (cs := []) (pf.fn 582 _ rfl) (by decide +kernel) rfl fun f hf hg hc => ?_
  conv => arg 4; whnf
  simp only [N_0, N_1, N_2, N_3, N_4, N_5, N_6, N_7, N_8, N_9, N_10, N_11, N_12, N_13, N_14, N_15, N_16, N_17, N_18, N_19, N_20, N_21, N_22, N_23, N_24, N_25, N_26, N_27, N_28, N_29, N_30, N_31, N_32, N_33, N_34, N_35, N_36, N_37, N_38, N_39, N_40, N_41, N_42, N_43, N_44, N_45, N_46, N_47, N_48, N_49, N_50, N_51, N_52, N_53, N_54, N_55, N_56, N_57, N_58, N_59, N_60, N_61, N_62, N_63, N_64, N_65, N_66, N_67, N_68, N_69, N_70, N_71, N_72, N_73, N_74, N_75, N_76, N_77, N_78, N_79, N_80, N_81, N_82, N_83, N_84, N_85, N_86, N_87, N_88, N_89, N_90, N_91, N_92, N_93, N_94, N_95, N_96, N_97, N_98, N_99, N_100, N_101, N_102, N_103, N_104, N_105, N_106, N_107, N_108, N_109, N_110, N_111, N_112, N_113, N_114, N_115, N_116, N_117, N_118, N_119, N_120, N_121, N_122, N_123, N_124, N_125, N_126, N_127, N_128, N_129, N_130, N_131, N_132, N_133, N_134, N_135, N_136, N_137, N_138, N_139, N_140, N_141, N_142, N_143, N_144, N_145, N_146, N_147, N_148, N_149, N_150, N_151, N_152, N_153, N_154, N_155, N_156, N_157, N_158, N_159, N_160, N_161, N_162, N_163, N_164, N_165, N_166, N_167, N_168, N_169, N_170, N_171, N_172, N_173, N_174, N_175, N_176, N_177, N_178, N_179, N_180, N_181, N_182, N_183, N_184, N_185, N_186, N_187, N_188, N_189, N_190, N_191, N_192, N_193, N_194, N_195, N_196, N_197]
  walk_at "w"
  refine cl_fn (sp_key_range pf ha hne hl hok ?_) (by walk_at "la")
  walk_at "w"
  refine cl_fn (sp_user_of pf ?_) (by walk_at "la")
  walk_at "w"
  refine cl_fn (sp_user_of pf ?_) (by walk_at "la")
  walk_at "w"
  exact ⟨_, SubH.rfl, h⟩
theorem sp_needs {o : Opt} {v dx : Addr} {cnt a b sl : Int} {L : List (List F)} (hv : H v = some (verC dx cnt L (.tup [.int a, .int b]) sl)) (h : Q (.bool (decide (b ≤ a))) H) : FSpec g 2 575 [pickT o, .ref v] H Q := by
  refine fspec_of (m := 1) (ps := [12, 80]) (ls := []) (gs := []) (cs := []) (pf.fn 575 _ rfl) (by decide +kernel) rfl fun f hf hg hc => ?_
  conv => arg 4; whnf
  simp only [N_0, N_1, N_2, N_3, N_4, N_5, N_6, N_7, N_8, N_9, N_10, N_11, N_12, N_13, N_14, N_15, N_16, N_17, N_18, N_19, N_20, N_21, N_22, N_23, N_24, N_25, N_26, N_27, N_28, N_29, N_30, N_31, N_32, N_33, N_34, N_35, N_36, N_37, N_38, N_39, N_40, N_41, N_42, N_43, N_44, N_45, N_46, N_47, N_48, N_49, N_50, N_51, N_52, N_53, N_54, N_55, N_56, N_57, N_58, N_59, N_60, N_61, N_62, N_63, N_64, N_65, N_66, N_67, N_68, N_69, N_70, N_71, N_72, N_73, N_74, N_75, N_76, N_77, N_78, N_79, N_80, N_81, N_82, N_83, N_84, N_85, N_86, N_87, N_88, N_89, N_90, N_91, N_92, N_93, N_94, N_95, N_96, N_97, N_98, N_99, N_100, N_101, N_102, N_103, N_104, N_105, N_106, N_107, N_108, N_109, N_110, N_111, N_112, N_113, N_114, N_115, N_116, N_117, N_118, N_119, N_120, N_121, N_122, N_123, N_124, N_125, N_126, N_127, N_128, N_129, N_130, N_131, N_132, N_133, N_134, N_135, N_136, N_137, N_138, N_139, N_140, N_141, N_142, N_143, N_144, N_145, N_146, N_147, N_148, N_149, N_150, N_151, N_152, N_153, N_154, N_155, N_156, N_157, N_158, N_159, N_160, N_161, N_162, N_163, N_164, N_165, N_166, N_167, N_168, N_169, N_170, N_171, N_172, N_173, N_174, N_175, N_176, N_177, N_178, N_179, N_180, N_181, N_182, N_183, N_184, N_185, N_186, N_187, N_188, N_189, N_190, N_191, N_192, N_193, N_194, N_195, N_196, N_197]
  walk_at "w"
  exact ⟨_, SubH.rfl, h⟩
end
end

section
structure FsOk (xs : List F) : Prop where
  ok : ∀ x ∈ xs, x.Ok
  len : xs.length ≤ 100
theorem FsOk.oct {xs : List F} (h : FsOk xs) : 0 ≤ octets xs ∧ octets xs ≤ 100000 := by
  have := sum_bound (B := 1000) (by walk_at "la") (xs.map (·.s)) fun x hx => by
    obtain ⟨y, hy, rfl⟩ := List.mem_map.mp hx
    exact ⟨(h.ok y hy).s0, (h.ok y hy).s1⟩
  have hl := h.len
  rw [List.length_map] at this
  unfold octets
  walk_at "la"
structure LsOk (L : List (List F)) : Prop where
  ok : ∀ l ∈ L, FsOk l
  l3 : 3 ≤ L.length
  l4 : L.length ≤ 4

structure Best where
  top : Int
  bot : Int
  lev : Nat
noncomputable def part (L : List (List F)) (o : Opt) (lev : Nat) : Best := if lev = 0 then ⟨(L.getD 0 []).length, o.trig, 0⟩ else ⟨octets (L.getD lev []), o.base * o.fac ^ (lev - 1), lev⟩
noncomputable def best (L : List (List F)) (o : Opt) : Nat → Best
  | 0 => part L o 0
  | n + 1 => if (best L o n).top * (part L o (n + 1)).bot < (part L o (n + 1)).top * (best L o n).bot then part L o (n + 1) else best L o n
structure BestOk (b : Best) : Prop where
  t0 : 0 ≤ b.top
  t1 : b.top ≤ 1000000
  b0 : 1 ≤ b.bot
  b1 : b.bot ≤ 1000000
theorem part_ok {L : List (List F)} {o : Opt} (hL : LsOk L) (ho : o.Ok) {lev : Nat} (h : lev ≤ 2) : BestOk (part L o lev) := by
  have hg : ∀ i, FsOk (L.getD i []) := fun i => by
    rw [List.getD_eq_getElem?_getD]
    cases q : L[i]? with
    | none => exact ⟨by simp, by simp⟩
    | some l => exact hL.ok l (List.mem_of_getElem? q)
  have t1 := ho.t1
  have b1 := ho.b1
  have f1 := ho.f1
  unfold part
  split
  · have := (hg 0).len
    exact ⟨by dsimp only; walk_at "la", by dsimp only; walk_at "la", by dsimp only; walk_at "la", by dsimp only; walk_at "la"⟩
  · have := (hg lev).oct
    obtain h3 | h3 : lev = 1 ∨ lev = 2 := by walk_at "la"
    · subst h3
      exact ⟨by dsimp only; walk_at "la", by dsimp only; walk_at "la", by simp; walk_at "la", by simp; walk_at "la"⟩
    · subst h3
      have ep : o.fac ^ (2 - 1) = o.fac := by simp [Int.pow_succ]
      have m1 : o.base * o.fac ≤ 1000 * o.fac := Int.mul_le_mul_of_nonneg_right (by walk_at "la") (by walk_at "la")
      have m2 : 1 * o.fac ≤ o.base * o.fac := Int.mul_le_mul_of_nonneg_right (by walk_at "la") (by walk_at "la")
      exact ⟨by dsimp only; walk_at "la", by dsimp only; walk_at "la", by dsimp only; rw [ep]; walk_at "la", by dsimp only; rw [ep]; walk_at "la"⟩
theorem best_bok {L : List (List F)} {o : Opt} (hL : LsOk L) (ho : o.Ok) : ∀ n, n ≤ 2 → BestOk (best L o n)
  | 0, h => part_ok hL ho h
  | n + 1, h => by
    unfold best
    split
    · exact part_ok hL ho h
    · exact best_bok hL ho n (by walk_at "la")
theorem bmul {a : Int} (h0 : 0 ≤ a) (h1 : a ≤ 1000000) : a.natAbs < 2 ^ 60 := by walk_at "la"

section
variable {g : Gl} (pf : PF g) {H : Cells} {Q : T → Cells → Prop}
include pf
theorem sp_score {v dx : Addr} {cnt sl : Int} {L : List (List F)} {sc : T} {o : Opt} (hv : H v = some (verC dx cnt L sc sl)) (hL : LsOk L) (ho : o.Ok) (hcnt : o.levels = L.length)
    (h : Q (.tup [.int (best L o (L.length - 2)).top, .int (best L o (L.length - 2)).bot]) (updH H v (verC dx cnt L (.tup [.int (best L o (L.length - 2)).top, .int (best L o (L.length - 2)).bot]) (best L o (L.length - 2)).lev))) : FSpec g 4 554 [.ref v, o.T] H Q := by
  have l3 := hL.l3
  have l4 := hL.l4
  have t1 := ho.t1
  obtain ⟨l0, hl0⟩ : ∃ l0, L[0]? = some l0 := ⟨_, List.getElem?_eq_getElem (by walk_at "la")⟩
  have hl0d : L.getD 0 [] = l0 := by rw [List.getD_eq_getElem?_getD, hl0]; rfl
  have hl0k := hL.ok l0 (List.mem_of_getElem? hl0)
  have hl0l := hl0k.len
  refine fspec_of (m := 3) (ps := [80, 81]) (ls := [98, 99, 100, 59, 101, 102]) (gs := [4, 63, 95]) (cs := []) (pf.fn 554 _ rfl) (by decide +kernel) rfl fun f hf hg hc => ?_
  conv => arg 4; whnf
  simp only [N_0, N_1, N_2, N_3, N_4, N_5, N_6, N_7, N_8, N_9, N_10, N_11, N_12, N_13, N_14, N_15, N_16, N_17, N_18, N_19, N_20, N_21, N_22, N_23, N_24, N_25, N_26, N_27, N_28, N_29, N_30, N_31, N_32, N_33, N_34, N_35, N_36, N_37, N_38, N_39, N_40, N_41, N_42, N_43, N_44, N_45, N_46, N_47, N_48, N_49, N_50, N_51, N_52, N_53, N_54, N_55, N_56, N_57, N_58, N_59, N_60, N_61, N_62, N_63, N_64, N_65, N_66, N_67, N_68, N_69, N_70, N_71, N_72, N_73, N_74, N_75, N_76, N_77, N_78, N_79, N_80, N_81, N_82, N_83, N_84, N_85, N_86, N_87, N_88, N_89, N_90, N_91, N_92, N_93, N_94, N_95, N_96, N_97, N_98, N_99, N_100, N_101, N_102, N_103, N_104, N_105, N_106, N_107, N_108, N_109, N_110, N_111, N_112, N_113, N_114, N_115, N_116, N_117, N_118, N_119, N_120, N_121, N_122, N_123, N_124, N_125, N_126, N_127, N_128, N_129, N_130, N_131, N_132, N_133, N_134, N_135, N_136, N_137, N_138, N_139, N_140, N_141, N_142, N_143, N_144, N_145, N_146, N_147, N_148, N_149, N_150, N_151, N_152, N_153, N_154, N_155, N_156, N_157, N_158, N_159, N_160, N_161, N_162, N_163, N_164, N_165, N_166, N_167, N_168, N_169, N_170, N_171, N_172, N_173, N_174, N_175, N_176, N_177, N_178, N_179, N_180, N_181, N_182, N_183, N_184, N_185, N_186, N_187, N_188, N_189, N_190, N_191, N_192, N_193, N_194, N_195, N_196, N_197]
  walk_at "w"
  refine cl_len_list .tree (by simp; walk_at "la") ?_
  walk_at "w"
  rw [List.length_map]
  refine ite_dec (fun h => by exfalso; walk_at "la") fun _ => ?_
  walk_at "w"
  refine op_sub_list .tree (by walk_at "la") (by simp; walk_at "la") (u := lvT l0) (by simp [hl0]) ?_
  walk_at "w"
  refine cl_len_list .tree (by simp; walk_at "la") ?_
  rw [List.length_map]
  walk_at "w"
  refine opt_attr ho.t rfl ?_
  walk_at "w"
  refine ex_forR (by assumption) rfl ?_
  walk_at "w"
  refine opt_attr ho.l rfl ?_
  walk_at "w"
  refine cl_range2 ?_
  refine ⟨_, _, rfl, by walk_at "la", fun i V' H' => H' = H ∧ E3 fun p q r => V' = [(80, some (.ref v)), (81, some o.T), (98, some (.int (best L o i).top)), (99, some (.int (best L o i).bot)), (100, some (.int (best L o i).lev)), (59, p), (101, q), (102, r)], ⟨rfl, none, none, none, ?_⟩, ?_, ?_⟩
  · have e : best L o 0 = ⟨(L.getD 0 []).length, o.trig, 0⟩ := rfl
    rw [e, hl0d]; rfl
  · rintro i V' H' hi ⟨rfl, p, q, r, rfl⟩
    have hi2 : i + 1 ≤ 2 := by walk_at "la"
    obtain ⟨l, hl⟩ : ∃ l, L[i + 1]? = some l := ⟨_, List.getElem?_eq_getElem (by walk_at "la")⟩
    have hld : L.getD (i + 1) [] = l := by rw [List.getD_eq_getElem?_getD, hl]; rfl
    have b1 := best_bok hL ho i (by walk_at "la")
    have b2 := part_ok hL ho hi2
    have ep : part L o (i + 1) = ⟨octets l, o.base * o.fac ^ (i + 1 - 1), i + 1⟩ := by
      unfold part; rw [if_neg (by walk_at "la"), hld]
    have eb : best L o (i + 1) = if (best L o i).top * (part L o (i + 1)).bot < (part L o (i + 1)).top * (best L o i).bot then part L o (i + 1) else best L o i := rfl
    have ei : (1 + (i : Int)) = ((i + 1 : Nat) : Int) := Int.add_comm 1 (i : Int)
    rw [ei]
    refine ⟨rfl, ?_⟩
    walk_at "w"
    refine (sp_level_octets pf hv (by walk_at "la") hl ?_).le (by walk_at "la")
    walk_at "w"
    refine cl_fn (sp_max_octets pf ho (by walk_at "la") (by walk_at "la") ?_) (by walk_at "la")
    walk_at "w"
    rw [ep] at b2 eb
    refine op_mul_int (bmul b2.t0 b2.t1) ?_
    walk_at "w"
    refine op_mul_int (bmul b1.t0 b1.t1) ?_
    walk_at "w"
    refine ite_dec (fun hc => ?_) fun hc => ?_
    · walk_at "w"
      try dsimp only
      refine ⟨rfl, ?_⟩; rw [eb, if_pos hc]; exact ⟨_, _, _, rfl⟩
    · walk_at "w"
      try dsimp only
      refine ⟨rfl, ?_⟩; rw [eb, if_neg hc]; exact ⟨_, _, _, rfl⟩
  · rintro V' H' ⟨rfl, p, q, r, rfl⟩
    have el : (o.levels - 1 - 1).toNat = L.length - 2 := (congrArg (fun z : Int => (z - 1 - 1).toNat) (by assumption : o.levels = (L.length : Int))).trans tn2
    rw [el]
    walk_at "w"
    simp only [updH_updH]
    exact ⟨_, SubH.rfl, h⟩
end

noncomputable def Oth (x : Addr) (H H' : Cells) : Prop := ∀ a c, a ≠ x → H a = some c → H' a = some c
theorem Oth.upd {x : Addr} {H : Cells} {c : Cell} : Oth x H (updH H x c) := fun a d h e => by rw [updH_ne h]; exact e
theorem Oth.sub {x : Addr} {H H' : Cells} (h : SubH H H') : Oth x H H' := fun a d _ e => h a d e
theorem Oth.trans {x : Addr} {H H' H'' : Cells} (h : Oth x H H') (h' : Oth x H' H'') : Oth x H H'' := fun a c n e => h' a c n (h a c n e)
theorem sub_upd {x : Addr} {H : Cells} {c : Cell} (h : H x = none) : SubH H (updH H x c) := subH_updH h
section
variable {g : Gl} {f : Fm} {n : Nat} {V : Vs} {H : Cells} {Q : T → Cells → Prop}
theorem ev_listX {es pos} (h : Evs g f n es V H fun ts H1 => ts.length ≤ 1000 ∧ ∀ a H2, H1 a = none → H2 a = some (.list ts) → SubH H1 H2 → Q (.ref a) H2) : Ev g f n (.List es pos) V H Q :=
  ev_listc (h.mono fun ts H1 ⟨a, b⟩ => ⟨a, fun x hx => b x _ hx updH_self (subH_updH hx)⟩)
theorem ev_compX {k : Nat} {elt iter : Expr} {ifs : List Expr} {p pos : Pos} {scope : Scope} (cps gs : List Nat) (hchk : chkComp scope k cps gs = true) (hcap : cps.all (fun c => memN f.cels c && hasT V c) = true)
    (h : CompOk g f n scope k cps gs iter ifs elt V H fun out H1 => ∀ a H2, H1 a = none → H2 a = some (.list out) → SubH H1 H2 → Q (.ref a) H2)
    (hs : ∀ env x, foldedSetIterable iter env x = pure x := by intro _ _; rfl) : Ev g f n (.ListComp elt [⟨.Name (nm k) p, iter, ifs, 0⟩] scope pos) V H Q :=
  ev_compc cps gs hchk hcap (h.mono fun t H1 ⟨α, xs, enc, Fx, a, b, c, d⟩ => ⟨α, xs, enc, Fx, a, b, c, fun x hx => d x _ hx updH_self (subH_updH hx)⟩) hs
end

section
variable {g : Gl} (pf : PF g) {H : Cells} {Q : T → Cells → Prop}
include pf
theorem sp_editX {x dx : Addr} (hx : H x = some (.inst 375 dx [])) (h : ∀ p H', p ≠ x → H p = none → H' x = some (.inst 375 dx (editFs (.ref p))) → H' p = some (.list []) → Oth x H H' → Q .none H') : FSpec g 2 358 [.ref x] H Q :=
  sp_edit pf hx fun p hpx hp => h p _ hpx hp updH_self (by rw [updH_ne hpx]; exact updH_self) fun a c ha e => by rw [updH_ne ha]; exact subH_updH hp a c e
theorem cl_edit {f : Fm} {n : Nat} {V : Vs} (hn : 3 ≤ n) (h : ∀ e de p H', p ≠ e → H e = none → H p = none → H' e = some (.inst 375 de (editFs (.ref p))) → H' p = some (.list []) → SubH H H' → Q (.ref e) H') : Cl g f n (.ref 375) [] V H Q :=
  cl_clsG pf rfl rfl (m := 2) (fun e de he => sp_editX pf updH_self fun p H' hpe hp h1 h2 h3 => ⟨rfl, h e de p H' hpe he (by rwa [updH_ne hpe] at hp) h1 h2 fun a c ea => h3 a c (by rintro rfl; rw [he] at ea; cases ea) (by rw [updH_ne (by rintro rfl; rw [he] at ea; cases ea)]; exact ea)⟩) hn
noncomputable def compFs (lev v o : T) (ins gr ed : T) (man : Bool) (cnt : Int) : List (Nat × T) := [(59, lev), (80, v), (81, o), (57, iordT), (82, bordT), (83, ins), (84, gr), (85, ed), (86, .bool man), (87, .int 0), (88, .int 0), (89, .bool false), (90, .lst (List.replicate cnt.toNat (.int 0)))]
structure CompAt (H' : Cells) (x dx i e de p : Addr) (lev v : T) (o : Opt) (man : Bool) (ins0 ins1 gr : T) (ps : List T) : Prop where
  hx : H' x = some (.inst 536 dx (compFs lev v o.T (.ref i) gr (.ref e) man o.levels))
  hi : H' i = some (.list [ins0, ins1])
  he : H' e = some (.inst 375 de (editFs (.ref p)))
  hp : H' p = some (.list ps)
  ix : i ≠ x
  ex : e ≠ x
  px : p ≠ x
  ie : i ≠ e
  ip : i ≠ p
  ep : e ≠ p
theorem sp_comp {x dx : Addr} {lev v : T} {o : Opt} (ho : o.Ok) (hx : H x = some (.inst 536 dx []))
    (h : ∀ i e de p H', H i = none → H e = none → H p = none → CompAt H' x dx i e de p lev v o false (.lst []) (.lst []) (.lst []) [] → Oth x H H' → Q .none H') :
    FSpec g 6 498 [.ref x, lev, v, o.T] H Q := by
  have l1 := ho.l1
  refine fspec_of (m := 5) (ps := [12, 59, 80, 81]) (ls := []) (gs := [91, 18, 92]) (cs := []) (pf.fn 498 _ rfl) (by decide +kernel) rfl fun f hf hg hc => ?_
  conv => arg 4; whnf
  simp only [N_0, N_1, N_2, N_3, N_4, N_5, N_6, N_7, N_8, N_9, N_10, N_11, N_12, N_13, N_14, N_15, N_16, N_17, N_18, N_19, N_20, N_21, N_22, N_23, N_24, N_25, N_26, N_27, N_28, N_29, N_30, N_31, N_32, N_33, N_34, N_35, N_36, N_37, N_38, N_39, N_40, N_41, N_42, N_43, N_44, N_45, N_46, N_47, N_48, N_49, N_50, N_51, N_52, N_53, N_54, N_55, N_56, N_57, N_58, N_59, N_60, N_61, N_62, N_63, N_64, N_65, N_66, N_67, N_68, N_69, N_70, N_71, N_72, N_73, N_74, N_75, N_76, N_77, N_78, N_79, N_80, N_81, N_82, N_83, N_84, N_85, N_86, N_87, N_88, N_89, N_90, N_91, N_92, N_93, N_94, N_95, N_96, N_97, N_98, N_99, N_100, N_101, N_102, N_103, N_104, N_105, N_106, N_107, N_108, N_109, N_110, N_111, N_112, N_113, N_114, N_115, N_116, N_117, N_118, N_119, N_120, N_121, N_122, N_123, N_124, N_125, N_126, N_127, N_128, N_129, N_130, N_131, N_132, N_133, N_134, N_135, N_136, N_137, N_138, N_139, N_140, N_141, N_142, N_143, N_144, N_145, N_146, N_147, N_148, N_149, N_150, N_151, N_152, N_153, N_154, N_155, N_156, N_157, N_158, N_159, N_160, N_161, N_162, N_163, N_164, N_165, N_166, N_167, N_168, N_169, N_170, N_171, N_172, N_173, N_174, N_175, N_176, N_177, N_178, N_179, N_180, N_181, N_182, N_183, N_184, N_185, N_186, N_187, N_188, N_189, N_190, N_191, N_192, N_193, N_194, N_195, N_196, N_197]
  walk_at "w"
  refine cl_iord pf (by walk_at "la") ?_
  walk_at "w"
  refine cl_bord pf ?_
  walk_at "w"
  refine ev_listX ?_
  walk_at "w"
  refine ev_list ?_
  walk_at "w"
  refine ev_list ?_
  walk_at "w"
  intro i H1 hi h1i h1s
  simp only [updH_updH] at hi h1s
  have hix : i ≠ x := by rintro rfl; rw [updH_self] at hi; cases hi
  have hi' : H i = none := by rwa [updH_ne hix] at hi
  have h1x := h1s x _ updH_self
  have o1 : Oth x H H1 := Oth.upd.trans (.sub h1s)
  clear h1s hi
  walk_at "w"
  refine ev_list ?_
  walk_at "w"
  simp only [updH_updH]
  refine cl_edit pf (by walk_at "la") fun e de p H2 hpe he hp h2e h2p h2s => ?_
  have hex : e ≠ x := by rintro rfl; rw [updH_self] at he; cases he
  have hpx : p ≠ x := by rintro rfl; rw [updH_self] at hp; cases hp
  rw [updH_ne hex] at he
  rw [updH_ne hpx] at hp
  have hei : i ≠ e := by rintro rfl; rw [h1i] at he; cases he
  have hpi : i ≠ p := by rintro rfl; rw [h1i] at hp; cases hp
  have h2x := h2s x _ updH_self
  have h2i := h2s i _ (by rw [updH_ne hix]; exact h1i)
  have o2 : Oth x H H2 := o1.trans (Oth.upd.trans (.sub h2s))
  have nH : ∀ d, H1 d = none → d ≠ x → H d = none := fun d hd hdx => by
    cases q : H d with
    | none => rfl
    | some c => rw [o1 d c hdx q] at hd; cases hd
  walk_at "w"
  simp only [updH_updH]
  refine ev_listX ?_
  walk_at "w"
  intro z H3 hz h3z h3s
  have h3x := h3s x _ updH_self
  have h3 : ∀ a c, a ≠ x → H2 a = some c → H3 a = some c := fun a c ha e => h3s a c (by rw [updH_ne ha]; exact e)
  walk_at "w"
  refine opt_attr ho.l rfl ?_
  refine op_mul_list1 h3z (by walk_at "la") (by walk_at "la") ?_
  walk_at "w"
  refine ⟨_, SubH.rfl, h i e de p _ hi' (nH e he hex) (nH p hp hpx) ⟨updH_self, ?_, ?_, ?_, hix, hex, hpx, hei, hpi, Ne.symm hpe⟩ ?_⟩
  · rw [updH_ne hix]; exact h3 _ _ hix h2i
  · rw [updH_ne hex]; exact h3 _ _ hex h2e
  · rw [updH_ne hpx]; exact h3 _ _ hpx h2p
  · exact fun a c ha ea => by rw [updH_ne ha]; exact h3 a c ha (o2 a c ha ea)
theorem cl_comp {f : Fm} {n : Nat} {V : Vs} {lev v : T} {o : Opt} (ho : o.Ok) (hn : 7 ≤ n)
    (h : ∀ x dx i e de p H', H x = none → CompAt H' x dx i e de p lev v o false (.lst []) (.lst []) (.lst []) [] → H i = none → H e = none → H p = none → SubH H H' → Q (.ref x) H') : Cl g f n (.ref 536) [lev, v, o.T] V H Q :=
  cl_clsG pf rfl rfl (m := 6) (fun x dx hx => sp_comp pf ho updH_self fun i e de p H' hi he hp hc hs => ⟨rfl, h x dx i e de p H' hx hc (by rwa [updH_ne hc.ix] at hi) (by rwa [updH_ne hc.ex] at he) (by rwa [updH_ne hc.px] at hp)
    fun a c ea => hs a c (by rintro rfl; rw [hx] at ea; cases ea) (by rw [updH_ne (by rintro rfl; rw [hx] at ea; cases ea)]; exact ea)⟩) hn
end
end

section
noncomputable def compT (lev v : T) (o : Opt) (man : Bool) (up lower gr : List F) (ps : List T) : T := .inst 536 (compFs lev v o.T (.lst [lvT up, lvT lower]) (lvT gr) (.inst 375 (editFs (.lst ps))) man o.levels)
noncomputable def trivB (o : Opt) (up lower gr : List F) : Bool := decide (up.length = 1) && decide (lower.length = 0) && decide (octets gr ≤ o.grand * o.most)

section
variable {g : Gl} (pf : PF g) {H : Cells} {Q : T → Cells → Prop}
include pf
theorem sp_grand_limit {lev v : T} {o : Opt} {man : Bool} {up lower gr : List F} {ps : List T} (ho : o.Ok) (h : Q (.int (o.grand * o.most)) H) : FSpec g 2 505 [compT lev v o man up lower gr ps] H Q := by
  have g1 := ho.g1
  refine fspec_of (m := 1) (ps := [12]) (ls := []) (gs := []) (cs := []) (pf.fn 505 _ rfl) (by decide +kernel) rfl fun f hf hg hc => ?_
  conv => arg 4; whnf
  simp only [N_0, N_1, N_2, N_3, N_4, N_5, N_6, N_7, N_8, N_9, N_10, N_11, N_12, N_13, N_14, N_15, N_16, N_17, N_18, N_19, N_20, N_21, N_22, N_23, N_24, N_25, N_26, N_27, N_28, N_29, N_30, N_31, N_32, N_33, N_34, N_35, N_36, N_37, N_38, N_39, N_40, N_41, N_42, N_43, N_44, N_45, N_46, N_47, N_48, N_49, N_50, N_51, N_52, N_53, N_54, N_55, N_56, N_57, N_58, N_59, N_60, N_61, N_62, N_63, N_64, N_65, N_66, N_67, N_68, N_69, N_70, N_71, N_72, N_73, N_74, N_75, N_76, N_77, N_78, N_79, N_80, N_81, N_82, N_83, N_84, N_85, N_86, N_87, N_88, N_89, N_90, N_91, N_92, N_93, N_94, N_95, N_96, N_97, N_98, N_99, N_100, N_101, N_102, N_103, N_104, N_105, N_106, N_107, N_108, N_109, N_110, N_111, N_112, N_113, N_114, N_115, N_116, N_117, N_118, N_119, N_120, N_121, N_122, N_123, N_124, N_125, N_126, N_127, N_128, N_129, N_130, N_131, N_132, N_133, N_134, N_135, N_136, N_137, N_138, N_139, N_140, N_141, N_142, N_143, N_144, N_145, N_146, N_147, N_148, N_149, N_150, N_151, N_152, N_153, N_154, N_155, N_156, N_157, N_158, N_159, N_160, N_161, N_162, N_163, N_164, N_165, N_166, N_167, N_168, N_169, N_170, N_171, N_172, N_173, N_174, N_175, N_176, N_177, N_178, N_179, N_180, N_181, N_182, N_183, N_184, N_185, N_186, N_187, N_188, N_189, N_190, N_191, N_192, N_193, N_194, N_195, N_196, N_197]
  walk_at "w"
  refine opt_attr ho.g rfl ?_
  walk_at "w"
  refine opt_attr ho.m rfl ?_
  refine op_mul_int (abs60 (by assumption)) ?_
  walk_at "w"
  exact ⟨_, SubH.rfl, h⟩
theorem sp_trivial {lev v : T} {o : Opt} {man : Bool} {up lower gr : List F} {ps : List T} (ho : o.Ok) (h1 : up.length ≤ 1000) (h2 : lower.length ≤ 1000) (h : Q (.bool (trivB o up lower gr)) H) : FSpec g 4 512 [compT lev v o man up lower gr ps] H Q := by
  refine fspec_of (m := 3) (ps := [12]) (ls := []) (gs := [4, 77]) (cs := []) (pf.fn 512 _ rfl) (by decide +kernel) rfl fun f hf hg hc => ?_
  conv => arg 4; whnf
  simp only [N_0, N_1, N_2, N_3, N_4, N_5, N_6, N_7, N_8, N_9, N_10, N_11, N_12, N_13, N_14, N_15, N_16, N_17, N_18, N_19, N_20, N_21, N_22, N_23, N_24, N_25, N_26, N_27, N_28, N_29, N_30, N_31, N_32, N_33, N_34, N_35, N_36, N_37, N_38, N_39, N_40, N_41, N_42, N_43, N_44, N_45, N_46, N_47, N_48, N_49, N_50, N_51, N_52, N_53, N_54, N_55, N_56, N_57, N_58, N_59, N_60, N_61, N_62, N_63, N_64, N_65, N_66, N_67, N_68, N_69, N_70, N_71, N_72, N_73, N_74, N_75, N_76, N_77, N_78, N_79, N_80, N_81, N_82, N_83, N_84, N_85, N_86, N_87, N_88, N_89, N_90, N_91, N_92, N_93, N_94, N_95, N_96, N_97, N_98, N_99, N_100, N_101, N_102, N_103, N_104, N_105, N_106, N_107, N_108, N_109, N_110, N_111, N_112, N_113, N_114, N_115, N_116, N_117, N_118, N_119, N_120, N_121, N_122, N_123, N_124, N_125, N_126, N_127, N_128, N_129, N_130, N_131, N_132, N_133, N_134, N_135, N_136, N_137, N_138, N_139, N_140, N_141, N_142, N_143, N_144, N_145, N_146, N_147, N_148, N_149, N_150, N_151, N_152, N_153, N_154, N_155, N_156, N_157, N_158, N_159, N_160, N_161, N_162, N_163, N_164, N_165, N_166, N_167, N_168, N_169, N_170, N_171, N_172, N_173, N_174, N_175, N_176, N_177, N_178, N_179, N_180, N_181, N_182, N_183, N_184, N_185, N_186, N_187, N_188, N_189, N_190, N_191, N_192, N_193, N_194, N_195, N_196, N_197]
  walk_at "w"
  refine op_sub_list .tree (by walk_at "la") (by simp) (u := lvT up) rfl ?_
  walk_at "w"
  refine cl_len_list .tree (by simp; walk_at "la") ?_
  rw [List.length_map]
  walk_at "w"
  refine ite_ndec (fun c1 => ?_) fun c1 => ?_
  · walk_at "w"
    refine ⟨_, SubH.rfl, ?_⟩
    have : trivB o up lower gr = false := by unfold trivB; rw [show decide (up.length = 1) = false by simpa using (by walk_at "la" : ¬ up.length = 1)]; rfl
    rw [this] at h; exact h
  walk_at "w"
  refine op_sub_list .tree (by walk_at "la") (by simp) (u := lvT lower) rfl ?_
  walk_at "w"
  refine cl_len_list .tree (by simp; walk_at "la") ?_
  rw [List.length_map]
  walk_at "w"
  refine ite_ndec (fun c2 => ?_) fun c2 => ?_
  · walk_at "w"
    refine ⟨_, SubH.rfl, ?_⟩
    have : trivB o up lower gr = false := by unfold trivB; rw [show decide (lower.length = 0) = false by simpa using (by walk_at "la" : ¬ lower.length = 0)]; simp
    rw [this] at h; exact h
  walk_at "w"
  refine cl_fn (sp_total pf (xs := gr) .tree ?_) (by walk_at "la")
  walk_at "w"
  refine (sp_grand_limit pf ho ?_).le (by walk_at "la")
  walk_at "w"
  refine ⟨_, SubH.rfl, ?_⟩
  have : trivB o up lower gr = decide (octets gr ≤ o.grand * o.most) := by
    unfold trivB
    rw [show decide (up.length = 1) = true by simpa using (by walk_at "la" : up.length = 1), show decide (lower.length = 0) = true by simpa using (by walk_at "la" : lower.length = 0)]; simp
  rw [this] at h; exact h

theorem sp_version {x dx : Addr} {cnt : Nat} (hc1 : cnt ≤ 100) (hx : H x = some (.inst 466 dx []))
    (h : ∀ a H', a ≠ x → H a = none → H' a = some (.list (List.replicate cnt (.lst []))) → H' x = some (.inst 466 dx (verFs cnt (.ref a) (.tup [.int 0, .int 1]) (-1))) → Oth x H H' → Q .none H') : FSpec g 2 400 [.ref x, .int (cnt : Int), iordT] H Q := by
  refine fspec_of (m := 1) (ps := [12, 36, 57]) (ls := [59]) (gs := [63]) (cs := []) (pf.fn 400 _ rfl) (by decide +kernel) rfl fun f hf hg hc => ?_
  conv => arg 4; whnf
  simp only [N_0, N_1, N_2, N_3, N_4, N_5, N_6, N_7, N_8, N_9, N_10, N_11, N_12, N_13, N_14, N_15, N_16, N_17, N_18, N_19, N_20, N_21, N_22, N_23, N_24, N_25, N_26, N_27, N_28, N_29, N_30, N_31, N_32, N_33, N_34, N_35, N_36, N_37, N_38, N_39, N_40, N_41, N_42, N_43, N_44, N_45, N_46, N_47, N_48, N_49, N_50, N_51, N_52, N_53, N_54, N_55, N_56, N_57, N_58, N_59, N_60, N_61, N_62, N_63, N_64, N_65, N_66, N_67, N_68, N_69, N_70, N_71, N_72, N_73, N_74, N_75, N_76, N_77, N_78, N_79, N_80, N_81, N_82, N_83, N_84, N_85, N_86, N_87, N_88, N_89, N_90, N_91, N_92, N_93, N_94, N_95, N_96, N_97, N_98, N_99, N_100, N_101, N_102, N_103, N_104, N_105, N_106, N_107, N_108, N_109, N_110, N_111, N_112, N_113, N_114, N_115, N_116, N_117, N_118, N_119, N_120, N_121, N_122, N_123, N_124, N_125, N_126, N_127, N_128, N_129, N_130, N_131, N_132, N_133, N_134, N_135, N_136, N_137, N_138, N_139, N_140, N_141, N_142, N_143, N_144, N_145, N_146, N_147, N_148, N_149, N_150, N_151, N_152, N_153, N_154, N_155, N_156, N_157, N_158, N_159, N_160, N_161, N_162, N_163, N_164, N_165, N_166, N_167, N_168, N_169, N_170, N_171, N_172, N_173, N_174, N_175, N_176, N_177, N_178, N_179, N_180, N_181, N_182, N_183, N_184, N_185, N_186, N_187, N_188, N_189, N_190, N_191, N_192, N_193, N_194, N_195, N_196, N_197]
  walk_at "w"
  refine ev_listX ?_
  walk_at "w"
  intro a H1 ha h1a h1s
  simp only [updH_updH] at ha h1s
  have hax : a ≠ x := by rintro rfl; rw [updH_self] at ha; cases ha
  have ha' : H a = none := by rwa [updH_ne hax] at ha
  have h1x := h1s x _ updH_self
  have o1 : Oth x H H1 := Oth.upd.trans (.sub h1s)
  walk_at "w"
  refine ex_forR (by assumption) rfl ?_
  walk_at "w"
  refine cl_range1 ?_
  refine ⟨_, _, rfl, by walk_at "la", fun i V' H' => A4 (H' a = some (.list (List.replicate i (.lst [])))) (H' x = some (.inst 466 dx [(36, .int cnt), (57, iordT), (58, .ref a)])) (Oth x H H') (∃ o, V' = [(12, some (.ref x)), (36, some (.int cnt)), (57, some iordT), (59, o)]), ⟨?_, updH_self, ?_, none, rfl⟩, ?_, ?_⟩
  · rw [updH_ne hax]; exact h1a
  · exact o1.trans .upd
  · rintro i V' H' hi ⟨e1, e2, e3, o, rfl⟩
    refine ⟨rfl, ?_⟩
    walk_at "w"
    refine ev_list ?_
    walk_at "w"
    refine ⟨_, e1, by simp; walk_at "la", ?_⟩
    walk_at "w"
    refine ⟨?_, ?_, ?_, _, rfl⟩
    · rw [updH_self, List.replicate_succ']
    · rw [updH_ne (Ne.symm hax)]; exact e2
    · intro b c hb eb
      rw [updH_ne (by rintro rfl; rw [ha'] at eb; cases eb)]
      exact e3 b c hb eb
  · rintro V' H' ⟨e1, e2, e3, o, rfl⟩
    have ec : ((cnt : Int) - 0).toNat = cnt := by walk_at "la"
    rw [ec] at e1
    walk_at "w"
    simp only [updH_updH]
    refine ⟨_, SubH.rfl, h a _ hax ha' ?_ updH_self ?_⟩
    · rw [updH_ne hax]; exact e1
    · exact e3.trans .upd
theorem cl_version {f : Fm} {n : Nat} {V : Vs} {cnt : Nat} (hc1 : cnt ≤ 100) (hn : 3 ≤ n)
    (h : ∀ x dx a H', a ≠ x → H x = none → H a = none → H' a = some (.list (List.replicate cnt (.lst []))) → H' x = some (.inst 466 dx (verFs cnt (.ref a) (.tup [.int 0, .int 1]) (-1))) → SubH H H' → Q (.ref x) H') : Cl g f n (.ref 466) [.int (cnt : Int), iordT] V H Q :=
  cl_clsG pf rfl rfl (m := 2) (fun x dx hx => sp_version pf hc1 updH_self fun a H' hax ha h1 h2 h3 => ⟨rfl, h x dx a H' hax hx (by rwa [updH_ne hax] at ha) h1 h2
    fun b c eb => h3 b c (by rintro rfl; rw [hx] at eb; cases eb) (by rw [updH_ne (by rintro rfl; rw [hx] at eb; cases eb)]; exact eb)⟩) hn
end
end

section
theorem len_two {α : Type} {l : List α} (h : l.length = 2) : ∃ p q, l = [p, q] := by
  cases l with
  | nil => cases h
  | cons p l => cases l with
    | nil => cases h
    | cons q l => cases l with
      | nil => exact ⟨p, q, rfl⟩
      | cons => cases h

noncomputable def ltO (u : Nat) : Option Nat → Bool
  | none => false
  | some a => decide (u < a)
noncomputable def gtO (u : Nat) : Option Nat → Bool
  | none => false
  | some b => decide (b < u)
noncomputable def inR (lo hi : Option Nat) (x : F) : Bool := !ltO x.hi.u lo && !gtO x.lo.u hi
noncomputable def touch (l : List F) (lo hi : Option Nat) : List F := l.filter (inR lo hi)
noncomputable def WLo : Option Nat → Option Nat → Prop
  | none, none => True
  | some a, some b => b ≤ a
  | _, _ => False
noncomputable def WHi : Option Nat → Option Nat → Prop
  | none, none => True
  | some a, some b => a ≤ b
  | _, _ => False
structure Wid (lo hi lo' hi' : Option Nat) : Prop where
  lo : WLo lo lo'
  hi : WHi hi hi'
theorem WLo.rfl : ∀ a, WLo a a
  | none => trivial
  | some a => Nat.le_refl a
theorem WHi.rfl : ∀ a, WHi a a
  | none => trivial
  | some a => Nat.le_refl a
theorem WLo.trans : ∀ {a b c}, WLo a b → WLo b c → WLo a c
  | none, none, none, _, _ => trivial
  | some _, some _, some _, h, h' => Nat.le_trans h' h
theorem WHi.trans : ∀ {a b c}, WHi a b → WHi b c → WHi a c
  | none, none, none, _, _ => trivial
  | some _, some _, some _, h, h' => Nat.le_trans h h'
theorem WLo.anti : ∀ {a b}, WLo a b → WLo b a → a = b
  | none, none, _, _ => Eq.refl _
  | some _, some _, h, h' => congrArg some (Nat.le_antisymm h' h)
theorem WHi.anti : ∀ {a b}, WHi a b → WHi b a → a = b
  | none, none, _, _ => Eq.refl _
  | some _, some _, h, h' => congrArg some (Nat.le_antisymm h h')
theorem Wid.rfl {lo hi} : Wid lo hi lo hi := ⟨WLo.rfl _, WHi.rfl _⟩
theorem Wid.trans {a b c d e f} (h : Wid a b c d) (h' : Wid c d e f) : Wid a b e f := ⟨h.lo.trans h'.lo, h.hi.trans h'.hi⟩
theorem ltO_w : ∀ {a b u}, WLo a b → ltO u b = true → ltO u a = true
  | some a, some b, u, h, h' => by simp only [ltO, decide_eq_true_eq] at *; exact Nat.lt_of_lt_of_le h' h
  | none, none, u, _, h' => by simp [ltO] at h'
theorem gtO_w : ∀ {a b u}, WHi a b → gtO u b = true → gtO u a = true
  | some a, some b, u, h, h' => by simp only [gtO, decide_eq_true_eq] at *; exact Nat.lt_of_le_of_lt h h'
  | none, none, u, _, h' => by simp [gtO] at h'
theorem inR_w {lo hi lo' hi' x} (h : Wid lo hi lo' hi') (hx : inR lo hi x = true) : inR lo' hi' x = true := by
  unfold inR at *
  simp only [Bool.and_eq_true, Bool.not_eq_true'] at *
  constructor
  · cases q : ltO x.hi.u lo' with
    | false => rfl
    | true => rw [ltO_w h.lo q] at hx; exact absurd hx.1 (by simp)
  · cases q : gtO x.lo.u hi' with
    | false => rfl
    | true => rw [gtO_w h.hi q] at hx; exact absurd hx.2 (by simp)
/-- every file that is touched lies within -/
noncomputable def Closed (l : List F) (lo hi : Option Nat) : Prop := ∀ x ∈ l, inR lo hi x = true → ltO x.lo.u lo = false ∧ gtO x.hi.u hi = false
structure Least (l : List F) (lo hi lo' hi' : Option Nat) : Prop where
  w : Wid lo hi lo' hi'
  least : ∀ lo2 hi2, Wid lo hi lo2 hi2 → Closed l lo2 hi2 → Wid lo' hi' lo2 hi2
theorem Least.uniq {l lo hi a b c d} (h : Least l lo hi a b) (hc : Closed l a b) (h' : Least l lo hi c d) (hc' : Closed l c d) : a = c ∧ b = d := by
  have x := h.least c d h'.w hc'
  have y := h'.least a b h.w hc
  exact ⟨x.lo.anti y.lo, x.hi.anti y.hi⟩
/-- a file that is touched may be taken in whole -/
theorem Least.step_lo {l lo hi} {a : Nat} {hi'} {x : F} (h : Least l lo hi (some a) hi') (hx : x ∈ l) (ht : inR (some a) hi' x = true) (hlt : x.lo.u < a) : Least l lo hi (some x.lo.u) hi' where
  w := ⟨h.w.lo.trans (by show x.lo.u ≤ a; walk_at "la"), h.w.hi⟩
  least := fun lo2 hi2 hw hc => by
    have w2 := h.least lo2 hi2 hw hc
    have c := (hc x hx (inR_w w2 ht)).1
    refine ⟨?_, w2.hi⟩
    have := w2.lo
    cases lo2 with
    | none => exact this.elim
    | some b => simp only [ltO, decide_eq_false_iff_not] at c; show b ≤ x.lo.u; walk_at "la"
theorem Least.step_hi {l lo hi} {b : Nat} {lo'} {x : F} (h : Least l lo hi lo' (some b)) (hx : x ∈ l) (ht : inR lo' (some b) x = true) (hlt : b < x.hi.u) : Least l lo hi lo' (some x.hi.u) where
  w := ⟨h.w.lo, h.w.hi.trans (by show b ≤ x.hi.u; walk_at "la")⟩
  least := fun lo2 hi2 hw hc => by
    have w2 := h.least lo2 hi2 hw hc
    have c := (hc x hx (inR_w w2 ht)).2
    refine ⟨w2.lo, ?_⟩
    have := w2.hi
    cases hi2 with
    | none => exact this.elim
    | some b' => simp only [gtO, decide_eq_false_iff_not] at c; show x.hi.u ≤ b'; walk_at "la"

noncomputable def minO (u : Nat) : Option Nat → Option Nat
  | none => none
  | some a => some (min a u)
noncomputable def maxO (u : Nat) : Option Nat → Option Nat
  | none => none
  | some a => some (max a u)
noncomputable def roundL (r : Option Nat × Option Nat) : List F → Option Nat × Option Nat
  | [] => r
  | x :: t => roundL (minO x.lo.u r.1, maxO x.hi.u r.2) t
noncomputable def rounds (l : List F) (r : Option Nat × Option Nat) : Nat → Option Nat × Option Nat
  | 0 => r
  | n + 1 => roundL (rounds l r n) (touch l (rounds l r n).1 (rounds l r n).2)
theorem minO_w : ∀ u a, WLo a (minO u a)
  | u, none => trivial
  | u, some a => Nat.min_le_left a u
theorem maxO_w : ∀ u a, WHi a (maxO u a)
  | u, none => trivial
  | u, some a => Nat.le_max_left a u
theorem minO_in : ∀ u a, ltO u (minO u a) = false
  | u, none => rfl
  | u, some a => by simp only [ltO, minO, decide_eq_false_iff_not]; walk_at "la"
theorem maxO_in : ∀ u a, gtO u (maxO u a) = false
  | u, none => rfl
  | u, some a => by simp only [gtO, maxO, decide_eq_false_iff_not]; walk_at "la"
theorem roundL_w : ∀ (t : List F) (r : Option Nat × Option Nat), Wid r.1 r.2 (roundL r t).1 (roundL r t).2 ∧ ∀ x ∈ t, ltO x.lo.u (roundL r t).1 = false ∧ gtO x.hi.u (roundL r t).2 = false
  | [], r => ⟨Wid.rfl, by simp⟩
  | x :: t, r => by
    have ih := roundL_w t (minO x.lo.u r.1, maxO x.hi.u r.2)
    refine ⟨Wid.trans ⟨minO_w _ _, maxO_w _ _⟩ ih.1, fun y hy => ?_⟩
    rcases List.mem_cons.mp hy with rfl | hy
    · constructor
      · cases q : ltO y.lo.u (roundL r (y :: t)).1 with
        | false => rfl
        | true => have := ltO_w ih.1.lo q; rw [minO_in] at this; cases this
      · cases q : gtO y.hi.u (roundL r (y :: t)).2 with
        | false => rfl
        | true => have := gtO_w ih.1.hi q; rw [maxO_in] at this; cases this
    · exact ih.2 y hy
/-- a round stays below whatever is closed -/
theorem roundL_least {l lo hi} : ∀ (t : List F) (r : Option Nat × Option Nat), Least l lo hi r.1 r.2 → (∀ x ∈ t, x ∈ l ∧ inR r.1 r.2 x = true) → Least l lo hi (roundL r t).1 (roundL r t).2
  | [], r, h, _ => h
  | x :: t, r, h, ht => by
    obtain ⟨hx, hin⟩ := ht x (by simp)
    have hw : Wid r.1 r.2 (minO x.lo.u r.1) (maxO x.hi.u r.2) := ⟨minO_w _ _, maxO_w _ _⟩
    refine roundL_least t _ ⟨h.w.trans hw, fun lo2 hi2 hw2 hc => ?_⟩ fun y hy => ⟨(ht y (List.mem_cons_of_mem _ hy)).1, inR_w hw (ht y (List.mem_cons_of_mem _ hy)).2⟩
    have w2 := h.least lo2 hi2 hw2 hc
    have c := hc x hx (inR_w w2 hin)
    refine ⟨?_, ?_⟩
    · have := w2.lo
      cases q : r.1 with
      | none => rw [q] at this; exact this
      | some a =>
        rw [q] at this
        cases lo2 with
        | none => exact this.elim
        | some b =>
          have c1 := c.1
          simp only [ltO, decide_eq_false_iff_not] at c1
          have this' : b ≤ a := this
          show b ≤ min a x.lo.u
          walk_at "la"
    · have := w2.hi
      cases q : r.2 with
      | none => rw [q] at this; exact this
      | some a =>
        rw [q] at this
        cases hi2 with
        | none => exact this.elim
        | some b =>
          have c1 := c.2
          simp only [gtO, decide_eq_false_iff_not] at c1
          have this' : a ≤ b := this
          show max a x.hi.u ≤ b
          walk_at "la"
theorem rounds_least {l lo hi} : ∀ n, Least l lo hi (rounds l (lo, hi) n).1 (rounds l (lo, hi) n).2
  | 0 => ⟨Wid.rfl, fun _ _ h _ => h⟩
  | n + 1 => roundL_least _ _ (rounds_least n) fun x hx => List.mem_filter.mp hx
theorem rounds_step {l lo hi} (n : Nat) : Wid (rounds l (lo, hi) n).1 (rounds l (lo, hi) n).2 (rounds l (lo, hi) (n + 1)).1 (rounds l (lo, hi) (n + 1)).2 := (roundL_w _ _).1
/-- a range that a round leaves as it is is closed -/
theorem closed_of_same {l : List F} {r : Option Nat × Option Nat} (h : roundL r (touch l r.1 r.2) = r) : Closed l r.1 r.2 := fun x hx hin => by
  have := (roundL_w (touch l r.1 r.2) r).2 x (List.mem_filter.mpr ⟨hx, hin⟩)
  rwa [h] at this
theorem roundL_same {l : List F} {r : Option Nat × Option Nat} (hc : Closed l r.1 r.2) : roundL r (touch l r.1 r.2) = r := by
  have h1 := roundL_least (l := l) (lo := r.1) (hi := r.2) (touch l r.1 r.2) r ⟨Wid.rfl, fun _ _ h _ => h⟩ fun x hx => List.mem_filter.mp hx
  have w := h1.least r.1 r.2 Wid.rfl hc
  have w' := (roundL_w (touch l r.1 r.2) r).1
  exact Prod.ext (w.lo.anti w'.lo) (w.hi.anti w'.hi)
theorem touch_mono {l : List F} {lo hi lo' hi'} (w : Wid lo hi lo' hi') : (touch l lo hi).length ≤ (touch l lo' hi').length := by
  induction l with
  | nil => simp [touch]
  | cons x t ih =>
    unfold touch at *
    rw [List.filter_cons, List.filter_cons]
    by_cases h : inR lo hi x = true
    · rw [if_pos h, if_pos (inR_w w h)]; simpa using ih
    · rw [if_neg h]
      split
      · simp only [List.length_cons]; walk_at "la"
      · exact ih
theorem touch_lt {l : List F} {lo hi lo' hi'} (w : Wid lo hi lo' hi') {x : F} (hx : x ∈ l) (h1 : inR lo hi x = false) (h2 : inR lo' hi' x = true) : (touch l lo hi).length < (touch l lo' hi').length := by
  induction l with
  | nil => simp at hx
  | cons y t ih =>
    have hm := touch_mono (l := t) w
    unfold touch at *
    rw [List.filter_cons, List.filter_cons]
    rcases List.mem_cons.mp hx with rfl | hx
    · rw [if_neg (by simp [h1]), if_pos h2]; simp only [List.length_cons]; walk_at "la"
    · have := ih hx
      by_cases h : inR lo hi y = true
      · rw [if_pos h, if_pos (inR_w w h)]; simpa using this
      · rw [if_neg h]
        split
        · simp only [List.length_cons]; walk_at "la"
        · exact this
theorem rounds_grow {l : List F} {lo hi} : ∀ k, ¬ Closed l (rounds l (lo, hi) k).1 (rounds l (lo, hi) k).2 → k + 1 ≤ (touch l (rounds l (lo, hi) k).1 (rounds l (lo, hi) k).2).length
  | 0, h => by
    cases q : touch l (rounds l (lo, hi) 0).1 (rounds l (lo, hi) 0).2 with
    | nil =>
      refine absurd (fun x hx hin => ?_) h
      have : x ∈ touch l (rounds l (lo, hi) 0).1 (rounds l (lo, hi) 0).2 := List.mem_filter.mpr ⟨hx, hin⟩
      rw [q] at this; simp at this
    | cons a b => simp
  | k + 1, h => by
    have hk : ¬ Closed l (rounds l (lo, hi) k).1 (rounds l (lo, hi) k).2 := fun hc => h (by
      have e := roundL_same hc
      have : rounds l (lo, hi) (k + 1) = rounds l (lo, hi) k := e
      rw [this]; exact hc)
    have ih := rounds_grow k hk
    have : ∃ x ∈ l, inR (rounds l (lo, hi) (k + 1)).1 (rounds l (lo, hi) (k + 1)).2 x = true ∧ ¬ (ltO x.lo.u (rounds l (lo, hi) (k + 1)).1 = false ∧ gtO x.hi.u (rounds l (lo, hi) (k + 1)).2 = false) := by
      apply Classical.byContradiction
      intro hn
      exact h fun x hx hin => Classical.byContradiction fun hc => hn ⟨x, hx, hin, hc⟩
    obtain ⟨x, hx, hin, hout⟩ := this
    have hnot : inR (rounds l (lo, hi) k).1 (rounds l (lo, hi) k).2 x = false := by
      cases q : inR (rounds l (lo, hi) k).1 (rounds l (lo, hi) k).2 x with
      | false => rfl
      | true => exact absurd ((roundL_w _ _).2 x (List.mem_filter.mpr ⟨hx, q⟩)) hout
    have := touch_lt (rounds_step k) hx hnot hin
    walk_at "la"
theorem rounds_closed {l : List F} {lo hi} : Closed l (rounds l (lo, hi) l.length).1 (rounds l (lo, hi) l.length).2 := by
  apply Classical.byContradiction
  intro h
  have h1 := rounds_grow l.length h
  have h2 : (touch l (rounds l (lo, hi) l.length).1 (rounds l (lo, hi) l.length).2).length ≤ l.length := List.length_filter_le _ _
  walk_at "la"

/-- the files of a level that a range takes in -/
noncomputable def ovl (lev : Nat) (l : List F) (lo hi : Option Nat) : List F := if lev = 0 then touch l (rounds l (lo, hi) l.length).1 (rounds l (lo, hi) l.length).2 else touch l lo hi
theorem ovl_zero {l lo hi a b} (h : Least l lo hi a b) (hc : Closed l a b) : ovl 0 l lo hi = touch l a b := by
  obtain ⟨e1, e2⟩ := h.uniq hc (rounds_least l.length) rounds_closed
  unfold ovl
  rw [if_pos rfl, e1, e2]
end

section
noncomputable def uT : Option Nat → T
  | none => .none
  | some u => .bytes (usr u)
noncomputable def UOk (o : Option Nat) : Prop := ∀ u, o = some u → u < 8

section
variable {g : Gl} {f : Fm} {n : Nat} {V : Vs} {H : Cells} {R : Bool → Cells → Prop}
theorem ts_low {kl ka : Nat} {p1 p2 p3 p4 p5 p6 p7 : Pos} {kk} {lo : Option Nat} {u : Nat} (h1 : getT V kl = some (uT lo)) (h2 : getT V ka = some (.bytes (usr u))) (hl : UOk lo) (hu : u < 8) (h : R (ltO u lo) H) :
    Ts g f n (.BoolOp .And [.Compare (.Name (nm kl) p1) [.IsNot] [.Constant .none kk p2] p3, .Compare (.Name (nm ka) p4) [.Lt] [.Name (nm kl) p5] p6] p7) V H R := by
  cases lo with
  | none =>
    refine ts_boolop (ta_and (ts_cmp (ev_name h1 (ev_none (op_isnot_none rfl ⟨_, rfl, ite_f h⟩)))))
  | some a =>
    refine ts_boolop (ta_and (ts_cmp (ev_name h1 (ev_none (op_isnot_none rfl ⟨_, rfl, ite_t (ta_and (ts_cmp (ev_name h2 (ev_name h1 (op_lt_bytes ?_)))))⟩)))))
    rw [usr_lt u hu a (hl a rfl)]
    refine ⟨_, rfl, ?_⟩
    cases q : decide (u < a) with
    | true => refine ite_t (ta_and_nil ?_); show R true H; have : ltO u (some a) = true := q; rwa [this] at h
    | false => refine ite_f ?_; have : ltO u (some a) = false := q; rwa [this] at h
theorem ts_high {kl ka : Nat} {p1 p2 p3 p4 p5 p6 p7 : Pos} {kk} {hi : Option Nat} {u : Nat} (h1 : getT V kl = some (uT hi)) (h2 : getT V ka = some (.bytes (usr u))) (hl : UOk hi) (hu : u < 8) (h : R (gtO u hi) H) :
    Ts g f n (.BoolOp .And [.Compare (.Name (nm kl) p1) [.IsNot] [.Constant .none kk p2] p3, .Compare (.Name (nm ka) p4) [.Gt] [.Name (nm kl) p5] p6] p7) V H R := by
  cases hi with
  | none =>
    refine ts_boolop (ta_and (ts_cmp (ev_name h1 (ev_none (op_isnot_none rfl ⟨_, rfl, ite_f h⟩)))))
  | some a =>
    refine ts_boolop (ta_and (ts_cmp (ev_name h1 (ev_none (op_isnot_none rfl ⟨_, rfl, ite_t (ta_and (ts_cmp (ev_name h2 (ev_name h1 (op_gt_bytes ?_)))))⟩)))))
    rw [usr_gt u hu a (hl a rfl)]
    refine ⟨_, rfl, ?_⟩
    cases q : decide (a < u) with
    | true => refine ite_t (ta_and_nil ?_); show R true H; have : gtO u (some a) = true := q; rwa [this] at h
    | false => refine ite_f ?_; have : gtO u (some a) = false := q; rwa [this] at h
end

noncomputable def msr (lo hi : Option Nat) : Nat := (lo.getD 0) + (8 - hi.getD 8)
theorem inR_eq {lo hi : Option Nat} {x : F} (h1 : ltO x.hi.u lo = false) (h2 : gtO x.lo.u hi = false) : inR lo hi x = true := by unfold inR; rw [h1, h2]; rfl
theorem inR_ne1 {lo hi : Option Nat} {x : F} (h1 : ltO x.hi.u lo = true) : inR lo hi x = false := by unfold inR; rw [h1]; rfl
theorem inR_ne2 {lo hi : Option Nat} {x : F} (h1 : gtO x.lo.u hi = true) : inR lo hi x = false := by unfold inR; rw [h1]; simp
theorem touch_take {l : List F} {i : Nat} {a : F} (lo hi : Option Nat) (h : l[i]? = some a) : touch (l.take (i + 1)) lo hi = touch (l.take i) lo hi ++ (if inR lo hi a then [a] else []) := by
  unfold touch
  rw [List.take_add_one, h, List.filter_append]
  simp [List.filter_cons]

section
variable {g : Gl} (pf : PF g) {H : Cells} {Q : T → Cells → Prop}
include pf
theorem sp_overlapping {v dx : Addr} {cnt sl : Int} {L : List (List F)} {sc : T} {lev : Nat} {l : List F} {lo hi : Option Nat} (hv : H v = some (verC dx cnt L sc sl)) (hL : L.length ≤ 100) (hl : L[lev]? = some l) (hok : FsOk l) (hlo : UOk lo) (hhi : UOk hi)
    (h : Q (.lst ((ovl lev l lo hi).map mT)) H) : FSpec g 4 407 [.ref v, .int (lev : Int), uT lo, uT hi] H Q := by
  have hll := hok.len
  refine fspec_of (m := 3) (ps := [12, 59, 65, 66]) (ls := [68, 69, 70, 71, 72, 73, 74]) (gs := [4, 7]) (cs := []) (pf.fn 407 _ rfl) (by decide +kernel) rfl fun f hf hg hc => ?_
  refine Exs.fzr ?_
  conv => arg 4; whnf
  simp only [N_0, N_1, N_2, N_3, N_4, N_5, N_6, N_7, N_8, N_9, N_10, N_11, N_12, N_13, N_14, N_15, N_16, N_17, N_18, N_19, N_20, N_21, N_22, N_23, N_24, N_25, N_26, N_27, N_28, N_29, N_30, N_31, N_32, N_33, N_34, N_35, N_36, N_37, N_38, N_39, N_40, N_41, N_42, N_43, N_44, N_45, N_46, N_47, N_48, N_49, N_50, N_51, N_52, N_53, N_54, N_55, N_56, N_57, N_58, N_59, N_60, N_61, N_62, N_63, N_64, N_65, N_66, N_67, N_68, N_69, N_70, N_71, N_72, N_73, N_74, N_75, N_76, N_77, N_78, N_79, N_80, N_81, N_82, N_83, N_84, N_85, N_86, N_87, N_88, N_89, N_90, N_91, N_92, N_93, N_94, N_95, N_96, N_97, N_98, N_99, N_100, N_101, N_102, N_103, N_104, N_105, N_106, N_107, N_108, N_109, N_110, N_111, N_112, N_113, N_114, N_115, N_116, N_117, N_118, N_119, N_120, N_121, N_122, N_123, N_124, N_125, N_126, N_127, N_128, N_129, N_130, N_131, N_132, N_133, N_134, N_135, N_136, N_137, N_138, N_139, N_140, N_141, N_142, N_143, N_144, N_145, N_146, N_147, N_148, N_149, N_150, N_151, N_152, N_153, N_154, N_155, N_156, N_157, N_158, N_159, N_160, N_161, N_162, N_163, N_164, N_165, N_166, N_167, N_168, N_169, N_170, N_171, N_172, N_173, N_174, N_175, N_176, N_177, N_178, N_179, N_180, N_181, N_182, N_183, N_184, N_185, N_186, N_187, N_188, N_189, N_190, N_191, N_192, N_193, N_194, N_195, N_196, N_197]
  walk_at "w"
  refine ev_listX ?_
  walk_at "w"
  intro a0 H0 ha0 h0a h0s
  walk_at "w"
  refine ex_while (fun j V' H' => E7 fun (lo' hi' : Option Nat) (i : Nat) (a : Addr) (o1 o2 o3 : Option T) => A10 (V' = [(12, some (.ref v)), (59, some (.int lev)), (65, some (uT lo)), (66, some (uT hi)), (68, some (uT lo')), (69, some (uT hi')), (70, some (.ref a)), (71, some (.int i)), (72, o1), (73, o2), (74, o3)]) (H' a = some (.list ((touch (l.take i) lo' hi').map mT))) (H a = none) (SubH H H') (i ≤ l.length) (UOk lo') (UOk hi') ((lev ≠ 0 → lo' = lo ∧ hi' = hi)) ((lev = 0 → Least l lo hi lo' hi' ∧ Closed (l.take i) lo' hi')) (j = msr lo' hi' * (l.length + 1) + (l.length - i))) ?_ _
    ⟨lo, hi, 0, a0, none, none, none, rfl, h0a, ha0, h0s, Nat.zero_le _, hlo, hhi, fun _ => ⟨rfl, rfl⟩, fun _ => ⟨⟨Wid.rfl, fun _ _ h _ => h⟩, by intro x hx; simp at hx⟩, rfl⟩
  rintro j V' H' ⟨lo', hi', i, a, o1, o2, o3, rfl, hHa, hna, hs, hi0, ul, uh, hnz, hz, rfl⟩
  have hv' := hs _ _ hv
  walk_at "w"
  refine op_sub_list .tree (by walk_at "la") (by simp; walk_at "la") (u := lvT l) (by simp [hl]) ?_
  walk_at "w"
  refine cl_len_list .tree (by simp; walk_at "la") ?_
  rw [List.length_map]
  walk_at "w"
  refine ite_dec (fun hlt => ?_) fun hge => ?_
  · obtain ⟨x, hx⟩ : ∃ x, l[i]? = some x := ⟨_, List.getElem?_eq_getElem (by walk_at "la")⟩
    have hxm := List.mem_of_getElem? hx
    have xok := hok.ok x hxm
    walk_at "w"
    refine op_sub_list .tree (by walk_at "la") (by simp; walk_at "la") (u := lvT l) (by simp [hl]) ?_
    walk_at "w"
    refine op_sub_list .tree (by walk_at "la") (by simp; walk_at "la") (u := mT x) (by simp [hx]) ?_
    walk_at "w"
    refine cl_fn (sp_user_of pf ?_) (by walk_at "la")
    walk_at "w"
    refine cl_fn (sp_user_of pf ?_) (by walk_at "la")
    walk_at "w"
    have ei : (i : Int) + 1 = ((i + 1 : Nat) : Int) := rfl
    rw [ei]
    have hi1 : i + 1 ≤ l.length := by walk_at "la"
    have hmsr : msr lo' hi' * (l.length + 1) + (l.length - (i + 1)) < msr lo' hi' * (l.length + 1) + (l.length - i) := Nat.add_lt_add_left (dec2 (Int.ofNat_lt.mp hlt)) _
    have skip : inR lo' hi' x = false → H' a = some (.list ((touch (l.take (i + 1)) lo' hi').map mT)) ∧ (lev = 0 → Least l lo hi lo' hi' ∧ Closed (l.take (i + 1)) lo' hi') := fun hn => by
      refine ⟨by rw [touch_take lo' hi' hx, hn]; simpa using hHa, fun h0 => ⟨(hz h0).1, fun y hy hin => ?_⟩⟩
      rw [List.take_add_one, hx] at hy
      rcases List.mem_append.mp hy with hy | hy
      · exact (hz h0).2 y hy hin
      · simp only [Option.toList_some, List.mem_singleton] at hy
        subst hy; rw [hn] at hin; cases hin
    refine ts_low (lo := lo') (u := x.hi.u) rfl rfl ul xok.hi.u ?_
    refine ite_b (fun b1 => ?_) fun b1 => ?_
    · walk_at "w"
      obtain ⟨k1, k2⟩ := skip (inR_ne1 b1)
      exact ⟨_, hmsr, lo', hi', i + 1, a, _, _, _, rfl, k1, hna, hs, hi1, ul, uh, hnz, k2, rfl⟩
    walk_at "w"
    refine ts_high (hi := hi') (u := x.lo.u) rfl rfl uh xok.lo.u ?_
    refine ite_b (fun b2 => ?_) fun b2 => ?_
    · walk_at "w"
      obtain ⟨k1, k2⟩ := skip (inR_ne2 b2)
      exact ⟨_, hmsr, lo', hi', i + 1, a, _, _, _, rfl, k1, hna, hs, hi1, ul, uh, hnz, k2, rfl⟩
    have hin : inR lo' hi' x = true := inR_eq b1 b2
    walk_at "w"
    refine ⟨_, hHa, ?_, ?_⟩
    · have : (touch (l.take i) lo' hi').length ≤ (l.take i).length := List.length_filter_le _ _
      rw [List.length_map]
      rw [List.length_take] at this
      walk_at "la"
    walk_at "w"
    have e1 : (touch (l.take i) lo' hi').map mT ++ [mT x] = (touch (l.take (i + 1)) lo' hi').map mT := by rw [touch_take lo' hi' hx, hin]; simp
    rw [e1]
    have hs1 : SubH H (updH H' a (.list ((touch (l.take (i + 1)) lo' hi').map mT))) := fun b c eb => by
      rw [updH_ne (by rintro rfl; rw [hna] at eb; cases eb)]; exact hs b c eb
    have clo : lev = 0 → ltO x.lo.u lo' = false → gtO x.hi.u hi' = false → Closed (l.take (i + 1)) lo' hi' := fun h0 c1 c2 y hy hiny => by
      rw [List.take_add_one, hx] at hy
      rcases List.mem_append.mp hy with hy | hy
      · exact (hz h0).2 y hy hiny
      · simp only [Option.toList_some, List.mem_singleton] at hy
        subst hy; exact ⟨c1, c2⟩
    refine ite_dec (fun hl0 => ?_) fun hl0 => ?_
    · have hl0' : lev = 0 := by walk_at "la"
      walk_at "w"
      refine ts_low (lo := lo') (u := x.lo.u) rfl rfl ul xok.lo.u ?_
      refine ite_b (fun b3 => ?_) fun b3 => ?_
      · walk_at "w"
        refine ev_listX ?_
        walk_at "w"
        intro a2 H2 ha2 h2a h2s
        walk_at "w"
        have ha2H : H a2 = none := by
          cases q : H a2 with
          | none => rfl
          | some c => rw [hs1 _ _ q] at ha2; cases ha2
        cases lo' with
        | none => simp [ltO] at b3
        | some al =>
          simp only [ltO, decide_eq_true_eq] at b3
          have hal := ul al rfl
          refine ⟨msr (some x.lo.u) hi' * (l.length + 1) + (l.length - 0), ?_, some x.lo.u, hi', 0, a2, _, _, _, rfl, by simpa [touch] using h2a, ha2H, hs1.trans h2s, Nat.zero_le _, fun u e => by cases e; exact xok.lo.u, uh, fun hne => absurd hl0' hne, fun _ => ⟨(hz hl0').1.step_lo hxm hin b3, by intro y hy; simp at hy⟩, rfl⟩
          have e2 : msr (some x.lo.u) hi' + 1 ≤ msr (some al) hi' := Nat.add_lt_add_right b3 _
          have := Nat.mul_le_mul_right (l.length + 1) e2
          rw [Nat.add_mul] at this
          exact msrl this
      · walk_at "w"
        refine ts_high (hi := hi') (u := x.hi.u) rfl rfl uh xok.hi.u ?_
        refine ite_b (fun b4 => ?_) fun b4 => ?_
        · walk_at "w"
          refine ev_listX ?_
          walk_at "w"
          intro a2 H2 ha2 h2a h2s
          walk_at "w"
          have ha2H : H a2 = none := by
            cases q : H a2 with
            | none => rfl
            | some c => rw [hs1 _ _ q] at ha2; cases ha2
          cases hi' with
          | none => simp [gtO] at b4
          | some al =>
            simp only [gtO, decide_eq_true_eq] at b4
            have hx8 := xok.hi.u
            refine ⟨msr lo' (some x.hi.u) * (l.length + 1) + (l.length - 0), ?_, lo', some x.hi.u, 0, a2, _, _, _, rfl, by simpa [touch] using h2a, ha2H, hs1.trans h2s, Nat.zero_le _, ul, fun u e => by cases e; exact xok.hi.u, fun hne => absurd hl0' hne, fun _ => ⟨(hz hl0').1.step_hi hxm hin b4, by intro y hy; simp at hy⟩, rfl⟩
            have e2 : msr lo' (some x.hi.u) + 1 ≤ msr lo' (some al) := Nat.add_lt_add_left (Nat.sub_lt_sub_left (Nat.lt_trans b4 hx8) b4) _
            have := Nat.mul_le_mul_right (l.length + 1) e2
            rw [Nat.add_mul] at this
            exact msrl this
        · walk_at "w"
          exact ⟨_, hmsr, lo', hi', i + 1, a, _, _, _, rfl, updH_self, hna, hs1, hi1, ul, uh, hnz, fun h0 => ⟨(hz h0).1, clo h0 b3 b4⟩, rfl⟩
    · walk_at "w"
      exact ⟨_, hmsr, lo', hi', i + 1, a, _, _, _, rfl, updH_self, hna, hs1, hi1, ul, uh, hnz, fun h0 => absurd h0 (by walk_at "la"), rfl⟩
  · have hil : i = l.length := by walk_at "la"
    subst hil
    walk_at "w"
    rw [List.take_length] at hHa hz
    refine ⟨_, H, .ret (fz_cell hna hs hHa), H, SubH.rfl, ?_⟩
    have e : ovl lev l lo hi = touch l lo' hi' := by
      by_cases h0 : lev = 0
      · subst h0; exact ovl_zero (hz rfl).1 (hz rfl).2
      · obtain ⟨q1, q2⟩ := hnz h0
        unfold ovl; rw [if_neg h0, q1, q2]
    rw [e] at h
    exact h
end
end

section
noncomputable def loU (xs : List F) : Nat := (loK xs).u
noncomputable def hiU (xs : List F) : Nat := (hiK xs).u
noncomputable def ovlS (L : List (List F)) (lev : Nat) (xs : List F) : List F := ovl lev (L.getD lev []) (some (loU xs)) (some (hiU xs))
noncomputable def pairI (L : List (List F)) (lev : Nat) (o : Opt) (up : List F) : List F × List F :=
  let lower := ovlS L (lev + 1) up
  if lower = [] then (up, lower) else
    let grown := ovlS L lev (up ++ lower)
    if up.length < grown.length ∧ octets lower + octets grown < o.expand * o.most then
      let above := ovlS L (lev + 1) grown
      if above.length = lower.length then (grown, above) else (up, lower)
    else (up, lower)
noncomputable def grandI (L : List (List F)) (lev : Nat) (ul : List F × List F) : List F := if lev + 2 < L.length then ovlS L (lev + 2) (ul.1 ++ ul.2) else []

section
variable {g : Gl} {f : Fm} {n : Nat} {V : Vs} {H : Cells}
theorem exs_mid {st rest} {Q : SQ} (J : Vs → Cells → Prop) (h1 : Ex g f n st V H fun fl V' H' => match fl with | .next => J V' H' | fl => Q fl V' H') (h2 : ∀ V' H', J V' H' → Exs g f n rest V' H' Q) : Exs g f n (st :: rest) V H Q :=
  exs_cons (h1.mono fun fl V' H' h => by cases fl <;> first | exact h2 V' H' h | exact h)
end
theorem ovl_sub (lev : Nat) (l : List F) (lo hi : Option Nat) : ∀ x ∈ ovl lev l lo hi, x ∈ l := fun x hx => by
  unfold ovl at hx
  split at hx <;> exact (List.mem_filter.mp hx).1
theorem ovl_len (lev : Nat) (l : List F) (lo hi : Option Nat) : (ovl lev l lo hi).length ≤ l.length := by
  unfold ovl
  split <;> exact List.length_filter_le _ _
theorem LsOk.get {L : List (List F)} (h : LsOk L) (i : Nat) : FsOk (L.getD i []) := by
  rw [List.getD_eq_getElem?_getD]
  cases q : L[i]? with
  | none => exact ⟨by simp, by simp⟩
  | some l => exact h.ok l (List.mem_of_getElem? q)
theorem lsome {L : List (List F)} {i : Nat} (h : i < L.length) : L[i]? = some (L.getD i []) := by
  rw [List.getD_eq_getElem?_getD, List.getElem?_eq_getElem h]; rfl
theorem loK_ok {xs : List F} (h : ∀ x ∈ xs, x.Ok) : (loK xs).Ok := by
  cases xs with
  | nil => exact ⟨by decide, by decide⟩
  | cons x r => exact lo_ok r x.lo (h x (by simp)).lo fun y hy => h y (List.mem_cons_of_mem _ hy)
theorem hiK_ok {xs : List F} (h : ∀ x ∈ xs, x.Ok) : (hiK xs).Ok := by
  cases xs with
  | nil => exact ⟨by decide, by decide⟩
  | cons x r => exact hi_ok r x.hi (h x (by simp)).hi fun y hy => h y (List.mem_cons_of_mem _ hy)
theorem ovlS_ok {L : List (List F)} (h : LsOk L) (lev : Nat) (xs : List F) : FsOk (ovlS L lev xs) :=
  ⟨fun x hx => (h.get lev).ok x (ovl_sub _ _ _ _ x hx), Nat.le_trans (ovl_len _ _ _ _) (h.get lev).len⟩
theorem FsOk.app {xs ys : List F} (h : FsOk xs) (h' : FsOk ys) : ∀ x ∈ xs ++ ys, x.Ok := fun x hx => by
  rcases List.mem_append.mp hx with hx | hx
  · exact h.ok x hx
  · exact h'.ok x hx

section
variable {g : Gl} (pf : PF g) {H : Cells} {Q : T → Cells → Prop}
include pf
theorem sp_ovlS {v dx : Addr} {cnt sl : Int} {L : List (List F)} {sc : T} {lev : Nat} {xs : List F} (hv : H v = some (verC dx cnt L sc sl)) (hL : LsOk L) (hl : lev < L.length) (hx : ∀ x ∈ xs, x.Ok)
    (h : Q (lvT (ovlS L lev xs)) H) : FSpec g 4 407 [.ref v, .int (lev : Int), .bytes (usr (loU xs)), .bytes (usr (hiU xs))] H Q :=
  sp_overlapping pf (lo := some (loU xs)) (hi := some (hiU xs)) hv (by have := hL.l4; walk_at "la") (lsome hl) (hL.get _) (fun u e => by cases e; exact (loK_ok hx).u) (fun u e => by cases e; exact (hiK_ok hx).u) h
set_option maxHeartbeats 8000000 in
theorem sp_other {x dx i e de p v dv q : Addr} {lev : Nat} {o : Opt} {man : Bool} {cnt sl : Int} {L : List (List F)} {sc : T} {up : List F} {ptrs : List T} (ho : o.Ok) (hL : LsOk L) (hcnt : o.levels = L.length) (hlev : lev + 2 ≤ L.length)
    (hv : H v = some (verC dv cnt L sc sl)) (hc : CompAt H x dx i e de p (.int (lev : Int)) (.ref v) o man (lvT up) (.lst []) (.lst []) []) (hq : H q = some (.list ptrs)) (hpl : lev < ptrs.length) (hpl2 : ptrs.length ≤ 100) (hqi : q ≠ i) (hqp : q ≠ p)
    (hup : FsOk up) (hne : up ≠ [])
    (h : ∀ H', CompAt H' x dx i e de p (.int (lev : Int)) (.ref v) o man (lvT (pairI L lev o up).1) (lvT (pairI L lev o up).2) (lvT (grandI L lev (pairI L lev o up))) [.tup [.int (lev : Int), .bytes (ikB (hiK (pairI L lev o up).1))]] →
      H' q = some (.list (ptrs.set lev (.bytes (ikB (hiK (pairI L lev o up).1))))) → (∀ a c, a ≠ x → a ≠ i → a ≠ p → a ≠ q → H a = some c → H' a = some c) → Q .none H') :
    FSpec g 12 603 [pickT o, .ref x, .ref q] H Q := by
  have hxq : q ≠ x := by rintro rfl; rw [hc.hx] at hq; cases hq
  have heq : q ≠ e := by rintro rfl; rw [hc.he] at hq; cases hq
  have hvi : v ≠ i := by rintro rfl; rw [hc.hi] at hv; cases hv
  have hvx : v ≠ x := by rintro rfl; rw [hc.hx] at hv; cases hv
  have hvp : v ≠ p := by rintro rfl; rw [hc.hp] at hv; cases hv
  have hvq : v ≠ q := by rintro rfl; rw [hq] at hv; cases hv
  have hx0 := hc.hx
  have hi0 := hc.hi
  have he0 := hc.he
  have hp0 := hc.hp
  have n1 := hc.ix
  have n2 := hc.ex
  have n3 := hc.px
  have n4 := hc.ie
  have n5 := hc.ip
  have n6 := hc.ep
  have l4 := hL.l4
  have upl := hup.len
  refine fspec_of (m := 11) (ps := [12, 19, 106]) (ls := [59, 80, 105, 115, 47, 116, 117, 118, 119]) (gs := [4, 77, 79]) (cs := []) (pf.fn 603 _ rfl) (by decide +kernel) rfl fun f hf hg hc' => ?_
  conv => arg 4; whnf
  simp only [N_0, N_1, N_2, N_3, N_4, N_5, N_6, N_7, N_8, N_9, N_10, N_11, N_12, N_13, N_14, N_15, N_16, N_17, N_18, N_19, N_20, N_21, N_22, N_23, N_24, N_25, N_26, N_27, N_28, N_29, N_30, N_31, N_32, N_33, N_34, N_35, N_36, N_37, N_38, N_39, N_40, N_41, N_42, N_43, N_44, N_45, N_46, N_47, N_48, N_49, N_50, N_51, N_52, N_53, N_54, N_55, N_56, N_57, N_58, N_59, N_60, N_61, N_62, N_63, N_64, N_65, N_66, N_67, N_68, N_69, N_70, N_71, N_72, N_73, N_74, N_75, N_76, N_77, N_78, N_79, N_80, N_81, N_82, N_83, N_84, N_85, N_86, N_87, N_88, N_89, N_90, N_91, N_92, N_93, N_94, N_95, N_96, N_97, N_98, N_99, N_100, N_101, N_102, N_103, N_104, N_105, N_106, N_107, N_108, N_109, N_110, N_111, N_112, N_113, N_114, N_115, N_116, N_117, N_118, N_119, N_120, N_121, N_122, N_123, N_124, N_125, N_126, N_127, N_128, N_129, N_130, N_131, N_132, N_133, N_134, N_135, N_136, N_137, N_138, N_139, N_140, N_141, N_142, N_143, N_144, N_145, N_146, N_147, N_148, N_149, N_150, N_151, N_152, N_153, N_154, N_155, N_156, N_157, N_158, N_159, N_160, N_161, N_162, N_163, N_164, N_165, N_166, N_167, N_168, N_169, N_170, N_171, N_172, N_173, N_174, N_175, N_176, N_177, N_178, N_179, N_180, N_181, N_182, N_183, N_184, N_185, N_186, N_187, N_188, N_189, N_190, N_191, N_192, N_193, N_194, N_195, N_196, N_197]
  walk_at "w"
  refine (sp_user_range pf (xs := up) .tree hne (by walk_at "la") hup.ok ?_).le (by walk_at "la")
  walk_at "w"
  have e1 : (lev : Int) + 1 = ((lev + 1 : Nat) : Int) := rfl
  rw [e1]
  refine (sp_ovlS pf (xs := up) hv hL (by walk_at "la") hup.ok ?_).le (by walk_at "la")
  generalize hlow : ovlS L (lev + 1) up = lower
  have lok : FsOk lower := hlow ▸ ovlS_ok hL _ _
  have lol := lok.len
  walk_at "w"
  refine op_add_lists (ts := up.map mT) (us := lower.map mT) .tree .tree (by simp; walk_at "la") ?_
  rw [← List.map_append]
  walk_at "w"
  have ulok : ∀ x ∈ up ++ lower, x.Ok := hup.app lok
  refine (sp_user_range pf (xs := up ++ lower) .tree (by simp [hne]) (by simp; walk_at "la") ulok ?_).le (by walk_at "la")
  walk_at "wi"
  have hpair : pairI L lev o up = if lower = [] then (up, lower) else
    if up.length < (ovlS L lev (up ++ lower)).length ∧ octets lower + octets (ovlS L lev (up ++ lower)) < o.expand * o.most then
      if (ovlS L (lev + 1) (ovlS L lev (up ++ lower))).length = lower.length then (ovlS L lev (up ++ lower), ovlS L (lev + 1) (ovlS L lev (up ++ lower))) else (up, lower)
    else (up, lower) := by unfold pairI; rw [hlow]
  refine exs_mid (fun V' H' => E7 fun (u' l' : List F) (o1 o2 o3 o4 o5 : Option T) => A6 ((u', l') = pairI L lev o up) (FsOk u') (FsOk l') (u' ≠ []) (V' = [(12, some (pickT o)), (19, some (.ref x)), (106, some (.ref q)), (59, some (.int lev)), (80, some (.ref v)), (105, o1), (115, some (.tup [.bytes (usr (loU (u' ++ l'))), .bytes (usr (hiU (u' ++ l')))])), (47, none), (116, o2), (117, o3), (118, o4), (119, o5)]) (H' = updH H i (.list [lvT u', lvT l']))) ?_ ?_
  · walk_at "w"
    refine cl_len_list .tree (by simp; walk_at "la") ?_
    rw [List.length_map]
    walk_at "w"
    refine ite_dec (fun hpos => ?_) fun hpos => ?_
    · have hln : ¬ lower = [] := by rintro rfl; simp at hpos
      rw [if_neg hln] at hpair
      have gok := ovlS_ok hL lev (up ++ lower)
      have gol := gok.len
      walk_at "w"
      have hv1 : ∀ c, updH H i c v = some (verC dv cnt L sc sl) := fun c => by rw [updH_ne hvi]; exact hv
      refine (sp_ovlS pf (xs := up ++ lower) (hv1 _) hL (by walk_at "la") ulok ?_).le (by walk_at "la")
      generalize hgr : ovlS L lev (up ++ lower) = grown at hpair gok gol
      walk_at "w"
      walk_at "o"
      walk_at "o"
      refine op_mul_int (by have := ho.e1; walk_at "la") ?_
      walk_at "w"
      refine cl_fn (sp_total pf (xs := lower) .tree ?_) (by walk_at "la")
      walk_at "w"
      refine cl_fn (sp_total pf (xs := grown) .tree ?_) (by walk_at "la")
      walk_at "w"
      refine cl_len_list .tree (by simp; walk_at "la") ?_
      rw [List.length_map]
      walk_at "w"
      refine cl_len_list .tree (by simp; walk_at "la") ?_
      rw [List.length_map]
      walk_at "w"
      refine ite_dec (fun g1 => ?_) fun g1 => ?_
      · walk_at "w"
        refine ite_dec (fun g2 => ?_) fun g2 => ?_
        · rw [if_pos ⟨by walk_at "la", g2⟩] at hpair
          have gne : grown ≠ [] := by rintro rfl; simp at g1; walk_at "la"
          walk_at "w"
          refine (sp_user_range pf (xs := grown) .tree gne (by walk_at "la") gok.ok ?_).le (by walk_at "la")
          walk_at "w"
          rw [e1]
          refine (sp_ovlS pf (xs := grown) (hv1 _) hL (by walk_at "la") gok.ok ?_).le (by walk_at "la")
          have aok := ovlS_ok hL (lev + 1) grown
          generalize hab : ovlS L (lev + 1) grown = above at hpair aok
          have aol := aok.len
          walk_at "w"
          refine cl_len_list .tree (by simp; walk_at "la") ?_
          rw [List.length_map]
          walk_at "w"
          refine cl_len_list .tree (by simp; walk_at "la") ?_
          rw [List.length_map]
          walk_at "w"
          refine ite_dec (fun g3 => ?_) fun g3 => ?_
          · rw [if_pos (by walk_at "la")] at hpair
            walk_at "w"
            refine op_add_lists (ts := grown.map mT) (us := above.map mT) .tree .tree (by simp; walk_at "la") ?_
            rw [← List.map_append]
            walk_at "w"
            refine (sp_user_range pf (xs := grown ++ above) .tree (by simp [gne]) (by simp; walk_at "la") (gok.app aok) ?_).le (by walk_at "la")
            walk_at "w"
            simp only [updH_updH]
            exact ⟨grown, above, _, _, _, _, _, hpair.symm, gok, aok, gne, rfl, rfl⟩
          · rw [if_neg (by walk_at "la")] at hpair
            walk_at "w"
            exact ⟨up, lower, _, _, _, _, _, hpair.symm, hup, lok, hne, rfl, rfl⟩
        · rw [if_neg (fun q => g2 q.2)] at hpair
          walk_at "w"
          exact ⟨up, lower, _, _, _, _, _, hpair.symm, hup, lok, hne, rfl, rfl⟩
      · rw [if_neg (fun q => g1 (by walk_at "la"))] at hpair
        walk_at "w"
        exact ⟨up, lower, _, _, _, _, _, hpair.symm, hup, lok, hne, rfl, rfl⟩
    · have hln : lower = [] := by
        cases lower with
        | nil => rfl
        | cons a b => simp at hpos
      rw [if_pos hln] at hpair
      walk_at "w"
      exact ⟨up, lower, _, _, _, _, _, hpair.symm, hup, lok, hne, rfl, rfl⟩
  · rintro V' H' ⟨u', l', o1, o2, o3, o4, o5, hp', uok, lok', une, rfl, rfl⟩
    have uol := uok.len
    have lol' := lok'.len
    have hv1 : ∀ c, updH H i c v = some (verC dv cnt L sc sl) := fun c => by rw [updH_ne hvi]; exact hv
    have uok' : ∀ y ∈ u' ++ l', y.Ok := uok.app lok'
    walk_at "wi"
    refine exs_mid (fun V' H' => E5 fun (o1 o2 o3 o4 o5 : Option T) => V' = [(12, some (pickT o)), (19, some (.ref x)), (106, some (.ref q)), (59, some (.int lev)), (80, some (.ref v)), (105, o1), (115, some (.tup [.bytes (usr (loU (u' ++ l'))), .bytes (usr (hiU (u' ++ l')))])), (47, none), (116, o2), (117, o3), (118, o4), (119, o5)] ∧ H' = updH (updH H i (.list [lvT u', lvT l'])) x (.inst 536 dx (compFs (.int lev) (.ref v) o.T (.ref i) (lvT (grandI L lev (u', l'))) (.ref e) man o.levels))) ?_ ?_
    · walk_at "w"
      walk_at "o"
      refine ite_dec (fun g1 => ?_) fun g1 => ?_
      · walk_at "w"
        have e2 : (lev : Int) + 2 = ((lev + 2 : Nat) : Int) := rfl
        rw [e2]
        refine (sp_ovlS pf (xs := u' ++ l') (hv1 _) hL (by walk_at "la") uok' ?_).le (by walk_at "la")
        walk_at "w"
        refine ⟨_, _, _, _, _, rfl, ?_⟩
        have : grandI L lev (u', l') = ovlS L (lev + 2) (u' ++ l') := by unfold grandI; rw [if_pos (by walk_at "la")]
        rw [this]; rfl
      · walk_at "w"
        refine ⟨_, _, _, _, _, rfl, ?_⟩
        have : grandI L lev (u', l') = [] := by unfold grandI; rw [if_neg (by walk_at "la")]
        rw [this]
        have e3 : updH H i (.list [lvT u', lvT l']) x = some (.inst 536 dx (compFs (.int lev) (.ref v) o.T (.ref i) (lvT []) (.ref e) man o.levels)) := by rw [updH_ne (Ne.symm n1)]; exact hx0
        exact (updH_id e3).symm
    · rintro V' H' ⟨o1, o2, o3, o4, o5, rfl, rfl⟩
      walk_at "w"
      refine cl_fn (sp_key_range pf (xs := u') .tree une (by walk_at "la") uok.ok ?_) (by walk_at "la")
      walk_at "w"
      refine asgs_cell (by walk_at "H") (by walk_at "la") (by simp; walk_at "la") (by walk_at "la") ?_
      walk_at "w"
      have hp1 : pairI L lev o up = (u', l') := hp'.symm
      rw [hp1] at h
      refine ⟨[], by walk_at "H", by simp, _, SubH.rfl, h _ ⟨?_, ?_, ?_, ?_, n1, n2, n3, n4, n5, n6⟩ ?_ ?_⟩
      · walk_at "H"
      · walk_at "H"
      · walk_at "H"
      · walk_at "H"
      · walk_at "H"
      · intro a c ax ai ap aq ha
        walk_at "H"
end
end

local macro_rules | `(tactic| walk_at "k") => `(tactic| (refine op_sub_tup (by decide) (Nat.le_of_ble_eq_true (by rfl)) (by rfl) ?_; walk_at "w"))
section
theorem map_getD {l : List (List UInt8)} {u : Nat} (h : u < l.length) : (l.map T.bytes)[u]? = some (T.bytes (l.getD u [])) := by
  rw [List.getElem?_map, List.getD_eq_getElem?_getD, List.getElem?_eq_getElem h]; rfl
section
variable {g : Gl} (pf : PF g) {H : Cells} {Q : T → Cells → Prop}
include pf
theorem sp_user {u : Nat} (hu : u < 8) (h : Q (.bytes (usr u)) H) : FSpec g 2 624 [.int (u : Int)] H Q := by
  refine fspec_of (m := 1) (ps := [122]) (ls := []) (gs := []) (cs := []) (pf.fn 624 _ rfl) (by decide +kernel) rfl fun f hf hg hc => ?_
  conv => arg 4; whnf
  simp only [N_0, N_1, N_2, N_3, N_4, N_5, N_6, N_7, N_8, N_9, N_10, N_11, N_12, N_13, N_14, N_15, N_16, N_17, N_18, N_19, N_20, N_21, N_22, N_23, N_24, N_25, N_26, N_27, N_28, N_29, N_30, N_31, N_32, N_33, N_34, N_35, N_36, N_37, N_38, N_39, N_40, N_41, N_42, N_43, N_44, N_45, N_46, N_47, N_48, N_49, N_50, N_51, N_52, N_53, N_54, N_55, N_56, N_57, N_58, N_59, N_60, N_61, N_62, N_63, N_64, N_65, N_66, N_67, N_68, N_69, N_70, N_71, N_72, N_73, N_74, N_75, N_76, N_77, N_78, N_79, N_80, N_81, N_82, N_83, N_84, N_85, N_86, N_87, N_88, N_89, N_90, N_91, N_92, N_93, N_94, N_95, N_96, N_97, N_98, N_99, N_100, N_101, N_102, N_103, N_104, N_105, N_106, N_107, N_108, N_109, N_110, N_111, N_112, N_113, N_114, N_115, N_116, N_117, N_118, N_119, N_120, N_121, N_122, N_123, N_124, N_125, N_126, N_127, N_128, N_129, N_130, N_131, N_132, N_133, N_134, N_135, N_136, N_137, N_138, N_139, N_140, N_141, N_142, N_143, N_144, N_145, N_146, N_147, N_148, N_149, N_150, N_151, N_152, N_153, N_154, N_155, N_156, N_157, N_158, N_159, N_160, N_161, N_162, N_163, N_164, N_165, N_166, N_167, N_168, N_169, N_170, N_171, N_172, N_173, N_174, N_175, N_176, N_177, N_178, N_179, N_180, N_181, N_182, N_183, N_184, N_185, N_186, N_187, N_188, N_189, N_190, N_191, N_192, N_193, N_194, N_195, N_196, N_197]
  walk_at "w"
  refine op_sub_tup (by walk_at "la") (by simp) (u := .bytes (usr u)) ?_ ?_
  · rw [Int.toNat_natCast]
    exact map_getD (l := [[], [97], [97, 0], [98], [98, 97], [99], [99, 255], [100]]) hu
  · exact ⟨_, SubH.rfl, h⟩
theorem sp_user0 (h : Q .none H) : FSpec g 2 624 [.none] H Q := by
  refine fspec_of (m := 1) (ps := [122]) (ls := []) (gs := []) (cs := []) (pf.fn 624 _ rfl) (by decide +kernel) rfl fun f hf hg hc => ?_
  conv => arg 4; whnf
  simp only [N_0, N_1, N_2, N_3, N_4, N_5, N_6, N_7, N_8, N_9, N_10, N_11, N_12, N_13, N_14, N_15, N_16, N_17, N_18, N_19, N_20, N_21, N_22, N_23, N_24, N_25, N_26, N_27, N_28, N_29, N_30, N_31, N_32, N_33, N_34, N_35, N_36, N_37, N_38, N_39, N_40, N_41, N_42, N_43, N_44, N_45, N_46, N_47, N_48, N_49, N_50, N_51, N_52, N_53, N_54, N_55, N_56, N_57, N_58, N_59, N_60, N_61, N_62, N_63, N_64, N_65, N_66, N_67, N_68, N_69, N_70, N_71, N_72, N_73, N_74, N_75, N_76, N_77, N_78, N_79, N_80, N_81, N_82, N_83, N_84, N_85, N_86, N_87, N_88, N_89, N_90, N_91, N_92, N_93, N_94, N_95, N_96, N_97, N_98, N_99, N_100, N_101, N_102, N_103, N_104, N_105, N_106, N_107, N_108, N_109, N_110, N_111, N_112, N_113, N_114, N_115, N_116, N_117, N_118, N_119, N_120, N_121, N_122, N_123, N_124, N_125, N_126, N_127, N_128, N_129, N_130, N_131, N_132, N_133, N_134, N_135, N_136, N_137, N_138, N_139, N_140, N_141, N_142, N_143, N_144, N_145, N_146, N_147, N_148, N_149, N_150, N_151, N_152, N_153, N_154, N_155, N_156, N_157, N_158, N_159, N_160, N_161, N_162, N_163, N_164, N_165, N_166, N_167, N_168, N_169, N_170, N_171, N_172, N_173, N_174, N_175, N_176, N_177, N_178, N_179, N_180, N_181, N_182, N_183, N_184, N_185, N_186, N_187, N_188, N_189, N_190, N_191, N_192, N_193, N_194, N_195, N_196, N_197]
  walk_at "w"
  exact ⟨_, SubH.rfl, h⟩
theorem sp_ikey {κ : Key} (hκ : κ.Ok) (h : Q (.bytes (ikB κ)) H) : FSpec g 3 631 [keyT κ] H Q := by
  have k1 := hκ.u
  have k2 := hκ.m
  have kl := usr_len κ.u
  refine fspec_of (m := 2) (ps := [124]) (ls := []) (gs := [123, 9]) (cs := []) (pf.fn 631 _ rfl) (by decide +kernel) rfl fun f hf hg hc => ?_
  conv => arg 4; whnf
  simp only [N_0, N_1, N_2, N_3, N_4, N_5, N_6, N_7, N_8, N_9, N_10, N_11, N_12, N_13, N_14, N_15, N_16, N_17, N_18, N_19, N_20, N_21, N_22, N_23, N_24, N_25, N_26, N_27, N_28, N_29, N_30, N_31, N_32, N_33, N_34, N_35, N_36, N_37, N_38, N_39, N_40, N_41, N_42, N_43, N_44, N_45, N_46, N_47, N_48, N_49, N_50, N_51, N_52, N_53, N_54, N_55, N_56, N_57, N_58, N_59, N_60, N_61, N_62, N_63, N_64, N_65, N_66, N_67, N_68, N_69, N_70, N_71, N_72, N_73, N_74, N_75, N_76, N_77, N_78, N_79, N_80, N_81, N_82, N_83, N_84, N_85, N_86, N_87, N_88, N_89, N_90, N_91, N_92, N_93, N_94, N_95, N_96, N_97, N_98, N_99, N_100, N_101, N_102, N_103, N_104, N_105, N_106, N_107, N_108, N_109, N_110, N_111, N_112, N_113, N_114, N_115, N_116, N_117, N_118, N_119, N_120, N_121, N_122, N_123, N_124, N_125, N_126, N_127, N_128, N_129, N_130, N_131, N_132, N_133, N_134, N_135, N_136, N_137, N_138, N_139, N_140, N_141, N_142, N_143, N_144, N_145, N_146, N_147, N_148, N_149, N_150, N_151, N_152, N_153, N_154, N_155, N_156, N_157, N_158, N_159, N_160, N_161, N_162, N_163, N_164, N_165, N_166, N_167, N_168, N_169, N_170, N_171, N_172, N_173, N_174, N_175, N_176, N_177, N_178, N_179, N_180, N_181, N_182, N_183, N_184, N_185, N_186, N_187, N_188, N_189, N_190, N_191, N_192, N_193, N_194, N_195, N_196, N_197]
  walk_at "w"
  walk_at "k"
  refine cl_fn (sp_user pf k1 ?_) (by walk_at "la")
  walk_at "w"
  refine ev_list ?_
  walk_at "w"
  walk_at "k"
  refine cl_bytes_ints (ns := [1, 0 - -(κ.m : Int), 0, 0, 0, 0, 0, 0]) .tree (fun n hn => ?_) (by simp) ?_
  · simp only [List.mem_cons, List.not_mem_nil, or_false] at hn
    walk_at "la"
  refine op_add_bytes (by simp; walk_at "la") ?_
  refine ⟨_, SubH.rfl, ?_⟩
  have e : (0 - -(κ.m : Int)).toNat.toUInt8 = κ.m.toUInt8 := by
    rw [show (0 - -(κ.m : Int)).toNat = κ.m by walk_at "la"]
  show Q (.bytes (usr κ.u ++ [1, (0 - -(κ.m : Int)).toNat.toUInt8, 0, 0, 0, 0, 0, 0])) H
  rw [e]
  exact h
theorem sp_octets {t : T} {xs : List F} (ha : AsList H t (xs.map fT)) (hok : FsOk xs) (h : Q (.int (octets xs)) H) : FSpec g 2 658 [t] H Q := by
  have hl := hok.len
  refine fspec_of (m := 1) (ps := [58]) (ls := []) (gs := [142]) (cs := []) (pf.fn 658 _ rfl) (by decide +kernel) rfl fun f hf hg hc => ?_
  conv => arg 4; whnf
  simp only [N_0, N_1, N_2, N_3, N_4, N_5, N_6, N_7, N_8, N_9, N_10, N_11, N_12, N_13, N_14, N_15, N_16, N_17, N_18, N_19, N_20, N_21, N_22, N_23, N_24, N_25, N_26, N_27, N_28, N_29, N_30, N_31, N_32, N_33, N_34, N_35, N_36, N_37, N_38, N_39, N_40, N_41, N_42, N_43, N_44, N_45, N_46, N_47, N_48, N_49, N_50, N_51, N_52, N_53, N_54, N_55, N_56, N_57, N_58, N_59, N_60, N_61, N_62, N_63, N_64, N_65, N_66, N_67, N_68, N_69, N_70, N_71, N_72, N_73, N_74, N_75, N_76, N_77, N_78, N_79, N_80, N_81, N_82, N_83, N_84, N_85, N_86, N_87, N_88, N_89, N_90, N_91, N_92, N_93, N_94, N_95, N_96, N_97, N_98, N_99, N_100, N_101, N_102, N_103, N_104, N_105, N_106, N_107, N_108, N_109, N_110, N_111, N_112, N_113, N_114, N_115, N_116, N_117, N_118, N_119, N_120, N_121, N_122, N_123, N_124, N_125, N_126, N_127, N_128, N_129, N_130, N_131, N_132, N_133, N_134, N_135, N_136, N_137, N_138, N_139, N_140, N_141, N_142, N_143, N_144, N_145, N_146, N_147, N_148, N_149, N_150, N_151, N_152, N_153, N_154, N_155, N_156, N_157, N_158, N_159, N_160, N_161, N_162, N_163, N_164, N_165, N_166, N_167, N_168, N_169, N_170, N_171, N_172, N_173, N_174, N_175, N_176, N_177, N_178, N_179, N_180, N_181, N_182, N_183, N_184, N_185, N_186, N_187, N_188, N_189, N_190, N_191, N_192, N_193, N_194, N_195, N_196, N_197]
  walk_at "w"
  refine ev_comp [] [] (by decide +kernel) rfl ?_
  unfold CompOk
  walk_at "w"
  refine ⟨F, xs, fT, fun x => some (.int x.s), .list ha, by walk_at "la", fun x hx fc hg hc => ?_, ?_⟩
  · refine ⟨_, rfl, ?_⟩
    walk_at "w"
    walk_at "k"
    exact ⟨rfl, SubH.rfl⟩
  walk_at "w"
  refine cl_sum_ints (xs := xs.map (·.s)) ?_ ?_ (by simp; walk_at "la") ?_
  · have : xs.filterMap (fun x => some (T.int x.s)) = (xs.map (·.s)).map T.int := by simp [List.filterMap_eq_map', List.map_map, Function.comp_def]
    rw [this]; exact .tree
  · intro x hx
    obtain ⟨y, hy, rfl⟩ := List.mem_map.mp hx
    have := hok.ok y hy
    exact ⟨this.s0, by have := this.s1; walk_at "la"⟩
  · exact ⟨_, SubH.rfl, h⟩
theorem sp_rows {t : T} {xs : List F} (ha : AsList H t (xs.map fT)) (hok : FsOk xs) (h : Q (.lst (xs.map rowT)) H) : FSpec g 5 643 [t] H Q := by
  have hl := hok.len
  refine fspec_of (m := 4) (ps := [58]) (ls := []) (gs := []) (cs := []) (pf.fn 643 _ rfl) (by decide +kernel) rfl fun f hf hg hc => ?_
  conv => arg 4; whnf
  simp only [N_0, N_1, N_2, N_3, N_4, N_5, N_6, N_7, N_8, N_9, N_10, N_11, N_12, N_13, N_14, N_15, N_16, N_17, N_18, N_19, N_20, N_21, N_22, N_23, N_24, N_25, N_26, N_27, N_28, N_29, N_30, N_31, N_32, N_33, N_34, N_35, N_36, N_37, N_38, N_39, N_40, N_41, N_42, N_43, N_44, N_45, N_46, N_47, N_48, N_49, N_50, N_51, N_52, N_53, N_54, N_55, N_56, N_57, N_58, N_59, N_60, N_61, N_62, N_63, N_64, N_65, N_66, N_67, N_68, N_69, N_70, N_71, N_72, N_73, N_74, N_75, N_76, N_77, N_78, N_79, N_80, N_81, N_82, N_83, N_84, N_85, N_86, N_87, N_88, N_89, N_90, N_91, N_92, N_93, N_94, N_95, N_96, N_97, N_98, N_99, N_100, N_101, N_102, N_103, N_104, N_105, N_106, N_107, N_108, N_109, N_110, N_111, N_112, N_113, N_114, N_115, N_116, N_117, N_118, N_119, N_120, N_121, N_122, N_123, N_124, N_125, N_126, N_127, N_128, N_129, N_130, N_131, N_132, N_133, N_134, N_135, N_136, N_137, N_138, N_139, N_140, N_141, N_142, N_143, N_144, N_145, N_146, N_147, N_148, N_149, N_150, N_151, N_152, N_153, N_154, N_155, N_156, N_157, N_158, N_159, N_160, N_161, N_162, N_163, N_164, N_165, N_166, N_167, N_168, N_169, N_170, N_171, N_172, N_173, N_174, N_175, N_176, N_177, N_178, N_179, N_180, N_181, N_182, N_183, N_184, N_185, N_186, N_187, N_188, N_189, N_190, N_191, N_192, N_193, N_194, N_195, N_196, N_197]
  walk_at "w"
  refine ev_comp [] [125] (by decide +kernel) rfl ?_
  unfold CompOk
  walk_at "w"
  refine ⟨F, xs, fT, fun x => some (rowT x), .list ha, by walk_at "la", fun x hx fc hg hc => ?_, ?_⟩
  · refine ⟨_, rfl, ?_⟩
    have ok := hok.ok x hx
    walk_at "w"
    walk_at "k"
    walk_at "k"
    walk_at "k"
    refine cl_fn (sp_ikey pf ok.lo ?_) (by walk_at "la")
    walk_at "w"
    walk_at "k"
    refine cl_fn (sp_ikey pf ok.hi ?_) (by walk_at "la")
    walk_at "w"
    exact ⟨rfl, SubH.rfl⟩
  walk_at "w"
  refine ⟨_, SubH.rfl, ?_⟩
  have : xs.filterMap (fun x => some (rowT x)) = xs.map rowT := by simp [List.filterMap_eq_map']
  rw [this]; exact h
theorem sp_metas {t : T} {xs : List F} (ha : AsList H t (xs.map mT)) (hl : xs.length ≤ 100) (h : Q (.lst (xs.map rowT)) H) : FSpec g 4 648 [t] H Q := by
  refine fspec_of (m := 3) (ps := [58]) (ls := []) (gs := []) (cs := []) (pf.fn 648 _ rfl) (by decide +kernel) rfl fun f hf hg hc => ?_
  conv => arg 4; whnf
  simp only [N_0, N_1, N_2, N_3, N_4, N_5, N_6, N_7, N_8, N_9, N_10, N_11, N_12, N_13, N_14, N_15, N_16, N_17, N_18, N_19, N_20, N_21, N_22, N_23, N_24, N_25, N_26, N_27, N_28, N_29, N_30, N_31, N_32, N_33, N_34, N_35, N_36, N_37, N_38, N_39, N_40, N_41, N_42, N_43, N_44, N_45, N_46, N_47, N_48, N_49, N_50, N_51, N_52, N_53, N_54, N_55, N_56, N_57, N_58, N_59, N_60, N_61, N_62, N_63, N_64, N_65, N_66, N_67, N_68, N_69, N_70, N_71, N_72, N_73, N_74, N_75, N_76, N_77, N_78, N_79, N_80, N_81, N_82, N_83, N_84, N_85, N_86, N_87, N_88, N_89, N_90, N_91, N_92, N_93, N_94, N_95, N_96, N_97, N_98, N_99, N_100, N_101, N_102, N_103, N_104, N_105, N_106, N_107, N_108, N_109, N_110, N_111, N_112, N_113, N_114, N_115, N_116, N_117, N_118, N_119, N_120, N_121, N_122, N_123, N_124, N_125, N_126, N_127, N_128, N_129, N_130, N_131, N_132, N_133, N_134, N_135, N_136, N_137, N_138, N_139, N_140, N_141, N_142, N_143, N_144, N_145, N_146, N_147, N_148, N_149, N_150, N_151, N_152, N_153, N_154, N_155, N_156, N_157, N_158, N_159, N_160, N_161, N_162, N_163, N_164, N_165, N_166, N_167, N_168, N_169, N_170, N_171, N_172, N_173, N_174, N_175, N_176, N_177, N_178, N_179, N_180, N_181, N_182, N_183, N_184, N_185, N_186, N_187, N_188, N_189, N_190, N_191, N_192, N_193, N_194, N_195, N_196, N_197]
  walk_at "w"
  refine ev_comp [] [] (by decide +kernel) rfl ?_
  unfold CompOk
  walk_at "w"
  refine ⟨F, xs, mT, fun x => some (rowT x), .list ha, by walk_at "la", fun x hx fc hg hc => ?_, ?_⟩
  · refine ⟨_, rfl, ?_⟩
    walk_at "w"
    refine (sp_row pf ?_).le (by walk_at "la")
    walk_at "w"
    exact ⟨rfl, SubH.rfl⟩
  walk_at "w"
  refine ⟨_, SubH.rfl, ?_⟩
  have : xs.filterMap (fun x => some (rowT x)) = xs.map rowT := by simp [List.filterMap_eq_map']
  rw [this]; exact h
end
end

section
noncomputable def oT : Option Nat → T
  | none => .none
  | some u => .int u
theorem lo_min : ∀ (r : List F) (k : Key), (∀ x ∈ r, (r.foldl (fun k y => if y.lo.rank < k.rank then y.lo else k) k).rank ≤ x.lo.rank) ∧ (r.foldl (fun k y => if y.lo.rank < k.rank then y.lo else k) k).rank ≤ k.rank ∧
    (r.foldl (fun k y => if y.lo.rank < k.rank then y.lo else k) k = k ∨ ∃ x ∈ r, r.foldl (fun k y => if y.lo.rank < k.rank then y.lo else k) k = x.lo)
  | [], k => ⟨by simp, by simp, .inl rfl⟩
  | y :: r, k => by
    rw [List.foldl_cons]
    obtain ⟨h1, h2, h3⟩ := lo_min r (if y.lo.rank < k.rank then y.lo else k)
    have e : (if y.lo.rank < k.rank then y.lo else k).rank ≤ y.lo.rank ∧ (if y.lo.rank < k.rank then y.lo else k).rank ≤ k.rank := by split <;> constructor <;> walk_at "la"
    refine ⟨fun x hx => ?_, by walk_at "la", ?_⟩
    · rcases List.mem_cons.mp hx with rfl | hx
      · walk_at "la"
      · exact h1 x hx
    · rcases h3 with h3 | ⟨x, hx, h3⟩
      · rw [h3]
        split
        · exact .inr ⟨y, by simp, rfl⟩
        · exact .inl rfl
      · exact .inr ⟨x, by simp [hx], h3⟩
theorem hi_max : ∀ (r : List F) (k : Key), (∀ x ∈ r, x.hi.rank ≤ (r.foldl (fun k y => if k.rank < y.hi.rank then y.hi else k) k).rank) ∧ k.rank ≤ (r.foldl (fun k y => if k.rank < y.hi.rank then y.hi else k) k).rank ∧
    (r.foldl (fun k y => if k.rank < y.hi.rank then y.hi else k) k = k ∨ ∃ x ∈ r, r.foldl (fun k y => if k.rank < y.hi.rank then y.hi else k) k = x.hi)
  | [], k => ⟨by simp, by simp, .inl rfl⟩
  | y :: r, k => by
    rw [List.foldl_cons]
    obtain ⟨h1, h2, h3⟩ := hi_max r (if k.rank < y.hi.rank then y.hi else k)
    have e : y.hi.rank ≤ (if k.rank < y.hi.rank then y.hi else k).rank ∧ k.rank ≤ (if k.rank < y.hi.rank then y.hi else k).rank := by split <;> constructor <;> walk_at "la"
    refine ⟨fun x hx => ?_, by walk_at "la", ?_⟩
    · rcases List.mem_cons.mp hx with rfl | hx
      · walk_at "la"
      · exact h1 x hx
    · rcases h3 with h3 | ⟨x, hx, h3⟩
      · rw [h3]
        split
        · exact .inr ⟨y, by simp, rfl⟩
        · exact .inl rfl
      · exact .inr ⟨x, by simp [hx], h3⟩
theorem loK_min {xs : List F} : ∀ x ∈ xs, (loK xs).rank ≤ x.lo.rank := by
  cases xs with
  | nil => simp
  | cons y r =>
    intro x hx
    have := lo_min r y.lo
    rcases List.mem_cons.mp hx with rfl | hx
    · exact this.2.1
    · exact this.1 x hx
theorem hiK_max {xs : List F} : ∀ x ∈ xs, x.hi.rank ≤ (hiK xs).rank := by
  cases xs with
  | nil => simp
  | cons y r =>
    intro x hx
    have := hi_max r y.hi
    rcases List.mem_cons.mp hx with rfl | hx
    · exact this.2.1
    · exact this.1 x hx
theorem loK_mem {xs : List F} (h : xs ≠ []) : ∃ x ∈ xs, loK xs = x.lo := by
  cases xs with
  | nil => exact absurd rfl h
  | cons y r =>
    rcases (lo_min r y.lo).2.2 with e | ⟨x, hx, e⟩
    · exact ⟨y, by simp, e⟩
    · exact ⟨x, by simp [hx], e⟩
theorem hiK_mem {xs : List F} (h : xs ≠ []) : ∃ x ∈ xs, hiK xs = x.hi := by
  cases xs with
  | nil => exact absurd rfl h
  | cons y r =>
    rcases (hi_max r y.hi).2.2 with e | ⟨x, hx, e⟩
    · exact ⟨y, by simp, e⟩
    · exact ⟨x, by simp [hx], e⟩
theorem rank_u {a b : Key} (ha : a.Ok) (hb : b.Ok) (h : a.rank ≤ b.rank) : a.u ≤ b.u := by
  have := ha.m; have := hb.m
  unfold Key.rank at h; walk_at "la"
theorem loU_eq {xs : List F} (hne : xs ≠ []) (hok : ∀ x ∈ xs, x.Ok) {m : Int} (hm : m ∈ xs.map (fun x => (x.lo.u : Int))) (hl : ∀ x ∈ xs.map (fun x => (x.lo.u : Int)), m ≤ x) : m = (loU xs : Nat) := by
  obtain ⟨y, hy, rfl⟩ := List.mem_map.mp hm
  obtain ⟨x, hx, e⟩ := loK_mem hne
  have h1 := hl _ (List.mem_map.mpr ⟨x, hx, rfl⟩)
  have h2 := rank_u (loK_ok hok) (hok y hy).lo (loK_min y hy)
  have h3 : (loU xs) = x.lo.u := by unfold loU; rw [e]
  unfold loU at h3 ⊢
  walk_at "la"
theorem hiU_eq {xs : List F} (hne : xs ≠ []) (hok : ∀ x ∈ xs, x.Ok) {m : Int} (hm : m ∈ xs.map (fun x => (x.hi.u : Int))) (hl : ∀ x ∈ xs.map (fun x => (x.hi.u : Int)), x ≤ m) : m = (hiU xs : Nat) := by
  obtain ⟨y, hy, rfl⟩ := List.mem_map.mp hm
  obtain ⟨x, hx, e⟩ := hiK_mem hne
  have h1 := hl _ (List.mem_map.mpr ⟨x, hx, rfl⟩)
  have h2 := rank_u (hok y hy).hi (hiK_ok hok) (hiK_max y hy)
  have h3 : (hiU xs) = x.hi.u := by unfold hiU; rw [e]
  unfold hiU at h3 ⊢
  walk_at "la"
theorem fm_some {α β : Type} {l : List α} {h : α → β} : l.filterMap (fun x => some (h x)) = l.map h := by simp [List.filterMap_eq_map']
theorem fm_if {α β : Type} {l : List α} {p : α → Bool} {h : α → β} : l.filterMap (fun x => if p x then some (h x) else none) = (l.filter p).map h := by
  induction l with
  | nil => rfl
  | cons a t ih =>
    rw [List.filterMap_cons, List.filter_cons]
    by_cases q : p a = true
    · rw [if_pos q, if_pos q, List.map_cons, ih]
    · rw [if_neg q, if_neg q, ih]
section
variable {g : Gl} (pf : PF g) {H : Cells} {Q : T → Cells → Prop}
include pf
theorem sp_span {t : T} {xs : List F} (ha : AsList H t (xs.map fT)) (hne : xs ≠ []) (hl : xs.length ≤ 10000) (hok : ∀ x ∈ xs, x.Ok) (h : Q (.tup [.int (loU xs : Nat), .int (hiU xs : Nat)]) H) : FSpec g 2 663 [t] H Q := by
  refine fspec_of (m := 1) (ps := [58]) (ls := []) (gs := [134, 144]) (cs := []) (pf.fn 663 _ rfl) (by decide +kernel) rfl fun f hf hg hc => ?_
  conv => arg 4; whnf
  simp only [N_0, N_1, N_2, N_3, N_4, N_5, N_6, N_7, N_8, N_9, N_10, N_11, N_12, N_13, N_14, N_15, N_16, N_17, N_18, N_19, N_20, N_21, N_22, N_23, N_24, N_25, N_26, N_27, N_28, N_29, N_30, N_31, N_32, N_33, N_34, N_35, N_36, N_37, N_38, N_39, N_40, N_41, N_42, N_43, N_44, N_45, N_46, N_47, N_48, N_49, N_50, N_51, N_52, N_53, N_54, N_55, N_56, N_57, N_58, N_59, N_60, N_61, N_62, N_63, N_64, N_65, N_66, N_67, N_68, N_69, N_70, N_71, N_72, N_73, N_74, N_75, N_76, N_77, N_78, N_79, N_80, N_81, N_82, N_83, N_84, N_85, N_86, N_87, N_88, N_89, N_90, N_91, N_92, N_93, N_94, N_95, N_96, N_97, N_98, N_99, N_100, N_101, N_102, N_103, N_104, N_105, N_106, N_107, N_108, N_109, N_110, N_111, N_112, N_113, N_114, N_115, N_116, N_117, N_118, N_119, N_120, N_121, N_122, N_123, N_124, N_125, N_126, N_127, N_128, N_129, N_130, N_131, N_132, N_133, N_134, N_135, N_136, N_137, N_138, N_139, N_140, N_141, N_142, N_143, N_144, N_145, N_146, N_147, N_148, N_149, N_150, N_151, N_152, N_153, N_154, N_155, N_156, N_157, N_158, N_159, N_160, N_161, N_162, N_163, N_164, N_165, N_166, N_167, N_168, N_169, N_170, N_171, N_172, N_173, N_174, N_175, N_176, N_177, N_178, N_179, N_180, N_181, N_182, N_183, N_184, N_185, N_186, N_187, N_188, N_189, N_190, N_191, N_192, N_193, N_194, N_195, N_196, N_197]
  walk_at "w"
  refine ev_comp [] [] (by decide +kernel) rfl ?_
  unfold CompOk
  walk_at "w"
  refine ⟨F, xs, fT, fun x => some (.int (x.lo.u : Int)), .list ha, by walk_at "la", fun x hx fc hg hc => ?_, ?_⟩
  · refine ⟨_, rfl, ?_⟩
    walk_at "w"
    walk_at "k"
    refine op_sub_tup (ts := [.int x.lo.u, .int (-(x.lo.m : Int))]) (by decide) (by simp) (by rfl) ?_
    exact ⟨rfl, SubH.rfl⟩
  walk_at "w"
  refine cl_min_ints (xs := xs.map (fun x => (x.lo.u : Int))) ?_ (by simpa using hne) fun m hm hle => ?_
  · rw [fm_some, List.map_map]; exact .tree
  rw [loU_eq hne hok hm hle]
  walk_at "w"
  refine ev_comp [] [] (by decide +kernel) rfl ?_
  unfold CompOk
  walk_at "w"
  refine ⟨F, xs, fT, fun x => some (.int (x.hi.u : Int)), .list ha, by walk_at "la", fun x hx fc hg hc => ?_, ?_⟩
  · refine ⟨_, rfl, ?_⟩
    walk_at "w"
    walk_at "k"
    refine op_sub_tup (ts := [.int x.hi.u, .int (-(x.hi.m : Int))]) (by decide) (by simp) (by rfl) ?_
    exact ⟨rfl, SubH.rfl⟩
  walk_at "w"
  refine cl_max_ints (xs := xs.map (fun x => (x.hi.u : Int))) ?_ (by simpa using hne) fun m hm hle => ?_
  · rw [fm_some, List.map_map]; exact .tree
  rw [hiU_eq hne hok hm hle]
  walk_at "w"
  exact ⟨_, SubH.rfl, h⟩
end
end

section
section
variable {g : Gl} (pf : PF g) {H : Cells} {Q : T → Cells → Prop}
include pf
theorem sp_touch {t : T} {xs : List F} {lo hi : Option Nat} (ha : AsList H t (xs.map fT)) (hl : xs.length ≤ 10000) (h : Q (.lst ((touch xs lo hi).map fT)) H) : FSpec g 2 668 [t, oT lo, oT hi] H Q := by
  refine fspec_of (m := 1) (ps := [58, 68, 69]) (ls := []) (gs := []) (cs := [68, 69]) (pf.fn 668 _ rfl) (by decide +kernel) rfl fun f hf hg hc => ?_
  conv => arg 4; whnf
  simp only [N_0, N_1, N_2, N_3, N_4, N_5, N_6, N_7, N_8, N_9, N_10, N_11, N_12, N_13, N_14, N_15, N_16, N_17, N_18, N_19, N_20, N_21, N_22, N_23, N_24, N_25, N_26, N_27, N_28, N_29, N_30, N_31, N_32, N_33, N_34, N_35, N_36, N_37, N_38, N_39, N_40, N_41, N_42, N_43, N_44, N_45, N_46, N_47, N_48, N_49, N_50, N_51, N_52, N_53, N_54, N_55, N_56, N_57, N_58, N_59, N_60, N_61, N_62, N_63, N_64, N_65, N_66, N_67, N_68, N_69, N_70, N_71, N_72, N_73, N_74, N_75, N_76, N_77, N_78, N_79, N_80, N_81, N_82, N_83, N_84, N_85, N_86, N_87, N_88, N_89, N_90, N_91, N_92, N_93, N_94, N_95, N_96, N_97, N_98, N_99, N_100, N_101, N_102, N_103, N_104, N_105, N_106, N_107, N_108, N_109, N_110, N_111, N_112, N_113, N_114, N_115, N_116, N_117, N_118, N_119, N_120, N_121, N_122, N_123, N_124, N_125, N_126, N_127, N_128, N_129, N_130, N_131, N_132, N_133, N_134, N_135, N_136, N_137, N_138, N_139, N_140, N_141, N_142, N_143, N_144, N_145, N_146, N_147, N_148, N_149, N_150, N_151, N_152, N_153, N_154, N_155, N_156, N_157, N_158, N_159, N_160, N_161, N_162, N_163, N_164, N_165, N_166, N_167, N_168, N_169, N_170, N_171, N_172, N_173, N_174, N_175, N_176, N_177, N_178, N_179, N_180, N_181, N_182, N_183, N_184, N_185, N_186, N_187, N_188, N_189, N_190, N_191, N_192, N_193, N_194, N_195, N_196, N_197]
  walk_at "w"
  refine ev_comp [68, 69] [] (by decide +kernel) (by rw [hc]; rfl) ?_
  unfold CompOk
  walk_at "w"
  refine ⟨F, xs, fT, fun x => if inR lo hi x then some (fT x) else none, .list ha, by walk_at "la", fun x hx fc hg' hc' => ?_, ?_⟩
  · unfold CBody
    have fin : ∀ b : Bool, inR lo hi x = b → SubH H H ∧ (if b = true then CBody g fc 1 [] (.Name (nm 136) { line := 528, col := 12, endLine := 528, endCol := 13 }) ((136, some (fT x)) :: capV (V0 [58, 68, 69] [] [t, oT lo, oT hi]) [68, 69]) H (if inR lo hi x = true then some (fT x) else none) else (if inR lo hi x = true then some (fT x) else none) = none) := fun b e => by
      rw [e]
      cases b with
      | true => exact ⟨SubH.rfl, fT x, rfl, ev_name rfl ⟨rfl, SubH.rfl⟩⟩
      | false => exact ⟨SubH.rfl, rfl⟩
    have hiP : ltO x.hi.u lo = false → Tall g fc 1 BoolOp.And [Expr.BoolOp BoolOp.Or
                [(Expr.Name (nm 69) { line := 528, col := 69, endLine := 528, endCol := 73 }).Compare [CmpOp.Is]
                    [Expr.Constant Const.none 0 { line := 528, col := 77, endLine := 528, endCol := 81 }]
                    { line := 528, col := 69, endLine := 528, endCol := 81 },
                  (((Expr.Name (nm 136) { line := 528, col := 85, endLine := 528, endCol := 86 }).Subscript
                            (Expr.Constant (Const.int 2) 0 { line := 528, col := 87, endLine := 528, endCol := 88 })
                            { line := 528, col := 85, endLine := 528, endCol := 89 }).Subscript
                        (Expr.Constant (Const.int 0) 0 { line := 528, col := 90, endLine := 528, endCol := 91 })
                        { line := 528, col := 85, endLine := 528, endCol := 92 }).Compare
                    [CmpOp.LtE] [Expr.Name (nm 69) { line := 528, col := 96, endLine := 528, endCol := 100 }]
                    { line := 528, col := 85, endLine := 528, endCol := 100 }]
                { line := 528, col := 69, endLine := 528, endCol := 100 }]
            ((136, some (fT x)) :: capV (V0 [58, 68, 69] [] [t, oT lo, oT hi]) [68, 69]) H (fun b H' => SubH H H' ∧ (if b = true then CBody g fc 1 [] (.Name (nm 136) { line := 528, col := 12, endLine := 528, endCol := 13 }) ((136, some (fT x)) :: capV (V0 [58, 68, 69] [] [t, oT lo, oT hi]) [68, 69]) H (if inR lo hi x = true then some (fT x) else none) else (if inR lo hi x = true then some (fT x) else none) = none)) := fun hlo => by
      cases hi with
      | none =>
        walk_at "w"
        refine ite_t ?_
        walk_at "w"
        exact fin true (by unfold inR; rw [hlo]; rfl)
      | some b =>
        walk_at "w"
        refine ite_f ?_
        walk_at "w"
        walk_at "k"
        walk_at "k"
        refine op_le_int ?_
        walk_at "w"
        refine ite_dec (fun c => ?_) fun c => ?_
        · walk_at "w"
          exact fin true (by unfold inR gtO; rw [hlo]; simpa using c)
        · walk_at "w"
          exact fin false (by unfold inR gtO; rw [hlo]; simpa using c)
    cases lo with
    | none =>
      walk_at "w"
      refine ite_t ?_
      refine ite_t ?_
      exact hiP rfl
    | some a =>
      walk_at "w"
      refine ite_f ?_
      walk_at "w"
      walk_at "k"
      walk_at "k"
      refine op_ge_int ?_
      walk_at "w"
      refine ite_dec (fun c => ?_) fun c => ?_
      · refine ite_t ?_
        exact hiP (by unfold ltO; simpa using c)
      · walk_at "w"
        exact fin false (by unfold inR ltO; simp; walk_at "la")
  rw [fm_if]
  exact ⟨_, SubH.rfl, h⟩
end
end

section
noncomputable def lvF (a : Addr) (L : List (List F)) : List T := .ref a :: L.tail.map fun l => .lst (l.map fT)
structure Lv (H : Cells) (ls a : Addr) (L : List (List F)) : Prop where
  l : H ls = some (.list (lvF a L))
  a : H a = some (.list ((L.headD []).map fT))
  ok : LsOk L
theorem Lv.get {H : Cells} {ls a : Addr} {L : List (List F)} (h : Lv H ls a L) {lev : Nat} (hl : lev < L.length) : ∃ t, (lvF a L)[lev]? = some t ∧ AsList H t ((L.getD lev []).map fT) := by
  cases L with
  | nil => simp at hl
  | cons x r =>
    cases lev with
    | zero => exact ⟨.ref a, rfl, .cell h.a⟩
    | succ k =>
      simp only [List.length_cons] at hl
      refine ⟨.lst ((r.getD k []).map fT), ?_, .tree⟩
      simp only [lvF, List.tail_cons, List.getElem?_cons_succ, List.getElem?_map]
      rw [lsome (L := r) (by walk_at "la")]; rfl
theorem lvF_len {a : Addr} {L : List (List F)} (h : L ≠ []) : (lvF a L).length = L.length := by
  cases L with
  | nil => exact absurd rfl h
  | cons x r => simp [lvF]
theorem LsOk.ne {L : List (List F)} (h : LsOk L) : L ≠ [] := by rintro rfl; have := h.l3; simp at this
theorem roundL_app {r : Option Nat × Option Nat} {a : F} : ∀ (l : List F), roundL r (l ++ [a]) = (minO a.lo.u (roundL r l).1, maxO a.hi.u (roundL r l).2) := fun l => by
  induction l generalizing r with
  | nil => rfl
  | cons x t ih => exact ih
theorem roundL_take {r : Option Nat × Option Nat} {l : List F} {i : Nat} {a : F} (h : l[i]? = some a) : roundL r (l.take (i + 1)) = (minO a.lo.u (roundL r (l.take i)).1, maxO a.hi.u (roundL r (l.take i)).2) := by
  rw [List.take_add_one, h]; exact roundL_app _
section
variable {g : Gl} (pf : PF g) {H : Cells} {Q : T → Cells → Prop}
include pf
theorem sp_joined {ls a : Addr} {L : List (List F)} {lev : Nat} {lo hi : Option Nat} (hL : Lv H ls a L) (hl : lev < L.length) (h : Q (.lst ((ovl lev (L.getD lev []) lo hi).map fT)) H) : FSpec g 4 675 [.ref ls, .int (lev : Int), oT lo, oT hi] H Q := by
  obtain ⟨t, h1, h2⟩ := hL.get hl
  have l4 := hL.ok.l4
  have fok := hL.ok.get lev
  have fl := fok.len
  generalize hxs : L.getD lev [] = xs at h h2 fok fl
  have e1 := lvF_len (a := a) hL.ok.ne
  refine fspec_of (m := 3) (ps := [130, 59, 68, 69]) (ls := [58, 136, 147]) (gs := [145, 134, 144]) (cs := []) (pf.fn 675 _ rfl) (by decide +kernel) rfl fun f hf hg hc => ?_
  conv => arg 4; whnf
  simp only [N_0, N_1, N_2, N_3, N_4, N_5, N_6, N_7, N_8, N_9, N_10, N_11, N_12, N_13, N_14, N_15, N_16, N_17, N_18, N_19, N_20, N_21, N_22, N_23, N_24, N_25, N_26, N_27, N_28, N_29, N_30, N_31, N_32, N_33, N_34, N_35, N_36, N_37, N_38, N_39, N_40, N_41, N_42, N_43, N_44, N_45, N_46, N_47, N_48, N_49, N_50, N_51, N_52, N_53, N_54, N_55, N_56, N_57, N_58, N_59, N_60, N_61, N_62, N_63, N_64, N_65, N_66, N_67, N_68, N_69, N_70, N_71, N_72, N_73, N_74, N_75, N_76, N_77, N_78, N_79, N_80, N_81, N_82, N_83, N_84, N_85, N_86, N_87, N_88, N_89, N_90, N_91, N_92, N_93, N_94, N_95, N_96, N_97, N_98, N_99, N_100, N_101, N_102, N_103, N_104, N_105, N_106, N_107, N_108, N_109, N_110, N_111, N_112, N_113, N_114, N_115, N_116, N_117, N_118, N_119, N_120, N_121, N_122, N_123, N_124, N_125, N_126, N_127, N_128, N_129, N_130, N_131, N_132, N_133, N_134, N_135, N_136, N_137, N_138, N_139, N_140, N_141, N_142, N_143, N_144, N_145, N_146, N_147, N_148, N_149, N_150, N_151, N_152, N_153, N_154, N_155, N_156, N_157, N_158, N_159, N_160, N_161, N_162, N_163, N_164, N_165, N_166, N_167, N_168, N_169, N_170, N_171, N_172, N_173, N_174, N_175, N_176, N_177, N_178, N_179, N_180, N_181, N_182, N_183, N_184, N_185, N_186, N_187, N_188, N_189, N_190, N_191, N_192, N_193, N_194, N_195, N_196, N_197]
  walk_at "w"
  refine op_sub_list (.cell hL.l) (by walk_at "la") (by walk_at "la") (u := t) (by rw [Int.toNat_natCast]; exact h1) ?_
  walk_at "wi"
  refine exs_mid (fun V' H' => H' = H ∧ E4 fun (lo' hi' : Option Nat) (o1 o2 : Option T) => V' = [(130, some (.ref ls)), (59, some (.int lev)), (68, some (oT lo')), (69, some (oT hi')), (58, some t), (136, o1), (147, o2)] ∧ touch xs lo' hi' = ovl lev xs lo hi) ?_ ?_
  · walk_at "w"
    refine ite_dec (fun h0 => ?_) fun h0 => ?_
    · have h0' : lev = 0 := by walk_at "la"
      walk_at "w"
      refine ex_forL (by assumption) rfl ?_
      walk_at "w"
      refine ⟨F, xs, fT, .list h2, fun i V' H' => H' = H ∧ E2 fun (o1 o2 : Option T) => V' = [(130, some (.ref ls)), (59, some (.int lev)), (68, some (oT (rounds xs (lo, hi) i).1)), (69, some (oT (rounds xs (lo, hi) i).2)), (58, some t), (136, o1), (147, o2)], ⟨rfl, _, _, rfl⟩, ?_, ?_⟩
      · rintro i b V' H1 hib ⟨rfl, o1, o2, rfl⟩
        refine ⟨.list h2, rfl, ?_⟩
        have er : rounds xs (lo, hi) (i + 1) = roundL (rounds xs (lo, hi) i) (touch xs (rounds xs (lo, hi) i).1 (rounds xs (lo, hi) i).2) := rfl
        generalize rounds xs (lo, hi) i = r at er ⊢
        walk_at "w"
        refine ex_forL (by assumption) rfl ?_
        walk_at "w"
        refine cl_fn (sp_touch pf h2 (by walk_at "la") ?_) (by walk_at "la")
        generalize touch xs r.1 r.2 = tch at er ⊢
        refine ⟨F, tch, fT, .list .tree, fun j V' H' => H' = H1 ∧ ∃ o2 : Option T, V' = [(130, some (.ref ls)), (59, some (.int lev)), (68, some (oT (roundL r (tch.take j)).1)), (69, some (oT (roundL r (tch.take j)).2)), (58, some t), (136, some (fT b)), (147, o2)], ⟨rfl, _, rfl⟩, ?_, ?_⟩
        · rintro j c V' H' hj ⟨rfl, o2, rfl⟩
          refine ⟨.list .tree, rfl, ?_⟩
          have et := roundL_take (r := r) hj
          generalize roundL r (tch.take j) = r' at et ⊢
          obtain ⟨p, q⟩ := r'
          refine exs_mid (fun V' H'' => H'' = H' ∧ V' = [(130, some (.ref ls)), (59, some (.int lev)), (68, some (oT (minO c.lo.u p))), (69, some (oT q)), (58, some t), (136, some (fT b)), (147, some (fT c))]) ?_ ?_
          · cases p with
            | none =>
              walk_at "w"
              refine ite_f ?_
              walk_at "w"
              exact ⟨rfl, rfl⟩
            | some p =>
              walk_at "w"
              refine ite_t ?_
              walk_at "w"
              walk_at "k"
              walk_at "k"
              refine cl_min2 ?_
              walk_at "w"
              refine ⟨rfl, ?_⟩
              have : (min (p : Int) (c.lo.u : Int)) = ((min p c.lo.u : Nat) : Int) := minc
              rw [this]; rfl
          · rintro V' H2 ⟨rfl, rfl⟩
            cases q with
            | none =>
              walk_at "w"
              refine ite_f ?_
              walk_at "w"
              exact ⟨rfl, some (fT c), by rw [et]; rfl⟩
            | some q =>
              walk_at "w"
              refine ite_t ?_
              walk_at "w"
              walk_at "k"
              walk_at "k"
              refine cl_max2 ?_
              walk_at "w"
              refine ⟨rfl, some (fT c), ?_⟩
              have : (max (q : Int) (c.hi.u : Int)) = ((max q c.hi.u : Nat) : Int) := maxc
              rw [this, et]; rfl
        · rintro V' H' ⟨rfl, o2, rfl⟩
          refine ⟨.list .tree, rfl, some (fT b), o2, ?_⟩
          rw [List.take_length, er]
      · rintro V' H' ⟨rfl, o1, o2, rfl⟩
        refine ⟨.list h2, rfl, _, _, _, _, rfl, ?_⟩
        unfold ovl
        rw [if_pos h0']
    · walk_at "w"
      refine ⟨rfl, _, _, _, _, rfl, ?_⟩
      unfold ovl
      rw [if_neg (by walk_at "la")]
  · rintro V' H' ⟨rfl, lo', hi', o1, o2, rfl, e⟩
    walk_at "w"
    refine cl_fn (sp_touch pf h2 (by walk_at "la") ?_) (by walk_at "la")
    rw [e]
    exact ⟨_, SubH.rfl, h⟩
end
end

section
theorem touch_sub {l : List F} {lo hi lo' hi'} (w : Wid lo hi lo' hi') : (touch l lo hi).Sublist (touch l lo' hi') := by
  have : touch l lo hi = (touch l lo' hi').filter (inR lo hi) := by
    unfold touch
    rw [List.filter_filter]
    refine List.filter_congr fun x _ => ?_
    cases e : inR lo hi x with
    | false => rfl
    | true => rw [inR_w w e]; rfl
  rw [this]
  exact List.filter_sublist
theorem sub_filter {l m : List F} {p : F → Bool} (h : m.Sublist l) (hp : ∀ x ∈ m, p x = true) : m.Sublist (l.filter p) := by
  have := h.filter p
  rwa [List.filter_eq_self.mpr hp] at this
theorem wid_of {a b c d : Nat} (h : c ≤ a) (h' : b ≤ d) : Wid (some a) (some b) (some c) (some d) := ⟨h, h'⟩
theorem loU_le {xs : List F} (hok : ∀ x ∈ xs, x.Ok) {x : F} (hx : x ∈ xs) : loU xs ≤ x.lo.u := rank_u (loK_ok hok) (hok x hx).lo (loK_min x hx)
theorem hiU_ge {xs : List F} (hok : ∀ x ∈ xs, x.Ok) {x : F} (hx : x ∈ xs) : x.hi.u ≤ hiU xs := rank_u (hok x hx).hi (hiK_ok hok) (hiK_max x hx)
theorem in_self {xs : List F} (hok : ∀ x ∈ xs, x.Ok) {x : F} (hx : x ∈ xs) : inR (some (loU xs)) (some (hiU xs)) x = true := by
  have h1 := loU_le hok hx
  have h2 := hiU_ge hok hx
  have h3 := (hok x hx).le
  unfold inR ltO gtO
  simp
  walk_at "la"
theorem wid_sub {xs ys : List F} (hx : ∀ x ∈ xs, x.Ok) (hy : ∀ x ∈ ys, x.Ok) (hne : xs ≠ []) (h : ∀ x ∈ xs, x ∈ ys) : Wid (some (loU xs)) (some (hiU xs)) (some (loU ys)) (some (hiU ys)) := by
  obtain ⟨a, ha, e⟩ := loK_mem hne
  obtain ⟨b, hb, e'⟩ := hiK_mem hne
  have h1 := loU_le hy (h a ha)
  have h2 := hiU_ge hy (h b hb)
  refine wid_of ?_ ?_
  · have : loU xs = a.lo.u := by unfold loU; rw [e]
    walk_at "la"
  · have : hiU xs = b.hi.u := by unfold hiU; rw [e']
    walk_at "la"
theorem touch_ovl {lev : Nat} {l : List F} {lo hi} : (touch l lo hi).Sublist (ovl lev l lo hi) := by
  unfold ovl
  split
  · exact touch_sub (rounds_least l.length).w
  · exact List.Sublist.refl _
theorem up_grown {L : List (List F)} {lev : Nat} {up lower : List F} (hs : up.Sublist (L.getD lev [])) (hok : ∀ x ∈ up ++ lower, x.Ok) : up.Sublist (ovlS L lev (up ++ lower)) :=
  (sub_filter hs fun x hx => in_self hok (List.mem_append_left _ hx)).trans touch_ovl
open Classical in
theorem pair_spec {L : List (List F)} {lev : Nat} {o : Opt} {up : List F} (hL : LsOk L) (hup : ∀ x ∈ up, x.Ok) (hne : up ≠ []) (hs : up.Sublist (L.getD lev [])) :
    pairI L lev o up = (if ovlS L (lev + 1) up = [] then up else if octets (ovlS L lev (up ++ ovlS L (lev + 1) up)) + octets (ovlS L (lev + 1) up) < o.expand * o.most ∧ ovlS L (lev + 1) (ovlS L lev (up ++ ovlS L (lev + 1) up)) = ovlS L (lev + 1) up then ovlS L lev (up ++ ovlS L (lev + 1) up) else up, ovlS L (lev + 1) up) := by
  have lok := ovlS_ok hL (lev + 1) up
  unfold pairI
  simp only
  generalize hlo : ovlS L (lev + 1) up = lower at *
  by_cases h0 : lower = []
  · rw [if_pos h0, if_pos h0]
  rw [if_neg h0, if_neg h0]
  have hall : ∀ x ∈ up ++ lower, x.Ok := fun x hx => by
    rcases List.mem_append.mp hx with h | h
    · exact hup x h
    · exact lok.ok x h
  have gok := ovlS_ok hL lev (up ++ lower)
  have hg := up_grown (lower := lower) hs hall
  generalize hgr : ovlS L lev (up ++ lower) = grown at *
  have ha : lower.Sublist (ovlS L (lev + 1) grown) := by
    rw [← hlo]
    unfold ovlS ovl
    rw [if_neg (by walk_at "la"), if_neg (by walk_at "la")]
    exact touch_sub (wid_sub hup gok.ok hne fun x hx => hg.subset hx)
  generalize ovlS L (lev + 1) grown = above at *
  by_cases hc : octets grown + octets lower < o.expand * o.most
  · by_cases hl : up.length < grown.length
    · rw [if_pos ⟨hl, by walk_at "la"⟩]
      by_cases hab : above.length = lower.length
      · have e := ha.eq_of_length hab.symm
        rw [if_pos hab, if_pos ⟨hc, e.symm⟩, e]
      · rw [if_neg hab, if_neg]
        rintro ⟨_, rfl⟩
        exact hab rfl
    · rw [if_neg (fun q => hl q.1)]
      have e := hg.eq_of_length (by have := hg.length_le; walk_at "la")
      subst e
      split <;> rfl
  · rw [if_neg (fun q => hc (by walk_at "la")), if_neg (fun q => hc q.1)]
end

section
theorem pair_tt {a b : Int} : (decide (a = a) && (decide (b = b) && true)) = true := by rw [decide_eq_true rfl, decide_eq_true rfl]; rfl
theorem and2_one {o : Option Bool} : and2 o (some true) = o := by
  cases o with
  | none => rfl
  | some x => exact congrArg some (Bool.and_true x)
theorem and2_dec {p q r : Prop} {_ : Decidable p} {_ : Decidable q} [Decidable r] (h : r ↔ p ∧ q) : and2 (some (decide p)) (some (decide q)) = some (decide r) :=
  congrArg some ((Bool.decide_and p q).symm.trans (decide_eq_decide.mpr h.symm))
open Classical in
theorem eqTs_map {α : Type} {f : T → T → Option Bool} {enc : α → T} (he : ∀ a b, f (enc a) (enc b) = some (decide (a = b))) {xs ys : List α} (h : xs.length = ys.length) : eqTs f (xs.map enc) (ys.map enc) = some (decide (xs = ys)) := by
  induction xs generalizing ys with
  | nil => cases ys with
    | nil => exact congrArg some (decide_eq_true rfl).symm
    | cons b bs => cases h
  | cons a as ih => cases ys with
    | nil => cases h
    | cons b bs =>
      show and2 (f (enc a) (enc b)) (eqTs f (as.map enc) (bs.map enc)) = _
      rw [he, ih (Nat.succ.inj h)]
      exact and2_dec List.cons_eq_cons
open Classical in
theorem eqL_map {α : Type} {d : Nat} {enc : α → T} (he : ∀ a b, eqT d (enc a) (enc b) = some (decide (a = b))) {xs ys : List α} : eqT (d + 1) (.lst (xs.map enc)) (.lst (ys.map enc)) = some (decide (xs = ys)) := by
  show (if (xs.map enc).length = (ys.map enc).length then eqTs (eqT d) (xs.map enc) (ys.map enc) else some false) = _
  rw [List.length_map, List.length_map]
  by_cases h : xs.length = ys.length
  · rw [if_pos h]; exact eqTs_map he h
  · rw [if_neg h]
    exact congrArg some (decide_eq_false fun e => h (congrArg List.length e)).symm
open Classical in
theorem eqK {d : Nat} (a b : Key) : eqT (d + 1) (keyT a) (keyT b) = some (decide (a = b)) := by
  obtain ⟨p, q⟩ := a
  obtain ⟨r, s⟩ := b
  show and2 (eqT d (.int p) (.int r)) (and2 (eqT d (.int (-(q : Int))) (.int (-(s : Int)))) (some true)) = _
  rw [and2_one, eqT_int, eqT_int]
  refine and2_dec ⟨fun h => ?_, fun h => ?_⟩
  · cases h; exact ⟨rfl, rfl⟩
  · cases Int.ofNat.inj h.1; cases Int.ofNat.inj (Int.neg_inj.mp h.2); rfl
open Classical in
theorem eqF {d : Nat} (a b : F) : eqT (d + 2) (fT a) (fT b) = some (decide (a = b)) := by
  obtain ⟨a1, a2, a3, a4⟩ := a
  obtain ⟨b1, b2, b3, b4⟩ := b
  show and2 (some (decide (a1 = b1))) (and2 (some (decide (a2 = b2))) (and2 (eqT (d + 1) (keyT a3) (keyT b3)) (and2 (eqT (d + 1) (keyT a4) (keyT b4)) (some true)))) = _
  rw [eqK, eqK, and2_one, and2_dec (r := a3 = b3 ∧ a4 = b4) Iff.rfl, and2_dec (r := a2 = b2 ∧ a3 = b3 ∧ a4 = b4) Iff.rfl]
  exact and2_dec (F.mk.injEq .. ▸ Iff.rfl)
open Classical in
theorem eqFs (a b : List F) : eqT 8 (.lst (a.map fT)) (.lst (b.map fT)) = some (decide (a = b)) := eqL_map (d := 7) fun a b => eqF (d := 5) a b
theorem eqR {d : Nat} (a : F) : eqT (d + 1) (rowT a) (rowT a) = some true := by
  show and2 (eqT d (.int a.n) (.int a.n)) (and2 (eqT d (.int a.s) (.int a.s)) (and2 (eqT d (.bytes (ikB a.lo)) (.bytes (ikB a.lo))) (and2 (eqT d (.bytes (ikB a.hi)) (.bytes (ikB a.hi))) (some true)))) = _
  rw [eqT_int, eqT_int, eqT_bytes, eqT_bytes, decide_eq_true rfl, decide_eq_true rfl, beq_self_eq_true, beq_self_eq_true]; rfl
theorem eqTs_refl {f : T → T → Option Bool} {ts : List T} (h : ∀ t ∈ ts, f t t = some true) : eqTs f ts ts = some true := by
  induction ts with
  | nil => rfl
  | cons t r ih =>
    show and2 (f t t) (eqTs f r r) = _
    rw [h t List.mem_cons_self, ih fun t ht => h t (List.mem_cons_of_mem _ ht)]; rfl
theorem eqL_refl {d : Nat} {ts : List T} (h : ∀ t ∈ ts, eqT d t t = some true) : eqT (d + 1) (.lst ts) (.lst ts) = some true := (if_pos rfl).trans (eqTs_refl h)
theorem eqRs (a : List F) : eqT 8 (.lst (a.map rowT)) (.lst (a.map rowT)) = some true := eqL_refl (d := 7) fun t ht => by
  obtain ⟨x, _, rfl⟩ := List.mem_map.mp ht
  exact eqR (d := 6) x
end

section
theorem ite_decI {p : Prop} {d : Decidable p} {X Y : Prop} (h1 : p → X) (h2 : ¬ p → Y) : if @decide p d = true then X else Y := ite_dec h1 h2
theorem ovlS_touch {L : List (List F)} {lev : Nat} {xs : List F} (h : lev ≠ 0) : ovlS L lev xs = touch (L.getD lev []) (some (loU xs)) (some (hiU xs)) := by
  unfold ovlS ovl; rw [if_neg h]
section
variable {g : Gl} (pf : PF g) {H : Cells} {Q : T → Cells → Prop}
include pf
set_option maxHeartbeats 4000000 in
theorem sp_whole {ls a : Addr} {L : List (List F)} {lev : Nat} {o : Opt} {up : List F} (ho : o.Ok) (hL : Lv H ls a L) (hl : lev + 2 ≤ L.length) (hup : FsOk up) (hne : up ≠ []) (hs : up.Sublist (L.getD lev []))
    (h : Q (.tup [.lst ((pairI L lev o up).1.map fT), .lst ((pairI L lev o up).2.map fT), .lst ((grandI L lev (pairI L lev o up)).map fT)]) H) : FSpec g 6 704 [.ref ls, .int (lev : Int), .lst (up.map fT), o.T] H Q := by
  have l4 := hL.ok.l4
  have upl := hup.len
  have e1 := lvF_len (a := a) hL.ok.ne
  have hps := pair_spec (o := o) hL.ok hup.ok hne hs
  have i1 : (lev : Int) + 1 = ((lev + 1 : Nat) : Int) := rfl
  have i2 : (lev : Int) + 2 = ((lev + 2 : Nat) : Int) := rfl
  obtain ⟨t1, g1, g2⟩ := hL.get (lev := lev + 1) (by walk_at "la")
  have f1 := hL.ok.get (lev + 1)
  have f1l := f1.len
  have eo1 := ho.e1
  have om1 := ho.m1
  refine fspec_of (m := 5) (ps := [130, 59, 162, 81]) (ls := [164, 165, 68, 69, 166, 105, 167]) (gs := [143, 145, 4, 146, 141]) (cs := []) (pf.fn 704 _ rfl) (by decide +kernel) rfl fun f hf hg hc => ?_
  conv => arg 4; whnf
  simp only [N_0, N_1, N_2, N_3, N_4, N_5, N_6, N_7, N_8, N_9, N_10, N_11, N_12, N_13, N_14, N_15, N_16, N_17, N_18, N_19, N_20, N_21, N_22, N_23, N_24, N_25, N_26, N_27, N_28, N_29, N_30, N_31, N_32, N_33, N_34, N_35, N_36, N_37, N_38, N_39, N_40, N_41, N_42, N_43, N_44, N_45, N_46, N_47, N_48, N_49, N_50, N_51, N_52, N_53, N_54, N_55, N_56, N_57, N_58, N_59, N_60, N_61, N_62, N_63, N_64, N_65, N_66, N_67, N_68, N_69, N_70, N_71, N_72, N_73, N_74, N_75, N_76, N_77, N_78, N_79, N_80, N_81, N_82, N_83, N_84, N_85, N_86, N_87, N_88, N_89, N_90, N_91, N_92, N_93, N_94, N_95, N_96, N_97, N_98, N_99, N_100, N_101, N_102, N_103, N_104, N_105, N_106, N_107, N_108, N_109, N_110, N_111, N_112, N_113, N_114, N_115, N_116, N_117, N_118, N_119, N_120, N_121, N_122, N_123, N_124, N_125, N_126, N_127, N_128, N_129, N_130, N_131, N_132, N_133, N_134, N_135, N_136, N_137, N_138, N_139, N_140, N_141, N_142, N_143, N_144, N_145, N_146, N_147, N_148, N_149, N_150, N_151, N_152, N_153, N_154, N_155, N_156, N_157, N_158, N_159, N_160, N_161, N_162, N_163, N_164, N_165, N_166, N_167, N_168, N_169, N_170, N_171, N_172, N_173, N_174, N_175, N_176, N_177, N_178, N_179, N_180, N_181, N_182, N_183, N_184, N_185, N_186, N_187, N_188, N_189, N_190, N_191, N_192, N_193, N_194, N_195, N_196, N_197]
  walk_at "w"
  refine ex_asg_tup (kps := [(68, _), (69, _)]) (by assumption) rfl rfl ?_
  walk_at "w"
  refine cl_fn (sp_span pf (xs := up) .tree hne (by walk_at "la") hup.ok ?_) (by walk_at "la")
  refine ⟨_, rfl, rfl, ?_⟩
  walk_at "w"
  rw [i1]
  refine op_sub_list (.cell hL.l) (by walk_at "la") (by walk_at "la") (u := t1) (by rw [Int.toNat_natCast]; exact g1) ?_
  walk_at "w"
  refine cl_fn (sp_touch pf (lo := some (loU up)) (hi := some (hiU up)) g2 (by walk_at "la") ?_) (by walk_at "la")
  rw [← ovlS_touch (by walk_at "la")]
  have lok := ovlS_ok hL.ok (lev + 1) up
  generalize hlow : ovlS L (lev + 1) up = lower at hps lok
  have lol := lok.len
  have ulok : ∀ x ∈ up ++ lower, x.Ok := hup.app lok
  walk_at "wi"
  refine exs_mid (fun V' H' => H' = H ∧ E4 fun (o1 o2 o3 o4 : Option T) => V' = [(130, some (.ref ls)), (59, some (.int lev)), (162, some (.lst ((pairI L lev o up).1.map fT))), (81, some o.T), (164, some (.lst (lower.map fT))), (165, o1), (68, some (.int (loU ((pairI L lev o up).1 ++ lower) : Nat))), (69, some (.int (hiU ((pairI L lev o up).1 ++ lower) : Nat))), (166, o2), (105, o3), (167, o4)]) ?_ ?_
  · walk_at "w"
    refine cl_len_list .tree (by simp; walk_at "la") ?_
    rw [List.length_map]
    walk_at "w"
    refine ite_dec (fun hpos => ?_) fun hpos => ?_
    · have hln : ¬ lower = [] := by rintro rfl; simp at hpos
      rw [if_neg hln] at hps
      walk_at "w"
      refine ex_asg_tup (kps := [(68, _), (69, _)]) (by assumption) rfl rfl ?_
      walk_at "w"
      refine op_add_lists (ts := up.map fT) (us := lower.map fT) .tree .tree (by simp; walk_at "la") ?_
      rw [← List.map_append]
      walk_at "w"
      refine cl_fn (sp_span pf (xs := up ++ lower) .tree (by simp [hne]) (by simp; walk_at "la") ulok ?_) (by walk_at "la")
      refine ⟨_, rfl, rfl, ?_⟩
      walk_at "w"
      refine cl_fn (sp_joined pf (lo := some (loU (up ++ lower))) (hi := some (hiU (up ++ lower))) hL (by walk_at "la") ?_) (by walk_at "la")
      rw [show ovl lev (L.getD lev []) (some (loU (up ++ lower))) (some (hiU (up ++ lower))) = ovlS L lev (up ++ lower) from rfl]
      have gok := ovlS_ok hL.ok lev (up ++ lower)
      have gne : ovlS L lev (up ++ lower) ≠ [] := fun e => by
        have := up_grown hs ulok
        rw [e] at this
        exact hne (List.sublist_nil.mp this)
      generalize hgr : ovlS L lev (up ++ lower) = grown at hps gok gne
      have gol := gok.len
      walk_at "w"
      refine cl_fn (sp_span pf (xs := grown) .tree gne (by walk_at "la") gok.ok ?_) (by walk_at "la")
      walk_at "w"
      refine cl_fn (sp_octets pf (xs := grown) .tree gok ?_) (by walk_at "la")
      walk_at "w"
      refine cl_fn (sp_octets pf (xs := lower) .tree lok ?_) (by walk_at "la")
      walk_at "w"
      walk_at "o"
      walk_at "o"
      refine op_mul_int (abs60 (by assumption)) ?_
      walk_at "w"
      refine ite_dec (fun hc1 => ?_) fun hc1 => ?_
      · walk_at "w"
        rw [i1]
        refine op_sub_list (.cell hL.l) (by walk_at "la") (by walk_at "la") (u := t1) (by rw [Int.toNat_natCast]; exact g1) ?_
        walk_at "w"
        refine cl_fn (sp_touch pf (lo := some (loU grown)) (hi := some (hiU grown)) g2 (by walk_at "la") ?_) (by walk_at "la")
        rw [← ovlS_touch (by walk_at "la")]
        walk_at "w"
        refine op_eq (.inl rfl) (.inl rfl) (eqFs _ _) ?_
        walk_at "w"
        refine ite_decI (fun hc2 => ?_) fun hc2 => ?_
        · rw [if_pos ⟨hc1, hc2⟩] at hps
          walk_at "w"
          refine ex_asg_tup (kps := [(68, _), (69, _)]) (by assumption) rfl rfl ?_
          walk_at "w"
          refine op_add_lists (ts := grown.map fT) (us := lower.map fT) .tree .tree (by simp; walk_at "la") ?_
          rw [← List.map_append]
          walk_at "w"
          refine cl_fn (sp_span pf (xs := grown ++ lower) .tree (by simp [gne]) (by simp; walk_at "la") (gok.app lok) ?_) (by walk_at "la")
          refine ⟨_, rfl, rfl, ?_⟩
          walk_at "w"
          rw [hps]
          exact ⟨rfl, _, _, _, _, rfl⟩
        · rw [if_neg (fun q => hc2 q.2)] at hps
          walk_at "w"
          rw [hps]
          exact ⟨rfl, _, _, _, _, rfl⟩
      · rw [if_neg (fun q => hc1 q.1)] at hps
        walk_at "w"
        rw [hps]
        exact ⟨rfl, _, _, _, _, rfl⟩
    · have hln : lower = [] := by
        cases lower with
        | nil => rfl
        | cons a b => simp at hpos
      rw [if_pos hln] at hps
      walk_at "w"
      rw [hps]
      subst hln
      rw [List.append_nil]
      exact ⟨rfl, _, _, _, _, rfl⟩
  · rintro V' H' ⟨rfl, o1, o2, o3, o4, rfl⟩
    walk_at "w"
    refine ev_list ?_
    walk_at "wi"
    have p2 : (pairI L lev o up).2 = lower := by rw [hps]
    refine exs_mid (fun V' H2 => H2 = H' ∧ E5 fun (o1 o2 o3 o4 o5 : Option T) => V' = [(130, some (.ref ls)), (59, some (.int lev)), (162, some (.lst ((pairI L lev o up).1.map fT))), (81, some o.T), (164, some (.lst (lower.map fT))), (165, some (.lst ((grandI L lev (pairI L lev o up)).map fT))), (68, o1), (69, o2), (166, o3), (105, o4), (167, o5)]) ?_ ?_
    · walk_at "w"
      refine cl_len_list (.cell hL.l) (by walk_at "la") ?_
      rw [e1]
      walk_at "w"
      refine ite_dec (fun hg => ?_) fun hg => ?_
      · walk_at "w"
        rw [i2]
        obtain ⟨t2, k1, k2⟩ := hL.get (lev := lev + 2) (by walk_at "la")
        have f2l := (hL.ok.get (lev + 2)).len
        refine op_sub_list (.cell hL.l) (by walk_at "la") (by walk_at "la") (u := t2) (by rw [Int.toNat_natCast]; exact k1) ?_
        walk_at "w"
        refine cl_fn (sp_touch pf (lo := some (loU ((pairI L lev o up).1 ++ lower))) (hi := some (hiU ((pairI L lev o up).1 ++ lower))) k2 (by walk_at "la") ?_) (by walk_at "la")
        rw [← ovlS_touch (by walk_at "la")]
        walk_at "w"
        have : grandI L lev (pairI L lev o up) = ovlS L (lev + 2) ((pairI L lev o up).1 ++ lower) := by unfold grandI; rw [if_pos (by walk_at "la"), p2]
        rw [this]
        exact ⟨rfl, _, _, _, _, _, rfl⟩
      · walk_at "w"
        have : grandI L lev (pairI L lev o up) = [] := by unfold grandI; rw [if_neg (by walk_at "la")]
        rw [this]
        exact ⟨rfl, _, _, _, _, _, rfl⟩
    · rintro V' H2 ⟨rfl, o1, o2, o3, o4, o5, rfl⟩
      walk_at "w"
      rw [p2] at h
      exact ⟨_, SubH.rfl, h⟩
end
end

section
theorem fz_comp {H1 H2 : Cells} {x dx i e de p : Addr} {lev v : T} {o : Opt} {man : Bool} {ins0 ins1 gr : T} {ps : List T} (hc : CompAt H1 x dx i e de p lev v o man ins0 ins1 gr ps) (hs : SubH H2 H1) (nx : H2 x = none) (ni : H2 i = none) (ne : H2 e = none) (np : H2 p = none) :
    Fz H1 (.ref x) H2 (.inst 536 (compFs lev v o.T (.lst [ins0, ins1]) gr (.inst 375 (editFs (.lst ps))) man o.levels)) := by
  have n1 := hc.ix
  have n2 := hc.ex
  have n3 := hc.px
  have n4 := hc.ie
  have n5 := hc.ip
  have n6 := hc.ep
  refine .trans (.fld (b := e) (a := p) (k := 53) hc.he rfl hc.hp (Ne.symm n6) .here) ?_
  refine .trans (.fld (b := x) (a := e) (k := 85) (by rw [updH_ne (Ne.symm n2), delH_ne (Ne.symm n3)]; exact hc.hx) rfl updH_self n2 .here) ?_
  refine .trans (.fld (b := x) (a := i) (k := 83) updH_self rfl (by rw [updH_ne n1, delH_ne n4, updH_ne n4, delH_ne n5]; exact hc.hi) n1 .here) ?_
  refine .trans (.top updH_self .here) (.drop fun a c ea => ?_)
  have ax : a ≠ x := by rintro rfl; rw [nx] at ea; cases ea
  have ai : a ≠ i := by rintro rfl; rw [ni] at ea; cases ea
  have ae : a ≠ e := by rintro rfl; rw [ne] at ea; cases ea
  have ap : a ≠ p := by rintro rfl; rw [np] at ea; cases ea
  rw [delH_ne ax, updH_ne ax, delH_ne ai, updH_ne ax, delH_ne ae, updH_ne ae, delH_ne ap]
  exact hs a c ea

@[reducible] noncomputable def kNxt (J : Vs → Cells → Prop) : SQ := fun fl V' H' => fl = .next ∧ J V' H'
theorem ex_nx {g : Gl} {f : Fm} {n : Nat} {V : Vs} {H : Cells} {st} {Q : SQ} (J : Vs → Cells → Prop) (h1 : let R : SQ := kNxt J; Ex g f n st V H R) (h2 : ∀ V' H', J V' H' → Q .next V' H') : Ex g f n st V H Q :=
  Ex.mono h1 fun fl V' H' ⟨e, h⟩ => by subst e; exact h2 _ _ h
inductive kAt (V1 : Vs) (H1 : Cells) (fl : Fl) (V' : Vs) (H' : Cells) : Prop
  | mk (e : fl = .next) (hH : H' = H1) (hV : V' = V1)
theorem exs_at {g : Gl} {f : Fm} {n : Nat} {V : Vs} {H : Cells} {st rest} {Q : SQ} (V1 : Vs) (h1 : let R : SQ := kAt V1 H; Ex g f n st V H R) (h2 : Exs g f n rest (V1) H Q) : Exs g f n (st :: rest) V H Q :=
  exs_cons (Ex.mono h1 fun fl V' H' h => by obtain ⟨e, hH, hV⟩ := h; subst e hH hV; exact h2)
inductive kAtA (V1 : Vs) (fl : Fl) (V' : Vs) (H' : Cells) : Prop
  | mk (e : fl = .next) (hV : V' = V1)
theorem exs_atA {g : Gl} {f : Fm} {n : Nat} {V : Vs} {H : Cells} {st rest} {Q : SQ} (V1 : Vs) (h1 : let R : SQ := kAtA V1; Ex g f n st V H R) (h2 : ∀ H', Exs g f n rest V1 H' Q) : Exs g f n (st :: rest) V H Q :=
  exs_cons (Ex.mono h1 fun fl V' H' h => by obtain ⟨e, hV⟩ := h; subst e hV; exact h2 _)
inductive kAtH (V1 : Vs) (J : Cells → Prop) (fl : Fl) (V' : Vs) (H' : Cells) : Prop
  | mk (e : fl = .next) (hV : V' = V1) (p : J H')
theorem exs_atH {g : Gl} {f : Fm} {n : Nat} {V : Vs} {H : Cells} {st rest} {Q : SQ} (V1 : Vs) (J : Cells → Prop) (h1 : let R : SQ := kAtH V1 J; Ex g f n st V H R) (h2 : ∀ H', J H' → Exs g f n rest (V1) H' Q) : Exs g f n (st :: rest) V H Q :=
  exs_cons (Ex.mono h1 fun fl V' H' h => by obtain ⟨e, hV, p⟩ := h; subst e hV; exact h2 _ p)
inductive kAtE1 {α : Type} (V1 : α → Vs) (H1 : Cells) (fl : Fl) (V' : Vs) (H' : Cells) : Prop
  | mk (e : fl = .next) (hH : H' = H1) (a : α) (hV : V' = V1 a)
theorem exs_atE1 {g : Gl} {f : Fm} {n : Nat} {V : Vs} {H : Cells} {st rest} {Q : SQ} {α : Type} (V1 : α → Vs) (h1 : let R : SQ := kAtE1 V1 H; Ex g f n st V H R) (h2 : ∀ a, Exs g f n rest (V1 a) H Q) : Exs g f n (st :: rest) V H Q :=
  exs_cons (Ex.mono h1 fun fl V' H' h => by obtain ⟨e, hH, a, hV⟩ := h; subst e hH hV; exact h2 a)
inductive kAtP1 {α : Type} (V1 : α → Vs) (P : α → Prop) (H1 : Cells) (fl : Fl) (V' : Vs) (H' : Cells) : Prop
  | mk (e : fl = .next) (hH : H' = H1) (a : α) (hV : V' = V1 a) (p : P a)
theorem exs_atP1 {g : Gl} {f : Fm} {n : Nat} {V : Vs} {H : Cells} {st rest} {Q : SQ} {α : Type} (V1 : α → Vs) (P : α → Prop) (h1 : let R : SQ := kAtP1 V1 P H; Ex g f n st V H R) (h2 : ∀ a, P a → Exs g f n rest (V1 a) H Q) : Exs g f n (st :: rest) V H Q :=
  exs_cons (Ex.mono h1 fun fl V' H' h => by obtain ⟨e, hH, a, hV, p⟩ := h; subst e hH hV; exact h2 a p)
inductive kAtH1 {α : Type} (V1 : α → Vs) (J : α → Cells → Prop) (fl : Fl) (V' : Vs) (H' : Cells) : Prop
  | mk (e : fl = .next) (a : α) (hV : V' = V1 a) (p : J a H')
theorem exs_atH1 {g : Gl} {f : Fm} {n : Nat} {V : Vs} {H : Cells} {st rest} {Q : SQ} {α : Type} (V1 : α → Vs) (J : α → Cells → Prop) (h1 : let R : SQ := kAtH1 V1 J; Ex g f n st V H R) (h2 : ∀ a H', J a H' → Exs g f n rest (V1 a) H' Q) : Exs g f n (st :: rest) V H Q :=
  exs_cons (Ex.mono h1 fun fl V' H' h => by obtain ⟨e, a, hV, p⟩ := h; subst e hV; exact h2 a _ p)
inductive kAtH2 {α β : Type} (V1 : α → β → Vs) (J : α → β → Cells → Prop) (fl : Fl) (V' : Vs) (H' : Cells) : Prop
  | mk (e : fl = .next) (a : α) (b : β) (hV : V' = V1 a b) (p : J a b H')
theorem exs_atH2 {g : Gl} {f : Fm} {n : Nat} {V : Vs} {H : Cells} {st rest} {Q : SQ} {α β : Type} (V1 : α → β → Vs) (J : α → β → Cells → Prop) (h1 : let R : SQ := kAtH2 V1 J; Ex g f n st V H R) (h2 : ∀ a b H', J a b H' → Exs g f n rest (V1 a b) H' Q) : Exs g f n (st :: rest) V H Q :=
  exs_cons (Ex.mono h1 fun fl V' H' h => by obtain ⟨e, a, b, hV, p⟩ := h; subst e hV; exact h2 a b _ p)
inductive kAtP3 {α β γ : Type} (V1 : α → β → γ → Vs) (P : α → β → γ → Prop) (H1 : Cells) (fl : Fl) (V' : Vs) (H' : Cells) : Prop
  | mk (e : fl = .next) (hH : H' = H1) (a : α) (b : β) (c : γ) (hV : V' = V1 a b c) (p : P a b c)
theorem exs_atP3 {g : Gl} {f : Fm} {n : Nat} {V : Vs} {H : Cells} {st rest} {Q : SQ} {α β γ : Type} (V1 : α → β → γ → Vs) (P : α → β → γ → Prop) (h1 : let R : SQ := kAtP3 V1 P H; Ex g f n st V H R) (h2 : ∀ a b c, P a b c → Exs g f n rest (V1 a b c) H Q) : Exs g f n (st :: rest) V H Q :=
  exs_cons (Ex.mono h1 fun fl V' H' h => by obtain ⟨e, hH, a, b, c, hV, p⟩ := h; subst e hH hV; exact h2 a b c p)
inductive kAtH3 {α β γ : Type} (V1 : α → β → γ → Vs) (J : α → β → γ → Cells → Prop) (fl : Fl) (V' : Vs) (H' : Cells) : Prop
  | mk (e : fl = .next) (a : α) (b : β) (c : γ) (hV : V' = V1 a b c) (p : J a b c H')
theorem exs_atH3 {g : Gl} {f : Fm} {n : Nat} {V : Vs} {H : Cells} {st rest} {Q : SQ} {α β γ : Type} (V1 : α → β → γ → Vs) (J : α → β → γ → Cells → Prop) (h1 : let R : SQ := kAtH3 V1 J; Ex g f n st V H R) (h2 : ∀ a b c H', J a b c H' → Exs g f n rest (V1 a b c) H' Q) : Exs g f n (st :: rest) V H Q :=
  exs_cons (Ex.mono h1 fun fl V' H' h => by obtain ⟨e, a, b, c, hV, p⟩ := h; subst e hV; exact h2 a b c _ p)
/-- where a level's walk round stands -/
noncomputable def pB : Option Key → T
  | none => .bytes []
  | some κ => .bytes (ikB κ)
noncomputable def behind (p : Option Key) (x : F) : Bool := match p with | none => true | some κ => decide (κ.rank < x.hi.rank)
noncomputable def F0 : F := ⟨0, 0, ⟨0, 0⟩, ⟨0, 0⟩⟩
noncomputable def firstP (p : Option Key) (xs : List F) : F := ((xs.filter (behind p)) ++ xs).headD F0
structure PtOk (P : List (Option Key)) : Prop where
  ok : ∀ p ∈ P, ∀ κ, p = some κ → κ.Ok
noncomputable def upP (L : List (List F)) (lev : Nat) (P : List (Option Key)) : List F :=
  let first := firstP (P.getD lev none) (L.getD lev [])
  if lev = 0 then ovlS L 0 [first] else [first]
section
variable {g : Gl} (pf : PF g) {H : Cells} {Q : T → Cells → Prop}
include pf
set_option maxHeartbeats 4000000 in
theorem sp_pick {v dv q : Addr} {lev : Nat} {o : Opt} {cnt a b : Int} {L : List (List F)} {P : List (Option Key)} (ho : o.Ok) (hL : LsOk L) (hcnt : o.levels = L.length) (hlev : lev + 2 ≤ L.length)
    (hv : H v = some (verC dv cnt L (.tup [.int a, .int b]) lev)) (hq : H q = some (.list (P.map pB))) (hP : PtOk P) (hPl : P.length = L.length) (hne : b ≤ a → L.getD lev [] ≠ [])
    (h0 : ¬ b ≤ a → Q .none H)
    (h : b ≤ a → Q (compT (.int lev) (.ref v) o false (pairI L lev o (upP L lev P)).1 (pairI L lev o (upP L lev P)).2 (grandI L lev (pairI L lev o (upP L lev P))) [.tup [.int lev, .bytes (ikB (hiK (pairI L lev o (upP L lev P)).1))]])
      (updH H q (.list ((P.map pB).set lev (.bytes (ikB (hiK (pairI L lev o (upP L lev P)).1))))))) : FSpec g 14 589 [pickT o, .ref v, .ref q] H Q := by
  have l4 := hL.l4
  refine fspec_of (m := 13) (ps := [12, 80, 106]) (ls := [59, 19, 58, 108, 73, 72, 105]) (gs := [109]) (cs := []) (pf.fn 589 _ rfl) (by decide +kernel) rfl fun f hf hg hc => ?_
  refine Exs.fzr ?_
  conv => arg 4; whnf
  simp only [N_0, N_1, N_2, N_3, N_4, N_5, N_6, N_7, N_8, N_9, N_10, N_11, N_12, N_13, N_14, N_15, N_16, N_17, N_18, N_19, N_20, N_21, N_22, N_23, N_24, N_25, N_26, N_27, N_28, N_29, N_30, N_31, N_32, N_33, N_34, N_35, N_36, N_37, N_38, N_39, N_40, N_41, N_42, N_43, N_44, N_45, N_46, N_47, N_48, N_49, N_50, N_51, N_52, N_53, N_54, N_55, N_56, N_57, N_58, N_59, N_60, N_61, N_62, N_63, N_64, N_65, N_66, N_67, N_68, N_69, N_70, N_71, N_72, N_73, N_74, N_75, N_76, N_77, N_78, N_79, N_80, N_81, N_82, N_83, N_84, N_85, N_86, N_87, N_88, N_89, N_90, N_91, N_92, N_93, N_94, N_95, N_96, N_97, N_98, N_99, N_100, N_101, N_102, N_103, N_104, N_105, N_106, N_107, N_108, N_109, N_110, N_111, N_112, N_113, N_114, N_115, N_116, N_117, N_118, N_119, N_120, N_121, N_122, N_123, N_124, N_125, N_126, N_127, N_128, N_129, N_130, N_131, N_132, N_133, N_134, N_135, N_136, N_137, N_138, N_139, N_140, N_141, N_142, N_143, N_144, N_145, N_146, N_147, N_148, N_149, N_150, N_151, N_152, N_153, N_154, N_155, N_156, N_157, N_158, N_159, N_160, N_161, N_162, N_163, N_164, N_165, N_166, N_167, N_168, N_169, N_170, N_171, N_172, N_173, N_174, N_175, N_176, N_177, N_178, N_179, N_180, N_181, N_182, N_183, N_184, N_185, N_186, N_187, N_188, N_189, N_190, N_191, N_192, N_193, N_194, N_195, N_196, N_197]
  walk_at "w"
  refine (sp_needs pf hv ?_).le (by walk_at "la")
  walk_at "w"
  refine ite_ndec (fun hc1 => ?_) fun hc1 => ?_
  · walk_at "w"
    exact ⟨_, _, .same, _, SubH.rfl, h0 hc1⟩
  walk_at "w"
  have hne' := hne hc1
  have h' := h hc1
  have fok := hL.get lev
  have fl := fok.len
  generalize hxs : L.getD lev [] = xs at hne' fok fl
  obtain ⟨x0, xr, hx0⟩ : ∃ x0 r, xs = x0 :: r := by cases xs with | nil => exact absurd rfl hne' | cons a b => exact ⟨a, b, rfl⟩
  have hLx : L[lev]? = some xs := by rw [lsome (by walk_at "la"), hxs]
  obtain ⟨pp, hpp⟩ : ∃ pp, P[lev]? = some pp := ⟨_, List.getElem?_eq_getElem (by walk_at "la")⟩
  refine cl_comp pf ho (by walk_at "la") fun x dx i e de p H1 nx hcm ni ne np hs1 => ?_
  have hv1 := hs1 _ _ hv
  have hq1 := hs1 _ _ hq
  walk_at "w"
  refine op_sub_list .tree (by walk_at "la") (by simp; walk_at "la") (u := lvT xs) (by simp [hLx]) ?_
  walk_at "w"
  refine op_sub_list (.cell hq1) (by walk_at "la") (by simp; walk_at "la") (u := pB pp) (by simp [hpp]) ?_
  walk_at "w"
  refine op_sub_list .tree (by walk_at "la") (by simp; walk_at "la") (u := mT x0) (by simp [hx0]) ?_
  walk_at "wi"
  refine ex_nx (fun V' H' => H' = H1 ∧ ∃ o1, V' = [(12, some (pickT o)), (80, some (.ref v)), (106, some (.ref q)), (59, some (.int lev)), (19, some (.ref x)), (58, some (lvT xs)), (108, some (pB pp)), (73, some (mT (firstP pp xs))), (72, o1), (105, none)]) ?_ ?_
  · refine ex_forL (by assumption) rfl ?_
    walk_at "w"
    refine ⟨F, xs, mT, .list .tree, fun i V' H' => H' = H1 ∧ (xs.take i).filter (behind pp) = [] ∧ ∃ o1, V' = [(12, some (pickT o)), (80, some (.ref v)), (106, some (.ref q)), (59, some (.int lev)), (19, some (.ref x)), (58, some (lvT xs)), (108, some (pB pp)), (73, some (mT x0)), (72, o1), (105, none)], ⟨rfl, rfl, none, rfl⟩, ?_, ?_⟩
    · rintro j c V' H' hj ⟨rfl, hno, o1, rfl⟩
      refine ⟨.list .tree, rfl, ?_⟩
      have yes : behind pp c = true → firstP pp xs = c := fun hb => by
        have : xs.filter (behind pp) = c :: (xs.drop (j + 1)).filter (behind pp) := by
          have e : xs = xs.take j ++ c :: xs.drop (j + 1) := by
            obtain ⟨hlt, hget⟩ := List.getElem?_eq_some_iff.mp hj
            rw [← hget, ← List.drop_eq_getElem_cons hlt, List.take_append_drop]
          conv => lhs; rw [e]
          rw [List.filter_append, hno, List.filter_cons, if_pos hb]; rfl
        unfold firstP; rw [this]; rfl
      have no : behind pp c = false → (xs.take (j + 1)).filter (behind pp) = [] := fun hb => by
        rw [List.take_add_one, hj, List.filter_append, hno]
        simp [hb]
      walk_at "w"
      cases pp with
      | none =>
        refine op_eq (.inl rfl) (.inl rfl) (r := true) rfl ?_
        walk_at "w"
        exact ⟨rfl, rfl, some (mT c), by rw [yes rfl]; rfl⟩
      | some κ =>
        have κok := hP.ok _ (List.mem_of_getElem? hpp) κ rfl
        have cok := fok.ok c (List.mem_of_getElem? hj)
        refine op_eq (.inl rfl) (.inl rfl) (r := false) (congrArg some (by simp [ikB, tagB])) ?_
        walk_at "w"
        refine (sp_icompare pf cok.hi κok ?_).le (by walk_at "la")
        walk_at "w"
        refine ite_dec (fun hcm => ?_) fun hcm => ?_
        · have hb : behind (some κ) c = true := by
            unfold cmpI at hcm
            unfold behind
            simp only [decide_eq_true_eq]
            split at hcm
            · walk_at "la"
            · split at hcm <;> walk_at "la"
          walk_at "w"
          exact ⟨rfl, rfl, some (mT c), by rw [yes hb]; rfl⟩
        · have hb : behind (some κ) c = false := by
            unfold cmpI at hcm
            unfold behind
            simp only [decide_eq_false_iff_not]
            split at hcm
            · walk_at "la"
            · split at hcm <;> walk_at "la"
          walk_at "w"
          exact ⟨rfl, no hb, some (mT c), rfl⟩
    · rintro V' H' ⟨rfl, hno, o1, rfl⟩
      refine ⟨.list .tree, rfl, rfl, o1, ?_⟩
      rw [List.take_length] at hno
      have : firstP pp xs = x0 := by unfold firstP; rw [hno, hx0]; rfl
      rw [this]
  · rintro V' H' ⟨rfl, o1, rfl⟩
    have hx1 := hcm.hx
    have hi1 := hcm.hi
    have he1 := hcm.he
    have hp1 := hcm.hp
    have n1 := hcm.ix
    have n2 := hcm.ex
    have n3 := hcm.px
    have n4 := hcm.ie
    have n5 := hcm.ip
    have n6 := hcm.ep
    have hvi : v ≠ i := by rintro rfl; rw [ni] at hv; cases hv
    have hqi : q ≠ i := by rintro rfl; rw [ni] at hq; cases hq
    have hqp : q ≠ p := by rintro rfl; rw [np] at hq; cases hq
    have hqx : q ≠ x := by rintro rfl; rw [nx] at hq; cases hq
    have hqe : q ≠ e := by rintro rfl; rw [ne] at hq; cases hq
    have hqv : v ≠ q := by rintro rfl; rw [hv] at hq; cases hq
    have fmem : firstP pp xs ∈ xs := by
      unfold firstP
      cases e : xs.filter (behind pp) with
      | nil => rw [hx0]; simp
      | cons y r =>
        have : y ∈ xs.filter (behind pp) := by rw [e]; simp
        exact (List.mem_filter.mp this).1
    have ffok : FsOk [firstP pp xs] := ⟨fun y hy => by
      simp only [List.mem_singleton] at hy; subst hy; exact fok.ok _ fmem, by simp⟩
    have eP : P.getD lev none = pp := by rw [List.getD_eq_getElem?_getD, hpp]; rfl
    have eup : upP L lev P = if lev = 0 then ovlS L 0 [firstP pp xs] else [firstP pp xs] := by unfold upP; rw [hxs, eP]
    walk_at "w"
    refine ev_list ?_
    walk_at "wi"
    refine exs_mid (fun V' H2 => ∃ o1 o2, V' = [(12, some (pickT o)), (80, some (.ref v)), (106, some (.ref q)), (59, some (.int lev)), (19, some (.ref x)), (58, some (lvT xs)), (108, some (pB pp)), (73, some (mT (firstP pp xs))), (72, o1), (105, o2)] ∧ H2 = updH H' i (.list [lvT (upP L lev P), .lst []])) ?_ ?_
    · walk_at "w"
      refine ite_dec (fun hl0 => ?_) fun hl0 => ?_
      · have hl0' : lev = 0 := by walk_at "la"
        rw [if_pos hl0'] at eup
        walk_at "w"
        refine (sp_user_range pf (xs := [firstP pp xs]) .tree (by simp) (by simp) ffok.ok ?_).le (by walk_at "la")
        walk_at "w"
        refine (sp_ovlS pf (lev := 0) (xs := [firstP pp xs]) (by walk_at "H") hL (by walk_at "la") ffok.ok ?_).le (by walk_at "la")
        walk_at "w"
        simp only [updH_updH]
        rw [eup]
        exact ⟨_, _, rfl, rfl⟩
      · rw [if_neg (by walk_at "la")] at eup
        walk_at "w"
        rw [eup]
        exact ⟨_, _, rfl, rfl⟩
    · rintro V' H2 ⟨o1, o2, rfl, rfl⟩
      have upok : FsOk (upP L lev P) := by
        rw [eup]
        split
        · exact ovlS_ok hL _ _
        · exact ffok
      have upne : upP L lev P ≠ [] := by
        rw [eup]
        split
        · rename_i hl0
          subst hl0
          have : [firstP pp xs].Sublist (ovlS L 0 ([firstP pp xs] ++ [])) := up_grown (lower := []) (by rw [hxs]; simpa using fmem) (by simpa using ffok.ok)
          rintro e
          rw [List.append_nil, e] at this
          simp at this
        · simp
      walk_at "w"
      refine (sp_other pf (man := false) (up := upP L lev P) (ptrs := P.map pB) ho hL hcnt hlev (v := v) (by walk_at "H") (x := x) (dx := dx) (i := i) (e := e) (de := de) (p := p) ⟨?_, ?_, ?_, ?_, n1, n2, n3, n4, n5, n6⟩ (by walk_at "H") (by simp; walk_at "la") (by simp; walk_at "la") hqi hqp upok upne ?_).le (by walk_at "la")
      · walk_at "H"
      · walk_at "H"
      · walk_at "H"
      · walk_at "H"
      intro H3 hc3 hq3 hoth
      walk_at "w"
      refine ⟨_, updH H q (.list ((P.map pB).set lev (.bytes (ikB (hiK (pairI L lev o (upP L lev P)).1))))), .ret (fz_comp hc3 ?_ ?_ ?_ ?_ ?_), _, SubH.rfl, h'⟩
      · intro z c ez
        by_cases zq : z = q
        · subst zq; rw [updH_self] at ez; rw [hq3]; exact ez
        · rw [updH_ne zq] at ez
          have zx : z ≠ x := by rintro rfl; rw [nx] at ez; cases ez
          have zi : z ≠ i := by rintro rfl; rw [ni] at ez; cases ez
          have zp : z ≠ p := by rintro rfl; rw [np] at ez; cases ez
          refine hoth z c zx zi zp zq ?_
          rw [updH_ne zi]; exact hs1 z c ez
      · rw [updH_ne (Ne.symm hqx)]; exact nx
      · rw [updH_ne (Ne.symm hqi)]; exact ni
      · rw [updH_ne (Ne.symm hqe)]; exact ne
      · rw [updH_ne (Ne.symm hqp)]; exact np
end
end

section
noncomputable def cutS (most : Int) (xs : List F) : List F := (List.range xs.length).filterMap fun i => if octets (xs.take i) < most then xs[i]? else none
theorem oct_mono {xs : List F} (h : ∀ x ∈ xs, x.Ok) {j i : Nat} (hji : j ≤ i) : octets (xs.take j) ≤ octets (xs.take i) := by
  induction i with
  | zero => have : j = 0 := by walk_at "la"
            subst this; exact Int.le_refl _
  | succ k ih =>
    by_cases q : j = k + 1
    · subst q; exact Int.le_refl _
    have h1 := ih (by walk_at "la")
    cases e : xs[k]? with
    | none =>
      rw [List.getElem?_eq_none_iff] at e
      rw [List.take_of_length_le (i := k + 1) (by walk_at "la")]
      rw [List.take_of_length_le (i := k) (by walk_at "la")] at h1
      exact h1
    | some a =>
      rw [octets_take e]
      have := (h a (List.mem_of_getElem? e)).s0
      walk_at "la"
theorem cutS_eq {most : Int} {xs : List F} (h : ∀ x ∈ xs, x.Ok) {j : Nat} (hj : j ≤ xs.length) (h1 : ∀ i, i < j → octets (xs.take i) < most) (h2 : j < xs.length → most ≤ octets (xs.take j)) : cutS most xs = xs.take j := by
  have key : ∀ n, n ≤ xs.length → ((List.range n).filterMap fun i => if octets (xs.take i) < most then xs[i]? else none) = xs.take (min n j) := by
    intro n hn
    induction n with
    | zero => simp
    | succ k ih =>
      rw [List.range_succ, List.filterMap_append, ih (by walk_at "la")]
      by_cases hk : k < j
      · rw [Nat.min_eq_left (by walk_at "la"), Nat.min_eq_left (by walk_at "la"), List.take_add_one]
        have e : xs[k]? = some (xs[k]'(by walk_at "la")) := List.getElem?_eq_getElem (by walk_at "la")
        simp [h1 k hk, e]
      · rw [Nat.min_eq_right (by walk_at "la"), Nat.min_eq_right (by walk_at "la")]
        have : ¬ octets (xs.take k) < most := by
          have := oct_mono h (j := j) (i := k) (by walk_at "la")
          have := h2 (by walk_at "la")
          walk_at "la"
        simp [this]
  have := key xs.length (Nat.le_refl _)
  rw [Nat.min_eq_right hj] at this
  exact this
theorem cutS_ok {most : Int} {xs : List F} (h : FsOk xs) : FsOk (cutS most xs) := by
  have key : ∀ x ∈ cutS most xs, x ∈ xs := fun x hx => by
    obtain ⟨i, _, hi⟩ := List.mem_filterMap.mp hx
    split at hi
    · exact List.mem_of_getElem? hi
    · cases hi
  refine ⟨fun x hx => h.ok x (key x hx), ?_⟩
  have : (cutS most xs).length ≤ (List.range xs.length).length := List.length_filterMap_le _ _
  have := h.len
  simp at *
  walk_at "la"
theorem cutS_ne {most : Int} {xs : List F} (h : ∀ x ∈ xs, x.Ok) (hne : xs ≠ []) (hm : 1 ≤ most) : cutS most xs ≠ [] := by
  obtain ⟨x, r, rfl⟩ : ∃ x r, xs = x :: r := by cases xs with | nil => exact absurd rfl hne | cons a b => exact ⟨a, b, rfl⟩
  have : x ∈ cutS most (x :: r) := List.mem_filterMap.mpr ⟨0, by simp, by
    rw [if_pos (by simp [octets]; walk_at "la")]; rfl⟩
  rintro e
  rw [e] at this
  simp at this

noncomputable def upM (L : List (List F)) (lev : Nat) (o : Opt) (lo hi : Option Nat) : List F :=
  let found := ovl lev (L.getD lev []) lo hi
  if lev = 0 then found else cutS o.most found
section
variable {g : Gl} (pf : PF g) {H : Cells} {Q : T → Cells → Prop}
include pf
set_option maxHeartbeats 4000000 in
theorem sp_pick_range {v dv q : Addr} {lev : Nat} {o : Opt} {cnt sl : Int} {sc : T} {lo hi : Option Nat} {L : List (List F)} {P : List (Option Key)} (ho : o.Ok) (hL : LsOk L) (hcnt : o.levels = L.length) (hlev : lev + 2 ≤ L.length)
    (hv : H v = some (verC dv cnt L sc sl)) (hq : H q = some (.list (P.map pB))) (hPl : P.length = L.length) (hlo : UOk lo) (hhi : UOk hi)
    (h0 : upM L lev o lo hi = [] → Q .none H)
    (h : upM L lev o lo hi ≠ [] → Q (compT (.int lev) (.ref v) o true (pairI L lev o (upM L lev o lo hi)).1 (pairI L lev o (upM L lev o lo hi)).2 (grandI L lev (pairI L lev o (upM L lev o lo hi))) [.tup [.int lev, .bytes (ikB (hiK (pairI L lev o (upM L lev o lo hi)).1))]])
      (updH H q (.list ((P.map pB).set lev (.bytes (ikB (hiK (pairI L lev o (upM L lev o lo hi)).1))))))) : FSpec g 14 596 [pickT o, .ref v, .ref q, .int lev, uT lo, uT hi] H Q := by
  have l4 := hL.l4
  have om := ho.m1
  have fok := hL.get lev
  refine fspec_of (m := 13) (ps := [12, 80, 106, 59, 68, 69]) (ls := [58, 19, 78, 112]) (gs := [113, 114, 4, 109]) (cs := []) (pf.fn 596 _ rfl) (by decide +kernel) rfl fun f hf hg hc => ?_
  refine Exs.fzr ?_
  conv => arg 4; whnf
  simp only [N_0, N_1, N_2, N_3, N_4, N_5, N_6, N_7, N_8, N_9, N_10, N_11, N_12, N_13, N_14, N_15, N_16, N_17, N_18, N_19, N_20, N_21, N_22, N_23, N_24, N_25, N_26, N_27, N_28, N_29, N_30, N_31, N_32, N_33, N_34, N_35, N_36, N_37, N_38, N_39, N_40, N_41, N_42, N_43, N_44, N_45, N_46, N_47, N_48, N_49, N_50, N_51, N_52, N_53, N_54, N_55, N_56, N_57, N_58, N_59, N_60, N_61, N_62, N_63, N_64, N_65, N_66, N_67, N_68, N_69, N_70, N_71, N_72, N_73, N_74, N_75, N_76, N_77, N_78, N_79, N_80, N_81, N_82, N_83, N_84, N_85, N_86, N_87, N_88, N_89, N_90, N_91, N_92, N_93, N_94, N_95, N_96, N_97, N_98, N_99, N_100, N_101, N_102, N_103, N_104, N_105, N_106, N_107, N_108, N_109, N_110, N_111, N_112, N_113, N_114, N_115, N_116, N_117, N_118, N_119, N_120, N_121, N_122, N_123, N_124, N_125, N_126, N_127, N_128, N_129, N_130, N_131, N_132, N_133, N_134, N_135, N_136, N_137, N_138, N_139, N_140, N_141, N_142, N_143, N_144, N_145, N_146, N_147, N_148, N_149, N_150, N_151, N_152, N_153, N_154, N_155, N_156, N_157, N_158, N_159, N_160, N_161, N_162, N_163, N_164, N_165, N_166, N_167, N_168, N_169, N_170, N_171, N_172, N_173, N_174, N_175, N_176, N_177, N_178, N_179, N_180, N_181, N_182, N_183, N_184, N_185, N_186, N_187, N_188, N_189, N_190, N_191, N_192, N_193, N_194, N_195, N_196, N_197]
  walk_at "w"
  refine ite_dec (fun hl => by exfalso; walk_at "la") fun hl => ?_
  walk_at "w"
  walk_at "o"
  refine ite_dec (fun hl => by exfalso; walk_at "la") fun hl => ?_
  walk_at "w"
  refine (sp_overlapping pf (lo := lo) (hi := hi) hv (by walk_at "la") (lsome (by walk_at "la")) fok hlo hhi ?_).le (by walk_at "la")
  have ook : FsOk (ovl lev (L.getD lev []) lo hi) := ⟨fun x hx => fok.ok x (ovl_sub _ _ _ _ x hx), Nat.le_trans (ovl_len _ _ _ _) fok.len⟩
  have osub : (ovl lev (L.getD lev []) lo hi).Sublist (L.getD lev []) := by unfold ovl; split <;> exact List.filter_sublist
  have eup : upM L lev o lo hi = if lev = 0 then ovl lev (L.getD lev []) lo hi else cutS o.most (ovl lev (L.getD lev []) lo hi) := rfl
  generalize ovl lev (L.getD lev []) lo hi = xs at ook osub eup
  have xl := ook.len
  walk_at "w"
  refine cl_len_list .tree (by simp; walk_at "la") ?_
  rw [List.length_map]
  walk_at "w"
  refine ite_dec (fun hz => ?_) fun hz => ?_
  · have : xs = [] := by
      cases xs with
      | nil => rfl
      | cons a b => simp at hz; walk_at "la"
    walk_at "w"
    refine ⟨_, _, .same, _, SubH.rfl, h0 ?_⟩
    rw [eup, this]; simp [cutS]
  have xne : xs ≠ [] := by rintro rfl; simp at hz
  walk_at "wi"
  refine exs_mid (fun V' H' => H' = H ∧ E3 fun (o1 o2 o3 : Option T) => V' = [(12, some (pickT o)), (80, some (.ref v)), (106, some (.ref q)), (59, some (.int lev)), (68, some (uT lo)), (69, some (uT hi)), (58, some (lvT (upM L lev o lo hi))), (19, o1), (78, o2), (112, o3)]) ?_ ?_
  · walk_at "w"
    refine ite_dec (fun hl0 => ?_) fun hl0 => ?_
    · rw [if_neg (by walk_at "la")] at eup
      walk_at "w"
      refine ex_nx (fun V' H' => H' = H ∧ ∃ (j : Nat), A4 (j ≤ xs.length) ((∀ i, i < j → octets (xs.take i) < o.most)) ((j < xs.length → o.most ≤ octets (xs.take j))) (V' = [(12, some (pickT o)), (80, some (.ref v)), (106, some (.ref q)), (59, some (.int lev)), (68, some (uT lo)), (69, some (uT hi)), (58, some (lvT xs)), (19, none), (78, some (.int (octets (xs.take j)))), (112, some (.int j))])) ?_ ?_
      · refine ex_while (fun k V' H' => H' = H ∧ ∃ (j : Nat), A3 (k + j = xs.length) ((∀ i, i < j → octets (xs.take i) < o.most)) (V' = [(12, some (pickT o)), (80, some (.ref v)), (106, some (.ref q)), (59, some (.int lev)), (68, some (uT lo)), (69, some (uT hi)), (58, some (lvT xs)), (19, none), (78, some (.int (octets (xs.take j)))), (112, some (.int j))])) ?_ xs.length ⟨rfl, 0, rfl, by walk_at "la", rfl⟩
        rintro k V' H' ⟨rfl, j, hk, hlt, rfl⟩
        walk_at "w"
        refine cl_len_list .tree (by simp; walk_at "la") ?_
        rw [List.length_map]
        walk_at "w"
        refine ite_dec (fun c1 => ?_) fun c1 => ?_
        · walk_at "w"
          walk_at "o"
          refine ite_dec (fun c2 => ?_) fun c2 => ?_
          · obtain ⟨y, hy⟩ : ∃ y, xs[j]? = some y := ⟨_, List.getElem?_eq_getElem (by walk_at "la")⟩
            walk_at "w"
            refine op_sub_list .tree (by walk_at "la") (by simp; walk_at "la") (u := mT y) (by simp [hy]) ?_
            walk_at "w"
            refine ⟨k - 1, by walk_at "la", rfl, j + 1, by walk_at "la", ?_, ?_⟩
            · intro i hi
              by_cases q : i = j
              · subst q; exact c2
              · exact hlt i (by walk_at "la")
            · rw [octets_take hy]; rfl
          · walk_at "w"
            exact ⟨rfl, rfl, j, by walk_at "la", hlt, fun _ => by walk_at "la", rfl⟩
        · walk_at "w"
          exact ⟨rfl, rfl, j, by walk_at "la", hlt, fun _ => by walk_at "la", rfl⟩
      · rintro V' H' ⟨rfl, j, hj, h1, h2, rfl⟩
        have ec := cutS_eq (most := o.most) ook.ok hj h1 h2
        walk_at "w"
        refine ev_upto ?_
        walk_at "w"
        refine ⟨_, _, .tree, rfl, by walk_at "la", by simp; walk_at "la", ?_⟩
        walk_at "w"
        rw [eup, ec]
        refine ⟨rfl, none, some (.int (octets (xs.take j))), some (.int j), ?_⟩
        rw [Int.toNat_natCast, ← List.map_take]
        rfl
    · rw [if_pos (by walk_at "la")] at eup
      walk_at "w"
      rw [eup]
      exact ⟨rfl, _, _, _, rfl⟩
  · rintro V' H' ⟨rfl, o1, o2, o3, rfl⟩
    walk_at "w"
    have upok : FsOk (upM L lev o lo hi) := by
      rw [eup]
      split
      · exact ook
      · exact cutS_ok ook
    have upne : upM L lev o lo hi ≠ [] := by
      rw [eup]
      split
      · exact xne
      · exact cutS_ne ook.ok xne (by walk_at "la")
    have h' := h upne
    refine cl_comp pf ho (by walk_at "la") fun x dx i e de p H1 nx hcm ni ne np hs1 => ?_
    have hv1 := hs1 _ _ hv
    have hq1 := hs1 _ _ hq
    have hx1 := hcm.hx
    have hi1 := hcm.hi
    have he1 := hcm.he
    have hp1 := hcm.hp
    have n1 := hcm.ix
    have n2 := hcm.ex
    have n3 := hcm.px
    have n4 := hcm.ie
    have n5 := hcm.ip
    have n6 := hcm.ep
    have hvi : v ≠ i := by rintro rfl; rw [ni] at hv; cases hv
    have hvx : v ≠ x := by rintro rfl; rw [nx] at hv; cases hv
    have hqi : q ≠ i := by rintro rfl; rw [ni] at hq; cases hq
    have hqp : q ≠ p := by rintro rfl; rw [np] at hq; cases hq
    have hqx : q ≠ x := by rintro rfl; rw [nx] at hq; cases hq
    have hqe : q ≠ e := by rintro rfl; rw [ne] at hq; cases hq
    have hqv : v ≠ q := by rintro rfl; rw [hv] at hq; cases hq
    walk_at "w"
    refine (sp_other pf (man := true) (up := upM L lev o lo hi) (ptrs := P.map pB) ho hL hcnt hlev (v := v) (by walk_at "H") (x := x) (dx := dx) (i := i) (e := e) (de := de) (p := p) ⟨?_, ?_, ?_, ?_, n1, n2, n3, n4, n5, n6⟩ (by walk_at "H") (by simp; walk_at "la") (by simp; walk_at "la") hqi hqp upok upne ?_).le (by walk_at "la")
    · walk_at "H"
    · walk_at "H"
    · walk_at "H"
    · walk_at "H"
    intro H3 hc3 hq3 hoth
    walk_at "w"
    refine ⟨_, updH H' q (.list ((P.map pB).set lev (.bytes (ikB (hiK (pairI L lev o (upM L lev o lo hi)).1))))), .ret (fz_comp hc3 ?_ ?_ ?_ ?_ ?_), _, SubH.rfl, h'⟩
    · intro z c ez
      by_cases zq : z = q
      · subst zq; rw [updH_self] at ez; rw [hq3]; exact ez
      · rw [updH_ne zq] at ez
        have zx : z ≠ x := by rintro rfl; rw [nx] at ez; cases ez
        have zi : z ≠ i := by rintro rfl; rw [ni] at ez; cases ez
        have zp : z ≠ p := by rintro rfl; rw [np] at ez; cases ez
        refine hoth z c zx zi zp zq ?_
        rw [updH_ne zi, updH_ne zx]; exact hs1 z c ez
    · rw [updH_ne (Ne.symm hqx)]; exact nx
    · rw [updH_ne (Ne.symm hqi)]; exact ni
    · rw [updH_ne (Ne.symm hqe)]; exact ne
    · rw [updH_ne (Ne.symm hqp)]; exact np
end
end

section
theorem Lv.sub {H H' : Cells} {ls a : Addr} {L : List (List F)} (h : Lv H ls a L) (hs : SubH H H') : Lv H' ls a L := ⟨hs _ _ h.l, hs _ _ h.a, h.ok⟩
theorem set_take {L : List (List F)} {i : Nat} {l : List F} (h : L[i]? = some l) : ((L.take i).map lvT ++ List.replicate (L.length - i) (T.lst [])).set i (lvT l) = (L.take (i + 1)).map lvT ++ List.replicate (L.length - (i + 1)) (T.lst []) := by
  have hi := (List.getElem?_eq_some_iff.mp h).1
  rw [List.set_append_right _ _ (by simp; walk_at "la"), List.take_add_one, h, List.map_append, List.length_map, List.length_take, Nat.min_eq_left (by walk_at "la"), Nat.sub_self,
    show L.length - i = (L.length - (i + 1)) + 1 from suc1 hi, List.replicate_succ, List.set_cons_zero]
  simp
section
variable {g : Gl} (pf : PF g) {H : Cells} {Q : T → Cells → Prop}
include pf
theorem sp_lversion {ls a0 : Addr} {L : List (List F)} (hL : Lv H ls a0 L)
    (h : ∀ x dx H', H x = none → H' x = some (verC dx L.length L (.tup [.int 0, .int 1]) (-1)) → SubH H H' → Q (.ref x) H') : FSpec g 7 653 [.ref ls, iordT] H Q := by
  have l4 := hL.ok.l4
  have e1 := lvF_len (a := a0) hL.ok.ne
  refine fspec_of (m := 6) (ps := [130, 57]) (ls := [80, 59]) (gs := [139, 4, 63, 135]) (cs := []) (pf.fn 653 _ rfl) (by decide +kernel) rfl fun f hf hg hc => ?_
  refine Exs.fzr ?_
  conv => arg 4; whnf
  simp only [N_0, N_1, N_2, N_3, N_4, N_5, N_6, N_7, N_8, N_9, N_10, N_11, N_12, N_13, N_14, N_15, N_16, N_17, N_18, N_19, N_20, N_21, N_22, N_23, N_24, N_25, N_26, N_27, N_28, N_29, N_30, N_31, N_32, N_33, N_34, N_35, N_36, N_37, N_38, N_39, N_40, N_41, N_42, N_43, N_44, N_45, N_46, N_47, N_48, N_49, N_50, N_51, N_52, N_53, N_54, N_55, N_56, N_57, N_58, N_59, N_60, N_61, N_62, N_63, N_64, N_65, N_66, N_67, N_68, N_69, N_70, N_71, N_72, N_73, N_74, N_75, N_76, N_77, N_78, N_79, N_80, N_81, N_82, N_83, N_84, N_85, N_86, N_87, N_88, N_89, N_90, N_91, N_92, N_93, N_94, N_95, N_96, N_97, N_98, N_99, N_100, N_101, N_102, N_103, N_104, N_105, N_106, N_107, N_108, N_109, N_110, N_111, N_112, N_113, N_114, N_115, N_116, N_117, N_118, N_119, N_120, N_121, N_122, N_123, N_124, N_125, N_126, N_127, N_128, N_129, N_130, N_131, N_132, N_133, N_134, N_135, N_136, N_137, N_138, N_139, N_140, N_141, N_142, N_143, N_144, N_145, N_146, N_147, N_148, N_149, N_150, N_151, N_152, N_153, N_154, N_155, N_156, N_157, N_158, N_159, N_160, N_161, N_162, N_163, N_164, N_165, N_166, N_167, N_168, N_169, N_170, N_171, N_172, N_173, N_174, N_175, N_176, N_177, N_178, N_179, N_180, N_181, N_182, N_183, N_184, N_185, N_186, N_187, N_188, N_189, N_190, N_191, N_192, N_193, N_194, N_195, N_196, N_197]
  walk_at "w"
  refine cl_len_list (.cell hL.l) (by walk_at "la") ?_
  rw [e1]
  walk_at "w"
  refine cl_version pf (by walk_at "la") (by walk_at "la") fun x dx a H1 hax nx na h1 h2 h3 => ?_
  walk_at "w"
  refine ex_nx (fun V' H' => A4 (H' a = some (.list (L.map lvT))) (H' x = some (.inst 466 dx (verFs L.length (.ref a) (.tup [.int 0, .int 1]) (-1)))) (SubH H H') (∃ o, V' = [(130, some (.ref ls)), (57, some iordT), (80, some (.ref x)), (59, o)])) ?_ ?_
  · refine ex_forR (by assumption) rfl ?_
    walk_at "w"
    refine cl_len_list (.cell (h3 _ _ hL.l)) (by walk_at "la") ?_
    rw [e1]
    walk_at "w"
    refine cl_range1 ?_
    refine ⟨_, _, rfl, by walk_at "la", fun i V' H' => A4 (H' a = some (.list ((L.take i).map lvT ++ List.replicate (L.length - i) (.lst [])))) (H' x = some (.inst 466 dx (verFs L.length (.ref a) (.tup [.int 0, .int 1]) (-1)))) (SubH H H') (∃ o, V' = [(130, some (.ref ls)), (57, some iordT), (80, some (.ref x)), (59, o)]), ⟨by simpa using h1, h2, h3, none, rfl⟩, ?_, ?_⟩
    · rintro i V' H' hi ⟨k1, k2, k3, o, rfl⟩
      have hL' := hL.sub k3
      obtain ⟨t, g1, g2⟩ := hL'.get (lev := i) (by walk_at "la")
      have lok := hL.ok.get i
      have lol := lok.len
      have hLi : L[i]? = some (L.getD i []) := lsome (by walk_at "la")
      have ei : (0 : Int) + (i : Int) = (i : Int) := Int.zero_add _
      rw [ei]
      refine ⟨rfl, ?_⟩
      walk_at "w"
      refine ev_comp [] [140] (by decide +kernel) rfl ?_
      unfold CompOk
      walk_at "w"
      refine op_sub_list (.cell hL'.l) (by walk_at "la") (by walk_at "la") (u := t) (by rw [Int.toNat_natCast]; exact g1) ?_
      walk_at "w"
      refine cl_fn (sp_rows pf (xs := L.getD i []) g2 lok ?_) (by walk_at "la")
      refine ⟨F, L.getD i [], rowT, fun x => some (mT x), .list .tree, by walk_at "la", fun y hy fc hg' hc' => ?_, ?_⟩
      · refine ⟨_, rfl, ?_⟩
        walk_at "w"
        walk_at "k"
        walk_at "k"
        walk_at "k"
        walk_at "k"
        refine cl_meta pf (by walk_at "la") ?_
        exact ⟨rfl, SubH.rfl⟩
      rw [fm_some]
      walk_at "w"
      refine asgs_cell k1 (by walk_at "la") (by simp; walk_at "la") (by simp; walk_at "la") ?_
      try dsimp only
      refine ⟨?_, ?_, ?_, _, rfl⟩
      · rw [updH_self, Int.toNat_natCast]
        rw [show T.lst (List.map mT (L.getD i [])) = lvT (L.getD i []) from rfl, set_take hLi]
      · rw [updH_ne (Ne.symm hax)]; exact k2
      · intro b c eb
        rw [updH_ne (by rintro rfl; rw [na] at eb; cases eb)]
        exact k3 b c eb
    · rintro V' H' ⟨k1, k2, k3, o, rfl⟩
      refine ⟨rfl, ?_, k2, k3, o, rfl⟩
      simpa using k1
  · rintro V' H' ⟨k1, k2, k3, o, rfl⟩
    walk_at "w"
    refine ⟨_, _, .ret (.fld (k := 58) k2 rfl k1 hax .here), _, SubH.rfl, h x dx _ nx updH_self ?_⟩
    intro b c eb
    rw [updH_ne (by rintro rfl; rw [nx] at eb; cases eb), delH_ne (by rintro rfl; rw [na] at eb; cases eb)]
    exact k3 b c eb
end
end

section
noncomputable def drawI (ns : List Int) (i : Nat) : Int := ns.getD (i % ns.length) 0 + 1009 * ((i / ns.length : Nat) : Int)
section
variable {g : Gl} (pf : PF g) {H : Cells} {Q : T → Cells → Prop}
include pf
theorem sp_draw {t : T} {ns : List Int} {i : Nat} (ha : AsList H t (ns.map T.int)) (hne : ns ≠ []) (hl : ns.length ≤ 100) (hi : i ≤ 1000) (h : Q (.int (drawI ns i)) H) : FSpec g 2 617 [t, .int (i : Int)] H Q := by
  have hpos : 0 < ns.length := List.length_pos_iff.mpr hne
  refine fspec_of (m := 1) (ps := [120, 71]) (ls := []) (gs := [4]) (cs := []) (pf.fn 617 _ rfl) (by decide +kernel) rfl fun f hf hg hc => ?_
  conv => arg 4; whnf
  simp only [N_0, N_1, N_2, N_3, N_4, N_5, N_6, N_7, N_8, N_9, N_10, N_11, N_12, N_13, N_14, N_15, N_16, N_17, N_18, N_19, N_20, N_21, N_22, N_23, N_24, N_25, N_26, N_27, N_28, N_29, N_30, N_31, N_32, N_33, N_34, N_35, N_36, N_37, N_38, N_39, N_40, N_41, N_42, N_43, N_44, N_45, N_46, N_47, N_48, N_49, N_50, N_51, N_52, N_53, N_54, N_55, N_56, N_57, N_58, N_59, N_60, N_61, N_62, N_63, N_64, N_65, N_66, N_67, N_68, N_69, N_70, N_71, N_72, N_73, N_74, N_75, N_76, N_77, N_78, N_79, N_80, N_81, N_82, N_83, N_84, N_85, N_86, N_87, N_88, N_89, N_90, N_91, N_92, N_93, N_94, N_95, N_96, N_97, N_98, N_99, N_100, N_101, N_102, N_103, N_104, N_105, N_106, N_107, N_108, N_109, N_110, N_111, N_112, N_113, N_114, N_115, N_116, N_117, N_118, N_119, N_120, N_121, N_122, N_123, N_124, N_125, N_126, N_127, N_128, N_129, N_130, N_131, N_132, N_133, N_134, N_135, N_136, N_137, N_138, N_139, N_140, N_141, N_142, N_143, N_144, N_145, N_146, N_147, N_148, N_149, N_150, N_151, N_152, N_153, N_154, N_155, N_156, N_157, N_158, N_159, N_160, N_161, N_162, N_163, N_164, N_165, N_166, N_167, N_168, N_169, N_170, N_171, N_172, N_173, N_174, N_175, N_176, N_177, N_178, N_179, N_180, N_181, N_182, N_183, N_184, N_185, N_186, N_187, N_188, N_189, N_190, N_191, N_192, N_193, N_194, N_195, N_196, N_197]
  walk_at "w"
  refine cl_len_list ha (by simp; walk_at "la") ?_
  rw [List.length_map]
  refine op_mod_int (by walk_at "la") ?_
  have e1 : (i : Int) % (ns.length : Int) = ((i % ns.length : Nat) : Int) := rfl
  have hlt : i % ns.length < ns.length := Nat.mod_lt _ hpos
  rw [e1]
  refine op_sub_list ha (by walk_at "la") (by simp; walk_at "la") (u := .int (ns.getD (i % ns.length) 0)) ?_ ?_
  · rw [Int.toNat_natCast, List.getElem?_map, List.getD_eq_getElem?_getD, List.getElem?_eq_getElem hlt]; rfl
  walk_at "w"
  refine cl_len_list ha (by simp; walk_at "la") ?_
  rw [List.length_map]
  refine op_div_int (by walk_at "la") (by walk_at "la") ?_
  refine op_mul_int (by decide) ?_
  walk_at "w"
  exact ⟨_, SubH.rfl, h⟩
end
end

section
noncomputable def gtB (r p : Best) : Bool := decide (p.top * r.bot < r.top * p.bot)
theorem gtB_trans {a b c : Best} (ha : BestOk a) (hb : BestOk b) (hc : BestOk c) (h : gtB a b = true) (h' : gtB c b = false) : gtB a c = true := by
  unfold gtB at *
  simp only [decide_eq_true_eq, decide_eq_false_iff_not, Int.not_lt] at *
  have p1 : b.top * a.bot * c.bot < a.top * b.bot * c.bot := Int.mul_lt_mul_of_pos_right h (by have := hc.b0; walk_at "la")
  have p2 : c.top * b.bot * a.bot ≤ b.top * c.bot * a.bot := Int.mul_le_mul_of_nonneg_right h' (by have := ha.b0; walk_at "la")
  have e1 : b.top * c.bot * a.bot = b.top * a.bot * c.bot := by rw [Int.mul_assoc, Int.mul_assoc, Int.mul_comm c.bot]
  have e2 : c.top * b.bot * a.bot = c.top * a.bot * b.bot := by rw [Int.mul_assoc, Int.mul_assoc, Int.mul_comm b.bot]
  have e3 : a.top * b.bot * c.bot = a.top * c.bot * b.bot := by rw [Int.mul_assoc, Int.mul_assoc, Int.mul_comm b.bot]
  have p3 : c.top * a.bot * b.bot < a.top * c.bot * b.bot := by walk_at "la"
  exact Int.lt_of_mul_lt_mul_right p3 (by have := hb.b0; walk_at "la")
theorem gtB_asym {a b : Best} (h : gtB a b = true) : gtB b a = false := by
  unfold gtB at *
  simp only [decide_eq_true_eq, decide_eq_false_iff_not] at *
  walk_at "la"
theorem best_inv {L : List (List F)} {o : Opt} (hL : LsOk L) (ho : o.Ok) : ∀ n, n ≤ 2 → ∃ k, k ≤ n ∧ best L o n = part L o k ∧ (∀ i, i ≤ n → gtB (part L o i) (best L o n) = false) ∧ (∀ i, i < k → gtB (best L o n) (part L o i) = true)
  | 0, _ => ⟨0, by walk_at "la", rfl, fun i hi => by
      have : i = 0 := by walk_at "la"
      subst this
      unfold gtB best; simp, fun i hi => by walk_at "la"⟩
  | n + 1, h => by
    obtain ⟨k, hk, e, h1, h2⟩ := best_inv hL ho n (by walk_at "la")
    have eb : best L o (n + 1) = if gtB (part L o (n + 1)) (best L o n) = true then part L o (n + 1) else best L o n := by
      unfold gtB
      simp only [decide_eq_true_eq]
      rfl
    have b1 := best_bok hL ho n (by walk_at "la")
    by_cases q : gtB (part L o (n + 1)) (best L o n) = true
    · rw [if_pos q] at eb
      have b2 := part_ok hL ho h
      have hgt : ∀ i, i ≤ n → gtB (part L o (n + 1)) (part L o i) = true := fun i hi => gtB_trans b2 b1 (part_ok hL ho (by walk_at "la")) q (h1 i hi)
      refine ⟨n + 1, by walk_at "la", eb, fun i hi => ?_, fun i hi => ?_⟩
      · rw [eb]
        by_cases e2 : i = n + 1
        · subst e2; unfold gtB; simp
        · exact gtB_asym (hgt i (by walk_at "la"))
      · rw [eb]; exact hgt i (by walk_at "la")
    · rw [if_neg q] at eb
      refine ⟨k, by walk_at "la", by rw [eb, e], fun i hi => ?_, fun i hi => by rw [eb]; exact h2 i hi⟩
      rw [eb]
      by_cases e2 : i = n + 1
      · subst e2; simpa using q
      · exact h1 i (by walk_at "la")
theorem filter_head {α : Type} {xs : List α} {f : α → Bool} {k : Nat} {a : α} (hk : xs[k]? = some a) (ha : f a = true) (hb : ∀ i b, i < k → xs[i]? = some b → f b = false) : (xs.filter f)[0]? = some a := by
  obtain ⟨hlt, hget⟩ := List.getElem?_eq_some_iff.mp hk
  have e : xs = xs.take k ++ a :: xs.drop (k + 1) := by rw [← hget, ← List.drop_eq_getElem_cons hlt, List.take_append_drop]
  have hno : (xs.take k).filter f = [] := List.filter_eq_nil_iff.mpr fun b hbm => by
    obtain ⟨i, hi, e⟩ := List.mem_take_iff_getElem.mp hbm
    rw [hb i b (by walk_at "la") (by rw [List.getElem?_eq_getElem (by walk_at "la"), e])]; simp
  rw [e, List.filter_append, hno, List.filter_cons, if_pos ha]; rfl
noncomputable def partsL (L : List (List F)) (o : Opt) (n : Nat) : List Best := (List.range n).map (part L o)
theorem parts_head {L : List (List F)} {o : Opt} (hL : LsOk L) (ho : o.Ok) {n : Nat} (h : n ≤ 2) :
    ((partsL L o (n + 1)).filter fun p => decide (((partsL L o (n + 1)).filter fun r => gtB r p).length = 0))[0]? = some (best L o n) := by
  obtain ⟨k, hk, e, h1, h2⟩ := best_inv hL ho n h
  refine filter_head (k := k) ?_ ?_ ?_
  · unfold partsL
    rw [List.getElem?_map, List.getElem?_range (by walk_at "la"), e]; rfl
  · simp only [decide_eq_true_eq, List.length_eq_zero_iff, List.filter_eq_nil_iff]
    intro r hr
    obtain ⟨i, hi, rfl⟩ := List.mem_map.mp hr
    rw [h1 i (by have := List.mem_range.mp hi; walk_at "la")]; simp
  · intro i b hi hb
    unfold partsL at hb
    rw [List.getElem?_map, List.getElem?_range (by walk_at "la")] at hb
    simp only [Option.map_some, Option.some.injEq] at hb
    subst hb
    simp only [decide_eq_false_iff_not, List.length_eq_zero_iff, List.filter_eq_nil_iff]
    intro hall
    refine hall (best L o n) ?_ (h2 i hi)
    rw [e]
    exact List.mem_map.mpr ⟨k, List.mem_range.mpr (by walk_at "la"), rfl⟩
end

section
section
variable {g : Gl} (pf : PF g) {H : Cells} {Q : T → Cells → Prop}
include pf
theorem sp_pick_range_bad {v q : Addr} {lev : Int} {o : Opt} {lo hi : Option Nat} (ho : o.Ok) (h1 : -1000 ≤ lev) (h2 : lev ≤ 1000) (hl : lev < 0 ∨ o.levels - 1 ≤ lev) : FRaise g 14 596 [pickT o, .ref v, .ref q, .int lev, uT lo, uT hi] H (fun H' => H' = H) := by
  refine fraise_of (m := 13) (ps := [12, 80, 106, 59, 68, 69]) (ls := [58, 19, 78, 112]) (gs := [113, 114, 4, 109]) (cs := []) (pf.fn 596 _ rfl) (by decide +kernel) rfl fun f l hf hg hc ho' => ?_
  conv => arg 4; whnf
  simp only [N_0, N_1, N_2, N_3, N_4, N_5, N_6, N_7, N_8, N_9, N_10, N_11, N_12, N_13, N_14, N_15, N_16, N_17, N_18, N_19, N_20, N_21, N_22, N_23, N_24, N_25, N_26, N_27, N_28, N_29, N_30, N_31, N_32, N_33, N_34, N_35, N_36, N_37, N_38, N_39, N_40, N_41, N_42, N_43, N_44, N_45, N_46, N_47, N_48, N_49, N_50, N_51, N_52, N_53, N_54, N_55, N_56, N_57, N_58, N_59, N_60, N_61, N_62, N_63, N_64, N_65, N_66, N_67, N_68, N_69, N_70, N_71, N_72, N_73, N_74, N_75, N_76, N_77, N_78, N_79, N_80, N_81, N_82, N_83, N_84, N_85, N_86, N_87, N_88, N_89, N_90, N_91, N_92, N_93, N_94, N_95, N_96, N_97, N_98, N_99, N_100, N_101, N_102, N_103, N_104, N_105, N_106, N_107, N_108, N_109, N_110, N_111, N_112, N_113, N_114, N_115, N_116, N_117, N_118, N_119, N_120, N_121, N_122, N_123, N_124, N_125, N_126, N_127, N_128, N_129, N_130, N_131, N_132, N_133, N_134, N_135, N_136, N_137, N_138, N_139, N_140, N_141, N_142, N_143, N_144, N_145, N_146, N_147, N_148, N_149, N_150, N_151, N_152, N_153, N_154, N_155, N_156, N_157, N_158, N_159, N_160, N_161, N_162, N_163, N_164, N_165, N_166, N_167, N_168, N_169, N_170, N_171, N_172, N_173, N_174, N_175, N_176, N_177, N_178, N_179, N_180, N_181, N_182, N_183, N_184, N_185, N_186, N_187, N_188, N_189, N_190, N_191, N_192, N_193, N_194, N_195, N_196, N_197]
  refine xs_if_raise pf hg rfl ?_
  have fin : Ev g f 13 (.BinOp (.Constant (.str (Str.ofString "no level below ")) 0 { line := 450, col := 28, endLine := 450, endCol := 45 }) .Add (.Call (.Name (nm 114) { line := 450, col := 48, endLine := 450, endCol := 51 }) [.Name (nm 59) { line := 450, col := 52, endLine := 450, endCol := 57 }] [] { line := 450, col := 48, endLine := 450, endCol := 58 }) { line := 450, col := 28, endLine := 450, endCol := 58 })
      (V0 [12, 80, 106, 59, 68, 69] [58, 19, 78, 112] [pickT o, .ref v, .ref q, .int lev, uT lo, uT hi]) H fun _ H' => H' = H := by
    walk_at "w"
    refine cl_str_int h1 h2 fun t ht => ?_
    refine op_add_str ?_ rfl
    have : (Str.ofString "no level below ").length ≤ 100 := by decide +kernel
    walk_at "la"
  walk_at "w"
  refine ite_dec (fun hc => ⟨rfl, fin⟩) fun hc => ?_
  walk_at "w"
  walk_at "o"
  refine ite_dec (fun hc => ⟨rfl, fin⟩) fun hc => ?_
  walk_at "la"
end
end

section
noncomputable def bT (b : Best) : T := .tup [.int b.top, .int b.bot, .int (b.lev : Int)]
theorem partsL_succ {L : List (List F)} {o : Opt} {n : Nat} : partsL L o (n + 1) = partsL L o n ++ [part L o n] := by
  unfold partsL; rw [List.range_succ, List.map_append]; rfl
theorem partsL_len {L : List (List F)} {o : Opt} {n : Nat} : (partsL L o n).length = n := by
  unfold partsL; simp
section
variable {g : Gl} (pf : PF g) {H : Cells} {Q : T → Cells → Prop}
include pf
theorem sp_best {ls a0 : Addr} {L : List (List F)} {o : Opt} (ho : o.Ok) (hL : Lv H ls a0 L) (h : Q (bT (best L o (L.length - 2))) H) : FSpec g 4 680 [.ref ls, o.T] H Q := by
  have l4 := hL.ok.l4
  have l3 := hL.ok.l3
  have e1 := lvF_len (a := a0) hL.ok.ne
  have ob := ho.b1
  have of := ho.f1
  obtain ⟨t0, k1, k2⟩ := hL.get (lev := 0) (by walk_at "la")
  have f0l := (hL.ok.get 0).len
  refine fspec_of (m := 3) (ps := [130, 81]) (ls := [149, 59, 150]) (gs := [4, 63, 141]) (cs := [149]) (pf.fn 680 _ rfl) (by decide +kernel) rfl fun f hf hg hc => ?_
  conv => arg 4; whnf
  simp only [N_0, N_1, N_2, N_3, N_4, N_5, N_6, N_7, N_8, N_9, N_10, N_11, N_12, N_13, N_14, N_15, N_16, N_17, N_18, N_19, N_20, N_21, N_22, N_23, N_24, N_25, N_26, N_27, N_28, N_29, N_30, N_31, N_32, N_33, N_34, N_35, N_36, N_37, N_38, N_39, N_40, N_41, N_42, N_43, N_44, N_45, N_46, N_47, N_48, N_49, N_50, N_51, N_52, N_53, N_54, N_55, N_56, N_57, N_58, N_59, N_60, N_61, N_62, N_63, N_64, N_65, N_66, N_67, N_68, N_69, N_70, N_71, N_72, N_73, N_74, N_75, N_76, N_77, N_78, N_79, N_80, N_81, N_82, N_83, N_84, N_85, N_86, N_87, N_88, N_89, N_90, N_91, N_92, N_93, N_94, N_95, N_96, N_97, N_98, N_99, N_100, N_101, N_102, N_103, N_104, N_105, N_106, N_107, N_108, N_109, N_110, N_111, N_112, N_113, N_114, N_115, N_116, N_117, N_118, N_119, N_120, N_121, N_122, N_123, N_124, N_125, N_126, N_127, N_128, N_129, N_130, N_131, N_132, N_133, N_134, N_135, N_136, N_137, N_138, N_139, N_140, N_141, N_142, N_143, N_144, N_145, N_146, N_147, N_148, N_149, N_150, N_151, N_152, N_153, N_154, N_155, N_156, N_157, N_158, N_159, N_160, N_161, N_162, N_163, N_164, N_165, N_166, N_167, N_168, N_169, N_170, N_171, N_172, N_173, N_174, N_175, N_176, N_177, N_178, N_179, N_180, N_181, N_182, N_183, N_184, N_185, N_186, N_187, N_188, N_189, N_190, N_191, N_192, N_193, N_194, N_195, N_196, N_197]
  walk_at "w"
  refine ev_listX ?_
  walk_at "w"
  refine op_sub_list (ts := lvF a0 L) (.cell hL.l) (by walk_at "la") (by walk_at "la") (u := t0) (by rw [show (0 : Int).toNat = 0 from rfl]; exact k1) ?_
  walk_at "w"
  refine cl_len_list k2 (by rw [List.length_map]; walk_at "la") ?_
  rw [List.length_map]
  walk_at "w"
  walk_at "o"
  walk_at "w"
  intro pa H1 npa hpa hs1
  walk_at "w"
  have hL1 := hL.sub hs1
  refine ex_nx (fun V' H' => A3 (H' pa = some (.list ((partsL L o (L.length - 1)).map bT))) (SubH H H') (∃ o1, V' = [(130, some (.ref ls)), (81, some o.T), (149, some (.ref pa)), (59, o1), (150, none)])) ?_ ?_
  · refine ex_forR (by assumption) rfl ?_
    walk_at "w"
    refine cl_len_list (.cell hL1.l) (by walk_at "la") ?_
    rw [e1]
    walk_at "w"
    refine cl_range2 ?_
    refine ⟨_, _, rfl, by walk_at "la", fun i V' H' => A3 (H' pa = some (.list ((partsL L o (i + 1)).map bT))) (SubH H H') (∃ o1, V' = [(130, some (.ref ls)), (81, some o.T), (149, some (.ref pa)), (59, o1), (150, none)]), ⟨?_, hs1, none, rfl⟩, ?_, ?_⟩
    · rw [hpa]; unfold partsL part bT; simp
    · rintro i V' H' hi ⟨q1, q2, o1, rfl⟩
      refine ⟨rfl, ?_⟩
      have hL2 := hL.sub q2
      obtain ⟨t, k1, k2⟩ := hL2.get (lev := i + 1) (by walk_at "la")
      have fok := hL.ok.get (i + 1)
      have ei : (1 : Int) + (i : Int) = ((i + 1 : Nat) : Int) := Int.add_comm 1 (i : Int)
      rw [ei]
      walk_at "w"
      refine op_sub_list (.cell hL2.l) (by walk_at "la") (by walk_at "la") (u := t) (by rw [Int.toNat_natCast]; exact k1) ?_
      walk_at "w"
      refine cl_fn (sp_octets pf k2 fok ?_) (by walk_at "la")
      walk_at "w"
      walk_at "o"
      walk_at "o"
      refine op_pow_int (by walk_at "la") (by walk_at "la") (abs64 (by assumption)) ?_
      refine op_mul_int (abs60 (by assumption)) ?_
      walk_at "w"
      refine ⟨_, q1, by rw [List.length_map, partsL_len]; walk_at "la", ?_⟩
      try dsimp only
      refine ⟨?_, ?_, _, rfl⟩
      · rw [updH_self, partsL_succ (n := i + 1), List.map_append]
        have : part L o (i + 1) = ⟨octets (L.getD (i + 1) []), o.base * o.fac ^ i, i + 1⟩ := by unfold part; rw [if_neg (by walk_at "la")]; rfl
        rw [this]
        have e2 : (((i + 1 : Nat) : Int) - 1).toNat = i := Int.toNat_sub (i + 1) 1
        rw [e2]
        rfl
      · intro z c ez
        rw [updH_ne (by rintro rfl; rw [npa] at ez; cases ez)]
        exact q2 z c ez
    · rintro V' H' ⟨q1, q2, o1, rfl⟩
      have e2 : ((L.length : Int) - 1 - 1).toNat + 1 = L.length - 1 := (congrArg (· + 1) tn2).trans (sub21 (by assumption)).symm
      rw [e2] at q1
      exact ⟨rfl, q1, q2, o1, rfl⟩
  · rintro V' H' ⟨q1, q2, o1, rfl⟩
    refine seq_next (Exs.fzV (k := 149) rfl q1 ?_)
    refine exs_cons (ex_assign_comp [149] [4] (by assumption) rfl (by decide +kernel) (by rw [hc]; rfl) ?_)
    unfold CompOk
    walk_at "w"
    have hbok : ∀ p ∈ partsL L o (L.length - 1), BestOk p := fun p hp => by
      obtain ⟨i, hi, rfl⟩ := List.mem_map.mp hp
      exact part_ok hL.ok ho (by have := List.mem_range.mp hi; walk_at "la")
    have e3 : L.length - 1 = (L.length - 2) + 1 := sub21 (by assumption)
    have hh := parts_head hL.ok ho (n := L.length - 2) (by walk_at "la")
    rw [← e3] at hh
    have plen : (partsL L o (L.length - 1)).length = L.length - 1 := partsL_len
    generalize partsL L o (L.length - 1) = ps at hbok hh q1 plen
    have pl4 : ps.length ≤ 4 := Nat.le_trans (Nat.le_of_eq plen) (Nat.le_trans (Nat.sub_le _ _) (by assumption))
    refine ⟨Best, ps, bT, fun p => if decide ((ps.filter fun r => gtB r p).length = 0) then some (bT p) else none, .list .tree, by walk_at "la", fun p hp fc hg' hc' => ?_, ?_⟩
    · have pok := hbok p hp
      unfold CBody
      walk_at "w"
      refine ev_comp [151] [] (by decide +kernel) (by rw [hc']; rfl) ?_
      unfold CompOk
      walk_at "w"
      refine ⟨Best, ps, bT, fun r => if gtB r p then some (bT r) else none, .list .tree, by walk_at "la", fun r hr fc2 hg2 hc2 => ?_, ?_⟩
      · have rok := hbok r hr
        unfold CBody
        walk_at "w"
        walk_at "k"
        walk_at "k"
        refine op_mul_int (bmul rok.t0 rok.t1) ?_
        walk_at "w"
        walk_at "k"
        walk_at "k"
        refine op_mul_int (bmul pok.t0 pok.t1) ?_
        walk_at "w"
        refine ⟨SubH.rfl, ?_⟩
        refine ite_dec (fun c => ?_) fun c => ?_
        · try dsimp only
          rw [if_pos (by unfold gtB; simpa using c)]
          exact ⟨_, rfl, ev_name rfl ⟨rfl, SubH.rfl⟩⟩
        · try dsimp only
          rw [if_neg (by unfold gtB; simpa using c)]
      · rw [fm_if]
        walk_at "w"
        refine cl_len_list .tree ?_ ?_
        · rw [List.length_map]; exact Nat.le_trans (List.length_filter_le _ ps) (Nat.le_trans pl4 (by decide))
        rw [List.length_map]
        walk_at "w"
        refine ⟨SubH.rfl, ?_⟩
        refine ite_dec (fun c => ?_) fun c => ?_
        · try dsimp only
          rw [if_pos (by simp only [decide_eq_true_eq]; walk_at "la")]
          exact ⟨_, rfl, ev_name rfl ⟨rfl, SubH.rfl⟩⟩
        · try dsimp only
          rw [if_neg (by simp only [decide_eq_true_eq]; walk_at "la")]
    · rw [fm_if]
      walk_at "w"
      refine op_sub_list .tree (by walk_at "la") ?_ (u := bT (best L o (L.length - 2))) ?_ ?_
      · rw [List.length_map]; exact Nat.le_trans (List.length_filter_le _ ps) (Nat.le_trans pl4 (by decide))
      · rw [show (0 : Int).toNat = 0 from rfl, List.getElem?_map, hh]; rfl
      walk_at "w"
      refine ⟨_, ?_, h⟩
      intro z c ez
      rw [delH_ne (by rintro rfl; rw [npa] at ez; cases ez)]
      exact q2 z c ez
end
end

section
noncomputable def wT : Option Best → T
  | none => .none
  | some b => bT b
noncomputable def oK : Option Key → T
  | none => .none
  | some κ => keyT κ
structure Wd where
  v : Addr
  q : Addr
  ls : Addr
  a0 : Addr
  pl : Addr
  L : List (List F)
  P : List (Option Key)
  b : Option Best
  nx : Int
noncomputable def own (w : Addr) (d : Wd) : List Addr := [w, d.v, d.q, d.ls, d.a0, d.pl]
structure WAt (H : Cells) (w : Addr) (d : Wd) : Prop where
  hw : H w = some (.list [.ref d.v, .ref d.q, .ref d.ls, .ref d.pl, wT d.b, .int d.nx])
  hv : ∃ dx sc sl, H d.v = some (verC dx d.L.length d.L sc sl) ∧ ∀ b, d.b = some b → sc = .tup [.int b.top, .int b.bot] ∧ sl = b.lev
  hq : H d.q = some (.list (d.P.map pB))
  hL : Lv H d.ls d.a0 d.L
  hp : H d.pl = some (.list (d.P.map oK))
  pok : PtOk d.P
  plen : d.P.length = d.L.length
  nd : (own w d).Nodup
/-- what the law itself reads of a world -/
structure WLaw (H : Cells) (w : Addr) (d : Wd) : Prop where
  hw : H w = some (.list [.ref d.v, .ref d.q, .ref d.ls, .ref d.pl, wT d.b, .int d.nx])
  hL : Lv H d.ls d.a0 d.L
  hp : H d.pl = some (.list (d.P.map oK))
  pok : PtOk d.P
  plen : d.P.length = d.L.length
theorem WAt.law {H : Cells} {w : Addr} {d : Wd} (h : WAt H w d) : WLaw H w d := ⟨h.hw, h.hL, h.hp, h.pok, h.plen⟩
noncomputable def Kept (xs : List Addr) (H H' : Cells) : Prop := ∀ a c, a ∉ xs → H a = some c → H' a = some c
theorem Kept.of {xs : List Addr} {H H' : Cells} (h : SubH H H') : Kept xs H H' := fun a c _ e => h a c e
theorem Kept.trans {xs : List Addr} {H H' H'' : Cells} (h : Kept xs H H') (h' : Kept xs H' H'') : Kept xs H H'' := fun a c hn e => h' a c hn (h a c hn e)
theorem WAt.keep {H H' : Cells} {w : Addr} {d : Wd} (h : WAt H w d) (hk : ∀ x ∈ own w d, ∀ c, H x = some c → H' x = some c) : WAt H' w d := by
  obtain ⟨dx, sc, sl, hv, hb⟩ := h.hv
  have m : ∀ x, x = w ∨ x = d.v ∨ x = d.q ∨ x = d.ls ∨ x = d.a0 ∨ x = d.pl → x ∈ own w d := fun x hx => by
    simp only [own, List.mem_cons, List.not_mem_nil, or_false]; exact hx
  exact ⟨hk _ (m _ (by simp)) _ h.hw, ⟨dx, sc, sl, hk _ (m _ (by simp)) _ hv, hb⟩, hk _ (m _ (by simp)) _ h.hq, ⟨hk _ (m _ (by simp)) _ h.hL.l, hk _ (m _ (by simp)) _ h.hL.a, h.hL.ok⟩, hk _ (m _ (by simp)) _ h.hp, h.pok, h.plen, h.nd⟩
theorem WAt.live {H : Cells} {w : Addr} {d : Wd} (h : WAt H w d) : ∀ x ∈ own w d, ∃ c, H x = some c := fun x hx => by
  obtain ⟨dx, sc, sl, hv, hb⟩ := h.hv
  simp only [own, List.mem_cons, List.not_mem_nil, or_false] at hx
  rcases hx with rfl | rfl | rfl | rfl | rfl | rfl
  · exact ⟨_, h.hw⟩
  · exact ⟨_, hv⟩
  · exact ⟨_, h.hq⟩
  · exact ⟨_, h.hL.l⟩
  · exact ⟨_, h.hL.a⟩
  · exact ⟨_, h.hp⟩
structure Nd (w : Addr) (d : Wd) : Prop where
  wv : w ≠ d.v
  wq : w ≠ d.q
  wl : w ≠ d.ls
  wa : w ≠ d.a0
  wp : w ≠ d.pl
  vq : d.v ≠ d.q
  vl : d.v ≠ d.ls
  va : d.v ≠ d.a0
  vp : d.v ≠ d.pl
  ql : d.q ≠ d.ls
  qa : d.q ≠ d.a0
  qp : d.q ≠ d.pl
  la : d.ls ≠ d.a0
  lp : d.ls ≠ d.pl
  ap : d.a0 ≠ d.pl
theorem WAt.ne {H : Cells} {w : Addr} {d : Wd} (h : WAt H w d) : Nd w d := by
  have := h.nd
  simp only [own, List.nodup_cons, List.mem_cons, List.not_mem_nil, or_false, not_or, not_false_eq_true, and_true, List.nodup_nil] at this
  obtain ⟨⟨a1, a2, a3, a4, a5⟩, ⟨b1, b2, b3, b4⟩, ⟨c1, c2, c3⟩, ⟨d1, d2⟩, e1⟩ := this
  exact ⟨a1, a2, a3, a4, a5, b1, b2, b3, b4, c1, c2, c3, d1, d2, e1⟩
theorem Nd.nd {w : Addr} {d : Wd} (h : Nd w d) : (own w d).Nodup := by
  simp only [own, List.nodup_cons, List.mem_cons, List.not_mem_nil, or_false, not_or, not_false_eq_true, and_true, List.nodup_nil]
  exact ⟨⟨h.wv, h.wq, h.wl, h.wa, h.wp⟩, ⟨h.vq, h.vl, h.va, h.vp⟩, ⟨h.ql, h.qa, h.qp⟩, ⟨h.la, h.lp⟩, h.ap⟩
section
variable {g : Gl} (pf : PF g) {H : Cells} {Q : T → Cells → Prop}
include pf
set_option maxHeartbeats 1000000 in
theorem sp_scored {w : Addr} {d : Wd} {o : Opt} (ho : o.Ok) (hd : WAt H w d) (hcnt : o.levels = d.L.length)
    (h : ∀ H', Kept (own w d) H H' → WAt H' w { d with b := some (best d.L o (d.L.length - 2)) } → Q (.bool true) H') : FSpec g 6 687 [.ref w, o.T] H Q := by
  have l4 := hd.hL.ok.l4
  have hw := hd.hw
  have nd := hd.ne
  have n1 := nd.wv
  have n2 := nd.wq
  have n3 := nd.wl
  have n4 := nd.wa
  have n5 := nd.wp
  have n6 := nd.vq
  have n7 := nd.vl
  have n8 := nd.va
  have n9 := nd.vp
  obtain ⟨dx, sc, sl, hv, hb⟩ := hd.hv
  refine fspec_of (m := 5) (ps := [153, 81]) (ls := [155, 156]) (gs := [148, 97]) (cs := []) (pf.fn 687 _ rfl) (by decide +kernel) rfl fun f hf hg hc => ?_
  conv => arg 4; whnf
  simp only [N_0, N_1, N_2, N_3, N_4, N_5, N_6, N_7, N_8, N_9, N_10, N_11, N_12, N_13, N_14, N_15, N_16, N_17, N_18, N_19, N_20, N_21, N_22, N_23, N_24, N_25, N_26, N_27, N_28, N_29, N_30, N_31, N_32, N_33, N_34, N_35, N_36, N_37, N_38, N_39, N_40, N_41, N_42, N_43, N_44, N_45, N_46, N_47, N_48, N_49, N_50, N_51, N_52, N_53, N_54, N_55, N_56, N_57, N_58, N_59, N_60, N_61, N_62, N_63, N_64, N_65, N_66, N_67, N_68, N_69, N_70, N_71, N_72, N_73, N_74, N_75, N_76, N_77, N_78, N_79, N_80, N_81, N_82, N_83, N_84, N_85, N_86, N_87, N_88, N_89, N_90, N_91, N_92, N_93, N_94, N_95, N_96, N_97, N_98, N_99, N_100, N_101, N_102, N_103, N_104, N_105, N_106, N_107, N_108, N_109, N_110, N_111, N_112, N_113, N_114, N_115, N_116, N_117, N_118, N_119, N_120, N_121, N_122, N_123, N_124, N_125, N_126, N_127, N_128, N_129, N_130, N_131, N_132, N_133, N_134, N_135, N_136, N_137, N_138, N_139, N_140, N_141, N_142, N_143, N_144, N_145, N_146, N_147, N_148, N_149, N_150, N_151, N_152, N_153, N_154, N_155, N_156, N_157, N_158, N_159, N_160, N_161, N_162, N_163, N_164, N_165, N_166, N_167, N_168, N_169, N_170, N_171, N_172, N_173, N_174, N_175, N_176, N_177, N_178, N_179, N_180, N_181, N_182, N_183, N_184, N_185, N_186, N_187, N_188, N_189, N_190, N_191, N_192, N_193, N_194, N_195, N_196, N_197]
  walk_at "w"
  refine cl_fn (sp_best pf ho hd.hL ?_) (by walk_at "la")
  walk_at "w"
  refine cl_fn (sp_score pf (v := d.v) (by walk_at "H") hd.hL.ok ho hcnt ?_) (by walk_at "la")
  walk_at "w"
  have tl : getF (verFs (d.L.length : Int) (.lst (d.L.map lvT)) (.tup [.int (best d.L o (d.L.length - 2)).top, .int (best d.L o (d.L.length - 2)).bot]) (best d.L o (d.L.length - 2)).lev) 61 = some (.tup [.int (best d.L o (d.L.length - 2)).top, .int (best d.L o (d.L.length - 2)).bot]) := rfl
  refine ev_and3 ?_
  walk_at "w"
  walk_at "k"
  walk_at "k"
  refine op_eq (.inl rfl) (.inl rfl) (r := true) (by first | exact congrArg some (decide_eq_true rfl) | exact congrArg some pair_tt) ?_
  walk_at "w"
  refine ev_and2 ?_
  walk_at "w"
  refine op_eq (.inl rfl) (.inl rfl) (r := true) (by first | exact congrArg some (decide_eq_true rfl) | exact congrArg some pair_tt) ?_
  walk_at "w"
  walk_at "k"
  refine ⟨_, SubH.rfl, ?_⟩
  try dsimp only
  rw [decide_eq_true rfl]
  refine h _ (fun a c ha ea => ?_) ⟨?_, ⟨dx, _, _, updH_self, fun b eb => ?_⟩, ?_, ?_, ?_, hd.pok, hd.plen, hd.nd⟩
  · have na : ∀ x, x ∈ own w d → a ≠ x := fun x hx e => ha (e ▸ hx)
    rw [updH_ne (na _ (by simp [own])), updH_ne (na _ (by simp [own]))]; exact ea
  · walk_at "H"
  · cases eb; exact ⟨rfl, rfl⟩
  · dsimp only; rw [updH_ne (Ne.symm n6), updH_ne (Ne.symm n2)]; exact hd.hq
  · exact ⟨by dsimp only; rw [updH_ne (Ne.symm n7), updH_ne (Ne.symm n3)]; exact hd.hL.l, by dsimp only; rw [updH_ne (Ne.symm n8), updH_ne (Ne.symm n4)]; exact hd.hL.a, hd.hL.ok⟩
  · dsimp only; rw [updH_ne (Ne.symm n9), updH_ne (Ne.symm n5)]; exact hd.hp

omit pf in
theorem eqPs (P : List (Option Key)) : eqT 8 (.lst (P.map pB)) (.lst (P.map pB)) = some true := eqL_refl (d := 7) fun t ht => by
  obtain ⟨x, _, rfl⟩ := List.mem_map.mp ht
  cases x <;> exact congrArg some (beq_self_eq_true _)
theorem sp_stands {t : T} {xs : List (Addr × Wd)} (ha : AsList H t (xs.map fun p => .ref p.1)) (hl : xs.length ≤ 10) (hx : ∀ p ∈ xs, WAt H p.1 p.2) (h : Q (.bool true) H) : FSpec g 7 692 [t] H Q := by
  refine fspec_of (m := 6) (ps := [157]) (ls := [153, 59]) (gs := [63, 4, 137, 135]) (cs := []) (pf.fn 692 _ rfl) (by decide +kernel) rfl fun f hf hg hc => ?_
  conv => arg 4; whnf
  simp only [N_0, N_1, N_2, N_3, N_4, N_5, N_6, N_7, N_8, N_9, N_10, N_11, N_12, N_13, N_14, N_15, N_16, N_17, N_18, N_19, N_20, N_21, N_22, N_23, N_24, N_25, N_26, N_27, N_28, N_29, N_30, N_31, N_32, N_33, N_34, N_35, N_36, N_37, N_38, N_39, N_40, N_41, N_42, N_43, N_44, N_45, N_46, N_47, N_48, N_49, N_50, N_51, N_52, N_53, N_54, N_55, N_56, N_57, N_58, N_59, N_60, N_61, N_62, N_63, N_64, N_65, N_66, N_67, N_68, N_69, N_70, N_71, N_72, N_73, N_74, N_75, N_76, N_77, N_78, N_79, N_80, N_81, N_82, N_83, N_84, N_85, N_86, N_87, N_88, N_89, N_90, N_91, N_92, N_93, N_94, N_95, N_96, N_97, N_98, N_99, N_100, N_101, N_102, N_103, N_104, N_105, N_106, N_107, N_108, N_109, N_110, N_111, N_112, N_113, N_114, N_115, N_116, N_117, N_118, N_119, N_120, N_121, N_122, N_123, N_124, N_125, N_126, N_127, N_128, N_129, N_130, N_131, N_132, N_133, N_134, N_135, N_136, N_137, N_138, N_139, N_140, N_141, N_142, N_143, N_144, N_145, N_146, N_147, N_148, N_149, N_150, N_151, N_152, N_153, N_154, N_155, N_156, N_157, N_158, N_159, N_160, N_161, N_162, N_163, N_164, N_165, N_166, N_167, N_168, N_169, N_170, N_171, N_172, N_173, N_174, N_175, N_176, N_177, N_178, N_179, N_180, N_181, N_182, N_183, N_184, N_185, N_186, N_187, N_188, N_189, N_190, N_191, N_192, N_193, N_194, N_195, N_196, N_197]
  refine exs_cons ?_
  refine ex_nx (fun V' H' => H' = H ∧ E2 fun o1 o2 => V' = [(157, some t), (153, o1), (59, o2)]) ?_ ?_
  · refine ex_forL (by assumption) rfl ?_
    walk_at "w"
    refine ⟨Addr × Wd, xs, fun p => .ref p.1, .list ha, fun i V' H' => H' = H ∧ E2 fun o1 o2 => V' = [(157, some t), (153, o1), (59, o2)], ⟨rfl, none, none, rfl⟩, ?_, ?_⟩
    · rintro i ⟨w, d⟩ V' H' hi ⟨rfl, o1, o2, rfl⟩
      refine ⟨.list ha, rfl, ?_⟩
      have hd := hx _ (List.mem_of_getElem? hi)
      dsimp only at hd
      have l4 := hd.hL.ok.l4
      have hw := hd.hw
      have hq := hd.hq
      have hp := hd.hp
      obtain ⟨dx, sc, sl, hv, hb⟩ := hd.hv
      have hV : setT [(157, some t), (153, o1), (59, o2)] 153 ((fun p : Addr × Wd => T.ref p.1) (w, d)) = [(157, some t), (153, some (.ref w)), (59, o2)] := rfl
      rw [hV]
      walk_at "w"
      refine ev_comp [] [125] (by decide +kernel) rfl ?_
      unfold CompOk
      walk_at "w"
      refine ⟨Option Key, d.P, oK, fun p => some (pB p), .list (.cell hp), by have := hd.plen; walk_at "la", fun κ hκ fc hg' hc' => ?_, ?_⟩
      · refine ⟨_, rfl, ?_⟩
        cases κ with
        | none =>
          walk_at "w"
          refine ite_t ?_
          walk_at "w"
          exact ⟨rfl, SubH.rfl⟩
        | some κ =>
          walk_at "w"
          refine ite_f ?_
          walk_at "w"
          refine cl_fn (sp_ikey pf (hd.pok.ok _ hκ κ rfl) ?_) (by walk_at "la")
          exact ⟨rfl, SubH.rfl⟩
      rw [fm_some]
      refine op_ne (.cell hq) (.inl rfl) (eqPs _) ?_
      walk_at "w"
      refine ite_f ?_
      walk_at "wi"
      refine ex_forR (by assumption) rfl ?_
      walk_at "w"
      refine cl_len_list (.cell hd.hL.l) (by rw [lvF_len hd.hL.ok.ne]; walk_at "la") ?_
      rw [lvF_len hd.hL.ok.ne]
      walk_at "w"
      refine cl_range1 ?_
      refine ⟨_, _, rfl, by walk_at "la", fun i V2 H2 => H2 = H' ∧ ∃ o2, V2 = [(157, some t), (153, some (.ref w)), (59, o2)], ⟨rfl, _, rfl⟩, ?_, ?_⟩
      · rintro i V2 H2 hi ⟨rfl, o2, rfl⟩
        refine ⟨rfl, ?_⟩
        have ei : (0 : Int) + (i : Int) = (i : Int) := Int.zero_add _
        rw [ei]
        obtain ⟨t1, k1, k2⟩ := hd.hL.get (lev := i) (by walk_at "la")
        have fok := hd.hL.ok.get i
        have fl := fok.len
        walk_at "w"
        have hLi : d.L[i]? = some (d.L.getD i []) := lsome (by walk_at "la")
        refine op_sub_list .tree (by walk_at "la") (by simp; walk_at "la") (u := lvT (d.L.getD i [])) (by rw [Int.toNat_natCast, List.getElem?_map, hLi]; rfl) ?_
        walk_at "w"
        refine cl_fn (sp_metas pf (xs := d.L.getD i []) .tree fl ?_) (by walk_at "la")
        walk_at "w"
        refine op_sub_list (.cell hd.hL.l) (by walk_at "la") (by rw [lvF_len hd.hL.ok.ne]; walk_at "la") (u := t1) (by rw [Int.toNat_natCast]; exact k1) ?_
        walk_at "w"
        refine cl_fn (sp_rows pf (xs := d.L.getD i []) k2 fok ?_) (by walk_at "la")
        refine op_ne (.inl rfl) (.inl rfl) (eqRs _) ?_
        walk_at "w"
        refine ite_f ?_
        walk_at "w"
        exact ⟨rfl, _, rfl⟩
      · rintro V2 H2 ⟨rfl, o2, rfl⟩
        exact ⟨rfl, _, _, rfl⟩
    · rintro V2 H2 ⟨rfl, o1, o2, rfl⟩
      exact ⟨.list ha, rfl, rfl, _, _, rfl⟩
  · rintro V2 H2 ⟨rfl, o1, o2, rfl⟩
    walk_at "w"
    exact ⟨_, SubH.rfl, h⟩
end
end

section
theorem rk_lt {u v m n : Nat} (hm : m < 256) (hn : n < 256) (h : u ≠ v) : ((u : Int) < v) ↔ ((u : Int) * 1000 - m < (v : Int) * 1000 - n) := by omega
theorem rk_lt2 {u m n : Nat} : (-(m : Int) < -(n : Int)) ↔ ((u : Int) * 1000 - m < (u : Int) * 1000 - n) := by omega
theorem ordK {gt : Bool} {d : Nat} {a b : Key} (ha : a.Ok) (hb : b.Ok) : ordT gt (d + 1) (keyT a) (keyT b) = some (if gt then decide (b.rank < a.rank) else decide (a.rank < b.rank)) := by
  have h1 := ha.m
  have h2 := hb.m
  obtain ⟨u, m⟩ := a
  obtain ⟨v, n⟩ := b
  show lex3 (eqT d (.int u) (.int v)) (lex3 (eqT d (.int (-(m : Int))) (.int (-(n : Int)))) (some (if gt then decide (2 < 2) else decide (2 < 2))) (ordT gt d (.int (-(m : Int))) (.int (-(n : Int)))))
    (ordT gt d (.int u) (.int v)) = some (if gt then decide ((v : Int) * 1000 - n < (u : Int) * 1000 - m) else decide ((u : Int) * 1000 - m < (v : Int) * 1000 - n))
  rw [eqT_int, eqT_int, ordT_int, ordT_int]
  by_cases e : u = v
  · subst e
    rw [decide_eq_true rfl]
    by_cases e2 : m = n
    · subst e2
      rw [decide_eq_true rfl]
      cases gt <;> exact congrArg some (decide_eq_false (Int.lt_irrefl _)).symm
    · rw [decide_eq_false (show ¬ (-(m : Int) = -(n : Int)) from fun h => e2 (Int.ofNat.inj (Int.neg_inj.mp h)))]
      cases gt <;> exact congrArg some (decide_eq_decide.mpr rk_lt2)
  · rw [decide_eq_false (show ¬ ((u : Int) = v) from fun h => e (Int.ofNat.inj h))]
    cases gt
    · exact congrArg some (decide_eq_decide.mpr (rk_lt h1 h2 e))
    · exact congrArg some (decide_eq_decide.mpr (rk_lt h2 h1 (Ne.symm e)))
theorem rank_inj {a b : Key} (ha : a.Ok) (hb : b.Ok) (h : a.rank = b.rank) : a = b := by
  have h1 := ha.m
  have h2 := hb.m
  obtain ⟨u, m⟩ := a
  obtain ⟨v, n⟩ := b
  unfold Key.rank at h
  dsimp only at *
  have : u = v := by walk_at "la"
  subst this
  have : m = n := by walk_at "la"
  rw [this]
section
variable {g : Gl} (pf : PF g) {H : Cells} {Q : T → Cells → Prop}
include pf
theorem sp_upperM {w : Addr} {d : Wd} {lev : Nat} {lo hi : Option Nat} {o : Opt} (hd : WLaw H w d) (hl : lev < d.L.length)
    (h : Q (.lst ((upM d.L lev o lo hi).map fT)) H) : FSpec g 6 697 [.ref w, .bool true, .int (lev : Int), oT lo, oT hi, .int o.most] H Q := by
  have l4 := hd.hL.ok.l4
  have hw := hd.hw
  refine fspec_of (m := 5) (ps := [153, 86, 59, 68, 69, 160]) (ls := [130, 159, 73, 70]) (gs := [146, 63, 4]) (cs := [160, 70, 159]) (pf.fn 697 _ rfl) (by decide +kernel) rfl fun f hf hg hc => ?_
  conv => arg 4; whnf
  simp only [N_0, N_1, N_2, N_3, N_4, N_5, N_6, N_7, N_8, N_9, N_10, N_11, N_12, N_13, N_14, N_15, N_16, N_17, N_18, N_19, N_20, N_21, N_22, N_23, N_24, N_25, N_26, N_27, N_28, N_29, N_30, N_31, N_32, N_33, N_34, N_35, N_36, N_37, N_38, N_39, N_40, N_41, N_42, N_43, N_44, N_45, N_46, N_47, N_48, N_49, N_50, N_51, N_52, N_53, N_54, N_55, N_56, N_57, N_58, N_59, N_60, N_61, N_62, N_63, N_64, N_65, N_66, N_67, N_68, N_69, N_70, N_71, N_72, N_73, N_74, N_75, N_76, N_77, N_78, N_79, N_80, N_81, N_82, N_83, N_84, N_85, N_86, N_87, N_88, N_89, N_90, N_91, N_92, N_93, N_94, N_95, N_96, N_97, N_98, N_99, N_100, N_101, N_102, N_103, N_104, N_105, N_106, N_107, N_108, N_109, N_110, N_111, N_112, N_113, N_114, N_115, N_116, N_117, N_118, N_119, N_120, N_121, N_122, N_123, N_124, N_125, N_126, N_127, N_128, N_129, N_130, N_131, N_132, N_133, N_134, N_135, N_136, N_137, N_138, N_139, N_140, N_141, N_142, N_143, N_144, N_145, N_146, N_147, N_148, N_149, N_150, N_151, N_152, N_153, N_154, N_155, N_156, N_157, N_158, N_159, N_160, N_161, N_162, N_163, N_164, N_165, N_166, N_167, N_168, N_169, N_170, N_171, N_172, N_173, N_174, N_175, N_176, N_177, N_178, N_179, N_180, N_181, N_182, N_183, N_184, N_185, N_186, N_187, N_188, N_189, N_190, N_191, N_192, N_193, N_194, N_195, N_196, N_197]
  walk_at "w"
  have fok := hd.hL.ok.get lev
  have eup : upM d.L lev o lo hi = if lev = 0 then ovl lev (d.L.getD lev []) lo hi else cutS o.most (ovl lev (d.L.getD lev []) lo hi) := rfl
  refine cl_fn (sp_joined pf (lev := lev) (lo := lo) (hi := hi) hd.hL hl ?_) (by walk_at "la")
  have ook : FsOk (ovl lev (d.L.getD lev []) lo hi) := ⟨fun x hx => fok.ok x (ovl_sub _ _ _ _ x hx), Nat.le_trans (ovl_len _ _ _ _) fok.len⟩
  generalize ovl lev (d.L.getD lev []) lo hi = xs at ook eup
  have xl := ook.len
  walk_at "w"
  refine ite_dec (fun h0 => ?_) fun h0 => ?_
  · rw [if_pos (by walk_at "la")] at eup
    walk_at "w"
    rw [← eup]
    exact ⟨_, SubH.rfl, h⟩
  · rw [if_neg (by walk_at "la")] at eup
    walk_at "w"
    refine ev_comp [70, 160] [141] (by decide +kernel) (by rw [hc]; rfl) ?_
    unfold CompOk
    walk_at "w"
    refine cl_len_list .tree (by rw [List.length_map]; walk_at "la") ?_
    rw [List.length_map]
    walk_at "w"
    refine cl_range1 ?_
    have e0 : rngItems 0 (xs.length : Int) = (List.range xs.length).map fun j : Nat => T.int (j : Int) := by
      unfold rngItems
      rw [show ((xs.length : Int) - 0).toNat = xs.length by walk_at "la"]
      refine List.map_congr_left fun j _ => ?_
      rw [Int.zero_add]
    refine ⟨Nat, List.range xs.length, fun j => .int (j : Int), fun j => if octets (xs.take j) < o.most then (xs[j]?).map fT else none, by rw [← e0]; exact .rng (by walk_at "la") (by walk_at "la") (by walk_at "la") (by walk_at "la"), by rw [List.length_range]; walk_at "la", fun j hj fc hg' hc' => ?_, ?_⟩
    · have hj' := List.mem_range.mp hj
      unfold CBody
      walk_at "w"
      refine ev_upto ?_
      walk_at "w"
      refine ⟨_, _, .tree, rfl, by walk_at "la", by rw [List.length_map]; walk_at "la", ?_⟩
      rw [Int.toNat_natCast, ← List.map_take]
      walk_at "w"
      refine cl_fn (sp_octets pf (xs := xs.take j) .tree ⟨fun x hx => ook.ok x (List.mem_of_mem_take hx), by rw [List.length_take]; walk_at "la"⟩ ?_) (by walk_at "la")
      walk_at "w"
      refine ⟨SubH.rfl, ?_⟩
      refine ite_dec (fun c => ?_) fun c => ?_
      · try dsimp only
        rw [if_pos c, List.getElem?_eq_getElem hj']
        refine ⟨_, rfl, ?_⟩
        walk_at "w"
        refine op_sub_list .tree (by walk_at "la") (by rw [List.length_map]; walk_at "la") (u := fT xs[j]) (by rw [Int.toNat_natCast, List.getElem?_map, List.getElem?_eq_getElem hj']; rfl) ?_
        exact ⟨rfl, SubH.rfl⟩
      · try dsimp only
        rw [if_neg c]
    · have e1 : (List.range xs.length).filterMap (fun j => if octets (xs.take j) < o.most then (xs[j]?).map fT else none) = (cutS o.most xs).map fT := by
        unfold cutS
        rw [List.map_filterMap]
        refine congrArg (fun f => List.filterMap f _) (funext fun j => ?_)
        split <;> rfl
      rw [e1, ← eup]
      walk_at "w"
      exact ⟨_, SubH.rfl, h⟩
theorem sp_upperP {w : Addr} {d : Wd} {lev : Nat} {b : Best} {lo hi most : T} (hd : WLaw H w d) (hl : lev < d.L.length) (hb : d.b = some b)
    (h0 : b.top < b.bot → Q (.lst []) H) (h1 : b.bot ≤ b.top → d.L.getD lev [] ≠ [] ∧ Q (.lst ((upP d.L lev d.P).map fT)) H) : FSpec g 6 697 [.ref w, .bool false, .int (lev : Int), lo, hi, most] H Q := by
  have l4 := hd.hL.ok.l4
  have hw := hd.hw
  have hp := hd.hp
  rw [hb] at hw
  have hw : H w = some (.list [.ref d.v, .ref d.q, .ref d.ls, .ref d.pl, bT b, .int d.nx]) := hw
  refine fspec_of (m := 5) (ps := [153, 86, 59, 68, 69, 160]) (ls := [130, 159, 73, 70]) (gs := [146, 63, 4]) (cs := [160, 70, 159]) (pf.fn 697 _ rfl) (by decide +kernel) rfl fun f hf hg hc => ?_
  conv => arg 4; whnf
  simp only [N_0, N_1, N_2, N_3, N_4, N_5, N_6, N_7, N_8, N_9, N_10, N_11, N_12, N_13, N_14, N_15, N_16, N_17, N_18, N_19, N_20, N_21, N_22, N_23, N_24, N_25, N_26, N_27, N_28, N_29, N_30, N_31, N_32, N_33, N_34, N_35, N_36, N_37, N_38, N_39, N_40, N_41, N_42, N_43, N_44, N_45, N_46, N_47, N_48, N_49, N_50, N_51, N_52, N_53, N_54, N_55, N_56, N_57, N_58, N_59, N_60, N_61, N_62, N_63, N_64, N_65, N_66, N_67, N_68, N_69, N_70, N_71, N_72, N_73, N_74, N_75, N_76, N_77, N_78, N_79, N_80, N_81, N_82, N_83, N_84, N_85, N_86, N_87, N_88, N_89, N_90, N_91, N_92, N_93, N_94, N_95, N_96, N_97, N_98, N_99, N_100, N_101, N_102, N_103, N_104, N_105, N_106, N_107, N_108, N_109, N_110, N_111, N_112, N_113, N_114, N_115, N_116, N_117, N_118, N_119, N_120, N_121, N_122, N_123, N_124, N_125, N_126, N_127, N_128, N_129, N_130, N_131, N_132, N_133, N_134, N_135, N_136, N_137, N_138, N_139, N_140, N_141, N_142, N_143, N_144, N_145, N_146, N_147, N_148, N_149, N_150, N_151, N_152, N_153, N_154, N_155, N_156, N_157, N_158, N_159, N_160, N_161, N_162, N_163, N_164, N_165, N_166, N_167, N_168, N_169, N_170, N_171, N_172, N_173, N_174, N_175, N_176, N_177, N_178, N_179, N_180, N_181, N_182, N_183, N_184, N_185, N_186, N_187, N_188, N_189, N_190, N_191, N_192, N_193, N_194, N_195, N_196, N_197]
  walk_at "w"
  walk_at "k"
  walk_at "k"
  refine ite_dec (fun hlt => ?_) fun hlt => ?_
  · walk_at "w"
    refine ev_list ?_
    walk_at "w"
    exact ⟨_, SubH.rfl, h0 hlt⟩
  obtain ⟨hne, h⟩ := h1 (by walk_at "la")
  have fok := hd.hL.ok.get lev
  have fl := fok.len
  obtain ⟨pp, hpp⟩ : ∃ pp, d.P[lev]? = some pp := ⟨_, List.getElem?_eq_getElem (by have := hd.plen; walk_at "la")⟩
  have eP : d.P.getD lev none = pp := by rw [List.getD_eq_getElem?_getD, hpp]; rfl
  have eup : upP d.L lev d.P = if lev = 0 then ovlS d.L 0 [firstP pp (d.L.getD lev [])] else [firstP pp (d.L.getD lev [])] := by unfold upP; rw [eP]
  obtain ⟨t1, k1, k2⟩ := hd.hL.get hl
  have e1 := lvF_len (a := d.a0) hd.hL.ok.ne
  generalize hxs : d.L.getD lev [] = xs at hne fok fl eup k2
  walk_at "w"
  refine op_sub_list (.cell hp) (by walk_at "la") (by rw [List.length_map]; have := hd.plen; walk_at "la") (u := oK pp) (by rw [Int.toNat_natCast, List.getElem?_map, hpp]; rfl) ?_
  walk_at "wi"
  refine ev_comp [159] [] (by decide +kernel) (by rw [hc]; rfl) ?_
  unfold CompOk
  walk_at "w"
  refine op_sub_list (.cell hd.hL.l) (by walk_at "la") (by walk_at "la") (u := t1) (by rw [Int.toNat_natCast]; exact k1) ?_
  refine ⟨F, xs, fT, fun x => if behind pp x then some (fT x) else none, .list k2, by walk_at "la", fun x hx fc hg' hc' => ?_, ?_⟩
  · have xok := fok.ok x hx
    unfold CBody
    cases pp with
    | none =>
      walk_at "w"
      refine ite_t ?_
      walk_at "w"
      exact ⟨SubH.rfl, _, rfl, ev_name rfl ⟨rfl, SubH.rfl⟩⟩
    | some κ =>
      have κok := hd.pok.ok _ (List.mem_of_getElem? hpp) κ rfl
      walk_at "w"
      refine ite_f ?_
      walk_at "w"
      walk_at "k"
      refine op_gt_tup (ordK (gt := true) (d := 7) xok.hi κok) ?_
      walk_at "w"
      refine ite_dec (fun c => ?_) fun c => ?_
      · walk_at "w"
        refine ⟨SubH.rfl, ?_⟩
        try dsimp only
        rw [if_pos (show behind (some κ) x = true by unfold behind; simpa using c)]
        exact ⟨_, rfl, ev_name rfl ⟨rfl, SubH.rfl⟩⟩
      · walk_at "w"
        refine ⟨SubH.rfl, ?_⟩
        try dsimp only
        rw [if_neg (show ¬ behind (some κ) x = true by unfold behind; simpa using c)]
        rfl
  rw [fm_if]
  have hlt2 := List.length_filter_le (behind pp) xs
  have hfst : (xs.filter (behind pp) ++ xs)[0]? = some (firstP pp xs) := by
    unfold firstP
    cases e : xs.filter (behind pp) ++ xs with
    | nil => exact absurd (List.append_eq_nil_iff.mp e).2 hne
    | cons a b => rfl
  have fmem : firstP pp xs ∈ xs := by
    have := List.mem_of_getElem? hfst
    rcases List.mem_append.mp this with h | h
    · exact (List.mem_filter.mp h).1
    · exact h
  have ffok : FsOk [firstP pp xs] := ⟨fun y hy => by
    simp only [List.mem_singleton] at hy; subst hy; exact fok.ok _ fmem, by simp⟩
  generalize firstP pp xs = x0 at eup hfst fmem ffok
  walk_at "w"
  refine op_sub_list (.cell hd.hL.l) (by walk_at "la") (by walk_at "la") (u := t1) (by rw [Int.toNat_natCast]; exact k1) ?_
  refine op_add_lists (ts := (xs.filter (behind pp)).map fT) (us := xs.map fT) .tree k2 (by rw [List.length_map, List.length_map]; walk_at "la") ?_
  rw [← List.map_append]
  walk_at "w"
  refine op_sub_list .tree (by walk_at "la") (by rw [List.length_map, List.length_append]; walk_at "la") (u := fT x0) (by rw [show (0 : Int).toNat = 0 from rfl, List.getElem?_map, hfst]; rfl) ?_
  walk_at "w"
  refine ite_dec (fun hl0 => ?_) fun hl0 => ?_
  · rw [if_neg (by walk_at "la")] at eup
    walk_at "w"
    refine ev_list ?_
    walk_at "w"
    rw [eup] at h
    exact ⟨_, SubH.rfl, h⟩
  · rw [if_pos (by walk_at "la")] at eup
    walk_at "w"
    walk_at "k"
    walk_at "k"
    walk_at "k"
    walk_at "k"
    refine cl_fn (sp_joined pf (lev := 0) (lo := some x0.lo.u) (hi := some x0.hi.u) hd.hL (by walk_at "la") ?_) (by walk_at "la")
    have : ovl 0 (d.L.getD 0 []) (some x0.lo.u) (some x0.hi.u) = ovlS d.L 0 [x0] := rfl
    rw [this, ← eup]
    exact ⟨_, SubH.rfl, h⟩
end
end

section
theorem hiK_eq {xs : List F} (hne : xs ≠ []) (hok : ∀ x ∈ xs, x.Ok) {m : Key} (hm : m ∈ xs.map (·.hi)) (hl : ∀ x ∈ xs.map (·.hi), x.rank ≤ m.rank) : m = hiK xs := by
  obtain ⟨x, hx, e⟩ := hiK_mem hne
  obtain ⟨y, hy, rfl⟩ := List.mem_map.mp hm
  have h1 := hl x.hi (List.mem_map.mpr ⟨x, hx, rfl⟩)
  have h2 := hiK_max y hy
  rw [e] at h2 ⊢
  exact rank_inj (hok y hy).hi (hok x hx).hi (by walk_at "la")
section
variable {g : Gl} (pf : PF g) {H : Cells} {Q : T → Cells → Prop}
include pf
theorem sp_maxkey {f : Fm} {n : Nat} {V : Vs} {t : T} {xs : List F} (ha : AsList H t (xs.map fun x => keyT x.hi)) (hne : xs ≠ []) (hok : ∀ x ∈ xs, x.Ok) (h : Q (keyT (hiK xs)) H) : Cl g f n (.builtin "max") [t] V H Q := by
  have hkok : ∀ k ∈ xs.map (·.hi), Key.Ok k := fun k hk => by
    obtain ⟨x, hx, rfl⟩ := List.mem_map.mp hk
    exact (hok x hx).hi
  refine cl_max (xs := xs.map (·.hi)) (enc := keyT) (gt := fun a b => decide (b.rank < a.rank)) (by rw [List.map_map]; exact ha) (by simpa using hne) (fun a ha b hb => ordK (gt := true) (d := 7) (hkok a ha) (hkok b hb)) (fun a => by simp) (fun a b c h1 h2 => by
    simp only [decide_eq_false_iff_not, decide_eq_true_eq] at *; walk_at "la") fun m hm hl => ?_
  rw [hiK_eq hne hok hm fun x hx => by have := hl x hx; simpa using this]
  exact h
set_option maxHeartbeats 2000000 in
theorem sp_told {lev : Nat} {v : T} {o : Opt} {man : Bool} {up lower gr : List F} (ho : o.Ok) (hu : FsOk up) (hw : FsOk lower) (hgr : FsOk gr) (hne : up ≠ [])
    (h : Q (.bool true) H) : FSpec g 8 709 [compT (.int (lev : Int)) v o man up lower gr [.tup [.int (lev : Int), .bytes (ikB (hiK up))]], .int (lev : Int), .bool man, .lst (up.map fT), .lst (lower.map fT), .lst (gr.map fT), o.T] H Q := by
  have ul := hu.len
  have wl := hw.len
  have gl := hgr.len
  have om := ho.m1
  have og := ho.g1
  refine fspec_of (m := 7) (ps := [19, 59, 86, 162, 164, 165, 81]) (ls := [169]) (gs := [137, 135, 4, 125, 144, 141]) (cs := []) (pf.fn 709 _ rfl) (by decide +kernel) rfl fun f hf hg hc => ?_
  conv => arg 4; whnf
  simp only [N_0, N_1, N_2, N_3, N_4, N_5, N_6, N_7, N_8, N_9, N_10, N_11, N_12, N_13, N_14, N_15, N_16, N_17, N_18, N_19, N_20, N_21, N_22, N_23, N_24, N_25, N_26, N_27, N_28, N_29, N_30, N_31, N_32, N_33, N_34, N_35, N_36, N_37, N_38, N_39, N_40, N_41, N_42, N_43, N_44, N_45, N_46, N_47, N_48, N_49, N_50, N_51, N_52, N_53, N_54, N_55, N_56, N_57, N_58, N_59, N_60, N_61, N_62, N_63, N_64, N_65, N_66, N_67, N_68, N_69, N_70, N_71, N_72, N_73, N_74, N_75, N_76, N_77, N_78, N_79, N_80, N_81, N_82, N_83, N_84, N_85, N_86, N_87, N_88, N_89, N_90, N_91, N_92, N_93, N_94, N_95, N_96, N_97, N_98, N_99, N_100, N_101, N_102, N_103, N_104, N_105, N_106, N_107, N_108, N_109, N_110, N_111, N_112, N_113, N_114, N_115, N_116, N_117, N_118, N_119, N_120, N_121, N_122, N_123, N_124, N_125, N_126, N_127, N_128, N_129, N_130, N_131, N_132, N_133, N_134, N_135, N_136, N_137, N_138, N_139, N_140, N_141, N_142, N_143, N_144, N_145, N_146, N_147, N_148, N_149, N_150, N_151, N_152, N_153, N_154, N_155, N_156, N_157, N_158, N_159, N_160, N_161, N_162, N_163, N_164, N_165, N_166, N_167, N_168, N_169, N_170, N_171, N_172, N_173, N_174, N_175, N_176, N_177, N_178, N_179, N_180, N_181, N_182, N_183, N_184, N_185, N_186, N_187, N_188, N_189, N_190, N_191, N_192, N_193, N_194, N_195, N_196, N_197]
  repeat walk_at "s"
  refine ite_ndec (fun c => absurd rfl c) fun _ => ?_
  repeat walk_at "s"
  refine op_ne_bool ?_
  rw [bne_self_eq_false]
  repeat walk_at "s"
  refine op_sub_list .tree (by decide) (Nat.le_of_ble_eq_true rfl) (u := lvT up) rfl ?_
  repeat walk_at "s"
  refine cl_fn (sp_metas pf (xs := up) .tree ul ?_) (by walk_at "la")
  repeat walk_at "s"
  refine cl_fn (sp_rows pf (xs := up) .tree hu ?_) (by walk_at "la")
  refine op_ne (.inl rfl) (.inl rfl) (eqRs _) ?_
  repeat walk_at "s"
  refine ite_f ?_
  repeat walk_at "s"
  refine op_sub_list .tree (by decide) (Nat.le_of_ble_eq_true rfl) (u := lvT lower) rfl ?_
  repeat walk_at "s"
  refine cl_fn (sp_metas pf (xs := lower) .tree wl ?_) (by walk_at "la")
  repeat walk_at "s"
  refine cl_fn (sp_rows pf (xs := lower) .tree hw ?_) (by walk_at "la")
  refine op_ne (.inl rfl) (.inl rfl) (eqRs _) ?_
  repeat walk_at "s"
  refine ite_f ?_
  repeat walk_at "s"
  refine cl_fn (sp_metas pf (xs := gr) .tree gl ?_) (by walk_at "la")
  repeat walk_at "s"
  refine cl_fn (sp_rows pf (xs := gr) .tree hgr ?_) (by walk_at "la")
  refine op_ne (.inl rfl) (.inl rfl) (eqRs _) ?_
  repeat walk_at "s"
  refine ite_f ?_
  repeat walk_at "s"
  refine cl_len_list (ts := []) .tree (by simp) ?_
  repeat walk_at "s"
  refine cl_len_list (ts := []) .tree (by simp) ?_
  repeat walk_at "s"
  refine ite_dec (fun c => absurd c (by decide)) fun _ => ?_
  repeat walk_at "s"
  refine ev_list ?_
  repeat walk_at "s"
  refine ev_comp [] [] (by decide +kernel) rfl ?_
  unfold CompOk
  repeat walk_at "s"
  refine ⟨F, up, fT, fun x => some (keyT x.hi), .list .tree, by walk_at "la", fun x hx fc hg' hc' => ?_, ?_⟩
  · refine ⟨_, rfl, ?_⟩
    repeat walk_at "s"
    walk_at "k"
    exact ⟨rfl, SubH.rfl⟩
  rw [fm_some]
  repeat walk_at "s"
  refine sp_maxkey pf .tree hne hu.ok ?_
  repeat walk_at "s"
  refine cl_fn (sp_ikey pf (hiK_ok hu.ok) ?_) (by walk_at "la")
  repeat walk_at "s"
  refine op_ne (.inl rfl) (.inl rfl) (r := true) (congrArg some (by simp)) ?_
  repeat walk_at "s"
  refine ite_f ?_
  refine exs_nil ?_
  refine seq_next ?_
  generalize hC : compT (.int (lev : Int)) v o man up lower gr [.tup [.int (lev : Int), .bytes (ikB (hiK up))]] = C
  refine exs_cons (ex_nx (fun V' H' => H' = H ∧ V' = [(19, some C), (59, some (.int lev)), (86, some (.bool man)), (162, some (.lst (up.map fT))), (164, some (.lst (lower.map fT))), (165, some (.lst (gr.map fT))), (81, some o.T), (169, some (.bool (decide (up.length = 1) && decide (lower.length = 0))))]) ?_ ?_)
  · refine ex_assign (by assumption) rfl ?_
    refine ev_and2 ?_
    walk_at "w"
    refine cl_len_list .tree (by rw [List.length_map]; walk_at "la") ?_
    rw [List.length_map]
    walk_at "w"
    refine ite_dec (fun c => ?_) fun c => ?_
    · walk_at "w"
      refine cl_len_list .tree (by rw [List.length_map]; walk_at "la") ?_
      rw [List.length_map]
      walk_at "w"
      refine ⟨rfl, rfl, ?_⟩
      have e1 : up.length = 1 := by walk_at "la"
      have e2 : decide ((lower.length : Int) = 0) = decide (lower.length = 0) := decide_eq_decide.mpr (by walk_at "la")
      rw [e1, e2]; rfl
    · refine ⟨rfl, rfl, ?_⟩
      have e1 : ¬ up.length = 1 := by walk_at "la"
      rw [decide_eq_false e1]; rfl
  rintro V' H' ⟨rfl, rfl⟩
  subst hC
  walk_at "w"
  refine (sp_trivial pf ho (by walk_at "la") (by walk_at "la") ?_).le (by walk_at "la")
  refine ev_and2 ?_
  walk_at "w"
  refine ite_b (fun c => ?_) fun c => ?_
  · walk_at "w"
    refine cl_fn (sp_octets pf (xs := gr) .tree hgr ?_) (by walk_at "la")
    walk_at "w"
    walk_at "o"
    walk_at "o"
    refine op_mul_int (abs60 (by assumption)) ?_
    walk_at "w"
    refine op_eq_bool ?_
    refine ⟨_, SubH.rfl, ?_⟩
    have : (trivB o up lower gr == decide (octets gr ≤ o.grand * o.most)) = true := by unfold trivB; rw [c]; simp
    try dsimp only
    rw [this]; exact h
  · refine op_eq_bool ?_
    refine ⟨_, SubH.rfl, ?_⟩
    have : (trivB o up lower gr == false) = true := by unfold trivB; rw [c]; rfl
    try dsimp only
    rw [this]; exact h
end
end

section
noncomputable def tot (L : List (List F)) : Nat := (L.map List.length).sum
theorem tot_set : ∀ {L : List (List F)} {i : Nat} {l : List F}, i < L.length → tot (L.set i l) + (L.getD i []).length = tot L + l.length
  | [], i, l, h => by simp at h
  | x :: r, 0, l, h => by simp [tot]; walk_at "la"
  | x :: r, i + 1, l, h => by
    have := tot_set (L := r) (i := i) (l := l) (by simpa using h)
    simp only [tot, List.set_cons_succ, List.map_cons, List.sum_cons, List.getD_cons_succ] at *
    walk_at "la"
theorem tot_get : ∀ {L : List (List F)} {i : Nat}, (L.getD i []).length ≤ tot L
  | [], i => by simp [tot]
  | x :: r, 0 => by simp [tot]
  | x :: r, i + 1 => by
    have := tot_get (L := r) (i := i)
    simp only [tot, List.map_cons, List.sum_cons, List.getD_cons_succ] at *
    walk_at "la"
theorem tot_get2 : ∀ {L : List (List F)} {i : Nat}, (L.getD i []).length + (L.getD (i + 1) []).length ≤ tot L
  | [], i => by simp [tot]
  | x :: r, 0 => by
    have := tot_get (L := r) (i := 0)
    simp only [tot, List.map_cons, List.sum_cons, List.getD_cons_succ, List.getD_cons_zero] at *
    walk_at "la"
  | x :: r, i + 1 => by
    have := tot_get2 (L := r) (i := i)
    simp only [tot, List.map_cons, List.sum_cons, List.getD_cons_succ] at *
    walk_at "la"
theorem LsOk.set {L : List (List F)} (h : LsOk L) {i : Nat} {l : List F} (hl : FsOk l) : LsOk (L.set i l) :=
  ⟨fun x hx => (List.mem_or_eq_of_mem_set hx).elim (h.ok x) fun e => e ▸ hl, by rw [List.length_set]; exact h.l3, by rw [List.length_set]; exact h.l4⟩
theorem getD_set {L : List (List F)} {i j : Nat} {l : List F} (h : i ≠ j) : (L.set i l).getD j [] = L.getD j [] := by
  rw [List.getD_eq_getElem?_getD, List.getD_eq_getElem?_getD, List.getElem?_set_ne h]
theorem lvF_set0 {a a' : Addr} {L : List (List F)} {l : List F} (h : L ≠ []) : (lvF a L).set 0 (.ref a') = lvF a' (L.set 0 l) := by
  cases L with
  | nil => exact absurd rfl h
  | cons x r => rfl
theorem lvF_setS {a : Addr} {L : List (List F)} {l : List F} {i : Nat} (h : L ≠ []) : (lvF a L).set (i + 1) (.lst (l.map fT)) = lvF a (L.set (i + 1) l) := by
  cases L with
  | nil => exact absurd rfl h
  | cons x r => simp [lvF, List.map_set]
theorem headD_setS {L : List (List F)} {l : List F} {i : Nat} : (L.set (i + 1) l).headD [] = L.headD [] := by
  cases L <;> rfl
theorem headD_set0 {L : List (List F)} {l : List F} (h : L ≠ []) : (L.set 0 l).headD [] = l := by
  cases L with
  | nil => exact absurd rfl h
  | cons x r => rfl
theorem lex3_ex {o x y : Option Bool} (ho : ∃ r, o = some r) (hx : ∃ r, x = some r) (hy : ∃ r, y = some r) : ∃ r, lex3 o x y = some r := by
  obtain ⟨b, rfl⟩ := ho
  cases b with
  | true => exact hx
  | false => exact hy
theorem ordF {d : Nat} (a b : F) (ha : a.Ok) (hb : b.Ok) : ∃ r, ordT false (d + 3) (fT a) (fT b) = some r :=
  lex3_ex ⟨_, rfl⟩ (lex3_ex ⟨_, rfl⟩ (lex3_ex ⟨_, eqK _ _⟩ (lex3_ex ⟨_, eqK _ _⟩ ⟨_, rfl⟩ ⟨_, ordK ha.hi hb.hi⟩) ⟨_, ordK ha.lo hb.lo⟩) ⟨_, rfl⟩) ⟨_, rfl⟩
theorem ordP (a b : F) (ha : a.Ok) (hb : b.Ok) : ∃ r, ordT false 8 (.tup [keyT a.lo, fT a]) (.tup [keyT b.lo, fT b]) = some r :=
  lex3_ex ⟨_, eqK (d := 6) _ _⟩ (lex3_ex ⟨_, eqF (d := 5) _ _⟩ ⟨_, rfl⟩ (ordF (d := 4) a b ha hb)) ⟨_, ordK ha.lo hb.lo⟩
end

section
theorem usr_le_of {ys : List Key} (hok : ∀ k ∈ ys, k.Ok) (hp : ys.Pairwise (fun a b => a.rank ≤ b.rank)) {a b : Key} (ha : ys[0]? = some a) (hb : ys[ys.length - 1]? = some b) : a.u ≤ b.u := by
  obtain ⟨h1, e1⟩ := List.getElem?_eq_some_iff.mp ha
  obtain ⟨h2, e2⟩ := List.getElem?_eq_some_iff.mp hb
  subst e1; subst e2
  by_cases h : 0 = ys.length - 1
  · exact Nat.le_of_eq (by congr 2)
  · exact rank_u (hok _ (List.getElem_mem _)) (hok _ (List.getElem_mem _)) (List.pairwise_iff_getElem.mp hp 0 (ys.length - 1) h1 h2 (by walk_at "la"))
noncomputable def kf (up : List F) (x : F) : Bool := !((up.map fT).any fun a => (eqT 8 a (fT x)).getD false)
theorem kf_ok {up : List F} {x : F} : ∀ a ∈ up.map fT, eqT 8 a (fT x) = some ((eqT 8 a (fT x)).getD false) := fun a ha => by
  obtain ⟨z, _, rfl⟩ := List.mem_map.mp ha
  rw [eqF (d := 6)]; rfl
theorem cl_sorted_files {g : Gl} {f : Fm} {n : Nat} {V : Vs} {H : Cells} {Q : T → Cells → Prop} {t : T} {rs : List F} (ha : AsList H t (rs.map fun x => .tup [keyT x.lo, fT x])) (hok : ∀ x ∈ rs, x.Ok) (h1 : 1 ≤ rs.length) (h64 : rs.length < 64)
    (h : ∀ ys : List F, ys.Perm rs → Q (.lst (ys.map fun x => .tup [keyT x.lo, fT x])) H) : Cl g f n (.builtin "sorted") [t] V H Q := by
  by_cases h2 : 2 ≤ rs.length
  · exact cl_sorted (enc := fun x : F => T.tup [keyT x.lo, fT x]) (fi := false) (ltf := fun a b => (ordT false 8 (.tup [keyT a.lo, fT a]) (.tup [keyT b.lo, fT b])).getD false) ha h2 h64 F0 (fun a _ => ⟨_, _, rfl, _, rfl⟩) (fun a ha b hb => by
      obtain ⟨r, e⟩ := ordP a b (hok a ha) (hok b hb)
      rw [e]; rfl) h
  · obtain ⟨x, rfl⟩ : ∃ x, rs = [x] := List.length_eq_one_iff.mp (by walk_at "la")
    exact cl_sorted_one ha (h [x] (List.Perm.refl _))
theorem comp_notin {g : Gl} {f : Fm} {n : Nat} {V : Vs} {H : Cells} {K : List T → Cells → Prop} {scope : Scope} {ku : Nat} {iter : Expr} {p1 p2 p3 p4 : Pos} {xs up : List F} (hku : 136 ≠ ku) (hup : getT V ku = some (.lst (up.map fT)))
    (h : Ev g f n iter V H fun t H1 => AsList H1 t (xs.map fT) ∧ xs.length ≤ 100000 ∧ K ((xs.filter (kf up)).map fT) H1) :
    CompOk g f n scope 136 [ku] [] iter [.Compare (.Name (nm 136) p1) [.NotIn] [.Name (nm ku) p2] p3] (.Name (nm 136) p4) V H K := by
  unfold CompOk
  refine h.mono fun t H1 ⟨h1, h2, h3⟩ => ?_
  refine ⟨F, xs, fT, fun x => if kf up x then some (fT x) else none, .list h1, h2, fun x hx fc hg' hc' => ?_, by rw [fm_if]; exact h3⟩
  have e1 : getT ((136, some (fT x)) :: capV V [ku]) ku = some (.lst (up.map fT)) := by
    rw [getT_miss hku]
    show getT [(ku, getT V ku)] ku = _
    rw [getT_hit rfl, hup]
  unfold CBody
  refine ts_cmp (ev_name rfl (ev_name e1 (op_notin (p := fun a => (eqT 8 a (fT x)).getD false) .tree kf_ok ⟨_, rfl, SubH.rfl, ?_⟩)))
  refine ite_b (fun c => ?_) fun c => ?_
  · try dsimp only
    rw [if_pos (show kf up x = true from c)]
    exact ⟨_, rfl, ev_name rfl ⟨rfl, SubH.rfl⟩⟩
  · try dsimp only
    rw [if_neg (show ¬ kf up x = true by unfold kf; rw [c]; decide)]
section
variable {g : Gl} (pf : PF g) {H : Cells} {Q : T → Cells → Prop}
include pf
set_option maxHeartbeats 8000000 in
theorem sp_done {w : Addr} {d : Wd} {lev : Nat} {up lower : List F} {triv : Bool} {y : Int} (hd : WAt H w d) (hl : lev + 2 ≤ d.L.length) (hu : FsOk up) (hlo : FsOk lower) (hne : up ≠ []) (hb : up.length + lower.length ≤ 31) (ht : triv = true → up.length = 1)
    (hy : 0 ≤ y) (hT : tot d.L ≤ 40)
    (h : ∀ H' d', WAt H' w d' → Kept (own w d) H H' → (∀ x ∈ own w d', x ∈ own w d ∨ H x = none) → d'.L.length = d.L.length → tot d'.L ≤ tot d.L + 2 → d'.b = none → Q .none H') :
    FSpec g 9 714 [.ref w, .int (lev : Int), .lst (up.map fT), .lst (lower.map fT), .bool triv, .int y, iordT] H Q := by
  have l4 := hd.hL.ok.l4
  have hw := hd.hw
  have ul := hu.len
  have wl := hlo.len
  have nd := hd.ne
  have hul : 1 ≤ up.length := List.length_pos_iff.mpr hne
  refine fspec_of (m := 8) (ps := [153, 59, 162, 164, 94, 126, 57]) (ls := [130, 171, 172, 105, 173, 174]) (gs := [175, 4, 138]) (cs := [162, 164, 173]) (pf.fn 714 _ rfl) (by decide +kernel) rfl fun f hf hg hc => ?_
  conv => arg 4; whnf
  simp only [N_0, N_1, N_2, N_3, N_4, N_5, N_6, N_7, N_8, N_9, N_10, N_11, N_12, N_13, N_14, N_15, N_16, N_17, N_18, N_19, N_20, N_21, N_22, N_23, N_24, N_25, N_26, N_27, N_28, N_29, N_30, N_31, N_32, N_33, N_34, N_35, N_36, N_37, N_38, N_39, N_40, N_41, N_42, N_43, N_44, N_45, N_46, N_47, N_48, N_49, N_50, N_51, N_52, N_53, N_54, N_55, N_56, N_57, N_58, N_59, N_60, N_61, N_62, N_63, N_64, N_65, N_66, N_67, N_68, N_69, N_70, N_71, N_72, N_73, N_74, N_75, N_76, N_77, N_78, N_79, N_80, N_81, N_82, N_83, N_84, N_85, N_86, N_87, N_88, N_89, N_90, N_91, N_92, N_93, N_94, N_95, N_96, N_97, N_98, N_99, N_100, N_101, N_102, N_103, N_104, N_105, N_106, N_107, N_108, N_109, N_110, N_111, N_112, N_113, N_114, N_115, N_116, N_117, N_118, N_119, N_120, N_121, N_122, N_123, N_124, N_125, N_126, N_127, N_128, N_129, N_130, N_131, N_132, N_133, N_134, N_135, N_136, N_137, N_138, N_139, N_140, N_141, N_142, N_143, N_144, N_145, N_146, N_147, N_148, N_149, N_150, N_151, N_152, N_153, N_154, N_155, N_156, N_157, N_158, N_159, N_160, N_161, N_162, N_163, N_164, N_165, N_166, N_167, N_168, N_169, N_170, N_171, N_172, N_173, N_174, N_175, N_176, N_177, N_178, N_179, N_180, N_181, N_182, N_183, N_184, N_185, N_186, N_187, N_188, N_189, N_190, N_191, N_192, N_193, N_194, N_195, N_196, N_197]
  walk_at "w"
  refine ev_listX ?_
  walk_at "w"
  intro fa H1 nfa hfa hs1
  have hd1 := hd.keep fun x _ c e => hs1 x c e
  have hfaw : fa ∉ own w d := fun hm => by obtain ⟨c, e⟩ := hd.live fa hm; rw [nfa] at e; cases e
  have hwfa : w ≠ fa := by rintro rfl; exact hfaw (by simp [own])
  have hw1 := hd1.hw
  walk_at "wi"
  refine exs_cons (ex_nx (fun V' H' => E7 fun (fr : List F) (nx : Int) (tf : T) (o1 o2 o3 o4 : Option T) => A7 (V' = [(153, some (.ref w)), (59, some (.int lev)), (162, some (.lst (up.map fT))), (164, some (.lst (lower.map fT))), (94, some (.bool triv)), (126, some (.int y)), (57, some iordT), (130, some (.ref d.ls)), (171, some tf), (172, o1), (105, o2), (173, o3), (174, o4)]) ((tf = .lst (fr.map fT) ∨ tf = .ref fa ∧ H' fa = some (.list (fr.map fT)))) (fr ≠ []) (fr.length ≤ 2) ((∀ x ∈ fr, x.Ok)) (H' w = some (.list [.ref d.v, .ref d.q, .ref d.ls, .ref d.pl, wT d.b, .int nx])) (∀ a c, a ≠ w → a ≠ fa → H a = some c → H' a = some c)) ?_ ?_)
  · walk_at "wi"
    cases triv with
    | true =>
      walk_at "w"
      exact ⟨rfl, up, d.nx, _, _, _, _, _, rfl, .inl rfl, hne, by rw [ht rfl]; walk_at "la", hu.ok, hw1, fun a c _ _ e => hs1 a c e⟩
    | false =>
      walk_at "w"
      have ulen : (up ++ lower).length = up.length + lower.length := List.length_append
      refine ev_comp [] [] (by decide +kernel) rfl ?_
      unfold CompOk
      walk_at "w"
      refine op_add_lists (ts := up.map fT) (us := lower.map fT) .tree .tree (by rw [List.length_map, List.length_map]; walk_at "la") ?_
      rw [← List.map_append]
      refine ⟨F, up ++ lower, fT, fun x => some (keyT x.lo), .list .tree, by walk_at "la", fun x hx fc hg' hc' => ⟨_, rfl, ?_⟩, ?_⟩
      · walk_at "w"
        walk_at "k"
        exact ⟨rfl, SubH.rfl⟩
      rw [fm_some]
      walk_at "w"
      refine ev_comp [] [] (by decide +kernel) rfl ?_
      unfold CompOk
      walk_at "w"
      refine op_add_lists (ts := up.map fT) (us := lower.map fT) .tree .tree (by rw [List.length_map, List.length_map]; walk_at "la") ?_
      rw [← List.map_append]
      refine ⟨F, up ++ lower, fT, fun x => some (keyT x.hi), .list .tree, by walk_at "la", fun x hx fc hg' hc' => ⟨_, rfl, ?_⟩, ?_⟩
      · walk_at "w"
        walk_at "k"
        exact ⟨rfl, SubH.rfl⟩
      rw [fm_some]
      refine op_add_lists (ts := (up ++ lower).map fun x => keyT x.lo) (us := (up ++ lower).map fun x => keyT x.hi) .tree .tree (by rw [List.length_map, List.length_map]; walk_at "la") ?_
      have e1 : ((up ++ lower).map fun x => keyT x.lo) ++ ((up ++ lower).map fun x => keyT x.hi) = ((up ++ lower).map (·.lo) ++ (up ++ lower).map (·.hi)).map keyT := by
        rw [List.map_append (f := keyT), List.map_map, List.map_map]; rfl
      rw [e1]
      have kok : ∀ k ∈ (up ++ lower).map (·.lo) ++ (up ++ lower).map (·.hi), Key.Ok k := fun k hk => by
        have hxok := hu.app hlo
        rcases List.mem_append.mp hk with hk | hk
        · obtain ⟨x, hx, rfl⟩ := List.mem_map.mp hk
          exact (hxok x hx).lo
        · obtain ⟨x, hx, rfl⟩ := List.mem_map.mp hk
          exact (hxok x hx).hi
      have klen : ((up ++ lower).map (·.lo) ++ (up ++ lower).map (·.hi)).length = 2 * (up.length + lower.length) := by
        rw [List.length_append, List.length_map, List.length_map]; walk_at "la"
      generalize (up ++ lower).map (·.lo) ++ (up ++ lower).map (·.hi) = ks at kok klen
      walk_at "w"
      refine cl_sorted_key (xs := ks) (enc := keyT) (fi := true) .tree (by walk_at "la") (by walk_at "la") ⟨0, 0⟩ (fun a _ => ⟨_, _, rfl, _, rfl⟩) (key := Key.rank) (fun a ha b hb => ordK (gt := false) (d := 7) (kok a ha) (kok b hb)) fun ys hperm hpw => ?_
      have yok : ∀ k ∈ ys, Key.Ok k := fun k hk => kok k (hperm.mem_iff.mp hk)
      have ylen := hperm.length_eq
      walk_at "w"
      refine cl_len_list .tree (by rw [List.length_map]; walk_at "la") ?_
      rw [List.length_map]
      refine op_mod_int (by walk_at "la") ?_
      obtain ⟨pi, hpi⟩ : ∃ pi : Nat, y % (ys.length : Int) = (pi : Int) := ⟨(y % (ys.length : Int)).toNat, by
        have := Int.emod_nonneg y (show (ys.length : Int) ≠ 0 by walk_at "la"); walk_at "la"⟩
      have hpil : pi < ys.length := by
        have := Int.emod_lt_of_pos y (show (0 : Int) < ys.length by walk_at "la"); walk_at "la"
      rw [hpi]
      refine op_sub_list .tree (by walk_at "la") (by rw [List.length_map]; walk_at "la") (u := keyT ys[pi]) (by rw [Int.toNat_natCast, List.getElem?_map, List.getElem?_eq_getElem hpil]; rfl) ?_
      have hpm : ys[pi] ∈ ys := List.getElem_mem hpil
      generalize ys[pi] = pk at hpm ⊢
      walk_at "w"
      walk_at "k"
      walk_at "wi"
      refine ex_forL (by assumption) rfl ?_
      walk_at "w"
      refine ev_list ?_
      refine evs_cons ?_
      refine ev_comp [173] [] (by decide +kernel) (by rw [hc]; rfl) ?_
      unfold CompOk
      walk_at "w"
      refine ⟨Key, ys, keyT, fun k => if decide (k.u ≤ pk.u) then some (keyT k) else none, .list .tree, by walk_at "la", fun k hk fc hg' hc' => ?_, ?_⟩
      · unfold CBody
        walk_at "w"
        walk_at "k"
        refine ⟨SubH.rfl, ?_⟩
        refine ite_dec (fun c => ?_) fun c => ?_
        · try dsimp only
          rw [if_pos (by simpa using c)]
          exact ⟨_, rfl, ev_name rfl ⟨rfl, SubH.rfl⟩⟩
        · try dsimp only
          rw [if_neg (by simpa using c)]
      rw [fm_if]
      refine evs_cons ?_
      refine ev_comp [173] [] (by decide +kernel) (by rw [hc]; rfl) ?_
      unfold CompOk
      walk_at "w"
      refine ⟨Key, ys, keyT, fun k => if decide (pk.u < k.u) then some (keyT k) else none, .list .tree, by walk_at "la", fun k hk fc hg' hc' => ?_, ?_⟩
      · unfold CBody
        walk_at "w"
        walk_at "k"
        refine ⟨SubH.rfl, ?_⟩
        refine ite_dec (fun c => ?_) fun c => ?_
        · try dsimp only
          rw [if_pos (by simpa using c)]
          exact ⟨_, rfl, ev_name rfl ⟨rfl, SubH.rfl⟩⟩
        · try dsimp only
          rw [if_neg (by simpa using c)]
      rw [fm_if]
      walk_at "w"
      have p1ok : ys.filter (fun k => decide (k.u ≤ pk.u)) ≠ [] := fun e => by
        have : pk ∈ ys.filter (fun k => decide (k.u ≤ pk.u)) := List.mem_filter.mpr ⟨hpm, by simp⟩
        rw [e] at this; cases this
      have pok : ∀ p ∈ [ys.filter (fun k => decide (k.u ≤ pk.u)), ys.filter (fun k => decide (pk.u < k.u))], p.Sublist ys := fun p hp => by
        simp only [List.mem_cons, List.not_mem_nil, or_false] at hp
        rcases hp with rfl | rfl <;> exact List.filter_sublist
      have e0 : [ys.filter (fun k => decide (k.u ≤ pk.u)), ys.filter (fun k => decide (pk.u < k.u))][0]? = some (ys.filter (fun k => decide (k.u ≤ pk.u))) := rfl
      have eT : [T.lst ((ys.filter (fun k => decide (k.u ≤ pk.u))).map keyT), T.lst ((ys.filter (fun k => decide (pk.u < k.u))).map keyT)] = [ys.filter (fun k => decide (k.u ≤ pk.u)), ys.filter (fun k => decide (pk.u < k.u))].map (fun p => T.lst (p.map keyT)) := rfl
      rw [eT]
      have eL : [ys.filter (fun k => decide (k.u ≤ pk.u)), ys.filter (fun k => decide (pk.u < k.u))].length = 2 := rfl
      generalize [ys.filter (fun k => decide (k.u ≤ pk.u)), ys.filter (fun k => decide (pk.u < k.u))] = ps at pok e0 eL
      refine ⟨List Key, ps, fun p => .lst (p.map keyT), .list .tree, fun i V' H' => E3 fun (fr : List F) (nx : Int) (o1 : Option T) => A7 (V' = [(153, some (.ref w)), (59, some (.int lev)), (162, some (.lst (up.map fT))), (164, some (.lst (lower.map fT))), (94, some (.bool false)), (126, some (.int y)), (57, some iordT), (130, some (.ref d.ls)), (171, some (.ref fa)), (172, none), (105, some (.lst (ys.map keyT))), (173, some (.int pk.u)), (174, o1)]) (H' fa = some (.list (fr.map fT))) ((1 ≤ i → fr ≠ [])) (fr.length ≤ i) ((∀ x ∈ fr, x.Ok)) (H' w = some (.list [.ref d.v, .ref d.q, .ref d.ls, .ref d.pl, wT d.b, .int nx])) (∀ a c, a ≠ w → a ≠ fa → H a = some c → H' a = some c),
        ⟨[], d.nx, none, rfl, hfa, by walk_at "la", by simp, by simp, hw1, fun a c _ _ e => hs1 a c e⟩, ?_, ?_⟩
      · rintro i p V' H' hi ⟨fr, nx, o1, rfl, q1, q2, q3, q4, q5, q6⟩
        refine ⟨.list .tree, rfl, ?_⟩
        have hps := pok p (List.mem_of_getElem? hi)
        have plen := hps.length_le
        have pkok : ∀ k ∈ p, Key.Ok k := fun k hk => yok k (hps.subset hk)
        have ppw := hpw.sublist hps
        have hi2 := (List.getElem?_eq_some_iff.mp hi).1
        walk_at "w"
        refine cl_len_list .tree (by rw [List.length_map]; walk_at "la") ?_
        rw [List.length_map]
        walk_at "w"
        refine ite_dec (fun c => ?_) fun c => ?_
        · obtain ⟨ka, hka⟩ : ∃ k, p[0]? = some k := ⟨_, List.getElem?_eq_getElem (by walk_at "la")⟩
          obtain ⟨kb, hkb⟩ : ∃ k, p[p.length - 1]? = some k := ⟨_, List.getElem?_eq_getElem (by walk_at "la")⟩
          walk_at "w"
          refine op_div_int (by walk_at "la") (by walk_at "la") ?_
          walk_at "w"
          refine op_mod_int (by walk_at "la") ?_
          walk_at "w"
          refine op_sub_list .tree (by walk_at "la") (by rw [List.length_map]; walk_at "la") (u := keyT ka) (by rw [show (0 : Int).toNat = 0 from rfl, List.getElem?_map, hka]; rfl) ?_
          walk_at "w"
          refine cl_len_list .tree (by rw [List.length_map]; walk_at "la") ?_
          rw [List.length_map]
          walk_at "w"
          refine op_sub_list .tree (by walk_at "la") (by rw [List.length_map]; walk_at "la") (u := keyT kb) (by rw [show ((p.length : Int) - 1).toNat = p.length - 1 by walk_at "la", List.getElem?_map, hkb]; rfl) ?_
          walk_at "w"
          refine ⟨_, q1, by rw [List.length_map]; walk_at "la", ?_⟩
          walk_at "w"
          have hm1 : 0 ≤ y / 4 % 12 := Int.emod_nonneg _ (by walk_at "la")
          have hm2 : y / 4 % 12 < 12 := Int.emod_lt_of_pos _ (by walk_at "la")
          refine ⟨fr ++ [⟨nx, 1 + y / 4 % 12, ka, kb⟩], nx + 1, _, rfl, ?_, fun _ => by simp, by rw [List.length_append]; simp; walk_at "la", fun x hx => ?_, ?_, fun a c ha hb ea => ?_⟩
          · rw [updH_ne (Ne.symm hwfa), updH_self, List.map_append]; rfl
          · rcases List.mem_append.mp hx with hx | hx
            · exact q4 x hx
            · simp only [List.mem_singleton] at hx
              subst hx
              exact ⟨by show (0 : Int) ≤ 1 + y / 4 % 12; walk_at "la", by show 1 + y / 4 % 12 ≤ (1000 : Int); walk_at "la", pkok _ (List.mem_of_getElem? hka), pkok _ (List.mem_of_getElem? hkb), usr_le_of pkok ppw hka hkb⟩
          · rw [updH_self]; rfl
          · rw [updH_ne ha, updH_ne hb]; exact q6 a c ha hb ea
        · walk_at "w"
          refine ⟨fr, nx, _, rfl, q1, fun hi1 => ?_, by walk_at "la", q4, q5, q6⟩
          refine q2 ?_
          cases i with
          | succ j => walk_at "la"
          | zero =>
            exfalso
            rw [e0] at hi
            cases hi
            have := List.length_pos_iff.mpr p1ok
            walk_at "la"
      · rintro V' H' ⟨fr, nx, o1, rfl, q1, q2, q3, q4, q5, q6⟩
        refine ⟨.list .tree, rfl, fr, nx, _, _, _, _, _, rfl, .inr ⟨rfl, q1⟩, q2 (by walk_at "la"), by walk_at "la", q4, q5, q6⟩
  · rintro V' H' ⟨fr, nx, tf, o1, o2, o3, o4, rfl, q0, q1, q2, q3, q4, q5⟩
    have hHn : ∀ a, H' a = none → H a = none := fun a e => by
      cases q : H a with
      | none => rfl
      | some c =>
        by_cases h1 : a = w
        · subst h1; rw [q4] at e; cases e
        · by_cases h2 : a = fa
          · subst h2; rw [nfa] at q; cases q
          · rw [q5 a c h1 h2 q] at e; cases e
    have liveH : ∀ x, x ∈ own w d → x ≠ w → ∀ c, H x = some c → H' x = some c := fun x hx hn c e => q5 x c hn (fun e2 => hfaw (e2 ▸ hx)) e
    have hLv : Lv H' d.ls d.a0 d.L := ⟨liveH _ (by simp [own]) (Ne.symm nd.wl) _ hd.hL.l, liveH _ (by simp [own]) (Ne.symm nd.wa) _ hd.hL.a, hd.hL.ok⟩
    have fals : fa ≠ d.ls := fun e => hfaw (by simp [own, e])
    have e1 := lvF_len (a := d.a0) hd.hL.ok.ne
    obtain ⟨t0, g1, g2⟩ := hLv.get (lev := lev) (by walk_at "la")
    have f0 := hd.hL.ok.get lev
    have f0l := f0.len
    refine exs_cons (ex_nx (fun V' H'' => V' = [(153, some (.ref w)), (59, some (.int lev)), (162, some (.lst (up.map fT))), (164, some (.lst (lower.map fT))), (94, some (.bool triv)), (126, some (.int y)), (57, some iordT), (130, some (.ref d.ls)), (171, some tf), (172, o1), (105, o2), (173, o3), (174, o4)] ∧ E2 fun a' l' => A5 (FsOk l') (l'.length ≤ (d.L.getD lev []).length) (Lv H'' d.ls a' (d.L.set lev l')) ((a' = d.a0 ∨ H a' = none ∧ a' ≠ d.ls)) ((∀ a c, a ≠ d.ls → H' a = some c → H'' a = some c))) ?_ ?_)
    · walk_at "w"
      generalize hxs : d.L.getD lev [] = xs at g2 f0 f0l
      have fl : FsOk (xs.filter (kf up)) := ⟨fun x hx => f0.ok x ((List.mem_filter.mp hx).1), Nat.le_trans (List.length_filter_le _ _) f0l⟩
      cases lev with
      | zero =>
        refine ev_compX [162] [] (by decide +kernel) (by rw [hc]; rfl) (comp_notin (xs := xs) (up := up) (by decide) rfl ?_)
        walk_at "w"
        refine op_sub_list (.cell hLv.l) (by walk_at "la") (by walk_at "la") (u := t0) (by rw [Int.toNat_natCast]; exact g1) ?_
        refine ⟨g2, by walk_at "la", fun a H2 na ha hs2 => ?_⟩
        have hl2 := hs2 _ _ hLv.l
        have als : a ≠ d.ls := by rintro rfl; rw [hLv.l] at na; cases na
        walk_at "w"
        refine asgs_cell hl2 (by walk_at "la") (by walk_at "la") (by walk_at "la") ?_
        refine ⟨rfl, rfl, a, xs.filter (kf up), fl, (by rw [hxs]; exact List.length_filter_le _ _), ⟨?_, ?_, hd.hL.ok.set fl⟩, .inr ⟨hHn a na, als⟩, fun b c hb eb => ?_⟩
        · rw [updH_self]
          exact congrArg (fun z => some (Cell.list z)) (lvF_set0 hd.hL.ok.ne)
        · rw [updH_ne als, ha, headD_set0 hd.hL.ok.ne]
        · rw [updH_ne hb]; exact hs2 b c eb
      | succ k =>
        refine ev_comp [162] [] (by decide +kernel) (by rw [hc]; rfl) (comp_notin (xs := xs) (up := up) (by decide) rfl ?_)
        walk_at "w"
        refine op_sub_list (.cell hLv.l) (by walk_at "la") (by walk_at "la") (u := t0) (by rw [Int.toNat_natCast]; exact g1) ?_
        refine ⟨g2, by walk_at "la", ?_⟩
        walk_at "w"
        refine asgs_cell hLv.l (by walk_at "la") (by walk_at "la") (by walk_at "la") ?_
        refine ⟨rfl, rfl, d.a0, xs.filter (kf up), fl, (by rw [hxs]; exact List.length_filter_le _ _), ⟨?_, ?_, hd.hL.ok.set fl⟩, .inl rfl, fun b c hb eb => ?_⟩
        · rw [updH_self, Int.toNat_natCast]
          exact congrArg (fun z => some (Cell.list z)) (lvF_setS hd.hL.ok.ne)
        · rw [updH_ne (Ne.symm nd.la), headD_setS]; exact hLv.a
        · rw [updH_ne hb]; exact eb
    · rintro V' H2 ⟨rfl, a', l', hl'1, hl'2, hLv2, ha', hk2⟩
      have has : AsList H2 tf (fr.map fT) := by
        rcases q0 with rfl | ⟨rfl, e⟩
        · exact .tree
        · exact .cell (hk2 _ _ fals e)
      have hH2w := hk2 _ _ nd.wl q4
      have i1 : (lev : Int) + 1 = ((lev + 1 : Nat) : Int) := rfl
      have sl : (d.L.set lev l').length = d.L.length := List.length_set
      obtain ⟨t1, k1, k2⟩ := hLv2.get (lev := lev + 1) (by walk_at "la")
      have f1 := hd.hL.ok.get (lev + 1)
      rw [getD_set (by walk_at "la")] at k2
      have tg := tot_get2 (L := d.L) (i := lev)
      have e2 := lvF_len (a := a') hLv2.ok.ne
      generalize hxs : d.L.getD (lev + 1) [] = xs at k2 f1 tg
      have f1l := f1.len
      have flen := List.length_filter_le (kf lower) xs
      refine exs_cons (ex_nx (fun V' H'' => H'' = H2 ∧ V' = [(153, some (.ref w)), (59, some (.int lev)), (162, some (.lst (up.map fT))), (164, some (.lst (lower.map fT))), (94, some (.bool triv)), (126, some (.int y)), (57, some iordT), (130, some (.ref d.ls)), (171, some tf), (172, some (.lst ((xs.filter (kf lower) ++ fr).map fT))), (105, o2), (173, o3), (174, o4)]) ?_ ?_)
      · walk_at "w"
        refine ev_comp [164] [] (by decide +kernel) (by rw [hc]; rfl) (comp_notin (xs := xs) (up := lower) (by decide) rfl ?_)
        walk_at "w"
        rw [i1]
        refine op_sub_list (.cell hLv2.l) (by walk_at "la") (by walk_at "la") (u := t1) (by rw [Int.toNat_natCast]; exact k1) ?_
        refine ⟨k2, by walk_at "la", ?_⟩
        walk_at "w"
        refine op_add_lists (ts := (xs.filter (kf lower)).map fT) (us := fr.map fT) .tree has (by rw [List.length_map, List.length_map]; walk_at "la") ?_
        rw [← List.map_append]
        exact ⟨rfl, rfl, rfl⟩
      rintro V' H3 ⟨rfl, rfl⟩
      have rok : ∀ x ∈ xs.filter (kf lower) ++ fr, x.Ok := fun x hx => by
        rcases List.mem_append.mp hx with hx | hx
        · exact f1.ok x (List.mem_filter.mp hx).1
        · exact q3 x hx
      have rne : 1 ≤ (xs.filter (kf lower) ++ fr).length := by
        rw [List.length_append]
        have := List.length_pos_iff.mpr q1
        walk_at "la"
      have rlen : (xs.filter (kf lower) ++ fr).length ≤ xs.length + 2 := by rw [List.length_append]; walk_at "la"
      generalize xs.filter (kf lower) ++ fr = rs at rok rne rlen
      walk_at "w"
      refine ev_comp [] [] (by decide +kernel) rfl ?_
      unfold CompOk
      walk_at "w"
      refine ev_comp [] [] (by decide +kernel) rfl ?_
      unfold CompOk
      walk_at "w"
      refine ⟨F, rs, fT, fun x => some (.tup [keyT x.lo, fT x]), .list .tree, by walk_at "la", fun x hx fc hg' hc' => ⟨_, rfl, ?_⟩, ?_⟩
      · walk_at "w"
        walk_at "k"
        exact ⟨rfl, SubH.rfl⟩
      rw [fm_some]
      walk_at "w"
      refine cl_sorted_files .tree rok rne (by walk_at "la") fun ys hperm => ?_
      have yl := hperm.length_eq
      refine ⟨F, ys, fun x => .tup [keyT x.lo, fT x], fun x => some (fT x), .list .tree, by walk_at "la", fun x hx fc hg' hc' => ⟨_, rfl, ?_⟩, ?_⟩
      · walk_at "w"
        exact ⟨rfl, SubH.rfl⟩
      rw [fm_some]
      walk_at "w"
      rw [i1]
      refine asgs_cell hLv2.l (by walk_at "la") (by walk_at "la") (by walk_at "la") ?_
      rw [Int.toNat_natCast, lvF_setS hLv2.ok.ne]
      have yok : FsOk ys := ⟨fun x hx => rok x (hperm.mem_iff.mp hx), by walk_at "la"⟩
      have als : a' ≠ d.ls := by
        rcases ha' with rfl | h
        · exact Ne.symm nd.la
        · exact h.2
      have hLv4 : Lv (updH H3 d.ls (.list (lvF a' ((d.L.set lev l').set (lev + 1) ys)))) d.ls a' ((d.L.set lev l').set (lev + 1) ys) := ⟨updH_self, by rw [updH_ne als, headD_setS]; exact hLv2.a, hLv2.ok.set yok⟩
      have htot : tot ((d.L.set lev l').set (lev + 1) ys) ≤ tot d.L + 2 := by
        have t1 := tot_set (L := d.L.set lev l') (i := lev + 1) (l := ys) (by walk_at "la")
        have t2 := tot_set (L := d.L) (i := lev) (l := l') (by walk_at "la")
        rw [getD_set (by walk_at "la"), hxs] at t1
        walk_at "la"
      have hlen : ((d.L.set lev l').set (lev + 1) ys).length = d.L.length := by rw [List.length_set, List.length_set]
      generalize (d.L.set lev l').set (lev + 1) ys = L2 at hLv4 htot hlen
      have hwl : updH H3 d.ls (.list (lvF a' L2)) w = some (.list [.ref d.v, .ref d.q, .ref d.ls, .ref d.pl, wT d.b, .int nx]) := by rw [updH_ne nd.wl]; exact hH2w
      have hrest : ∀ a c, a ≠ w → a ≠ fa → a ≠ d.ls → H a = some c → updH H3 d.ls (.list (lvF a' L2)) a = some c := fun a c h1 h2 h3 e => by
        rw [updH_ne h3]; exact hk2 a c h3 (q5 a c h1 h2 e)
      generalize updH H3 d.ls (.list (lvF a' L2)) = H4 at hLv4 hwl hrest
      walk_at "w"
      refine cl_fn (sp_lversion pf hLv4 fun v' dx' H5 nv' hv' hs5 => ?_) (by walk_at "la")
      have hw5 := hs5 _ _ hwl
      walk_at "w"
      have live4 : ∀ x, x ∈ own w d → x ≠ w → x ≠ d.ls → ∀ c, H x = some c → H4 x = some c := fun x hx h1 h2 c e => hrest x c h1 (fun e2 => hfaw (e2 ▸ hx)) h2 e
      have vw : v' ≠ w := by rintro rfl; rw [nv'] at hwl; cases hwl
      have hq4 := live4 d.q (by simp [own]) (Ne.symm nd.wq) nd.ql _ hd.hq
      have hp4 := live4 d.pl (by simp [own]) (Ne.symm nd.wp) (Ne.symm nd.lp) _ hd.hp
      have vq : v' ≠ d.q := by rintro rfl; rw [nv'] at hq4; cases hq4
      have vp : v' ≠ d.pl := by rintro rfl; rw [nv'] at hp4; cases hp4
      have vl : v' ≠ d.ls := by rintro rfl; have := hLv4.l; rw [nv'] at this; cases this
      have va : v' ≠ a' := by rintro rfl; have := hLv4.a; rw [nv'] at this; cases this
      have nvH : H v' = none := by
        cases q : H v' with
        | none => rfl
        | some c =>
          have : v' ≠ fa := by rintro rfl; rw [nfa] at q; cases q
          rw [hrest v' c vw this vl q] at nv'; cases nv'
      have aw : a' ≠ w := by
        rcases ha' with rfl | hz
        · exact Ne.symm nd.wa
        · rintro rfl; rw [hz.1] at hw; cases hw
      have aq : a' ≠ d.q := by
        rcases ha' with rfl | hz
        · exact Ne.symm nd.qa
        · rintro rfl; have := hd.hq; rw [hz.1] at this; cases this
      have ap : a' ≠ d.pl := by
        rcases ha' with rfl | hz
        · exact nd.ap
        · rintro rfl; have := hd.hp; rw [hz.1] at this; cases this
      have hL5 := hLv4.sub hs5
      refine ⟨_, SubH.rfl, ?_⟩
      refine h _ { d with v := v', a0 := a', L := L2, b := none, nx := nx } ⟨updH_self, ⟨dx', _, _, by dsimp only; rw [updH_ne vw, updH_ne vw]; exact hv', fun b e => by cases e⟩, ?_, ⟨?_, ?_, hL5.ok⟩, ?_, hd.pok, by rw [hd.plen]; exact hlen.symm, Nd.nd ⟨Ne.symm vw, nd.wq, nd.wl, Ne.symm aw, nd.wp, vq, vl, va, vp, nd.ql, Ne.symm aq, nd.qp, Ne.symm als, nd.lp, ap⟩⟩ (fun x c hx e => ?_) (fun x hx => ?_) hlen htot rfl
      · dsimp only; rw [updH_ne (Ne.symm nd.wq), updH_ne (Ne.symm nd.wq)]; exact hs5 _ _ hq4
      · dsimp only; rw [updH_ne (Ne.symm nd.wl), updH_ne (Ne.symm nd.wl)]; exact hL5.l
      · dsimp only; rw [updH_ne aw, updH_ne aw]; exact hL5.a
      · dsimp only; rw [updH_ne (Ne.symm nd.wp), updH_ne (Ne.symm nd.wp)]; exact hs5 _ _ hp4
      · have n : ∀ z, z ∈ own w d → x ≠ z := fun z hz e => hx (e ▸ hz)
        rw [updH_ne (n _ (by simp [own])), updH_ne (n _ (by simp [own]))]
        exact hs5 _ _ (hrest x c (n _ (by simp [own])) (by rintro rfl; rw [nfa] at e; cases e) (n _ (by simp [own])) e)
      · simp only [own, List.mem_cons, List.not_mem_nil, or_false] at hx ⊢
        rcases hx with rfl | rfl | rfl | rfl | rfl | rfl
        · simp
        · exact .inr nvH
        · simp
        · simp
        · rcases ha' with hz | hz
          · left; simp [hz]
          · exact .inr hz.1
        · simp
end
end

section
structure GoodB (L : List (List F)) (b : Best) : Prop where
  ok : BestOk b
  lev : b.lev + 2 ≤ L.length
  ne : b.bot ≤ b.top → L.getD b.lev [] ≠ []
theorem best_good {L : List (List F)} {o : Opt} (hL : LsOk L) (ho : o.Ok) : GoodB L (best L o (L.length - 2)) := by
  have l4 := hL.l4
  have l3 := hL.l3
  have hb := best_bok hL ho (L.length - 2) (by walk_at "la")
  obtain ⟨k, hk, e, _⟩ := best_inv hL ho (L.length - 2) (by walk_at "la")
  have hb0 := hb.b0
  refine ⟨hb, ?_, fun h => ?_⟩
  · rw [e]; unfold part; split
    · show 0 + 2 ≤ _; walk_at "la"
    · show k + 2 ≤ _; walk_at "la"
  · rw [e] at h hb0 ⊢
    unfold part at h hb0 ⊢
    split at h
    · rename_i hk0
      rw [if_pos hk0] at hb0 ⊢
      dsimp only at h hb0 ⊢
      intro e2
      rw [e2] at h
      simp at h; walk_at "la"
    · rename_i hk0
      rw [if_neg hk0] at hb0 ⊢
      dsimp only at h hb0 ⊢
      intro e2
      rw [e2] at h
      simp [octets] at h; walk_at "la"
theorem lvF_same {a : Addr} {L : List (List F)} {l : List F} : lvF a (L.set 0 l) = lvF a L := by
  cases L <;> rfl
theorem Ts.mono {g : Gl} {f : Fm} {n : Nat} {V : Vs} {H : Cells} {e : Expr} {R R' : Bool → Cells → Prop} (h : Ts g f n e V H R) (hq : ∀ b H', R b H' → R' b H') : Ts g f n e V H R' := .mk fun A P Z s hr x =>
  wpAny_mono (h.go A P Z s hr x) (fun b s1 ⟨Z1, H1, z1, x1, q1⟩ => ⟨Z1, H1, z1, x1, hq _ _ q1⟩) fun _ _ e => e
noncomputable def awT (P : List (Option Key)) : T := .tup [.lst (P.map pB), .lst (P.map pB)]
section
variable {g : Gl} {f : Fm} {n : Nat} {V : Vs} {H : Cells} {Q : T → Cells → Prop}
theorem cl_list_copyT {t : T} {ts : List T} (ha : AsList H t ts) (hl : ts.length ≤ 1000) (h : Q (.lst ts) H) : Cl g f n (.type "list") [t] V H Q :=
  Cl.fz (cl_list_copy ha hl fun a na => ⟨_, _, fz_new na SubH.rfl, h⟩)
end
section
variable {g : Gl} (pf : PF g) {H : Cells} {Q : T → Cells → Prop}
include pf
set_option maxHeartbeats 8000000 in
theorem sp_readied {w aw : Addr} {d : Wd} {A : List (List (Option Key))} {x : Int} {o o2 : Opt} (ho : o.Ok) (ho2 : o2.Ok) (hd : WAt H w d) (haw : H aw = some (.list (A.map awT))) (hna : aw ∉ own w d) (hA : A.length ≤ 900)
    (hx : 0 ≤ x) (hc1 : o.levels = d.L.length) (hc2 : o2.levels = d.L.length) (hT : tot d.L ≤ 40) (hgb : ∀ b, d.b = some b → GoodB d.L b)
    (h : ∀ (H' : Cells) (d' : Wd) (A' : List (List (Option Key))), WAt H' w d' → H' aw = some (.list (A'.map awT)) → A'.length ≤ A.length + 1 → Kept (aw :: own w d) H H' → (∀ x ∈ own w d', x ∈ own w d ∨ H x = none) → d'.L.length = d.L.length → tot d'.L ≤ tot d.L + 1 → (∃ b, d'.b = some b ∧ GoodB d'.L b) → Q (.bool true) H') :
    FSpec g 9 721 [.ref w, .ref aw, .int x, o.T, o2.T, iordT] H Q := by
  have l4 := hd.hL.ok.l4
  have hw := hd.hw
  have hq := hd.hq
  have nd := hd.ne
  have pl := hd.plen
  have haww : aw ≠ w := fun e => hna (by simp [own, e])
  have hawq : aw ≠ d.q := fun e => hna (by simp [own, e])
  refine fspec_of (m := 8) (ps := [153, 177, 178, 81, 179, 57]) (ls := [181, 68]) (gs := [182, 134, 138, 154]) (cs := []) (pf.fn 721 _ rfl) (by decide +kernel) rfl fun f hf hg hc => ?_
  conv => arg 4; whnf
  simp only [N_0, N_1, N_2, N_3, N_4, N_5, N_6, N_7, N_8, N_9, N_10, N_11, N_12, N_13, N_14, N_15, N_16, N_17, N_18, N_19, N_20, N_21, N_22, N_23, N_24, N_25, N_26, N_27, N_28, N_29, N_30, N_31, N_32, N_33, N_34, N_35, N_36, N_37, N_38, N_39, N_40, N_41, N_42, N_43, N_44, N_45, N_46, N_47, N_48, N_49, N_50, N_51, N_52, N_53, N_54, N_55, N_56, N_57, N_58, N_59, N_60, N_61, N_62, N_63, N_64, N_65, N_66, N_67, N_68, N_69, N_70, N_71, N_72, N_73, N_74, N_75, N_76, N_77, N_78, N_79, N_80, N_81, N_82, N_83, N_84, N_85, N_86, N_87, N_88, N_89, N_90, N_91, N_92, N_93, N_94, N_95, N_96, N_97, N_98, N_99, N_100, N_101, N_102, N_103, N_104, N_105, N_106, N_107, N_108, N_109, N_110, N_111, N_112, N_113, N_114, N_115, N_116, N_117, N_118, N_119, N_120, N_121, N_122, N_123, N_124, N_125, N_126, N_127, N_128, N_129, N_130, N_131, N_132, N_133, N_134, N_135, N_136, N_137, N_138, N_139, N_140, N_141, N_142, N_143, N_144, N_145, N_146, N_147, N_148, N_149, N_150, N_151, N_152, N_153, N_154, N_155, N_156, N_157, N_158, N_159, N_160, N_161, N_162, N_163, N_164, N_165, N_166, N_167, N_168, N_169, N_170, N_171, N_172, N_173, N_174, N_175, N_176, N_177, N_178, N_179, N_180, N_181, N_182, N_183, N_184, N_185, N_186, N_187, N_188, N_189, N_190, N_191, N_192, N_193, N_194, N_195, N_196, N_197]
  refine exs_cons (ex_nx (fun V' H' => V' = [(153, some (.ref w)), (177, some (.ref aw)), (178, some (.int x)), (81, some o.T), (179, some o2.T), (57, some iordT), (181, none), (68, none)] ∧ E2 fun (q' : Addr) (A' : List (List (Option Key))) => A5 (WAt H' w { d with q := q' }) (H' aw = some (.list (A'.map awT))) (A'.length ≤ A.length + 1) ((q' = d.q ∨ H q' = none)) ((∀ a c, a ≠ w → a ≠ d.q → a ≠ aw → H a = some c → H' a = some c))) ?_ ?_)
  · walk_at "w"
    refine op_div_int (by walk_at "la") (by walk_at "la") ?_
    walk_at "w"
    refine op_mod_int (by walk_at "la") ?_
    walk_at "w"
    refine ite_dec (fun c => ?_) fun c => ?_
    · walk_at "w"
      refine cl_list_copyT (.cell hq) (by rw [List.length_map]; walk_at "la") ?_
      walk_at "w"
      refine ⟨_, haw, by rw [List.length_map]; walk_at "la", ?_⟩
      refine seq_next (exs_cons (ex_asg_sub ?_))
      walk_at "w"
      refine cl_list_copy (ts := d.P.map pB) (.cell (by walk_at "H")) (by rw [List.length_map]; walk_at "la") fun q' nq' => ?_
      walk_at "w"
      have q'w : q' ≠ w := by rintro rfl; rw [updH_ne (Ne.symm haww), hw] at nq'; cases nq'
      have q'aw : q' ≠ aw := by rintro rfl; rw [updH_self] at nq'; cases nq'
      have q'n : H q' = none := by rw [updH_ne q'aw] at nq'; exact nq'
      have q'own : q' ∉ own w d := fun hm => by obtain ⟨c, e⟩ := hd.live q' hm; rw [q'n] at e; cases e
      have q'q : q' ≠ d.q := fun e => q'own (by simp [own, e])
      refine asgs_cell (ts := [.ref d.v, .ref d.q, .ref d.ls, .ref d.pl, wT d.b, .int d.nx]) (by rw [updH_ne (Ne.symm q'w), updH_ne (Ne.symm haww)]; exact hw) (by decide) (Nat.lt_of_succ_le (Nat.le_of_ble_eq_true rfl)) (Nat.le_of_ble_eq_true rfl) ?_
      refine seq_next (Exs.fz (.itm (b := aw) (a := d.q) (i := A.length) (u := .tup [.ref d.q, .lst (d.P.map pB)]) (u' := awT d.P) (c := .list (d.P.map pB)) (by rw [updH_ne haww, updH_ne (Ne.symm q'aw), updH_self]) ?_ ?_ (Ne.symm hawq) (.tup2 .here .refl)) (exs_nil ?_))
      · rw [List.getElem?_append_right (by rw [List.length_map]; exact Nat.le_refl _), List.length_map, Nat.sub_self]; rfl
      · rw [updH_ne (Ne.symm nd.wq), updH_ne (Ne.symm q'q), updH_ne (Ne.symm hawq)]; exact hq
      generalize hH6 : updH (delH (updH (updH (updH H aw (Cell.list (List.map awT A ++ [T.tup [T.ref d.q, T.lst (List.map pB d.P)]]))) q' (Cell.list (List.map pB d.P))) w _) d.q) aw _ = H6
      have P1 : H6 w = some (.list [.ref d.v, .ref q', .ref d.ls, .ref d.pl, wT d.b, .int d.nx]) := by rw [← hH6, updH_ne (Ne.symm haww), delH_ne nd.wq, updH_self]; rfl
      have P2 : H6 q' = some (.list (d.P.map pB)) := by rw [← hH6, updH_ne q'aw, delH_ne q'q, updH_ne q'w, updH_self]
      have P3 : H6 aw = some (.list ((A ++ [d.P]).map awT)) := by
        rw [← hH6, updH_self, List.map_append]
        rw [List.set_append_right _ _ (by rw [List.length_map]; exact Nat.le_refl _), List.length_map, Nat.sub_self]
        rfl
      have P4 : ∀ a c, a ≠ w → a ≠ d.q → a ≠ aw → H a = some c → H6 a = some c := fun a c h1 h2 h3 e => by
        have h4 : a ≠ q' := by rintro rfl; rw [q'n] at e; cases e
        rw [← hH6, updH_ne h3, delH_ne h2, updH_ne h1, updH_ne h4, updH_ne h3]; exact e
      have oth : ∀ z, z ∈ own w d → z ≠ w → z ≠ d.q → ∀ c, H z = some c → H6 z = some c := fun z hz h1 h2 c e => P4 z c h1 h2 (fun e2 => hna (e2 ▸ hz)) e
      obtain ⟨dx, sc, sl, hv, hb⟩ := hd.hv
      have ne' : ∀ z, z ∈ own w d → q' ≠ z := fun z hz e => q'own (e ▸ hz)
      refine ⟨rfl, rfl, q', A ++ [d.P], ⟨P1, ⟨dx, sc, sl, oth _ (by simp [own]) (Ne.symm nd.wv) nd.vq _ hv, hb⟩, P2, ⟨oth _ (by simp [own]) (Ne.symm nd.wl) (Ne.symm nd.ql) _ hd.hL.l, oth _ (by simp [own]) (Ne.symm nd.wa) (Ne.symm nd.qa) _ hd.hL.a, hd.hL.ok⟩, oth _ (by simp [own]) (Ne.symm nd.wp) (Ne.symm nd.qp) _ hd.hp, hd.pok, pl,
        Nd.nd ⟨nd.wv, Ne.symm q'w, nd.wl, nd.wa, nd.wp, Ne.symm (ne' _ (by simp [own])), nd.vl, nd.va, nd.vp, ne' _ (by simp [own]), ne' _ (by simp [own]), ne' _ (by simp [own]), nd.la, nd.lp, nd.ap⟩⟩, P3, by simp, .inr q'n, P4⟩
    · walk_at "w"
      exact ⟨rfl, rfl, d.q, A, hd, haw, by walk_at "la", .inl rfl, fun a c _ _ _ e => e⟩
  · rintro V' H1 ⟨rfl, q', A', hd1, haw1, hA1, hq', hk1⟩
    have q'n : q' ∈ own w d ∨ H q' = none := hq'.imp_left fun e => by simp [own, e]
    have aq' : aw ≠ q' := by
      rintro rfl
      rcases q'n with h | h
      · exact hna h
      · rw [haw] at h; cases h
    have hL1 : Lv H1 d.ls d.a0 d.L := hd1.hL
    have hw1 : H1 w = some (.list [.ref d.v, .ref q', .ref d.ls, .ref d.pl, wT d.b, .int d.nx]) := hd1.hw
    have nd1 := hd1.ne
    have e1 := lvF_len (a := d.a0) hd.hL.ok.ne
    have h0len := (hd.hL.ok.get 0)
    refine exs_cons (ex_nx (fun V' H' => ∃ o1, V' = [(153, some (.ref w)), (177, some (.ref aw)), (178, some (.int x)), (81, some o.T), (179, some o2.T), (57, some iordT), (181, none), (68, o1)] ∧ ∃ d2 : Wd, A7 (WAt H' w d2) (H' aw = some (.list (A'.map awT))) (d2.L.length = d.L.length) (tot d2.L ≤ tot d.L + 1) ((∀ b, d2.b = some b → GoodB d2.L b)) ((∀ x ∈ own w d2, x ∈ own w d ∨ H x = none)) ((∀ a c, a ∉ own w d → a ≠ aw → H a = some c → H' a = some c))) ?_ ?_)
    · walk_at "w"
      refine op_div_int (by walk_at "la") (by walk_at "la") ?_
      walk_at "w"
      refine op_mod_int (by walk_at "la") ?_
      walk_at "w"
      refine ite_dec (fun c => ?_) fun c => ?_
      · walk_at "w"
        refine op_div_int (by walk_at "la") (by walk_at "la") ?_
        walk_at "w"
        refine op_mod_int (by walk_at "la") ?_
        obtain ⟨ln, hln, hln8⟩ : ∃ ln : Nat, x / 54 % 8 = (ln : Int) ∧ ln < 8 := by
          have h1 := Int.emod_nonneg (x / 54) (show (8 : Int) ≠ 0 by decide)
          have h2 := Int.emod_lt_of_pos (x / 54) (show (0 : Int) < 8 by decide)
          exact ⟨(x / 54 % 8).toNat, by walk_at "la", by walk_at "la"⟩
        rw [hln]
        walk_at "w"
        have hlv0 : (lvF d.a0 d.L)[0]? = some (.ref d.a0) := rfl
        have head0 : d.L.headD [] = d.L.getD 0 [] := by cases d.L <;> rfl
        refine op_sub_list (.cell hL1.l) (by walk_at "la") (by walk_at "la") (u := .ref d.a0) hlv0 ?_
        refine app_cell hL1.a ?_
        walk_at "w"
        refine op_mod_int (by walk_at "la") ?_
        walk_at "w"
        refine op_div_int (by walk_at "la") (by walk_at "la") ?_
        walk_at "w"
        refine op_mod_int (by walk_at "la") ?_
        walk_at "w"
        refine cl_min2 ?_
        walk_at "w"
        obtain ⟨hn, hhn, hhn8, hhnl⟩ : ∃ hn : Nat, min (7 : Int) ((ln : Int) + x / 7 % 3) = (hn : Int) ∧ hn < 8 ∧ ln ≤ hn := by
          have h1 := Int.emod_nonneg (x / 7) (show (3 : Int) ≠ 0 by decide)
          exact ⟨(min (7 : Int) ((ln : Int) + x / 7 % 3)).toNat, by walk_at "la", by walk_at "la", by walk_at "la"⟩
        rw [hhn]
        have hm1 : 0 ≤ x % 12 := Int.emod_nonneg _ (by walk_at "la")
        have hm2 : x % 12 < 12 := Int.emod_lt_of_pos _ (by walk_at "la")
        have nfok : F.Ok ⟨d.nx, 1 + x % 12, ⟨ln, 20⟩, ⟨hn, 12⟩⟩ := ⟨by show (0 : Int) ≤ 1 + x % 12; walk_at "la", by show 1 + x % 12 ≤ (1000 : Int); walk_at "la", ⟨hln8, show 20 < 256 by decide⟩, ⟨hhn8, show 12 < 256 by decide⟩, hhnl⟩
        have efT : T.tup [.int d.nx, .int (1 + x % 12), .tup [.int (ln : Int), .int (-20)], .tup [.int (hn : Int), .int (-12)]] = fT ⟨d.nx, 1 + x % 12, ⟨ln, 20⟩, ⟨hn, 12⟩⟩ := rfl
        generalize (⟨d.nx, 1 + x % 12, ⟨ln, 20⟩, ⟨hn, 12⟩⟩ : F) = nf at nfok efT
        refine ⟨_, hL1.a, by rw [head0, List.length_map]; have := h0len.len; walk_at "la", ?_⟩
        rw [efT, head0, ← List.map_singleton (f := fT), ← List.map_append]
        have f2ok : FsOk (d.L.getD 0 [] ++ [nf]) := ⟨fun z hz => by
          rcases List.mem_append.mp hz with hz | hz
          · exact h0len.ok z hz
          · simp only [List.mem_singleton] at hz; subst hz; exact nfok, by
          have := tot_get (L := d.L) (i := 0)
          rw [List.length_append]; simp only [List.length_singleton]; walk_at "la"⟩
        have htot : tot (d.L.set 0 (d.L.getD 0 [] ++ [nf])) ≤ tot d.L + 1 := by
          have := tot_set (L := d.L) (i := 0) (l := d.L.getD 0 [] ++ [nf]) (by have := hd.hL.ok.l3; walk_at "la")
          rw [List.length_append, List.length_singleton] at this; walk_at "la"
        have hlen : (d.L.set 0 (d.L.getD 0 [] ++ [nf])).length = d.L.length := List.length_set
        have hLv2 : Lv (updH H1 d.a0 (.list ((d.L.getD 0 [] ++ [nf]).map fT))) d.ls d.a0 (d.L.set 0 (d.L.getD 0 [] ++ [nf])) := ⟨by rw [updH_ne nd.la, lvF_same]; exact hL1.l, by rw [updH_self, headD_set0 hd.hL.ok.ne], hd.hL.ok.set f2ok⟩
        generalize d.L.set 0 (d.L.getD 0 [] ++ [nf]) = L2 at htot hlen hLv2
        have hw2 : updH H1 d.a0 (.list ((d.L.getD 0 [] ++ [nf]).map fT)) w = some (.list [.ref d.v, .ref q', .ref d.ls, .ref d.pl, wT d.b, .int d.nx]) := by rw [updH_ne nd.wa]; exact hw1
        have hrest : ∀ a c, a ≠ d.a0 → H1 a = some c → updH H1 d.a0 (.list ((d.L.getD 0 [] ++ [nf]).map fT)) a = some c := fun a c h1 e => by rw [updH_ne h1]; exact e
        generalize updH H1 d.a0 (.list ((d.L.getD 0 [] ++ [nf]).map fT)) = H2 at hLv2 hw2 hrest
        refine seq_next ?_
        refine exs_cons (ex_nx (fun V' H' => A3 (V' = [(153, some (.ref w)), (177, some (.ref aw)), (178, some (.int x)), (81, some o.T), (179, some o2.T), (57, some iordT), (181, none), (68, some (.int ln))]) (H' w = some (.list [.ref d.v, .ref q', .ref d.ls, .ref d.pl, wT d.b, .int (d.nx + 1)])) (∀ a c, a ≠ w → H2 a = some c → H' a = some c)) ?_ ?_)
        · walk_at "w"
          exact ⟨rfl, rfl, by rw [updH_self]; rfl, fun a c h1 e => by rw [updH_ne h1]; exact e⟩
        rintro V' H3 ⟨rfl, hw3, hk3⟩
        have hLv3 : Lv H3 d.ls d.a0 L2 := ⟨hk3 _ _ (Ne.symm nd.wl) hLv2.l, hk3 _ _ (Ne.symm nd.wa) hLv2.a, hLv2.ok⟩
        walk_at "w"
        refine cl_fn (sp_lversion pf hLv3 fun v' dx' H5 nv' hv' hs5 => ?_) (by walk_at "la")
        have hw5 := hs5 _ _ hw3
        walk_at "w"
        have chain : ∀ z c, z ≠ w → z ≠ d.a0 → H1 z = some c → H3 z = some c := fun z c h1 h2 e => hk3 _ _ h1 (hrest _ _ h2 e)
        have haw3 := chain aw _ haww (fun e => hna (by simp [own, e])) haw1
        have hq3 := chain q' _ (Ne.symm nd1.wq) nd1.qa hd1.hq
        have hp3 := chain d.pl _ (Ne.symm nd.wp) (Ne.symm nd.ap) hd1.hp
        have vne : ∀ z c, H3 z = some c → v' ≠ z := fun z c e e2 => by rw [e2, e] at nv'; cases nv'
        have vw := vne _ _ hw3
        have vaw := vne _ _ haw3
        generalize hH6 : updH (updH H5 w _) w _ = H6
        have P1 : H6 w = some (.list [.ref v', .ref q', .ref d.ls, .ref d.pl, .none, .int (d.nx + 1)]) := by rw [← hH6, updH_self]; rfl
        have P2 : ∀ z c, z ≠ w → H5 z = some c → H6 z = some c := fun z c h1 e => by rw [← hH6, updH_ne h1, updH_ne h1]; exact e
        have P3 : ∀ z c, z ≠ w → H3 z = some c → H6 z = some c := fun z c h1 e => P2 z c h1 (hs5 _ _ e)
        refine ⟨rfl, _, rfl, { d with v := v', q := q', L := L2, b := none, nx := d.nx + 1 }, ⟨P1, ⟨dx', _, _, P2 _ _ vw hv', fun b e => by cases e⟩, P3 _ _ (Ne.symm nd1.wq) hq3, ⟨P3 _ _ (Ne.symm nd.wl) hLv3.l, P3 _ _ (Ne.symm nd.wa) hLv3.a, hLv3.ok⟩, P3 _ _ (Ne.symm nd.wp) hp3, hd.pok, by rw [pl]; exact hlen.symm,
          Nd.nd ⟨Ne.symm vw, nd1.wq, nd.wl, nd.wa, nd.wp, vne _ _ hq3, vne _ _ hLv3.l, vne _ _ hLv3.a, vne _ _ hp3, nd1.ql, nd1.qa, nd1.qp, nd.la, nd.lp, nd.ap⟩⟩, P3 _ _ haww haw3, hlen, htot, (fun b e => by cases e), fun z hz => ?_, fun z c h1 h2 e => ?_⟩
        · simp only [own, List.mem_cons, List.not_mem_nil, or_false] at hz ⊢
          rcases hz with hz | hz | hz | hz | hz | hz <;> rw [hz]
          · simp
          · by_cases hvq : v' = d.q
            · left; simp [hvq]
            · right
              cases q : H v' with
              | none => rfl
              | some c =>
                have h1 := hk1 v' c vw hvq vaw q
                by_cases h2 : v' = d.a0
                · exact absurd h2 (vne _ _ hLv3.a)
                · exact absurd rfl (vne _ _ (chain v' c vw h2 h1))
          · rcases q'n with h | h
            · left; simpa [own] using h
            · exact .inr h
          · simp
          · simp
          · simp
        · have n : ∀ y, y ∈ own w d → z ≠ y := fun y hy e => h1 (e ▸ hy)
          exact P3 z c (n _ (by simp [own])) (chain z c (n _ (by simp [own])) (n _ (by simp [own])) (hk1 z c (n _ (by simp [own])) (n _ (by simp [own])) h2 e))
      · walk_at "w"
        refine ⟨rfl, _, rfl, { d with q := q' }, hd1, haw1, rfl, by show tot d.L ≤ _; walk_at "la", hgb, fun z hz => ?_, fun z c h1 h2 e => ?_⟩
        · simp only [own, List.mem_cons, List.not_mem_nil, or_false] at hz ⊢
          rcases hz with rfl | rfl | rfl | rfl | rfl | rfl
          · simp
          · simp
          · rcases q'n with h | h
            · left; simpa [own] using h
            · exact .inr h
          · simp
          · simp
          · simp
        · have n : ∀ y, y ∈ own w d → z ≠ y := fun y hy e => h1 (e ▸ hy)
          exact hk1 z c (n _ (by simp [own])) (n _ (by simp [own])) h2 e
    · rintro V' H2 ⟨ol, rfl, d2, hd2, haw2, hl2, ht2, hgb2, hf2, hk2⟩
      have hcx1 : o.levels = d2.L.length := by rw [hl2]; exact hc1
      have hcx2 : o2.levels = d2.L.length := by rw [hl2]; exact hc2
      have aw2 : aw ∉ own w d2 := fun hm => by
        rcases hf2 aw hm with h | h
        · exact hna h
        · rw [haw] at h; cases h
      have g1 := best_good hd2.hL.ok ho
      have g2 := best_good hd2.hL.ok ho2
      -- the end of each path
      have fin : ∀ (H3 : Cells) (b : Best), WAt H3 w { d2 with b := some b } → Kept (own w d2) H2 H3 → GoodB d2.L b → Q (.bool true) H3 := fun H3 b h1 h2 h3 =>
        h H3 { d2 with b := some b } A' h1 (h2 _ _ aw2 haw2) hA1 (fun z c hz e => by
          simp only [List.mem_cons, not_or] at hz
          refine h2 z c (fun hm => ?_) (hk2 z c hz.2 hz.1 e)
          rcases hf2 z hm with hh | hh
          · exact hz.2 hh
          · rw [e] at hh; cases hh) hf2 hl2 ht2 ⟨b, rfl, h3⟩
      obtain ⟨k, hk⟩ : ∃ k : Int, x / 18 % 3 = k := ⟨_, rfl⟩
      let S : Option Best → Cells → Prop := fun b3 H3 => WAt H3 w { d2 with b := b3 } ∧ Kept (own w d2) H2 H3 ∧ ∀ b, b3 = some b → GoodB d2.L b
      refine seq_next ?_
      refine exs_at ([(153, some (.ref w)), (177, some (.ref aw)), (178, some (.int x)), (81, some o.T), (179, some o2.T), (57, some iordT), (181, some (.int k)), (68, ol)]) ?_ ?_
      · walk_at "w"
        refine op_div_int (by walk_at "la") (by walk_at "la") ?_
        walk_at "w"
        refine op_mod_int (by walk_at "la") ?_
        rw [hk]
        exact ⟨rfl, rfl, rfl⟩
      refine exs_cons (ex_nx (fun V' H' => (∃ b3, S b3 H') ∧ V' = [(153, some (.ref w)), (177, some (.ref aw)), (178, some (.int x)), (81, some o.T), (179, some o2.T), (57, some iordT), (181, some (.int k)), (68, ol)]) ?_ ?_)
      · walk_at "w"
        refine ite_dec (fun c => ?_) fun c => ?_
        · walk_at "w"
          refine cl_fn (sp_scored pf ho2 hd2 hcx2 fun H4 h1 h2 => ?_) (by walk_at "la")
          walk_at "w"
          refine ite_f ?_
          walk_at "w"
          exact ⟨rfl, ⟨_, h2, h1, fun b e => by cases e; exact g2⟩, rfl⟩
        · walk_at "w"
          exact ⟨rfl, ⟨d2.b, hd2, Kept.of SubH.rfl, hgb2⟩, rfl⟩
      rintro V' H4 ⟨⟨b3, hS1, hS2, hS3⟩, rfl⟩
      have hw4 := hS1.hw
      have hw4 : H4 w = some (.list [.ref d2.v, .ref d2.q, .ref d2.ls, .ref d2.pl, wT b3, .int d2.nx]) := hw4
      refine seq_next ?_
      refine exs_cons (ex_nx (fun V' H' => (∃ b4, S (some b4) H') ∧ V' = [(153, some (.ref w)), (177, some (.ref aw)), (178, some (.int x)), (81, some o.T), (179, some o2.T), (57, some iordT), (181, some (.int k)), (68, ol)]) ?_ ?_)
      · refine ex_if (Ts.mono (R := fun b H' => H' = H4 ∧ (b = false → ∃ b4, b3 = some b4)) ?_ ?_)
        · walk_at "w"
          refine ite_dec (fun c => ⟨rfl, fun e => by cases e⟩) fun c => ?_
          cases b3 with
          | none =>
            walk_at "w"
            exact ite_t ⟨rfl, fun e => by cases e⟩
          | some b4 =>
            walk_at "w"
            refine ite_f ?_
            walk_at "w"
            refine op_div_int (by walk_at "la") (by walk_at "la") ?_
            walk_at "w"
            refine op_mod_int (by walk_at "la") ?_
            walk_at "w"
            refine ite_dec (fun c => ⟨rfl, fun e => by cases e⟩) fun c => ?_
            refine ta_or_nil ⟨rfl, fun _ => ⟨b4, rfl⟩⟩
        · rintro b H5 ⟨rfl, hb⟩
          cases b with
          | true =>
            refine ite_t ?_
            walk_at "w"
            refine cl_fn (sp_scored pf ho hS1 hcx1 fun H6 h1 h2 => ?_) (by walk_at "la")
            walk_at "w"
            refine ite_f ?_
            walk_at "w"
            exact ⟨rfl, ⟨_, h2, hS2.trans h1, fun b e => by cases e; exact g1⟩, rfl⟩
          | false =>
            obtain ⟨b4, rfl⟩ := hb rfl
            refine ite_f ?_
            walk_at "w"
            exact ⟨rfl, ⟨b4, hS1, hS2, hS3⟩, rfl⟩
      rintro V' H5 ⟨⟨b4, hT1, hT2, hT3⟩, rfl⟩
      walk_at "w"
      have last := fin H5 b4 hT1 hT2 (hT3 b4 rfl)
      refine ite_dec (fun c => ?_) fun c => ?_
      · walk_at "w"
        refine op_div_int (by walk_at "la") (by walk_at "la") ?_
        walk_at "w"
        refine op_mod_int (by walk_at "la") ?_
        walk_at "w"
        refine ite_dec (fun c => ?_) fun c => ?_
        · walk_at "w"
          refine cl_fn (sp_scored pf ho2 hT1 hcx2 fun H6 h1 h2 => ?_) (by walk_at "la")
          exact ⟨_, SubH.rfl, fin H6 _ h2 (hT2.trans h1) g2⟩
        · walk_at "w"
          exact ⟨_, SubH.rfl, last⟩
      · walk_at "w"
        exact ⟨_, SubH.rfl, last⟩
end
end

section
theorem cutS_sub {most : Int} {xs : List F} : (cutS most xs).Sublist xs := by
  have key : ∀ n, n ≤ xs.length → ((List.range n).filterMap fun i => if octets (xs.take i) < most then xs[i]? else none).Sublist (xs.take n) := by
    intro n hn
    induction n with
    | zero => simp
    | succ k ih =>
      rw [List.range_succ, List.filterMap_append, List.take_add_one]
      refine (ih (by walk_at "la")).append ?_
      have e : xs[k]? = some (xs[k]'(by walk_at "la")) := List.getElem?_eq_getElem (by walk_at "la")
      rw [e]
      simp only [List.filterMap_cons, List.filterMap_nil]
      by_cases c : octets (xs.take k) < most
      · rw [if_pos c, e]; exact List.Sublist.refl _
      · rw [if_neg c]; exact List.nil_sublist _
  have := key xs.length (Nat.le_refl _)
  rwa [List.take_length] at this
theorem ovl_sublist {lev : Nat} {l : List F} {lo hi : Option Nat} : (ovl lev l lo hi).Sublist l := by unfold ovl; split <;> exact List.filter_sublist
theorem upM_sub {L : List (List F)} {lev : Nat} {o : Opt} {lo hi : Option Nat} : (upM L lev o lo hi).Sublist (L.getD lev []) := by
  unfold upM
  dsimp only
  split
  · exact ovl_sublist
  · exact cutS_sub.trans ovl_sublist
theorem firstP_mem {p : Option Key} {xs : List F} (h : xs ≠ []) : firstP p xs ∈ xs := by
  unfold firstP
  cases e : xs.filter (behind p) with
  | nil =>
    cases xs with
    | nil => exact absurd rfl h
    | cons a b => simp
  | cons y r =>
    have : y ∈ xs.filter (behind p) := by rw [e]; simp
    exact (List.mem_filter.mp this).1
theorem upP_sub {L : List (List F)} {lev : Nat} {P : List (Option Key)} (h : L.getD lev [] ≠ []) : (upP L lev P).Sublist (L.getD lev []) := by
  unfold upP
  dsimp only
  split
  · rename_i h0; subst h0; exact ovl_sublist
  · exact List.singleton_sublist.mpr (firstP_mem h)
theorem upP_ne {L : List (List F)} (hL : LsOk L) {lev : Nat} {P : List (Option Key)} (h : L.getD lev [] ≠ []) : upP L lev P ≠ [] := by
  unfold upP
  dsimp only
  split
  · rename_i h0
    subst h0
    have fm := firstP_mem (p := P.getD 0 none) h
    have fok := (hL.get 0).ok _ fm
    generalize firstP (P.getD 0 none) (L.getD 0 []) = x0 at fm fok
    have : [x0].Sublist (ovlS L 0 ([x0] ++ [])) := up_grown (lower := []) (by simpa using fm) (by
      intro y hy
      simp only [List.append_nil, List.mem_singleton] at hy
      subst hy; exact fok)
    rintro e
    rw [List.append_nil, e] at this
    simp at this
  · simp
theorem FsOk.sub {xs ys : List F} (h : FsOk ys) (hs : xs.Sublist ys) : FsOk xs := ⟨fun x hx => h.ok x (hs.subset hx), Nat.le_trans hs.length_le h.len⟩
theorem pair_ok {L : List (List F)} {lev : Nat} {o : Opt} {up : List F} (hL : LsOk L) (hup : FsOk up) (hne : up ≠ []) (hs : up.Sublist (L.getD lev [])) :
    FsOk (pairI L lev o up).1 ∧ FsOk (pairI L lev o up).2 ∧ (pairI L lev o up).1 ≠ [] ∧ (pairI L lev o up).1.length + (pairI L lev o up).2.length ≤ tot L := by
  have h1 := pair_spec (o := o) hL hup.ok hne hs
  have hlow := ovlS_ok hL (lev + 1) up
  have hll : (ovlS L (lev + 1) up).length ≤ (L.getD (lev + 1) []).length := ovl_len _ _ _ _
  have hall : ∀ x ∈ up ++ ovlS L (lev + 1) up, x.Ok := hup.app hlow
  have hg := up_grown (lower := ovlS L (lev + 1) up) hs hall
  have gok := ovlS_ok hL lev (up ++ ovlS L (lev + 1) up)
  have hgl : (ovlS L lev (up ++ ovlS L (lev + 1) up)).length ≤ (L.getD lev []).length := ovl_len _ _ _ _
  have t2 := tot_get2 (L := L) (i := lev)
  have ul := hs.length_le
  have gne : ovlS L lev (up ++ ovlS L (lev + 1) up) ≠ [] := fun e => by
    rw [e] at hg; exact hne (List.sublist_nil.mp hg)
  rw [h1]
  dsimp only
  refine ⟨?_, hlow, ?_, ?_⟩
  · split
    · exact hup
    · split
      · exact gok
      · exact hup
  · split
    · exact hne
    · split
      · exact gne
      · exact hne
  · split
    · walk_at "la"
    · split <;> walk_at "la"
theorem grand_ok {L : List (List F)} (hL : LsOk L) {lev : Nat} {ul : List F × List F} : FsOk (grandI L lev ul) := by
  unfold grandI
  split
  · exact ovlS_ok hL _ _
  · exact ⟨fun x hx => (by cases hx), by simp⟩
end

section
/-- what is kept of a compaction -/
structure Kp2 where
  lev : Nat
  v : Addr
  man : Bool
  up : List F
  lower : List F
  gr : List F
structure Kp2.Ok (k : Kp2) : Prop where
  u : FsOk k.up
  l : FsOk k.lower
  g : FsOk k.gr
  ne : k.up ≠ []
noncomputable def Kp2.c (o : Opt) (k : Kp2) : T := compT (.int (k.lev : Int)) (.ref k.v) o k.man k.up k.lower k.gr [.tup [.int (k.lev : Int), .bytes (ikB (hiK k.up))]]
noncomputable def Kp2.t (o : Opt) (k : Kp2) : T := .tup [k.c o, .int (k.lev : Int), .bool k.man, .lst (k.up.map fT), .lst (k.lower.map fT), .lst (k.gr.map fT)]
/-- the files that are to be taken -/
noncomputable def upU (L : List (List F)) (P : List (Option Key)) (man : Bool) (lev : Nat) (b : Best) (o : Opt) (lo hi : Option Nat) : List F :=
  if man then upM L lev o lo hi else if b.top < b.bot then [] else upP L lev P
inductive kMethXG (g : Gl) (f : Fm) (n k : Nat) (args : List Expr) (V : Vs) (R : Cells → Prop) (t : T) (H : Cells) : Prop
  | mk (C : Addr) (fs : List (Nat × T)) (fa : Addr) (h1 : AsInst H t C fs) (h2 : getF fs k = none) (h3 : tabGet2 methL C k = some fa) (h4 : tabHas2 clsL C 0 = true) (h5 : Evs g f n args V H (kMethX2 g n fa t R))
theorem methx_tree {g : Gl} {f : Fm} {n : Nat} {V : Vs} {H : Cells} {R : Cells → Prop} {C : Addr} {fs : List (Nat × T)} {k fa : Nat} {args : List Expr} (h1 : getF fs k = none) (h2 : tabGet2 methL C k = some fa) (h3 : tabHas2 clsL C 0 = true) (h : Evs g f n args V H (kMethX2 g n fa (.inst C fs) R)) : kMethXG g f n k args V R (.inst C fs) H := ⟨C, fs, fa, .tree, h1, h2, h3, h⟩
section
variable {g : Gl} (pf : PF g) {H : Cells} {Q : T → Cells → Prop}
include pf
theorem sp_upperU {w : Addr} {d : Wd} {man : Bool} {lev : Nat} {b : Best} {o : Opt} {lo hi : Option Nat} (hd : WLaw H w d) (hb : d.b = some b) (hg : GoodB d.L b) (hl : lev < d.L.length) (hm : man = false → lev = b.lev)
    (h : Q (.lst ((upU d.L d.P man lev b o lo hi).map fT)) H) : FSpec g 6 697 [.ref w, .bool man, .int (lev : Int), oT lo, oT hi, .int o.most] H Q := by
  cases man with
  | true => exact sp_upperM pf hd hl h
  | false =>
    refine sp_upperP pf hd hl hb (fun c => ?_) fun c => ⟨by rw [hm rfl]; exact hg.ne c, ?_⟩
    · unfold upU at h
      rw [if_neg (by decide), if_pos c] at h; exact h
    · unfold upU at h
      rw [if_neg (by decide), if_neg (by walk_at "la")] at h; exact h
theorem sp_userO {lo : Option Nat} (hlo : UOk lo) (h : Q (uT lo) H) : FSpec g 2 624 [oT lo] H Q := by
  cases lo with
  | none => exact sp_user0 pf h
  | some u => exact sp_user pf (hlo u rfl) h
theorem xv_methG {f : Fm} {n : Nat} {V : Vs} {o apos pos} {k : Nat} {args : List Expr} {l : List Env} {R : Cells → Prop} (ho : f.outer = some l)
    (h : Ev g f n o V H (kMethXG g f n k args V R))
    (hk : Nat.blt k nN = true := by rfl) (hp : ∀ pos env, (backTo pos (starEach args env)).any (·.1) = false := by intro _ _; rfl) (hl : args.length < 20 := by decide)
    (hb : ∀ env, attributeBase o (nm k) env (eval o env) = eval o env := by intro _; rfl) (hline : (apos.endLine == pos.line) = true := by rfl) : XEv g f n (.Call (.Attribute o (nm k) apos) args [] pos) V H R :=
  xv_meth ho (h.mono fun t H1 ⟨C, fs, fa, a, b, c, d, q⟩ => ⟨C, fs, fa, a, b, pf.cls C d, pf.meth C k fa c, q⟩) (Nat.le_refl _) hk hp hl hb hline
omit pf in
theorem FRaise.le {n m : Nat} {a : Addr} {ts : List T} {R : Cells → Prop} (h : FRaise g n a ts H R) (hm : n ≤ m) : FRaise g m a ts H R :=
  .mk fun A P Z s vs l hr hl hf x rd => h.go A P Z s vs l (hr.le hm) hl hf x rd
set_option maxHeartbeats 8000000 in
theorem sp_picked {w kp : Addr} {d : Wd} {b : Best} {K : List Kp2} {o : Opt} {man : Bool} {lev : Int} {lo hi : Option Nat} (ho : o.Ok) (hd : WAt H w d) (hb : d.b = some b) (hgb : GoodB d.L b) (hcnt : o.levels = d.L.length)
    (hkp : H kp = some (.list (K.map (Kp2.t o)))) (hnk : kp ∉ own w d) (hK : K.length ≤ 900) (hlo : UOk lo) (hhi : UOk hi) (h1 : -1 ≤ lev) (h2 : lev ≤ 100) (hm : man = false → lev = b.lev)
    (h : ∀ (H' : Cells) (P' : List (Option Key)) (K' : List Kp2) (up lower : List F) (triv : Bool), WAt H' w { d with P := P' } → H' kp = some (.list (K'.map (Kp2.t o))) → K'.length ≤ K.length + 1 → (∀ k ∈ K', k ∈ K ∨ k.Ok) →
      Kept (kp :: own w d) H H' → (up ≠ [] → 0 ≤ lev ∧ lev + 2 ≤ d.L.length ∧ FsOk up ∧ FsOk lower ∧ up.length + lower.length ≤ tot d.L ∧ (triv = true → up.length = 1)) → Q (.tup [.bool true, .lst (up.map fT), .lst (lower.map fT), .bool triv]) H') :
    FSpecA g 16 726 [.ref w, pickT o, o.T, .bool man, .int lev, oT lo, oT hi, .ref kp] H Q := by
  have l4 := hd.hL.ok.l4
  have l3 := hd.hL.ok.l3
  have hw := hd.hw
  have hq := hd.hq
  have nd := hd.ne
  have pl := hd.plen
  obtain ⟨dx, sc, sl, hv, hvb⟩ := hd.hv
  obtain ⟨rfl, rfl⟩ := hvb b hb
  have e1 := lvF_len (a := d.a0) hd.hL.ok.ne
  have kw : kp ≠ w := fun e => hnk (by simp [own, e])
  refine fspecA_of (m := 15) (ps := [153, 183, 81, 86, 59, 68, 69, 184]) (ls := [19, 186, 162, 164, 165]) (gs := [123, 113, 4, 161, 163, 168, 144]) (cs := []) (pf.fn 726 _ rfl) (by decide +kernel) rfl fun f l hf hg hc hout => ?_
  conv => arg 4; whnf
  simp only [N_0, N_1, N_2, N_3, N_4, N_5, N_6, N_7, N_8, N_9, N_10, N_11, N_12, N_13, N_14, N_15, N_16, N_17, N_18, N_19, N_20, N_21, N_22, N_23, N_24, N_25, N_26, N_27, N_28, N_29, N_30, N_31, N_32, N_33, N_34, N_35, N_36, N_37, N_38, N_39, N_40, N_41, N_42, N_43, N_44, N_45, N_46, N_47, N_48, N_49, N_50, N_51, N_52, N_53, N_54, N_55, N_56, N_57, N_58, N_59, N_60, N_61, N_62, N_63, N_64, N_65, N_66, N_67, N_68, N_69, N_70, N_71, N_72, N_73, N_74, N_75, N_76, N_77, N_78, N_79, N_80, N_81, N_82, N_83, N_84, N_85, N_86, N_87, N_88, N_89, N_90, N_91, N_92, N_93, N_94, N_95, N_96, N_97, N_98, N_99, N_100, N_101, N_102, N_103, N_104, N_105, N_106, N_107, N_108, N_109, N_110, N_111, N_112, N_113, N_114, N_115, N_116, N_117, N_118, N_119, N_120, N_121, N_122, N_123, N_124, N_125, N_126, N_127, N_128, N_129, N_130, N_131, N_132, N_133, N_134, N_135, N_136, N_137, N_138, N_139, N_140, N_141, N_142, N_143, N_144, N_145, N_146, N_147, N_148, N_149, N_150, N_151, N_152, N_153, N_154, N_155, N_156, N_157, N_158, N_159, N_160, N_161, N_162, N_163, N_164, N_165, N_166, N_167, N_168, N_169, N_170, N_171, N_172, N_173, N_174, N_175, N_176, N_177, N_178, N_179, N_180, N_181, N_182, N_183, N_184, N_185, N_186, N_187, N_188, N_189, N_190, N_191, N_192, N_193, N_194, N_195, N_196, N_197]
  walk_at "w"
  refine ev_list ?_
  walk_at "wi"
  let U : Nat → List F := fun ln => upU d.L d.P man ln b o lo hi
  refine exs_cons (ex_nx (fun V' H' => E2 fun (tc : T) (rb : Bool) => V' = [(153, some (.ref w)), (183, some (pickT o)), (81, some o.T), (86, some (.bool man)), (59, some (.int lev)), (68, some (oT lo)), (69, some (oT hi)), (184, some (.ref kp)), (19, some tc), (186, some (.bool rb)), (162, some (.lst [])), (164, none), (165, none)] ∧ ((rb = true ∧ tc = .none ∧ H' = H) ∨ (rb = false ∧ ∃ ln : Nat, lev = ln ∧ ln + 2 ≤ d.L.length ∧ (man = false → ln = b.lev) ∧ ((tc = .none ∧ H' = H ∧ U ln = []) ∨
      (U ln ≠ [] ∧ tc = compT (.int (ln : Int)) (.ref d.v) o man (pairI d.L ln o (U ln)).1 (pairI d.L ln o (U ln)).2 (grandI d.L ln (pairI d.L ln o (U ln))) [.tup [.int (ln : Int), .bytes (ikB (hiK (pairI d.L ln o (U ln)).1))]] ∧
        H' = updH H d.q (.list ((d.P.map pB).set ln (.bytes (ikB (hiK (pairI d.L ln o (U ln)).1))))))))) ) ?_ ?_)
  · walk_at "w"
    cases man with
    | true =>
      refine ite_t ?_
      by_cases hlv : 0 ≤ lev ∧ lev + 2 ≤ d.L.length
      · obtain ⟨ln, rfl⟩ : ∃ ln : Nat, lev = ln := ⟨lev.toNat, by walk_at "la"⟩
        refine exs_cons (ex_nx (fun V' H' => ∃ (tc : T), A4 (V' = [(153, some (.ref w)), (183, some (pickT o)), (81, some o.T), (86, some (.bool true)), (59, some (.int (ln : Int))), (68, some (oT lo)), (69, some (oT hi)), (184, some (.ref kp)), (19, some tc), (186, some (.bool false)), (162, some (.lst [])), (164, none), (165, none)]) (H' d.ls = H d.ls) (H' w = H w) (((tc = .none ∧ H' = H ∧ U ln = []) ∨
          (U ln ≠ [] ∧ tc = compT (.int (ln : Int)) (.ref d.v) o true (pairI d.L ln o (U ln)).1 (pairI d.L ln o (U ln)).2 (grandI d.L ln (pairI d.L ln o (U ln))) [.tup [.int (ln : Int), .bytes (ikB (hiK (pairI d.L ln o (U ln)).1))]] ∧
            H' = updH H d.q (.list ((d.P.map pB).set ln (.bytes (ikB (hiK (pairI d.L ln o (U ln)).1))))))))) ?_ ?_)
        · refine ex_try_ok ?_
          walk_at "w"
          refine cl_fn (sp_userO pf hlo ?_) (by walk_at "la")
          walk_at "w"
          refine cl_fn (sp_userO pf hhi ?_) (by walk_at "la")
          walk_at "w"
          refine (sp_pick_range pf (lo := lo) (hi := hi) ho hd.hL.ok hcnt (by walk_at "la") hv hq pl hlo hhi (fun hz => ?_) fun hz => ?_).le (by walk_at "la")
          · walk_at "w"
            exact ⟨rfl, _, rfl, rfl, rfl, .inl ⟨rfl, rfl, hz⟩⟩
          · walk_at "w"
            exact ⟨rfl, _, rfl, updH_ne (Ne.symm nd.ql), updH_ne nd.wq, .inr ⟨hz, rfl, rfl⟩⟩
        · rintro V' H' ⟨tc, rfl, k1, k2, k3⟩
          rw [hw] at k2
          rw [hd.hL.l] at k1
          walk_at "w"
          refine ev_or2 ?_
          walk_at "w"
          refine ite_dec (fun c => by exfalso; walk_at "la") fun c => ?_
          walk_at "w"
          refine cl_len_list (.cell k1) (by walk_at "la") ?_
          rw [e1]
          walk_at "w"
          rw [decide_eq_false (by walk_at "la")]
          refine op_ne_bool ?_
          refine ⟨_, rfl, ite_f ?_⟩
          walk_at "w"
          exact ⟨rfl, tc, false, rfl, .inr ⟨rfl, ln, rfl, by walk_at "la", (fun e => by cases e), k3⟩⟩
      · refine exs_cons (ex_nx (fun V' H' => V' = [(153, some (.ref w)), (183, some (pickT o)), (81, some o.T), (86, some (.bool true)), (59, some (.int lev)), (68, some (oT lo)), (69, some (oT hi)), (184, some (.ref kp)), (19, some .none), (186, some (.bool true)), (162, some (.lst [])), (164, none), (165, none)] ∧ H' = H) ?_ ?_)
        · refine ex_try_bad (R := fun H' => H' = H) pf hg rfl (by assumption) rfl ?_ ?_
          · refine xv_methG pf hout ?_
            walk_at "w"
            refine methx_tree (by rfl) (by rfl) (by rfl) ?_
            walk_at "w"
            refine cl_fn (sp_userO pf hlo ?_) (by walk_at "la")
            walk_at "w"
            refine cl_fn (sp_userO pf hhi ?_) (by walk_at "la")
            walk_at "w"
            exact (sp_pick_range_bad pf (lo := lo) (hi := hi) ho (by walk_at "la") (by walk_at "la") (by walk_at "la")).le (by walk_at "la")
          · rintro H' rfl
            exact ⟨rfl, rfl, rfl⟩
        · rintro V' H' ⟨rfl, rfl⟩
          walk_at "w"
          refine ev_or2 ?_
          walk_at "w"
          have tail : ∀ (X : Bool), X = true → True := fun _ _ => trivial
          refine ite_dec (fun c => ?_) fun c => ?_
          · refine op_ne_bool ?_
            refine ⟨_, rfl, ite_f ?_⟩
            walk_at "w"
            exact ⟨rfl, .none, true, rfl, .inl ⟨rfl, rfl, rfl⟩⟩
          · walk_at "w"
            refine cl_len_list (.cell hd.hL.l) (by walk_at "la") ?_
            rw [e1]
            walk_at "w"
            rw [decide_eq_true (by walk_at "la")]
            refine op_ne_bool ?_
            refine ⟨_, rfl, ite_f ?_⟩
            walk_at "w"
            exact ⟨rfl, .none, true, rfl, .inl ⟨rfl, rfl, rfl⟩⟩
    | false =>
      have hlev := hm rfl
      subst hlev
      have hgl := hgb.lev
      refine ite_f ?_
      walk_at "w"
      refine (sp_pick pf (lev := b.lev) (P := d.P) (o := o) ho hd.hL.ok hcnt hgb.lev hv hq hd.pok pl hgb.ne (fun c => ?_) fun c => ?_).le (by walk_at "la")
      · exact ⟨rfl, .none, false, rfl, .inr ⟨rfl, b.lev, rfl, hgl, fun _ => rfl, .inl ⟨rfl, rfl, by show upU _ _ _ _ _ _ _ _ = _; unfold upU; rw [if_neg (by decide), if_pos (by walk_at "la")]⟩⟩⟩
      · have eU : U b.lev = upP d.L b.lev d.P := by show upU _ _ _ _ _ _ _ _ = _; unfold upU; rw [if_neg (by decide), if_neg (by walk_at "la")]
        refine ⟨rfl, _, false, rfl, .inr ⟨rfl, b.lev, rfl, hgl, fun _ => rfl, .inr ⟨?_, ?_, ?_⟩⟩⟩
        · rw [eU]; exact upP_ne hd.hL.ok (hgb.ne c)
        · rw [eU]
        · rw [eU]
  · rintro V' H1 ⟨tc, rb, rfl, hcase⟩
    have hnone : Q (.tup [.bool true, .lst [], .lst [], .bool false]) H := h H d.P K [] [] false hd hkp (by walk_at "la") (fun k hk => .inl hk) (Kept.of SubH.rfl) (fun e => absurd rfl e)
    rcases hcase with ⟨rfl, rfl, rfl⟩ | ⟨rfl, ln, rfl, hln, hmb, hcase⟩
    · walk_at "w"
      refine ite_f ?_
      walk_at "w"
      refine ev_and2 ?_
      walk_at "w"
      refine cl_len_list (ts := []) .tree (by simp) ?_
      walk_at "w"
      refine ev_list ?_
      walk_at "w"
      refine ev_list ?_
      walk_at "w"
      exact ⟨_, SubH.rfl, hnone⟩
    rcases hcase with ⟨rfl, rfl, hU⟩ | ⟨hU, htc, rfl⟩
    · walk_at "w"
      refine ite_t ?_
      walk_at "w"
      walk_at "o"
      refine cl_fn (sp_upperU pf (man := man) (lo := lo) (hi := hi) hd.law hb hgb (by walk_at "la") hmb ?_) (by walk_at "la")
      rw [show upU d.L d.P man ln b o lo hi = [] from hU]
      walk_at "w"
      refine ev_and2 ?_
      walk_at "w"
      refine cl_len_list (ts := []) .tree (by simp) ?_
      walk_at "w"
      refine ev_list ?_
      walk_at "w"
      refine ev_list ?_
      walk_at "w"
      exact ⟨_, SubH.rfl, hnone⟩
    -- a compaction
    have hUsub : (U ln).Sublist (d.L.getD ln []) := by
      show (upU _ _ _ _ _ _ _ _).Sublist _
      unfold upU
      split
      · exact upM_sub
      · split
        · exact List.nil_sublist _
        · rename_i c1 c2
          have hmf : man = false := by cases man <;> simp at c1 ⊢
          exact upP_sub (by rw [hmb hmf]; exact hgb.ne (by walk_at "la"))
    have hUok : FsOk (U ln) := (hd.hL.ok.get ln).sub hUsub
    obtain ⟨p1, p2, p3, p4⟩ := pair_ok (o := o) hd.hL.ok hUok hU hUsub
    have p5 : FsOk (grandI d.L ln (pairI d.L ln o (U ln))) := grand_ok hd.hL.ok
    have eU : upU d.L d.P man ln b o lo hi = U ln := rfl
    generalize hH2 : updH H d.q (.list ((d.P.map pB).set ln (.bytes (ikB (hiK (pairI d.L ln o (U ln)).1))))) = H2
    have k0 : ∀ z c, z ≠ d.q → H z = some c → H2 z = some c := fun z c hz e => by rw [← hH2, updH_ne hz]; exact e
    have hLv2 : Lv H2 d.ls d.a0 d.L := ⟨k0 _ _ (Ne.symm nd.ql) hd.hL.l, k0 _ _ (Ne.symm nd.qa) hd.hL.a, hd.hL.ok⟩
    have hw2 := k0 _ _ nd.wq hw
    have hp2 := k0 _ _ (Ne.symm nd.qp) hd.hp
    have hq2 : H2 d.q = some (.list ((d.P.map pB).set ln (.bytes (ikB (hiK (pairI d.L ln o (U ln)).1))))) := by rw [← hH2, updH_self]
    have hkp2 := k0 _ _ (fun e => hnk (by simp [own, e])) hkp
    have hv2 := k0 _ _ nd.vq hv
    have hlaw : WLaw H2 w d := ⟨hw2, hLv2, hp2, hd.pok, pl⟩
    repeat walk_at "s"
    refine ite_t ?_
    repeat walk_at "s"
    walk_at "o"
    refine cl_fn (sp_upperU pf (man := man) (lo := lo) (hi := hi) hlaw hb hgb (by walk_at "la") hmb ?_) (by walk_at "la")
    rw [eU]
    have hUpos : 1 ≤ (U ln).length := List.length_pos_iff.mpr hU
    subst htc
    repeat walk_at "s"
    refine ite_f ?_
    repeat walk_at "s"
    refine cl_len_list .tree (by rw [List.length_map]; have := hUok.len; walk_at "la") ?_
    rw [List.length_map]
    repeat walk_at "s"
    refine ite_dec (fun c => by exfalso; walk_at "la") fun c => ?_
    repeat walk_at "s"
    refine ex_asg_tup (kps := [(162, _), (164, _), (165, _)]) (by assumption) rfl rfl ?_
    repeat walk_at "s"
    refine cl_fn (sp_whole pf (lev := ln) (o := o) (up := U ln) ho hLv2 (by walk_at "la") hUok hU hUsub ?_) (by walk_at "la")
    refine ⟨_, rfl, rfl, ?_⟩
    generalize grandI d.L ln (pairI d.L ln o (U ln)) = gr at p5 hH2 ⊢
    generalize (pairI d.L ln o (U ln)).2 = lower at p2 p4 ⊢
    generalize (pairI d.L ln o (U ln)).1 = up at p1 p3 p4 hq2 hH2 ⊢
    have p1l := p1.len
    have p2l := p2.len
    repeat walk_at "s"
    refine cl_fn (sp_told pf (lev := ln) (v := .ref d.v) (o := o) (man := man) (up := up) (lower := lower) (gr := gr) ho p1 p2 p5 p3 ?_) (by walk_at "la")
    repeat walk_at "s"
    refine ite_f ?_
    repeat walk_at "s"
    have hVV : setTs (setT [(153, some (.ref w)), (183, some (pickT o)), (81, some o.T), (86, some (.bool man)), (59, some (.int (ln : Int))), (68, some (oT lo)), (69, some (oT hi)), (184, some (.ref kp)), (19, some (compT (.int (ln : Int)) (.ref d.v) o man up lower gr [.tup [.int (ln : Int), .bytes (ikB (hiK up))]])), (186, some (.bool false)), (162, some (.lst [])), (164, none), (165, none)] 162 (.lst ((U ln).map fT))) [162, 164, 165] [.lst (up.map fT), .lst (lower.map fT), .lst (gr.map fT)] =
      [(153, some (.ref w)), (183, some (pickT o)), (81, some o.T), (86, some (.bool man)), (59, some (.int (ln : Int))), (68, some (oT lo)), (69, some (oT hi)), (184, some (.ref kp)), (19, some (compT (.int (ln : Int)) (.ref d.v) o man up lower gr [.tup [.int (ln : Int), .bytes (ikB (hiK up))]])), (186, some (.bool false)), (162, some (.lst (up.map fT))), (164, some (.lst (lower.map fT))), (165, some (.lst (gr.map fT)))] := rfl
    simp only [List.map_cons, List.map_nil]
    rw [hVV]
    refine ev_comp [] [] (by decide +kernel) rfl ?_
    unfold CompOk
    walk_at "w"
    refine ⟨F, up, fT, fun x => some (keyT x.hi), .list .tree, by walk_at "la", fun x hx fc hg' hc' => ⟨_, rfl, ?_⟩, ?_⟩
    · walk_at "w"
      walk_at "k"
      exact ⟨rfl, SubH.rfl⟩
    rw [fm_some]
    walk_at "w"
    refine sp_maxkey pf .tree p3 p1.ok ?_
    walk_at "w"
    refine asgs_cell hp2 (by walk_at "la") (by rw [List.length_map]; walk_at "la") (by rw [List.length_map]; walk_at "la") ?_
    rw [Int.toNat_natCast]
    have hP : (d.P.map oK).set ln (keyT (hiK up)) = (d.P.set ln (some (hiK up))).map oK := by rw [List.map_set]; rfl
    have hB : (d.P.map pB).set ln (.bytes (ikB (hiK up))) = (d.P.set ln (some (hiK up))).map pB := by rw [List.map_set]; rfl
    rw [hP]
    walk_at "w"
    have hkp3 : updH H2 d.pl (.list ((d.P.set ln (some (hiK up))).map oK)) kp = some (.list (K.map (Kp2.t o))) := by rw [updH_ne (fun e => hnk (by simp [own, e]))]; exact hkp2
    refine app_cell hkp3 ?_
    walk_at "w"
    refine ⟨_, hkp3, by rw [List.length_map]; walk_at "la", ?_⟩
    walk_at "w"
    refine ev_and2 ?_
    walk_at "w"
    refine (sp_trivial pf ho (by walk_at "la") (by walk_at "la") ?_).le (by walk_at "la")
    walk_at "w"
    generalize hH3 : updH (updH H2 d.pl (.list ((d.P.set ln (some (hiK up))).map oK))) kp _ = H3
    have kpl : kp ≠ d.pl := fun e => hnk (by simp [own, e])
    have k3 : ∀ z c, z ≠ d.pl → z ≠ kp → H2 z = some c → H3 z = some c := fun z c h1 h2 e => by rw [← hH3, updH_ne h2, updH_ne h1]; exact e
    have mem : ∀ z, z ∈ own w d → z ≠ kp := fun z hz e => hnk (e ▸ hz)
    have fin : ∀ tr : Bool, (tr = true → up.length = 1) → Q (.tup [.bool true, .lst (up.map fT), .lst (lower.map fT), .bool tr]) H3 := fun tr htr => by
      refine h H3 (d.P.set ln (some (hiK up))) (K ++ [⟨ln, d.v, man, up, lower, gr⟩]) up lower tr ⟨k3 _ _ nd.wp (mem _ (by simp [own])) hw2, ⟨dx, _, _, k3 _ _ nd.vp (mem _ (by simp [own])) hv2, hvb⟩, ?_, ⟨k3 _ _ nd.lp (mem _ (by simp [own])) hLv2.l, k3 _ _ nd.ap (mem _ (by simp [own])) hLv2.a, hLv2.ok⟩, ?_, ⟨fun p hp κ e => ?_⟩, by rw [List.length_set]; exact pl, hd.nd⟩ ?_ (by rw [List.length_append]; simp) (fun k hk => ?_) (fun z c hz e => ?_) (fun _ => ⟨by walk_at "la", by walk_at "la", p1, p2, p4, htr⟩)
      · dsimp only; rw [← hB]; exact k3 _ _ nd.qp (mem _ (by simp [own])) hq2
      · dsimp only; rw [← hH3, updH_ne (Ne.symm kpl), updH_self]
      · rcases List.mem_or_eq_of_mem_set hp with hp | rfl
        · exact hd.pok.ok p hp κ e
        · cases e; exact hiK_ok p1.ok
      · rw [← hH3, updH_self, List.map_append]; rfl
      · rcases List.mem_append.mp hk with hk | hk
        · exact .inl hk
        · simp only [List.mem_singleton] at hk
          subst hk
          exact .inr ⟨p1, p2, p5, p3⟩
      · simp only [List.mem_cons, not_or] at hz
        have n : ∀ y, y ∈ own w d → z ≠ y := fun y hy e => hz.2 (e ▸ hy)
        exact k3 z c (n _ (by simp [own])) hz.1 (k0 z c (n _ (by simp [own])) e)
    refine ite_b (fun c => ?_) fun c => ?_
    · refine ev_not (ev_name rfl ⟨_, rfl, ?_⟩)
      walk_at "w"
      refine ⟨_, SubH.rfl, fin _ fun _ => ?_⟩
      unfold trivB at c
      simp at c; walk_at "la"
    · walk_at "w"
      exact ⟨_, SubH.rfl, fin _ fun e => by cases e⟩
end
end

section
theorem toN {x : Int} (h : 0 ≤ x) : ∃ n : Nat, x = n := ⟨x.toNat, (Int.toNat_of_nonneg h).symm⟩
theorem b8 {j a b c : Nat} (hj : (j : Int) < 3 - 0) (ha : (a : Int) < 2) (hb : (b : Int) < 2) (hc : (c : Int) < 2) : 2 * j + a + b + c < 8 := by omega
theorem mn7 {a b h : Nat} (e : min (7 : Int) ((a : Int) + b) = h) (ha : (a : Int) < 8) : h < 8 ∧ a ≤ h := by omega
theorem mn70 {a b : Nat} : 0 ≤ min (7 : Int) ((a : Int) + b) := by omega
theorem modN {x m : Int} (hm : 0 < m) : ∃ n : Nat, x % m = n ∧ (n : Int) < m := by
  have h1 := Int.emod_nonneg x (Int.ne_of_gt hm)
  have h2 := Int.emod_lt_of_pos x hm
  exact ⟨(x % m).toNat, (Int.toNat_of_nonneg h1).symm, (Int.toNat_of_nonneg h1).symm ▸ h2⟩
section
variable {g : Gl} (pf : PF g) {H : Cells} {Q : T → Cells → Prop}
include pf
set_option maxHeartbeats 8000000 in
theorem sp_lay {y q : Int} {cnt w : Nat} (hy : 0 ≤ y) (hq : 0 ≤ q) (hc1 : 3 ≤ cnt) (hc2 : cnt ≤ 4) (hw : w ≤ 1)
    (h : ∀ ls a0 L H', H ls = none → H a0 = none → ls ≠ a0 → Lv H' ls a0 L → SubH H H' → L.length = cnt → tot L ≤ 12 → Q (.ref ls) H') : FSpec g 3 638 [.int y, .int q, .int (cnt : Int), .int (w : Int)] H Q := by
  refine fspec_of (m := 2) (ps := [126, 127, 112, 128]) (ls := [130, 131, 59, 132, 74, 58, 133, 68]) (gs := [63, 134]) (cs := []) (pf.fn 638 _ rfl) (by decide +kernel) rfl fun f hf hg hc => ?_
  conv => arg 4; whnf
  simp only [N_0, N_1, N_2, N_3, N_4, N_5, N_6, N_7, N_8, N_9, N_10, N_11, N_12, N_13, N_14, N_15, N_16, N_17, N_18, N_19, N_20, N_21, N_22, N_23, N_24, N_25, N_26, N_27, N_28, N_29, N_30, N_31, N_32, N_33, N_34, N_35, N_36, N_37, N_38, N_39, N_40, N_41, N_42, N_43, N_44, N_45, N_46, N_47, N_48, N_49, N_50, N_51, N_52, N_53, N_54, N_55, N_56, N_57, N_58, N_59, N_60, N_61, N_62, N_63, N_64, N_65, N_66, N_67, N_68, N_69, N_70, N_71, N_72, N_73, N_74, N_75, N_76, N_77, N_78, N_79, N_80, N_81, N_82, N_83, N_84, N_85, N_86, N_87, N_88, N_89, N_90, N_91, N_92, N_93, N_94, N_95, N_96, N_97, N_98, N_99, N_100, N_101, N_102, N_103, N_104, N_105, N_106, N_107, N_108, N_109, N_110, N_111, N_112, N_113, N_114, N_115, N_116, N_117, N_118, N_119, N_120, N_121, N_122, N_123, N_124, N_125, N_126, N_127, N_128, N_129, N_130, N_131, N_132, N_133, N_134, N_135, N_136, N_137, N_138, N_139, N_140, N_141, N_142, N_143, N_144, N_145, N_146, N_147, N_148, N_149, N_150, N_151, N_152, N_153, N_154, N_155, N_156, N_157, N_158, N_159, N_160, N_161, N_162, N_163, N_164, N_165, N_166, N_167, N_168, N_169, N_170, N_171, N_172, N_173, N_174, N_175, N_176, N_177, N_178, N_179, N_180, N_181, N_182, N_183, N_184, N_185, N_186, N_187, N_188, N_189, N_190, N_191, N_192, N_193, N_194, N_195, N_196, N_197]
  walk_at "w"
  refine ev_listX ?_
  walk_at "w"
  refine ev_listX ?_
  walk_at "w"
  intro a0 H1 na0 ha0 hs1
  walk_at "w"
  intro ls H2 nls hls hs2
  have ha02 := hs2 _ _ ha0
  have lsa : ls ≠ a0 := by rintro rfl; rw [ha0] at nls; cases nls
  have nlsH : H ls = none := by
    cases q : H ls with
    | none => rfl
    | some c => rw [hs1 _ _ q] at nls; cases nls
  have hsH : SubH H H2 := hs1.trans hs2
  refine seq_next ?_
  obtain ⟨k3, hk3, hk33⟩ := modN (x := y) (m := 3) (by decide)
  refine exs_cons (ex_nx (fun V' H' => E4 fun (l0 : List F) (o1 o2 o3 : Option T) => A6 (V' = [(126, some (.int y)), (127, some (.int q)), (112, some (.int (cnt : Int))), (128, some (.int (w : Int))), (130, some (.ref ls)), (131, o1), (59, none), (132, o2), (74, o3), (58, none), (133, none), (68, none)]) (H' ls = some (.list [.ref a0])) (H' a0 = some (.list (l0.map fT))) (l0.length ≤ 3) ((∀ x ∈ l0, x.Ok)) (SubH H H')) ?_ ?_)
  · refine ex_forR (by assumption) rfl ?_
    walk_at "w"
    refine op_mod_int (by decide) ?_
    rw [hk3]
    walk_at "w"
    refine cl_range1 ?_
    refine ⟨_, _, rfl, by walk_at "la", fun i V' H' => E4 fun (l0 : List F) (o1 o2 o3 : Option T) => A6 (V' = [(126, some (.int y)), (127, some (.int q)), (112, some (.int (cnt : Int))), (128, some (.int (w : Int))), (130, some (.ref ls)), (131, o1), (59, none), (132, o2), (74, o3), (58, none), (133, none), (68, none)]) (H' ls = some (.list [.ref a0])) (H' a0 = some (.list (l0.map fT))) (l0.length ≤ i) ((∀ x ∈ l0, x.Ok)) (SubH H H'), ⟨[], none, none, none, rfl, hls, ha02, by simp, by simp, hsH⟩, ?_, ?_⟩
    · rintro i V' H' hi ⟨l0, o1, o2, o3, rfl, q1, q2, q3, q4, q5⟩
      refine ⟨rfl, ?_⟩
      have ei : (0 : Int) + (i : Int) = (i : Int) := Int.zero_add _
      rw [ei]
      walk_at "w"
      refine op_div_int (by decide) (by decide) ?_
      walk_at "w"
      refine op_pow_int (by walk_at "la") (by walk_at "la") (by decide) ?_
      rw [Int.toNat_natCast]
      have h5a : (0 : Int) < 5 ^ i := Int.pow_pos (by decide)
      have h5b : (5 : Int) ^ i ≤ 25 := by
        have : i = 0 ∨ i = 1 ∨ i = 2 := by walk_at "la"
        rcases this with rfl | rfl | rfl <;> decide
      refine op_div_int h5a (by walk_at "la") ?_
      walk_at "w"
      refine op_mul_int (by decide) ?_
      walk_at "w"
      obtain ⟨s, hs⟩ := toN (x := y / 3 / 5 ^ i + 3 * (i : Int)) (by
        have h1 : 0 ≤ y / 3 := Int.ediv_nonneg hy (by decide)
        have h2 : 0 ≤ y / 3 / 5 ^ i := Int.ediv_nonneg h1 (by walk_at "la")
        walk_at "la")
      rw [hs]
      obtain ⟨m8, hm8, hm88⟩ := modN (x := (s : Int)) (m := 8) (by decide)
      obtain ⟨m3, hm3, hm33⟩ := modN (x := (s : Int) / 8) (m := 3) (by decide)
      obtain ⟨m12, hm12, hm1212⟩ := modN (x := (s : Int)) (m := 12) (by decide)
      obtain ⟨m24, hm24, hm243⟩ := modN (x := (s : Int) / 24) (m := 3) (by decide)
      obtain ⟨hn, hhn⟩ := toN (x := min (7 : Int) ((m8 : Int) + (m3 : Int))) mn70
      refine op_mod_int (by decide) ?_
      rw [hm8]
      walk_at "w"
      refine op_div_int (by decide) (by decide) ?_
      walk_at "w"
      refine op_mod_int (by decide) ?_
      rw [hm3]
      walk_at "w"
      refine cl_min2 ?_
      rw [hhn]
      walk_at "w"
      refine op_mul_int (by decide) ?_
      walk_at "w"
      refine op_mod_int (by decide) ?_
      rw [hm12]
      walk_at "w"
      refine op_mod_int (by decide) ?_
      rw [hm8]
      walk_at "w"
      refine op_div_int (by decide) (by decide) ?_
      walk_at "w"
      refine op_mod_int (by decide) ?_
      rw [hm24]
      walk_at "w"
      refine ⟨_, q2, by rw [List.length_map]; walk_at "la", ?_⟩
      have eF : T.tup [.int (100 * (w : Int) + 1 + (i : Int)), .int (1 + (m12 : Int)), .tup [.int (m8 : Int), .int (0 - 9 - (m24 : Int))], .tup [.int (hn : Int), .int (0 - 1 - (w : Int))]] = fT ⟨100 * (w : Int) + 1 + i, 1 + m12, ⟨m8, 9 + m24⟩, ⟨hn, 1 + w⟩⟩ := by
        unfold fT keyT
        try dsimp only
        rw [show (0 - 9 - (m24 : Int)) = -((9 + m24 : Nat) : Int) by walk_at "la", show (0 - 1 - (w : Int)) = -((1 + w : Nat) : Int) by walk_at "la"]
      rw [eF, ← List.map_singleton (f := fT), ← List.map_append]
      walk_at "w"
      refine ⟨l0 ++ [_], _, _, _, rfl, by rw [updH_ne lsa]; exact q1, updH_self, by rw [List.length_append, List.length_singleton]; walk_at "la", fun x hx => ?_, fun z c e => ?_⟩
      · rcases List.mem_append.mp hx with hx | hx
        · exact q4 x hx
        · simp only [List.mem_singleton] at hx
          subst hx
          exact ⟨by show (0 : Int) ≤ 1 + (m12 : Int); walk_at "la", by show 1 + (m12 : Int) ≤ 1000; walk_at "la", ⟨Int.ofNat_lt.mp hm88, by show 9 + m24 < 256; walk_at "la"⟩, ⟨(mn7 hhn hm88).1, by show 1 + w < 256; walk_at "la"⟩, (mn7 hhn hm88).2⟩
      · rw [updH_ne (by rintro rfl; rw [na0] at e; cases e)]; exact q5 z c e
    · rintro V' H' ⟨l0, o1, o2, o3, rfl, q1, q2, q3, q4, q5⟩
      exact ⟨rfl, l0, o1, o2, o3, rfl, q1, q2, by walk_at "la", q4, q5⟩
  · rintro V' H3 ⟨l0, o1, o2, o3, rfl, q1, q2, q3, q4, q5⟩
    refine seq_next ?_
    refine exs_cons (ex_nx (fun V' H' => E8 fun (L : List (List F)) (o1 o2 o3 o4 o5 o6 o7 : Option T) => A6 (V' = [(126, some (.int y)), (127, some (.int q)), (112, some (.int (cnt : Int))), (128, some (.int (w : Int))), (130, some (.ref ls)), (131, o1), (59, o2), (132, o3), (74, o4), (58, o5), (133, o6), (68, o7)]) (H' ls = some (.list (lvF a0 (l0 :: L)))) (H' a0 = some (.list (l0.map fT))) (L.length = cnt - 1) ((∀ l ∈ L, l.length ≤ 3 ∧ ∀ x ∈ l, x.Ok)) (SubH H H')) ?_ ?_)
    · refine ex_forR (by assumption) rfl ?_
      walk_at "w"
      refine cl_range2 ?_
      refine ⟨_, _, rfl, by walk_at "la", fun i V' H' => E8 fun (L : List (List F)) (o1 o2 o3 o4 o5 o6 o7 : Option T) => A6 (V' = [(126, some (.int y)), (127, some (.int q)), (112, some (.int (cnt : Int))), (128, some (.int (w : Int))), (130, some (.ref ls)), (131, o1), (59, o2), (132, o3), (74, o4), (58, o5), (133, o6), (68, o7)]) (H' ls = some (.list (lvF a0 (l0 :: L)))) (H' a0 = some (.list (l0.map fT))) (L.length = i) ((∀ l ∈ L, l.length ≤ 3 ∧ ∀ x ∈ l, x.Ok)) (SubH H H'),
        ⟨[], o1, none, o2, o3, none, none, none, rfl, q1, q2, rfl, by simp, q5⟩, ?_, ?_⟩
      · rintro i V' H' hi ⟨L, p1, p2, p3, p4, p5, p6, p7, rfl, w1, w2, w3, w4, w5⟩
        refine ⟨rfl, ?_⟩
        have ei : (1 : Int) + (i : Int) = ((i + 1 : Nat) : Int) := Int.add_comm 1 (i : Int)
        rw [ei]
        walk_at "w"
        refine op_pow_int (by walk_at "la") (by walk_at "la") (by decide) ?_
        rw [Int.toNat_natCast]
        have h4a : (0 : Int) < 4 ^ (i + 1) := Int.pow_pos (by decide)
        have h4b : (4 : Int) ^ (i + 1) ≤ 64 := by
          have : i = 0 ∨ i = 1 ∨ i = 2 := by walk_at "la"
          rcases this with rfl | rfl | rfl <;> decide
        refine op_div_int h4a (by walk_at "la") ?_
        obtain ⟨s, hs⟩ := toN (x := q / 4 ^ (i + 1)) (Int.ediv_nonneg hq (by walk_at "la"))
        rw [hs]
        walk_at "w"
        refine ev_listX ?_
        walk_at "w"
        intro fa H4 nfa hfa hs4
        have fals : fa ≠ ls := by rintro rfl; rw [w1] at nfa; cases nfa
        have faa : fa ≠ a0 := by rintro rfl; rw [w2] at nfa; cases nfa
        have nfaH : H fa = none := by
          cases q : H fa with
          | none => rfl
          | some c => rw [w5 _ _ q] at nfa; cases nfa
        obtain ⟨l2, hl2, hl22⟩ := modN (x := ((i + 1 : Nat) : Int)) (m := 2) (by decide)
        obtain ⟨s2, hs2', hs22⟩ := modN (x := (s : Int)) (m := 2) (by decide)
        refine seq_next ?_
        refine exs_cons (ex_nx (fun V' H' => E6 fun (fl : List F) (o1 o3 o4 o6 o7 : Option T) => A5 (V' = [(126, some (.int y)), (127, some (.int q)), (112, some (.int (cnt : Int))), (128, some (.int (w : Int))), (130, some (.ref ls)), (131, o1), (59, some (.int ((i + 1 : Nat) : Int))), (132, o3), (74, o4), (58, some (.ref fa)), (133, o6), (68, o7)]) (H' fa = some (.list (fl.map fT))) (fl.length ≤ 3) ((∀ x ∈ fl, x.Ok)) ((∀ z c, z ≠ fa → H4 z = some c → H' z = some c))) ?_ ?_)
        · refine ex_forR (by assumption) rfl ?_
          walk_at "w"
          refine cl_range1 ?_
          refine ⟨_, _, rfl, by walk_at "la", fun j V' H' => E5 fun (fl : List F) (o1 o4 o6 o7 : Option T) => A5 (V' = [(126, some (.int y)), (127, some (.int q)), (112, some (.int (cnt : Int))), (128, some (.int (w : Int))), (130, some (.ref ls)), (131, o1), (59, some (.int ((i + 1 : Nat) : Int))), (132, some (.int (s : Int))), (74, o4), (58, some (.ref fa)), (133, o6), (68, o7)]) (H' fa = some (.list (fl.map fT))) (fl.length ≤ j) ((∀ x ∈ fl, x.Ok)) ((∀ z c, z ≠ fa → H4 z = some c → H' z = some c)), ⟨[], _, _, _, _, rfl, hfa, by simp, by simp, fun z c _ e => e⟩, ?_, ?_⟩
          · rintro j V' H5 hj ⟨fl, r1, r4, r6, r7, rfl, u1, u2, u3, u4⟩
            refine ⟨rfl, ?_⟩
            have ei : (0 : Int) + (j : Int) = (j : Int) := Int.zero_add _
            rw [ei]
            walk_at "w"
            refine op_mod_int (by decide) ?_
            walk_at "w"
            refine ite_dec (fun c => ?_) fun c => ?_
            · walk_at "w"
              refine op_mul_int (by decide) ?_
              walk_at "w"
              refine op_mod_int (by decide) ?_
              rw [hl2]
              walk_at "w"
              refine op_mod_int (by decide) ?_
              rw [hs2']
              walk_at "w"
              refine op_div_int (by decide) (by decide) ?_
              walk_at "w"
              refine op_mod_int (by decide) ?_
              obtain ⟨e2, he2, he22⟩ := modN (x := (s : Int) / 4 + (j : Int)) (m := 2) (by decide)
              rw [he2]
              walk_at "w"
              refine op_mul_int (by decide) ?_
              walk_at "w"
              refine op_mul_int (by decide) ?_
              walk_at "w"
              refine op_mul_int (by decide) ?_
              walk_at "w"
              refine op_div_int (by decide) (by decide) ?_
              walk_at "w"
              refine op_mul_int (by decide) ?_
              walk_at "w"
              refine op_mod_int (by decide) ?_
              obtain ⟨z2, hz2, hz22⟩ := modN (x := (s : Int) / 3 + 5 * (j : Int)) (m := 12) (by decide)
              rw [hz2]
              walk_at "w"
              refine ⟨_, u1, by rw [List.length_map]; walk_at "la", ?_⟩
              have eF : T.tup [.int (100 * (w : Int) + 10 * ((i + 1 : Nat) : Int) + (j : Int)), .int (1 + (z2 : Int)), .tup [.int (2 * (j : Int) + (l2 : Int) + (s2 : Int)), .int (-8)], .tup [.int (2 * (j : Int) + (l2 : Int) + (s2 : Int) + (e2 : Int)), .int (0 - ((i + 1 : Nat) : Int) - 3 * (w : Int))]] =
                  fT ⟨100 * (w : Int) + 10 * ((i + 1 : Nat) : Int) + j, 1 + z2, ⟨2 * j + l2 + s2, 8⟩, ⟨2 * j + l2 + s2 + e2, i + 1 + 3 * w⟩⟩ := by
                unfold fT keyT
                try dsimp only
                rw [show (0 - ((i + 1 : Nat) : Int) - 3 * (w : Int)) = -((i + 1 + 3 * w : Nat) : Int) by walk_at "la", show (2 * (j : Int) + (l2 : Int) + (s2 : Int) + (e2 : Int)) = ((2 * j + l2 + s2 + e2 : Nat) : Int) by walk_at "la", show (2 * (j : Int) + (l2 : Int) + (s2 : Int)) = ((2 * j + l2 + s2 : Nat) : Int) from rfl]
                rfl
              rw [eF, ← List.map_singleton (f := fT), ← List.map_append]
              walk_at "w"
              refine ⟨fl ++ [_], _, _, _, _, rfl, updH_self, by rw [List.length_append, List.length_singleton]; walk_at "la", fun x hx => ?_, fun z c h1 e => by rw [updH_ne h1]; exact u4 z c h1 e⟩
              rcases List.mem_append.mp hx with hx | hx
              · exact u3 x hx
              · simp only [List.mem_singleton] at hx
                subst hx
                exact ⟨by show (0 : Int) ≤ 1 + (z2 : Int); walk_at "la", by show 1 + (z2 : Int) ≤ 1000; walk_at "la", ⟨Nat.lt_of_le_of_lt (Nat.le_add_right _ _) (b8 hj hl22 hs22 he22), show 8 < 256 by decide⟩, ⟨b8 hj hl22 hs22 he22, by show i + 1 + 3 * w < 256; walk_at "la"⟩, Nat.le_add_right _ _⟩
            · walk_at "w"
              exact ⟨fl, _, _, _, _, rfl, u1, by walk_at "la", u3, u4⟩
          · rintro V' H5 ⟨fl, r1, r4, r6, r7, rfl, u1, u2, u3, u4⟩
            exact ⟨rfl, fl, _, _, _, _, _, rfl, u1, by walk_at "la", u3, u4⟩
        · rintro V' H5 ⟨fl, r1, r3, r4, r6, r7, rfl, u1, u2, u3, u4⟩
          refine seq_next (Exs.fzV (k := 58) rfl u1 ?_)
          have v1 : delH H5 fa ls = some (.list (lvF a0 (l0 :: L))) := by rw [delH_ne (Ne.symm fals)]; exact u4 _ _ (Ne.symm fals) (hs4 _ _ w1)
          have v2 : delH H5 fa a0 = some (.list (l0.map fT)) := by rw [delH_ne (Ne.symm faa)]; exact u4 _ _ (Ne.symm faa) (hs4 _ _ w2)
          have v3 : SubH H (delH H5 fa) := fun z c e => by
            have hz : z ≠ fa := by rintro rfl; rw [nfaH] at e; cases e
            rw [delH_ne hz]; exact u4 z c hz (hs4 _ _ (w5 z c e))
          walk_at "w"
          refine ⟨_, v1, by rw [lvF_len (by simp)]; simp; walk_at "la", ?_⟩
          have eL : lvF a0 (l0 :: L) ++ [T.lst (fl.map fT)] = lvF a0 (l0 :: (L ++ [fl])) := by simp [lvF]
          refine ⟨L ++ [fl], _, _, _, _, _, _, _, rfl, by rw [updH_self]; exact congrArg (fun z => some (Cell.list z)) eL, by rw [updH_ne (Ne.symm lsa)]; exact v2, by rw [List.length_append, List.length_singleton]; walk_at "la", fun l hl => ?_, fun z c e => ?_⟩
          · rcases List.mem_append.mp hl with hl | hl
            · exact w4 l hl
            · simp only [List.mem_singleton] at hl
              subst hl
              exact ⟨u2, u3⟩
          · rw [updH_ne (by rintro rfl; rw [nlsH] at e; cases e)]; exact v3 z c e
      · rintro V' H' ⟨L, p1, p2, p3, p4, p5, p6, p7, rfl, w1, w2, w3, w4, w5⟩
        exact ⟨rfl, L, _, _, _, _, _, _, _, rfl, w1, w2, by walk_at "la", w4, w5⟩
    · rintro V' H' ⟨L, p1, p2, p3, p4, p5, p6, p7, rfl, w1, w2, w3, w4, w5⟩
      walk_at "w"
      refine ⟨_, SubH.rfl, h ls a0 (l0 :: L) H' nlsH na0 lsa ⟨w1, w2, ⟨fun l hl => ?_, by simp; walk_at "la", by simp; walk_at "la"⟩⟩ w5 (by simp; walk_at "la") ?_⟩
      · rcases List.mem_cons.mp hl with rfl | hl
        · exact ⟨q4, by walk_at "la"⟩
        · exact ⟨(w4 l hl).2, by have := (w4 l hl).1; walk_at "la"⟩
      · have key : ∀ (M : List (List F)), (∀ l ∈ M, l.length ≤ 3) → tot M ≤ 3 * M.length := fun M => by
          induction M with
          | nil => intro _; simp [tot]
          | cons a r ih =>
            intro hM
            have h1 := ih fun l hl => hM l (List.mem_cons_of_mem _ hl)
            have h2 := hM a List.mem_cons_self
            simp only [tot, List.map_cons, List.sum_cons, List.length_cons] at *
            walk_at "la"
        have := key (l0 :: L) fun l hl => by
          rcases List.mem_cons.mp hl with rfl | hl
          · exact q3
          · exact (w4 l hl).1
        simp only [List.length_cons] at this
        walk_at "la"
end
end

section
structure Two (H : Cells) (w w' : Addr) (d d' : Wd) (aw kp : Addr) (cnt T : Nat) : Prop where
  a : WAt H w d
  a' : WAt H w' d'
  dis : ∀ x ∈ own w d, x ∉ own w' d'
  l : d.L.length = cnt
  l' : d'.L.length = cnt
  t : tot d.L ≤ T
  t' : tot d'.L ≤ T
  g : ∀ b, d.b = some b → GoodB d.L b
  g' : ∀ b, d'.b = some b → GoodB d'.L b
  aw1 : aw ∉ own w d
  aw2 : aw ∉ own w' d'
  kp1 : kp ∉ own w d
  kp2 : kp ∉ own w' d'
  ak : aw ≠ kp
  al : ∃ c, H aw = some c
  kl : ∃ c, H kp = some c
theorem Two.symm {H : Cells} {w w' : Addr} {d d' : Wd} {aw kp : Addr} {cnt T : Nat} (h : Two H w w' d d' aw kp cnt T) : Two H w' w d' d aw kp cnt T :=
  ⟨h.a', h.a, fun x hx hx' => h.dis x hx' hx, h.l', h.l, h.t', h.t, h.g', h.g, h.aw2, h.aw1, h.kp2, h.kp1, h.ak, h.al, h.kl⟩
theorem Two.step {H H' : Cells} {w w' : Addr} {d d' e : Wd} {aw kp : Addr} {cnt T T' : Nat} (h : Two H w w' d d' aw kp cnt T) {xs : List Addr} (he : WAt H' w e) (hk : Kept (xs ++ own w d) H H') (hx : ∀ x ∈ xs, x = aw ∨ x = kp)
    (hf : ∀ x ∈ own w e, x ∈ own w d ∨ H x = none) (hl : e.L.length = d.L.length) (ht : tot e.L ≤ T') (hT : T ≤ T') (hg : ∀ b, e.b = some b → GoodB e.L b) (ha : ∃ c, H' aw = some c) (hkp : ∃ c, H' kp = some c) : Two H' w w' e d' aw kp cnt T' := by
  have out : ∀ x ∈ own w' d', x ∉ xs ++ own w d := fun x hx' hm => by
    rcases List.mem_append.mp hm with hm | hm
    · rcases hx x hm with rfl | rfl
      · exact h.aw2 hx'
      · exact h.kp2 hx'
    · exact h.dis x hm hx'
  obtain ⟨ca, ea⟩ := h.al
  obtain ⟨ck, ek⟩ := h.kl
  refine ⟨he, h.a'.keep fun x hx' c e => hk x c (out x hx') e, fun x hx1 hx2 => ?_, hl.trans h.l, h.l', ht, Nat.le_trans h.t' hT, hg, h.g', fun hm => ?_, h.aw2, fun hm => ?_, h.kp2, h.ak, ha, hkp⟩
  · rcases hf x hx1 with q | q
    · exact h.dis x q hx2
    · obtain ⟨c, e⟩ := h.a'.live x hx2
      rw [q] at e; cases e
  · rcases hf aw hm with q | q
    · exact h.aw1 q
    · rw [ea] at q; cases q
  · rcases hf kp hm with q | q
    · exact h.kp1 q
    · rw [ek] at q; cases q
theorem draw_bd {ns : List Int} (hn : ∀ n ∈ ns, 0 ≤ n ∧ n < 999983) {i : Nat} : 0 ≤ drawI ns i := by
  unfold drawI
  have : 0 ≤ ns.getD (i % ns.length) 0 := by
    rw [List.getD_eq_getElem?_getD]
    cases e : ns[i % ns.length]? with
    | none => simp
    | some a => exact (hn a (List.mem_of_getElem? e)).1
  have h2 : (0 : Int) ≤ ((i / ns.length : Nat) : Int) := Int.natCast_nonneg _
  generalize ((i / ns.length : Nat) : Int) = z at h2
  walk_at "la"
noncomputable def mainV (script : T) (ns : List Int) (hd b : T) (cnt : Nat) (o o2 : Opt) (w0 w1 aw kp : Addr) (ov : Nat → Option T) : Vs :=
  [(187, some script), (120, some (.lst (ns.map .int))), (189, some hd), (14, some b), (112, some (.int (cnt : Int))), (81, some o.T), (179, some o2.T), (57, some iordT), (183, some (pickT o)), (157, some (.lst [.ref w0, .ref w1])), (128, ov 128), (177, some (.ref aw)), (184, some (.ref kp)), (190, ov 190), (176, ov 176), (191, ov 191), (130, ov 130), (90, ov 90), (59, ov 59), (194, ov 194), (153, ov 153), (48, ov 48), (178, ov 178), (195, ov 195), (86, ov 86), (68, ov 68), (69, ov 69), (162, ov 162), (164, ov 164), (94, ov 94), (196, ov 196), (151, ov 151), (197, ov 197)]
noncomputable def turnV (script : T) (ns : List Int) (hd b : T) (cnt : Nat) (o o2 : Opt) (w0 w1 aw kp : Addr) (ov : Nat → Option T) (tt world x z manual level low high upper lower trivial again good : Option T) : Vs :=
  [(187, some script), (120, some (.lst (ns.map .int))), (189, some hd), (14, some b), (112, some (.int (cnt : Int))), (81, some o.T), (179, some o2.T), (57, some iordT), (183, some (pickT o)), (157, some (.lst [.ref w0, .ref w1])), (128, ov 128), (177, some (.ref aw)), (184, some (.ref kp)), (190, tt), (176, ov 176), (191, ov 191), (130, ov 130), (90, ov 90), (59, level), (194, ov 194), (153, world), (48, ov 48), (178, x), (195, z), (86, manual), (68, low), (69, high), (162, upper), (164, lower), (94, trivial), (196, again), (151, ov 151), (197, good)]
end

section
noncomputable def lawB : List Stmt := (fnI 68 0).body
section
variable {g : Gl} (pf : PF g) {H : Cells} {Q : T → Cells → Prop}
include pf
set_option maxHeartbeats 8000000 in
theorem law_main {f : Fm} {l : List Env} {script : T} {ns : List Int} {cnt : Nat} {o o2 : Opt} {hd b : T} {w0 w1 : Addr} {d0 d1 : Wd} {ov : Nat → Option T} {aw kp : Addr} (hf : f.full = true) (hg : f.globs = [4, 121, 192, 91, 193, 63, 129, 138, 154, 134, 180, 185, 158, 170, 168]) (hout : f.outer = some l)
    (hns : ns ≠ []) (hnl : ns.length ≤ 24) (hnb : ∀ n ∈ ns, 0 ≤ n ∧ n < 999983) (ho : o.Ok) (ho2 : o2.Ok) (hc1 : o.levels = cnt) (hc2 : o2.levels = cnt) (h3 : 3 ≤ cnt) (h4 : cnt ≤ 4)
    (h2 : Two H w0 w1 d0 d1 aw kp cnt 12) (haw : H aw = some (.list [])) (hkp : H kp = some (.list []))
    (h : ∀ H', Q (.bool true) H') :
    Exs g f 17 (lawB.drop 24) (mainV script ns hd b cnt o o2 w0 w1 aw kp ov) H (kFin Q) := by
  conv => arg 4; whnf
  simp only [N_0, N_1, N_2, N_3, N_4, N_5, N_6, N_7, N_8, N_9, N_10, N_11, N_12, N_13, N_14, N_15, N_16, N_17, N_18, N_19, N_20, N_21, N_22, N_23, N_24, N_25, N_26, N_27, N_28, N_29, N_30, N_31, N_32, N_33, N_34, N_35, N_36, N_37, N_38, N_39, N_40, N_41, N_42, N_43, N_44, N_45, N_46, N_47, N_48, N_49, N_50, N_51, N_52, N_53, N_54, N_55, N_56, N_57, N_58, N_59, N_60, N_61, N_62, N_63, N_64, N_65, N_66, N_67, N_68, N_69, N_70, N_71, N_72, N_73, N_74, N_75, N_76, N_77, N_78, N_79, N_80, N_81, N_82, N_83, N_84, N_85, N_86, N_87, N_88, N_89, N_90, N_91, N_92, N_93, N_94, N_95, N_96, N_97, N_98, N_99, N_100, N_101, N_102, N_103, N_104, N_105, N_106, N_107, N_108, N_109, N_110, N_111, N_112, N_113, N_114, N_115, N_116, N_117, N_118, N_119, N_120, N_121, N_122, N_123, N_124, N_125, N_126, N_127, N_128, N_129, N_130, N_131, N_132, N_133, N_134, N_135, N_136, N_137, N_138, N_139, N_140, N_141, N_142, N_143, N_144, N_145, N_146, N_147, N_148, N_149, N_150, N_151, N_152, N_153, N_154, N_155, N_156, N_157, N_158, N_159, N_160, N_161, N_162, N_163, N_164, N_165, N_166, N_167, N_168, N_169, N_170, N_171, N_172, N_173, N_174, N_175, N_176, N_177, N_178, N_179, N_180, N_181, N_182, N_183, N_184, N_185, N_186, N_187, N_188, N_189, N_190, N_191, N_192, N_193, N_194, N_195, N_196, N_197]
  refine exs_cons (ex_nx (fun V' H' => E5 fun (d0 d1 : Wd) (A : List (List (Option Key))) (K : List Kp2) (ov' : Nat → Option T) => A7 (V' = mainV script ns hd b cnt o o2 w0 w1 aw kp ov') (Two H' w0 w1 d0 d1 aw kp cnt 40) (H' aw = some (.list (A.map awT))) (A.length ≤ 100) (H' kp = some (.list (K.map (Kp2.t o)))) (K.length ≤ 100) (∀ k ∈ K, k.Ok)) ?_ ?_)
  · refine ex_forR (by assumption) rfl ?_
    walk_at "w"
    refine cl_len_list .tree (by rw [List.length_map]; walk_at "la") ?_
    rw [List.length_map]
    walk_at "w"
    refine op_div_int (by decide) (by decide) ?_
    walk_at "w"
    refine cl_min2 ?_
    walk_at "w"
    obtain ⟨c, hc, hc7⟩ := cap47 (n := ns.length)
    rw [hc]
    refine cl_range1 ?_
    refine ⟨_, _, rfl, rng0 (Int.natCast_nonneg c) (by walk_at "la"), fun i V' H' => E5 fun (d0 d1 : Wd) (A : List (List (Option Key))) (K : List Kp2) (ov' : Nat → Option T) => A7 (V' = mainV script ns hd b cnt o o2 w0 w1 aw kp ov') (Two H' w0 w1 d0 d1 aw kp cnt (12 + 3 * i)) (H' aw = some (.list (A.map awT))) (A.length ≤ i) (H' kp = some (.list (K.map (Kp2.t o)))) (K.length ≤ 2 * i) (∀ k ∈ K, k.Ok), ⟨d0, d1, [], [], ov, rfl, h2, haw, by simp, hkp, by simp, by simp⟩, ?_, ?_⟩
    · rintro i V' H' hi ⟨d0, d1, A, K, ov', rfl, k1, k2, k3, k4, k5, k6⟩
      refine ⟨rfl, ?_⟩
      have hi7 : i ≤ 6 := by walk_at "la"
      have ei : (0 : Int) + (i : Int) = (i : Int) := Int.zero_add _
      rw [ei]
      refine exs_at (turnV script ns hd b cnt o o2 w0 w1 aw kp ov' (some (.int i)) (ov' 153) (some (.int (drawI ns (6 + 2 * i)))) (ov' 195) (ov' 86) (ov' 59) (ov' 68) (ov' 69) (ov' 162) (ov' 164) (ov' 94) (ov' 196) (ov' 197)) ?_ ?_
      · walk_at "w"
        refine op_mul_int (by decide) ?_
        walk_at "w"
        rw [show (6 + 2 * (i : Int)) = ((6 + 2 * i : Nat) : Int) from rfl]
        refine cl_fn (sp_draw pf .tree hns (by walk_at "la") (by walk_at "la") ?_) (by walk_at "la")
        exact ⟨rfl, rfl, rfl⟩
      refine exs_at (turnV script ns hd b cnt o o2 w0 w1 aw kp ov' (some (.int i)) (ov' 153) (some (.int (drawI ns (6 + 2 * i)))) (some (.int (drawI ns (7 + 2 * i)))) (ov' 86) (ov' 59) (ov' 68) (ov' 69) (ov' 162) (ov' 164) (ov' 94) (ov' 196) (ov' 197)) ?_ ?_
      · walk_at "w"
        refine op_mul_int (by decide) ?_
        walk_at "w"
        rw [show (7 + 2 * (i : Int)) = ((7 + 2 * i : Nat) : Int) from rfl]
        refine cl_fn (sp_draw pf .tree hns (by walk_at "la") (by walk_at "la") ?_) (by walk_at "la")
        exact ⟨rfl, rfl, rfl⟩
      have hx0 := draw_bd hnb (i := 6 + 2 * i)
      have hz0 := draw_bd hnb (i := 7 + 2 * i)
      generalize drawI ns (6 + 2 * i) = x at hx0
      generalize drawI ns (7 + 2 * i) = z at hz0
      refine exs_atE1 (fun (ord : Bool) => turnV script ns hd b cnt o o2 w0 w1 aw kp ov' (some (.int i)) (some (.ref (if ord then w0 else w1))) (some (.int x)) (some (.int z)) (ov' 86) (ov' 59) (ov' 68) (ov' 69) (ov' 162) (ov' 164) (ov' 94) (ov' 196) (ov' 197)) ?_ ?_
      · walk_at "w"
        refine ite_dec (fun c => ?_) fun c => ?_
        · walk_at "w"
          refine op_sub_list .tree (by walk_at "la") (Nat.le_of_ble_eq_true rfl) (u := .ref (if (decide (i = 0)) = true then w0 else w1)) ?_ ⟨rfl, rfl, decide (i = 0), rfl⟩
          have : i = 0 ∨ i = 1 := by walk_at "la"
          rcases this with rfl | rfl <;> rfl
        · walk_at "w"
          refine op_mod_int (by decide) ?_
          obtain ⟨e, he, he2⟩ := modN (x := x) (m := 2) (by decide)
          rw [he]
          refine op_sub_list .tree (by walk_at "la") (Nat.le_of_ble_eq_true rfl) (u := .ref (if (decide (e = 0)) = true then w0 else w1)) ?_ ⟨rfl, rfl, decide (e = 0), rfl⟩
          have : e = 0 ∨ e = 1 := by walk_at "la"
          rcases this with rfl | rfl <;> rfl
      rintro ord
      obtain ⟨w, w', d, d', ew, hTwo, hback, hst⟩ : ∃ w w' d d', (if ord = true then w0 else w1) = w ∧ Two H' w w' d d' aw kp cnt (12 + 3 * i) ∧
          (∀ H' e T, Two H' w w' e d' aw kp cnt T → ∃ d0 d1, Two H' w0 w1 d0 d1 aw kp cnt T) ∧
          (∀ H' e, WAt H' w e → WAt H' w' d' → ∃ xs : List (Addr × Wd), [T.ref w0, T.ref w1] = xs.map (fun p => T.ref p.1) ∧ xs.length ≤ 10 ∧ ∀ p ∈ xs, WAt H' p.1 p.2) := by
        cases ord with
        | true => exact ⟨w0, w1, d0, d1, rfl, k1, fun H' e T h => ⟨_, _, h⟩, fun H' e a b => ⟨[(w0, e), (w1, d1)], rfl, by simp, fun p hp => by
            simp only [List.mem_cons, List.not_mem_nil, or_false] at hp
            rcases hp with rfl | rfl
            · exact a
            · exact b⟩⟩
        | false => exact ⟨w1, w0, d1, d0, rfl, k1.symm, fun H' e T h => ⟨_, _, h.symm⟩, fun H' e a b => ⟨[(w0, d0), (w1, e)], rfl, by simp, fun p hp => by
            simp only [List.mem_cons, List.not_mem_nil, or_false] at hp
            rcases hp with rfl | rfl
            · exact b
            · exact a⟩⟩
      rw [ew]
      clear k1 ew
      have hl1 : o.levels = d.L.length := by rw [hTwo.l]; exact hc1
      have hl2 : o2.levels = d.L.length := by rw [hTwo.l]; exact hc2
      -- readied
      refine exs_atH (turnV script ns hd b cnt o o2 w0 w1 aw kp ov' (some (.int i)) (some (.ref w)) (some (.int x)) (some (.int z)) (ov' 86) (ov' 59) (ov' 68) (ov' 69) (ov' 162) (ov' 164) (ov' 94) (ov' 196) (ov' 197)) (fun H3 => E3 fun (e : Wd) (A' : List (List (Option Key))) (bb : Best) => A5 (Two H3 w w' e d' aw kp cnt (12 + 3 * i + 1)) (H3 aw = some (.list (A'.map awT))) (A'.length ≤ i + 1) (H3 kp = some (.list (K.map (Kp2.t o)))) (e.b = some bb)) ?_ ?_
      · walk_at "w"
        refine cl_fn (sp_readied pf ho ho2 hTwo.a k2 hTwo.aw1 (by walk_at "la") hx0 hl1 hl2 (by have := hTwo.t; walk_at "la") hTwo.g fun H' d2 A' q1 q2 q3 q4 q5 q6 q7 q8 => ?_) (by walk_at "la")
        obtain ⟨bb, q8, q9⟩ := q8
        have hkp' : H' kp = some (.list (K.map (Kp2.t o))) := q4 _ _ (by
          simp only [List.mem_cons, not_or]
          exact ⟨Ne.symm hTwo.ak, hTwo.kp1⟩) k4
        walk_at "w"
        refine ite_f ?_
        walk_at "w"
        exact ⟨rfl, rfl, d2, A', bb, hTwo.step (xs := [aw]) q1 q4 (by simp) q5 q6 (by have := hTwo.t; walk_at "la") (by walk_at "la") (fun b' e => by rw [q8] at e; cases e; exact q9) ⟨_, q2⟩ ⟨_, hkp'⟩, q2, by walk_at "la", hkp', q8⟩
      rintro H3 ⟨e, A', bb, hTwo3, k2', k3', k4', heb⟩
      have hgb := hTwo3.g bb heb
      have hw3 := hTwo3.a.hw
      rw [heb] at hw3
      have hw3 : H3 w = some (.list [.ref e.v, .ref e.q, .ref e.ls, .ref e.pl, bT bb, .int e.nx]) := hw3
      refine exs_atE1 (fun (man : Bool) => turnV script ns hd b cnt o o2 w0 w1 aw kp ov' (some (.int i)) (some (.ref w)) (some (.int x)) (some (.int z)) (some (.bool man)) (ov' 59) (ov' 68) (ov' 69) (ov' 162) (ov' 164) (ov' 94) (ov' 196) (ov' 197)) ?_ ?_
      · walk_at "w"
        refine ev_and2 ?_
        walk_at "w"
        refine ite_dec (fun c => ?_) fun c => ?_
        · walk_at "w"
          refine op_mod_int (by decide) ?_
          walk_at "w"
          exact ⟨rfl, rfl, _, rfl⟩
        · exact ⟨rfl, rfl, _, rfl⟩
      rintro man
      have hblev := hgb.lev
      have hel : e.L.length = cnt := hTwo3.l
      refine exs_at (turnV script ns hd b cnt o o2 w0 w1 aw kp ov' (some (.int i)) (some (.ref w)) (some (.int x)) (some (.int z)) (some (.bool man)) (some (.int (bb.lev : Int))) (ov' 68) (ov' 69) (ov' 162) (ov' 164) (ov' 94) (ov' 196) (ov' 197)) ?_ ?_
      · walk_at "w"
        walk_at "k"
        exact ⟨rfl, rfl, rfl⟩
      refine exs_at (turnV script ns hd b cnt o o2 w0 w1 aw kp ov' (some (.int i)) (some (.ref w)) (some (.int x)) (some (.int z)) (some (.bool man)) (some (.int (bb.lev : Int))) (some .none) (ov' 69) (ov' 162) (ov' 164) (ov' 94) (ov' 196) (ov' 197)) ?_ ?_
      · walk_at "w"
        exact ⟨rfl, rfl, rfl⟩
      refine exs_at (turnV script ns hd b cnt o o2 w0 w1 aw kp ov' (some (.int i)) (some (.ref w)) (some (.int x)) (some (.int z)) (some (.bool man)) (some (.int (bb.lev : Int))) (some .none) (some .none) (ov' 162) (ov' 164) (ov' 94) (ov' 196) (ov' 197)) ?_ ?_
      · walk_at "w"
        exact ⟨rfl, rfl, rfl⟩
      refine exs_atP3 (fun (lev : Int) (lo : Option Nat) (hi : Option Nat) => turnV script ns hd b cnt o o2 w0 w1 aw kp ov' (some (.int i)) (some (.ref w)) (some (.int x)) (some (.int z)) (some (.bool man)) (some (.int lev)) (some (oT lo)) (some (oT hi)) (ov' 162) (ov' 164) (ov' 94) (ov' 196) (ov' 197)) (fun (lev : Int) (lo : Option Nat) (hi : Option Nat) => A5 (-1 ≤ lev) (lev ≤ 100) (man = false → lev = bb.lev) (UOk lo) (UOk hi)) ?_ ?_
      · walk_at "w"
        cases man with
        | false =>
          refine ite_f ?_
          walk_at "w"
          exact ⟨rfl, rfl, _, none, none, rfl, by walk_at "la", by walk_at "la", fun _ => rfl, (fun u e => by cases e), (fun u e => by cases e)⟩
        | true =>
          obtain ⟨k8, hk8, hk88⟩ := modN (x := z / 8) (m := 8) (by decide)
          refine ite_t ?_
          refine exs_atP1 (fun (lev : Int) => turnV script ns hd b cnt o o2 w0 w1 aw kp ov' (some (.int i)) (some (.ref w)) (some (.int x)) (some (.int z)) (some (.bool true)) (some (.int lev)) (some .none) (some .none) (ov' 162) (ov' 164) (ov' 94) (ov' 196) (ov' 197)) (fun (lev : Int) => (-1 ≤ lev) ∧ (lev ≤ 100)) ?_ ?_
          · walk_at "w"
            refine op_div_int (by decide) (by decide) ?_
            walk_at "w"
            refine op_mod_int (by decide) ?_
            rw [hk8]
            walk_at "w"
            refine op_mod_int (by walk_at "la") ?_
            obtain ⟨kc, hkc, hkc2⟩ := modN (x := (k8 : Int)) (m := (cnt : Int) - 1) (by walk_at "la")
            rw [hkc]
            exact ⟨rfl, rfl, _, rfl, by walk_at "la", by walk_at "la"⟩
          rintro lev ⟨hv1, hv2⟩
          refine exs_atP1 (fun (lev : Int) => turnV script ns hd b cnt o o2 w0 w1 aw kp ov' (some (.int i)) (some (.ref w)) (some (.int x)) (some (.int z)) (some (.bool true)) (some (.int lev)) (some .none) (some .none) (ov' 162) (ov' 164) (ov' 94) (ov' 196) (ov' 197)) (fun (lev : Int) => (-1 ≤ lev) ∧ (lev ≤ 100)) ?_ ?_
          · walk_at "w"
            refine op_div_int (by decide) (by decide) ?_
            walk_at "w"
            refine op_mod_int (by decide) ?_
            rw [hk8]
            walk_at "w"
            refine ite_dec (fun c => ?_) fun c => ?_
            · walk_at "w"
              refine op_div_int (by decide) (by decide) ?_
              walk_at "w"
              refine op_mod_int (by decide) ?_
              rw [hk8]
              walk_at "w"
              have : k8 = 6 ∨ k8 = 7 := by walk_at "la"
              rcases this with rfl | rfl
              · refine op_sub_tup (by decide) (Nat.le_of_ble_eq_true rfl) (u := .int ((cnt : Int) - 1)) rfl ?_
                exact ⟨rfl, rfl, _, rfl, by walk_at "la", by walk_at "la"⟩
              · refine op_sub_tup (by decide) (Nat.le_of_ble_eq_true rfl) (u := .int (-1)) rfl ?_
                exact ⟨rfl, rfl, _, rfl, by walk_at "la", by walk_at "la"⟩
            · walk_at "w"
              exact ⟨rfl, rfl, lev, rfl, hv1, hv2⟩
          rintro lev ⟨hv1, hv2⟩
          refine exs_atP1 (fun (lo : Option Nat) => turnV script ns hd b cnt o o2 w0 w1 aw kp ov' (some (.int i)) (some (.ref w)) (some (.int x)) (some (.int z)) (some (.bool true)) (some (.int lev)) (some (oT lo)) (some .none) (ov' 162) (ov' 164) (ov' 94) (ov' 196) (ov' 197)) (fun (lo : Option Nat) => UOk lo) ?_ ?_
          · walk_at "w"
            refine op_div_int (by decide) (by decide) ?_
            walk_at "w"
            refine op_mod_int (by decide) ?_
            walk_at "w"
            refine ite_dec (fun c => ?_) fun c => ?_
            · walk_at "w"
              refine op_div_int (by decide) (by decide) ?_
              walk_at "w"
              refine op_mod_int (by decide) ?_
              obtain ⟨u, hu, hu8⟩ := modN (x := z / 64) (m := 8) (by decide)
              rw [hu]
              exact ⟨rfl, rfl, some u, rfl, fun v e => by cases e; walk_at "la"⟩
            · walk_at "w"
              exact ⟨rfl, rfl, none, rfl, fun v e => by cases e⟩
          rintro lo hlo
          walk_at "w"
          refine op_div_int (by decide) (by decide) ?_
          walk_at "w"
          refine op_mod_int (by decide) ?_
          walk_at "w"
          refine ite_dec (fun c => ?_) fun c => ?_
          · walk_at "w"
            refine op_div_int (by decide) (by decide) ?_
            walk_at "w"
            refine op_mod_int (by decide) ?_
            obtain ⟨u, hu, hu8⟩ := modN (x := z / 512) (m := 8) (by decide)
            rw [hu]
            walk_at "w"
            exact ⟨rfl, rfl, lev, lo, some u, rfl, hv1, hv2, (fun e => by cases e), hlo, fun v e => by cases e; walk_at "la"⟩
          · walk_at "w"
            exact ⟨rfl, rfl, lev, lo, none, rfl, hv1, hv2, (fun e => by cases e), hlo, fun v e => by cases e⟩
      rintro lev lo hi2 ⟨hv1, hv2, hmb, hlo, hhi⟩
      refine exs_at (turnV script ns hd b cnt o o2 w0 w1 aw kp ov' (some (.int i)) (some (.ref w)) (some (.int x)) (some (.int z)) (some (.bool man)) (some (.int lev)) (some (oT lo)) (some (oT hi2)) (some (.lst [])) (ov' 164) (ov' 94) (ov' 196) (ov' 197)) ?_ ?_
      · walk_at "w"
        refine ev_list ?_
        walk_at "w"
        exact ⟨rfl, rfl, rfl⟩
      refine exs_at (turnV script ns hd b cnt o o2 w0 w1 aw kp ov' (some (.int i)) (some (.ref w)) (some (.int x)) (some (.int z)) (some (.bool man)) (some (.int lev)) (some (oT lo)) (some (oT hi2)) (some (.lst [])) (some (.lst [])) (ov' 94) (ov' 196) (ov' 197)) ?_ ?_
      · walk_at "w"
        refine ev_list ?_
        walk_at "w"
        exact ⟨rfl, rfl, rfl⟩
      refine exs_at (turnV script ns hd b cnt o o2 w0 w1 aw kp ov' (some (.int i)) (some (.ref w)) (some (.int x)) (some (.int z)) (some (.bool man)) (some (.int lev)) (some (oT lo)) (some (oT hi2)) (some (.lst [])) (some (.lst [])) (some (.bool false)) (ov' 196) (ov' 197)) ?_ ?_
      · walk_at "w"
        exact ⟨rfl, rfl, rfl⟩
      have hK2 : K.length ≤ 2 * i := k5
      refine exs_cons (ex_nx (fun V' H12 => E7 fun (P' : List (Option Key)) (K' : List Kp2) (up lower : List F) (triv : Bool) (oa og : Option T) => A7 (V' = turnV script ns hd b cnt o o2 w0 w1 aw kp ov' (some (.int i)) (some (.ref w)) (some (.int x)) (some (.int z)) (some (.bool man)) (some (.int lev)) (some (oT lo)) (some (oT hi2)) (some (.lst (up.map fT))) (some (.lst (lower.map fT))) (some (.bool triv)) oa og) (Two H12 w w' { e with P := P' } d' aw kp cnt (12 + 3 * i + 1)) (H12 aw = some (.list (A'.map awT))) (H12 kp = some (.list (K'.map (Kp2.t o)))) (K'.length ≤ 2 * i + 2) ((∀ k ∈ K', k.Ok)) ((up ≠ [] → 0 ≤ lev ∧ lev + 2 ≤ e.L.length ∧ FsOk up ∧ FsOk lower ∧ up.length + lower.length ≤ tot e.L ∧ (triv = true → up.length = 1)))) ?_ ?_)
      · refine ex_forR (by assumption) rfl ?_
        walk_at "w"
        refine op_div_int (by decide) (by decide) ?_
        walk_at "w"
        refine op_mod_int (by decide) ?_
        obtain ⟨kr, hkr, hkr2⟩ := modN (x := z / 4) (m := 2) (by decide)
        rw [hkr]
        walk_at "w"
        refine cl_range1 ?_
        refine ⟨_, _, rfl, by walk_at "la", fun j V' H12 => E7 fun (P' : List (Option Key)) (K' : List Kp2) (up lower : List F) (triv : Bool) (oa og : Option T) => A7 (V' = turnV script ns hd b cnt o o2 w0 w1 aw kp ov' (some (.int i)) (some (.ref w)) (some (.int x)) (some (.int z)) (some (.bool man)) (some (.int lev)) (some (oT lo)) (some (oT hi2)) (some (.lst (up.map fT))) (some (.lst (lower.map fT))) (some (.bool triv)) oa og) (Two H12 w w' { e with P := P' } d' aw kp cnt (12 + 3 * i + 1)) (H12 aw = some (.list (A'.map awT))) (H12 kp = some (.list (K'.map (Kp2.t o)))) (K'.length ≤ 2 * i + j) ((∀ k ∈ K', k.Ok)) ((up ≠ [] → 0 ≤ lev ∧ lev + 2 ≤ e.L.length ∧ FsOk up ∧ FsOk lower ∧ up.length + lower.length ≤ tot e.L ∧ (triv = true → up.length = 1))),
          ⟨e.P, K, [], [], false, _, _, rfl, hTwo3, k2', k4', by walk_at "la", k6, fun h => absurd rfl h⟩, ?_, ?_⟩
        · rintro j V' H12 hj ⟨P', K', up, lower, triv, oa, og, rfl, m1, m2, m3, m4, m5, m6⟩
          refine ⟨rfl, ?_⟩
          refine exs_cons (ex_nx (fun V' H12 => E6 fun (P' : List (Option Key)) (K' : List Kp2) (up lower : List F) (triv : Bool) (oa : Option T) => A7 (V' = turnV script ns hd b cnt o o2 w0 w1 aw kp ov' (some (.int i)) (some (.ref w)) (some (.int x)) (some (.int z)) (some (.bool man)) (some (.int lev)) (some (oT lo)) (some (oT hi2)) (some (.lst (up.map fT))) (some (.lst (lower.map fT))) (some (.bool triv)) oa (some (.bool true))) (Two H12 w w' { e with P := P' } d' aw kp cnt (12 + 3 * i + 1)) (H12 aw = some (.list (A'.map awT))) (H12 kp = some (.list (K'.map (Kp2.t o)))) (K'.length ≤ 2 * i + (j + 1)) ((∀ k ∈ K', k.Ok)) ((up ≠ [] → 0 ≤ lev ∧ lev + 2 ≤ e.L.length ∧ FsOk up ∧ FsOk lower ∧ up.length + lower.length ≤ tot e.L ∧ (triv = true → up.length = 1)))) ?_ ?_)
          · refine ex_asg_tup (kps := [(197, _), (162, _), (164, _), (94, _)]) (by assumption) rfl rfl ?_
            walk_at "w"
            refine cl_fnA (sp_picked pf (b := bb) (lo := lo) (hi := hi2) (K := K') ho m1.a heb hgb (by rw [hel]; exact hc1) m3 m1.kp1 (by walk_at "la") hlo hhi hv1 hv2 hmb fun H13 P2 K2 up2 low2 tr2 r1 r2 r3 r4 r5 r6 => ?_) hout (by walk_at "la")
            refine ⟨_, rfl, rfl, ?_⟩
            have haw13 : H13 aw = some (.list (A'.map awT)) := r5 _ _ (by
              simp only [List.mem_cons, not_or]
              exact ⟨m1.ak, m1.aw1⟩) m2
            exact ⟨rfl, P2, K2, up2, low2, tr2, _, rfl, m1.step (xs := [kp]) r1 r5 (by simp) (fun y hy => .inl hy) rfl m1.t (Nat.le_refl _) m1.g ⟨_, haw13⟩ ⟨_, r2⟩, haw13, r2, by walk_at "la", fun k hk => (r4 k hk).elim (m5 k) id, r6⟩
          · rintro V' H13 ⟨P2, K2, up2, low2, tr2, oa2, rfl, r1, r2, r3, r4, r5, r6⟩
            walk_at "w"
            refine ite_f ?_
            walk_at "w"
            exact ⟨P2, K2, up2, low2, tr2, _, _, rfl, r1, r2, r3, r4, r5, r6⟩
        · rintro V' H12 ⟨P', K', up, lower, triv, oa, og, rfl, m1, m2, m3, m4, m5, m6⟩
          exact ⟨rfl, P', K', up, lower, triv, oa, og, rfl, m1, m2, m3, by walk_at "la", m5, m6⟩
      rintro V' H12 ⟨P', K', up, lower, triv, oa, og, rfl, m1, m2, m3, m4, m5, m6⟩
      obtain ⟨xs, hxs, hxl, hxw⟩ := hst H12 _ m1.a m1.a'
      refine seq_next ?_
      refine exs_cons (ex_nx (fun V' H13 => H13 = H12 ∧ V' = turnV script ns hd b cnt o o2 w0 w1 aw kp ov' (some (.int i)) (some (.ref w)) (some (.int x)) (some (.int z)) (some (.bool man)) (some (.int lev)) (some (oT lo)) (some (oT hi2)) (some (.lst (up.map fT))) (some (.lst (lower.map fT))) (some (.bool triv)) oa og) ?_ ?_)
      · walk_at "w"
        refine cl_fn (sp_stands pf (xs := xs) (by rw [← hxs]; exact .tree) hxl hxw ?_) (by walk_at "la")
        walk_at "w"
        refine ite_f ?_
        walk_at "w"
        exact ⟨rfl, rfl, rfl⟩
      rintro V' H13 ⟨rfl, rfl⟩
      have fin : ∀ (H' : Cells) (e2 : Wd) (V' : Vs) (hV : ∃ ov2, V' = mainV script ns hd b cnt o o2 w0 w1 aw kp ov2), Two H' w w' e2 d' aw kp cnt (12 + 3 * (i + 1)) → H' aw = some (.list (A'.map awT)) → H' kp = some (.list (K'.map (Kp2.t o))) →
          E5 fun (d0 d1 : Wd) (A : List (List (Option Key))) (K : List Kp2) (ov' : Nat → Option T) => A7 (V' = mainV script ns hd b cnt o o2 w0 w1 aw kp ov') (Two H' w0 w1 d0 d1 aw kp cnt (12 + 3 * (i + 1))) (H' aw = some (.list (A.map awT))) (A.length ≤ i + 1) (H' kp = some (.list (K.map (Kp2.t o)))) (K.length ≤ 2 * (i + 1)) (∀ k ∈ K, k.Ok) := fun H' e2 V' hV h1 h2 h3 => by
        obtain ⟨d0, d1, hd01⟩ := hback H' e2 _ h1
        obtain ⟨ov2, hV⟩ := hV
        exact ⟨d0, d1, A', K', ov2, hV, hd01, h2, k3', h3, by walk_at "la", m5⟩
      have hVmain : ∃ ov2, turnV script ns hd b cnt o o2 w0 w1 aw kp ov' (some (.int i)) (some (.ref w)) (some (.int x)) (some (.int z)) (some (.bool man)) (some (.int lev)) (some (oT lo)) (some (oT hi2)) (some (.lst (up.map fT))) (some (.lst (lower.map fT))) (some (.bool triv)) oa og = mainV script ns hd b cnt o o2 w0 w1 aw kp ov2 :=
        ⟨fun k => getT (turnV script ns hd b cnt o o2 w0 w1 aw kp ov' (some (.int i)) (some (.ref w)) (some (.int x)) (some (.int z)) (some (.bool man)) (some (.int lev)) (some (oT lo)) (some (oT hi2)) (some (.lst (up.map fT))) (some (.lst (lower.map fT))) (some (.bool triv)) oa og) k, rfl⟩
      have none : Two H13 w w' { e with P := P' } d' aw kp cnt (12 + 3 * (i + 1)) := m1.step (xs := []) m1.a (Kept.of SubH.rfl) (by simp) (fun y hy => .inl hy) rfl (by have := m1.t; walk_at "la") (by walk_at "la") m1.g m1.al m1.kl
      walk_at "w"
      refine cl_len_list .tree ?_ ?_
      · rw [List.length_map]
        by_cases hu : up = []
        · subst hu; simp
        · have := (m6 hu).2.2.2.2.1
          have := hTwo3.t
          walk_at "la"
      rw [List.length_map]
      walk_at "w"
      refine ite_dec (fun c => ?_) fun c => ?_
      · have hu : up ≠ [] := by rintro rfl; simp at c
        obtain ⟨s1, s2, s3, s4, s5, s6⟩ := m6 hu
        obtain ⟨ln, rfl⟩ := toN s1
        walk_at "w"
        refine op_div_int (by decide) (by decide) ?_
        walk_at "w"
        refine op_mod_int (by decide) ?_
        walk_at "w"
        refine ite_dec (fun c2 => ?_) fun c2 => ?_
        · walk_at "w"
          refine op_div_int (by decide) (by decide) ?_
          walk_at "w"
          have ht3 := hTwo3.t
          refine cl_fn (sp_done pf (d := { e with P := P' }) m1.a (show ln + 2 ≤ e.L.length by walk_at "la") s3 s4 hu (by walk_at "la") s6 (Int.ediv_nonneg hz0 (by decide)) (show tot e.L ≤ 40 by walk_at "la") fun H14 e2 v1 v2 v3 v4 v5 v6 => ?_) (by walk_at "la")
          have a14 : H14 aw = some (.list (A'.map awT)) := v2 _ _ m1.aw1 m2
          have k14 : H14 kp = some (.list (K'.map (Kp2.t o))) := v2 _ _ m1.kp1 m3
          have v4' : e2.L.length = e.L.length := v4
          have v5' : tot e2.L ≤ tot e.L + 2 := v5
          exact fin H14 e2 _ hVmain (m1.step (xs := []) v1 v2 (by simp) v3 v4' (by walk_at "la") (by walk_at "la") (fun b' eb => by rw [v6] at eb; cases eb) ⟨_, a14⟩ ⟨_, k14⟩) a14 k14
        · walk_at "w"
          exact fin _ _ _ hVmain none m2 m3
      · walk_at "w"
        exact fin _ _ _ hVmain none m2 m3
    · rintro V' H' ⟨d0, d1, A, K, ov', rfl, k1, k2, k3, k4, k5, k6⟩
      refine ⟨rfl, d0, d1, A, K, ov', rfl, ⟨k1.a, k1.a', k1.dis, k1.l, k1.l', by have := k1.t; walk_at "la", by have := k1.t'; walk_at "la", k1.g, k1.g', k1.aw1, k1.aw2, k1.kp1, k1.kp2, k1.ak, k1.al, k1.kl⟩, k2, by walk_at "la", k4, by walk_at "la", k6⟩
  · rintro V' H1 ⟨d0, d1, A, K, ov', rfl, k1, k2, k3, k4, k5, k6⟩
    refine seq_next ?_
    refine exs_atE1 (fun ov' => mainV script ns hd b cnt o o2 w0 w1 aw kp ov') ?_ ?_
    · refine ex_forL (by assumption) rfl ?_
      walk_at "w"
      refine ⟨List (Option Key), A, awT, .list (.cell k2), fun i V' H2 => H2 = H1 ∧ ∃ ov', V' = mainV script ns hd b cnt o o2 w0 w1 aw kp ov', ⟨rfl, ov', rfl⟩, ?_, ?_⟩
      · rintro i P V' H2 hi ⟨rfl, ov2, rfl⟩
        refine ⟨.list (.cell k2), rfl, ?_⟩
        walk_at "w"
        walk_at "k"
        walk_at "k"
        refine op_ne (.inl rfl) (.inl rfl) (eqPs P) ?_
        walk_at "w"
        refine ite_f ?_
        walk_at "w"
        exact ⟨rfl, fun k => getT (setT (mainV script ns hd b cnt o o2 w0 w1 aw kp ov2) 176 (awT P)) k, rfl⟩
      · rintro V' H2 ⟨rfl, ov2, rfl⟩
        exact ⟨.list (.cell k2), rfl, rfl, ov2, rfl⟩
    rintro ov2
    refine exs_cons (ex_nx (fun V' H3 => H3 = H1 ∧ ∃ ov', V' = mainV script ns hd b cnt o o2 w0 w1 aw kp ov') ?_ ?_)
    · refine ex_forL (by assumption) rfl ?_
      walk_at "w"
      refine ⟨Kp2, K, Kp2.t o, .list (.cell k4), fun i V' H3 => H3 = H1 ∧ ∃ ov', V' = mainV script ns hd b cnt o o2 w0 w1 aw kp ov', ⟨rfl, ov2, rfl⟩, ?_, ?_⟩
      · rintro i k V' H3 hi ⟨rfl, ov3, rfl⟩
        refine ⟨.list (.cell k4), rfl, ?_⟩
        have kok := k6 k (List.mem_of_getElem? hi)
        walk_at "w"
        walk_at "k"
        walk_at "k"
        walk_at "k"
        walk_at "k"
        walk_at "k"
        walk_at "k"
        refine cl_fn (sp_told pf (lev := k.lev) (v := .ref k.v) (o := o) (man := k.man) (up := k.up) (lower := k.lower) (gr := k.gr) ho kok.u kok.l kok.g kok.ne ?_) (by walk_at "la")
        walk_at "w"
        refine ite_f ?_
        walk_at "w"
        exact ⟨rfl, fun z => getT (setT (mainV script ns hd b cnt o o2 w0 w1 aw kp ov3) 191 (Kp2.t o k)) z, rfl⟩
      · rintro V' H3 ⟨rfl, ov3, rfl⟩
        exact ⟨.list (.cell k4), rfl, rfl, ov3, rfl⟩
    rintro V' H3 ⟨rfl, ov3, rfl⟩
    walk_at "w"
    refine cl_fn (sp_stands pf (xs := [(w0, d0), (w1, d1)]) .tree (by simp) (fun p hp => by
      simp only [List.mem_cons, List.not_mem_nil, or_false] at hp
      rcases hp with rfl | rfl
      · exact k1.a
      · exact k1.a') ?_) (by walk_at "la")
    exact ⟨_, SubH.rfl, h _⟩
end
end

section
open PySem.SeqAt
section
variable {g : Gl} {f : Fm} {n : Nat} {V : Vs} {H : Cells}
/-- y = [.. for ..], a list that is to be written to -/
theorem ex_assign_compX {y k : Nat} {elt iter : Expr} {ifs : List Expr} {p py pos spos : Pos} {scope : Scope} {Q : SQ} (cps gs : List Nat) (hf : f.full = true) (hy : hasT V y = true) (hchk : chkComp scope k cps gs = true) (hcap : cps.all (fun c => memN f.cels c && hasT V c) = true)
    (h : CompOk g f n scope k cps gs iter ifs elt V H fun out H1 => ∀ a H2, H1 a = none → H2 a = some (.list out) → SubH H1 H2 → Q .next (setT V y (.ref a)) H2)
    (hs : ∀ env x, foldedSetIterable iter env x = pure x := by intro _ _; rfl) : Ex g f n (.Assign [.Name (nm y) py] (.ListComp elt [⟨.Name (nm k) p, iter, ifs, 0⟩] scope pos) spos) V H Q := .mk fun A P Z s hr x => by
  obtain ⟨b, hb, hloc⟩ : ∃ b : Bool, swapsWith (.ListComp elt [⟨.Name (nm k) p, iter, ifs, 0⟩] scope pos) (some (.Name (nm y) py)) spos.line f.env = pure b ∧ (b = true → f.env.kindOf (nm y) = some .local) := by
    refine ⟨_, rfl, fun e => ?_⟩
    simp only [Bool.and_eq_true, beq_iff_eq] at e
    exact e.1.1.2
  cases b with
  | false =>
    exact wpAny_Assign_Name (wpAny_mono ((ev_compX (Q := fun t H1 => Q .next (setT V y t) H1) cps gs hchk hcap h hs).go A P Z s hr x) (fun v s1 ⟨Z1, t, H1, z1, x1, r1, q1⟩ =>
      wpAny_mono (store_ok x1 hy hf r1) (fun _ s2 x2 => ⟨Z1, .next, _, H1, z1, x2, .next, q1⟩) fun _ _ e => e) fun _ _ e => e) hb
  | true =>
    rw [exec_Assign_Name_used _ _ _ _ hb]
    refine wpAny_bind (wpAny_standAt (wpAny_bind ?_))
    show wpAny _ A (do let _ ← comprehension (.ListComp elt [⟨.Name (nm k) p, iter, ifs, 0⟩] scope pos) scope f.env _ (newList []) false (eval iter f.env) (some (assign (.Name (nm y) py) f.env))) _ _ s
    refine wpAny_bind (wpAny_mono (comp_all (use := some (assign (.Name (nm y) py) f.env)) (Q' := fun _ s' => SP g f P Z Q .next s') (K := fun out H1 => ∀ (a : Addr) (H2 : Cells), H1 a = none → H2 a = some (Cell.list out) → SubH H1 H2 → Q .next (setT V y (.ref a)) H2) hr x hchk hcap h (hs _) fun D C s' hfin => ?_) (fun _ s' hq => wpAny_pure (wpAny_pure hq)) fun _ _ e => e)
    obtain ⟨Z', out, H1, vs, ep, m, z, x1, hK, hD, rd, uD, nD, hNs, uC, nC, hCD, hce⟩ := hfin
    have hH : H1 D = none := by
      cases e : H1 D with
      | none => rfl
      | some c => exact absurd (by cases c <;> simp [Cell.addrs]) (uD.2.2 _ c e)
    have xA := x1.addH (a := D) (c := .list out) ⟨vs, ep, hD, rd⟩ (fun d hd => by
      simp only [Cell.addrs, List.mem_singleton] at hd
      subst hd
      exact ⟨uD, nD⟩)
    have uC2 : Un P Z' (updH H1 D (.list out)) C := ⟨uC.1, uC.2.1, fun a c e hm => by
      by_cases q : a = D
      · subst q
        rw [updH_self] at e
        cases e
        simp only [Cell.addrs, List.mem_singleton] at hm
        exact hCD hm
      · rw [updH_ne q] at e; exact uC.2.2 a c e hm⟩
    have hl := hloc rfl
    obtain ⟨hyn, _⟩ := x1.fo.kd y (has_mem V y hy)
    obtain ⟨mL, hnL, _⟩ := x1.fo.ns
    have hLC : C ≠ f.env.locals := fun e => nC (e ▸ x1.fo.lo)
    refine wpAny_assign_Name (wpAny_storeName_local hl hnL (fun h2 hn2 hs2 => ?_) (by rw [x1.fo.hk]; rfl))
    refine ⟨m, hNs.sameBut hs2 hLC, fun h3 hs3 => ?_⟩
    have x2 := xA.setL (tk := s'.toks + 1) hyn hl (.ref D) hnL hn2 hs2
    have x3 : Rel g f P Z' (setT V y (.ref D)) (updH H1 D (.list out)) { s' with heap := h3, toks := s'.toks + 1 } := x2.ext (tk := s'.toks + 1) uC2 nC hs3.extBut
    exact ⟨Z', .next, _, _, z, x3, .next, hK D _ hH updH_self (sub_upd hH)⟩
end
noncomputable def setV (script : T) (nums hd b cnt opt oth ord pic wor aw kp : Option T) (ov : Nat → Option T) : Vs :=
  [(187, some script), (120, nums), (189, hd), (14, b), (112, cnt), (81, opt), (179, oth), (57, ord), (183, pic), (157, wor), (128, ov 128), (177, aw), (184, kp), (190, ov 190), (176, ov 176), (191, ov 191), (130, ov 130), (90, ov 90), (59, ov 59), (194, ov 194), (153, ov 153), (48, ov 48), (178, ov 178), (195, ov 195), (86, ov 86), (68, ov 68), (69, ov 69), (162, ov 162), (164, ov 164), (94, ov 94), (196, ov 196), (151, ov 151), (197, ov 197)]
noncomputable def ovN : Nat → Option T := fun _ => none
noncomputable def optOf (cnt : Nat) (hd b : Int) : Opt where
  fs := [(22, .int 1), (24, .int 32768), (25, .bool true), (26, .bool true), (27, .bool false), (28, .int 4194304), (29, .int 12), (30, .tup [.int 1, .int 2, .int 1, .int 3, .int 1, .int 2, .int 1, .int 4]), (31, .int 4096), (32, .int 16), (33, .int 10), (34, .int 11), (35, .int (1 + b % 12)),
    (36, .int (cnt : Int)), (37, .int (1 + hd / 2 % 2)), (38, .int 12), (39, .int (1 + hd / 4 % 30)), (40, .int (1 + hd / 120 % 3)), (41, .int 2), (42, .int (1 + b / 48 % 2)), (43, .int (1 + b / 12 % 4))]
  levels := cnt
  trig := 1 + hd / 2 % 2
  base := 1 + hd / 4 % 30
  fac := 1 + hd / 120 % 3
  most := 1 + b % 12
  grand := 1 + b / 48 % 2
  expand := 1 + b / 12 % 4
noncomputable def othOf (cnt : Nat) (hd b : Int) : Opt where
  fs := [(22, .int 1), (24, .int 32768), (25, .bool true), (26, .bool true), (27, .bool false), (28, .int 4194304), (29, .int 12), (30, .tup [.int 1, .int 2, .int 1, .int 3, .int 1, .int 2, .int 1, .int 4]), (31, .int 4096), (32, .int 16), (33, .int 10), (34, .int 11), (35, .int 2097152),
    (36, .int (cnt : Int)), (37, .int (4 - hd / 2 % 2)), (38, .int 12), (39, .int (1 + hd / 4 % 30 + 1 + b / 96 % 7)), (40, .int (1 + b / 672 % 3)), (41, .int 2), (42, .int 10), (43, .int 25)]
  levels := cnt
  trig := 4 - hd / 2 % 2
  base := 1 + hd / 4 % 30 + 1 + b / 96 % 7
  fac := 1 + b / 672 % 3
  most := 2097152
  grand := 10
  expand := 25
theorem modB (x : Int) {m : Int} (hm : 0 < m) : 0 ≤ x % m ∧ x % m < m := ⟨Int.emod_nonneg _ (by walk_at "la"), Int.emod_lt_of_pos _ hm⟩
theorem optOf_ok {cnt : Nat} {hd b : Int} (h3 : 3 ≤ cnt) (h4 : cnt ≤ 4) : (optOf cnt hd b).Ok := by
  have a1 := modB (hd / 2) (m := 2) (by decide)
  have a2 := modB (hd / 4) (m := 30) (by decide)
  have a3 := modB (hd / 120) (m := 3) (by decide)
  have a4 := modB b (m := 12) (by decide)
  have a5 := modB (b / 48) (m := 2) (by decide)
  have a6 := modB (b / 12) (m := 4) (by decide)
  refine ⟨rfl, rfl, rfl, rfl, rfl, rfl, rfl, ?_, ?_, ?_, ?_, ?_, ?_, ?_⟩ <;> dsimp only [optOf] <;> walk_at "la"
theorem othOf_ok {cnt : Nat} {hd b : Int} (h3 : 3 ≤ cnt) (h4 : cnt ≤ 4) : (othOf cnt hd b).Ok := by
  have a1 := modB (hd / 2) (m := 2) (by decide)
  have a2 := modB (hd / 4) (m := 30) (by decide)
  have a3 := modB (b / 672) (m := 3) (by decide)
  have a4 := modB (b / 96) (m := 7) (by decide)
  refine ⟨rfl, rfl, rfl, rfl, rfl, rfl, rfl, ?_, ?_, ?_, ?_, ?_, ?_, ?_⟩ <;> dsimp only [othOf] <;> walk_at "la"
section
variable {g : Gl} (pf : PF g) {H : Cells} {Q : T → Cells → Prop}
include pf
set_option maxHeartbeats 8000000 in
/-- statements 0 .. 19 -/
theorem law_head {f : Fm} {script : T} {zs : List Int} {R : SQ} (hf : f.full = true) (hg : f.globs = [4, 121, 192, 91, 193, 63, 129, 138, 154, 134, 180, 185, 158, 170, 168]) (hs : AsList H script (zs.map .int)) (hz : zs.length ≤ 1000)
    (h : ∀ (ns : List Int) (cnt : Nat) (hd b : Int) (H' : Cells), ns ≠ [] → ns.length ≤ 24 → (∀ n ∈ ns, 0 ≤ n ∧ n < 999983) → 3 ≤ cnt → cnt ≤ 4 → 0 ≤ hd → 0 ≤ b →
      Exs g f 17 (lawB.drop 20) (setV script (some (.lst (ns.map .int))) (some (.int hd)) (some (.int b)) (some (.int (cnt : Int))) (some (optOf cnt hd b).T) (some (othOf cnt hd b).T) (some iordT) (some (pickT (optOf cnt hd b))) none none none ovN) H' R) :
    Exs g f 17 lawB (setV script none none none none none none none none none none none ovN) H R := by
  have hdrop : ∀ (V : Vs) (H' : Cells), Exs g f 17 (lawB.drop 20) V H' R → Exs g f 17 (lawB.drop 20) V H' R := fun _ _ h => h
  conv => arg 4; whnf
  simp only [N_0, N_1, N_2, N_3, N_4, N_5, N_6, N_7, N_8, N_9, N_10, N_11, N_12, N_13, N_14, N_15, N_16, N_17, N_18, N_19, N_20, N_21, N_22, N_23, N_24, N_25, N_26, N_27, N_28, N_29, N_30, N_31, N_32, N_33, N_34, N_35, N_36, N_37, N_38, N_39, N_40, N_41, N_42, N_43, N_44, N_45, N_46, N_47, N_48, N_49, N_50, N_51, N_52, N_53, N_54, N_55, N_56, N_57, N_58, N_59, N_60, N_61, N_62, N_63, N_64, N_65, N_66, N_67, N_68, N_69, N_70, N_71, N_72, N_73, N_74, N_75, N_76, N_77, N_78, N_79, N_80, N_81, N_82, N_83, N_84, N_85, N_86, N_87, N_88, N_89, N_90, N_91, N_92, N_93, N_94, N_95, N_96, N_97, N_98, N_99, N_100, N_101, N_102, N_103, N_104, N_105, N_106, N_107, N_108, N_109, N_110, N_111, N_112, N_113, N_114, N_115, N_116, N_117, N_118, N_119, N_120, N_121, N_122, N_123, N_124, N_125, N_126, N_127, N_128, N_129, N_130, N_131, N_132, N_133, N_134, N_135, N_136, N_137, N_138, N_139, N_140, N_141, N_142, N_143, N_144, N_145, N_146, N_147, N_148, N_149, N_150, N_151, N_152, N_153, N_154, N_155, N_156, N_157, N_158, N_159, N_160, N_161, N_162, N_163, N_164, N_165, N_166, N_167, N_168, N_169, N_170, N_171, N_172, N_173, N_174, N_175, N_176, N_177, N_178, N_179, N_180, N_181, N_182, N_183, N_184, N_185, N_186, N_187, N_188, N_189, N_190, N_191, N_192, N_193, N_194, N_195, N_196, N_197]
  refine exs_atP1 (fun (ns : List Int) => setV script (some (.lst (ns.map .int))) none none none none none none none none none none ovN) (fun (ns : List Int) => (ns.length ≤ 24) ∧ (∀ n ∈ ns, 0 ≤ n ∧ n < 999983)) ?_ ?_
  · refine ex_assign_comp [] [] (by assumption) rfl (by decide +kernel) rfl ?_
    unfold CompOk
    refine ev_upto ?_
    walk_at "w"
    refine ⟨_, _, hs, rfl, by walk_at "la", by rw [List.length_map]; walk_at "la", ?_⟩
    rw [← List.map_take]
    refine ⟨Int, zs.take (24 : Int).toNat, T.int, fun x => some (.int (x % 999983)), .list .tree, by rw [List.length_take]; walk_at "la", fun x hx fc hg' hc' => ⟨_, rfl, ?_⟩, ?_⟩
    · walk_at "w"
      refine op_mod_int (by decide) ?_
      exact ⟨rfl, SubH.rfl⟩
    rw [fm_some]
    refine ⟨rfl, rfl, (zs.take (24 : Int).toNat).map (· % 999983), by rw [List.map_map]; rfl, by rw [List.length_map, List.length_take]; exact Nat.min_le_left _ _, fun n hn => ?_⟩
    obtain ⟨x, _, rfl⟩ := List.mem_map.mp hn
    exact modB x (by decide)
  rintro ns ⟨hn1, hn2⟩
  refine exs_atP1 (fun (ns : List Int) => setV script (some (.lst (ns.map .int))) none none none none none none none none none none ovN) (fun (ns : List Int) => A3 (ns ≠ []) (ns.length ≤ 24) (∀ n ∈ ns, 0 ≤ n ∧ n < 999983)) ?_ ?_
  · walk_at "w"
    refine cl_len_list .tree (by rw [List.length_map]; walk_at "la") ?_
    rw [List.length_map]
    walk_at "w"
    refine ite_dec (fun c => ?_) fun c => ?_
    · walk_at "w"
      refine ev_list ?_
      walk_at "w"
      exact ⟨rfl, rfl, [0], rfl, by simp, by simp, by simp⟩
    · walk_at "w"
      exact ⟨rfl, rfl, ns, rfl, by rintro rfl; simp at c, hn1, hn2⟩
  rintro ns ⟨hne, hn1, hn2⟩
  have hhd0 := draw_bd hn2 (i := 0)
  have hb0 := draw_bd hn2 (i := 1)
  generalize hhd : drawI ns 0 = hd at hhd0
  generalize hb : drawI ns 1 = b at hb0
  refine exs_at (setV script (some (.lst (ns.map .int))) (some (.int hd)) none none none none none none none none none ovN) ?_ ?_
  · walk_at "w"
    refine cl_fn (sp_draw pf (ns := ns) (i := 0) .tree hne (by walk_at "la") (by walk_at "la") ?_) (by walk_at "la")
    rw [hhd]
    exact ⟨rfl, rfl, rfl⟩
  refine exs_at (setV script (some (.lst (ns.map .int))) (some (.int hd)) (some (.int b)) none none none none none none none none ovN) ?_ ?_
  · walk_at "w"
    refine cl_fn (sp_draw pf (ns := ns) (i := 1) .tree hne (by walk_at "la") (by walk_at "la") ?_) (by walk_at "la")
    rw [hb]
    exact ⟨rfl, rfl, rfl⟩
  obtain ⟨k2, hk2, hk22⟩ := modN (x := hd) (m := 2) (by decide)
  refine exs_at (setV script (some (.lst (ns.map .int))) (some (.int hd)) (some (.int b)) (some (.int ((4 - k2 : Nat) : Int))) none none none none none none none ovN) ?_ ?_
  · walk_at "w"
    refine op_mod_int (by decide) ?_
    rw [hk2]
    walk_at "w"
    rw [show (4 - (k2 : Int)) = ((4 - k2 : Nat) : Int) by walk_at "la"]
    exact ⟨rfl, rfl, rfl⟩
  have hc3 : 3 ≤ 4 - k2 := by walk_at "la"
  have hc4 : 4 - k2 ≤ 4 := by walk_at "la"
  generalize 4 - k2 = cnt at hc3 hc4
  refine exs_atH2 (fun x dx => setV script (some (.lst (ns.map .int))) (some (.int hd)) (some (.int b)) (some (.int (cnt : Int))) (some (.ref x)) none none none none none none ovN) (fun x dx H' => H' x = some (.inst 305 dx optFs)) ?_ ?_
  · walk_at "w"
    refine cl_clsG pf (m := 2) rfl rfl (fun x dx hx => sp_options pf updH_self ?_) (by walk_at "la")
    exact ⟨rfl, rfl, x, dx, rfl, updH_self⟩
  rintro x dx H6 hx
  unfold optFs at hx
  refine exs_atH (setV script (some (.lst (ns.map .int))) (some (.int hd)) (some (.int b)) (some (.int (cnt : Int))) (some (.ref x)) none none none none none none ovN) (fun H' => H' x = some (.inst 305 dx [(22, .int 1), (24, .int 32768), (25, .bool true), (26, .bool true), (27, .bool false), (28, .int 4194304), (29, .int 12), (30, .tup [.int 1, .int 2, .int 1, .int 3, .int 1, .int 2, .int 1, .int 4]), (31, .int 4096), (32, .int 16), (33, .int 10), (34, .int 11), (35, .int 2097152), (36, .int (cnt : Int)), (37, .int 4), (38, .int 12), (39, .int 10485760), (40, .int 10), (41, .int 2), (42, .int 10), (43, .int 25)])) ?_ ?_
  · walk_at "w"
    exact ⟨rfl, rfl, updH_self⟩
  rintro xH0 hx
  refine exs_atH (setV script (some (.lst (ns.map .int))) (some (.int hd)) (some (.int b)) (some (.int (cnt : Int))) (some (.ref x)) none none none none none none ovN) (fun H' => H' x = some (.inst 305 dx [(22, .int 1), (24, .int 32768), (25, .bool true), (26, .bool true), (27, .bool false), (28, .int 4194304), (29, .int 12), (30, .tup [.int 1, .int 2, .int 1, .int 3, .int 1, .int 2, .int 1, .int 4]), (31, .int 4096), (32, .int 16), (33, .int 10), (34, .int 11), (35, .int 2097152), (36, .int (cnt : Int)), (37, .int (1 + hd / 2 % 2)), (38, .int 12), (39, .int 10485760), (40, .int 10), (41, .int 2), (42, .int 10), (43, .int 25)])) ?_ ?_
  · walk_at "w"
    refine op_div_int (by decide) (by decide) ?_
    walk_at "w"
    refine op_mod_int (by decide) ?_
    walk_at "w"
    exact ⟨rfl, rfl, updH_self⟩
  rintro xH1 hx
  refine exs_atH (setV script (some (.lst (ns.map .int))) (some (.int hd)) (some (.int b)) (some (.int (cnt : Int))) (some (.ref x)) none none none none none none ovN) (fun H' => H' x = some (.inst 305 dx [(22, .int 1), (24, .int 32768), (25, .bool true), (26, .bool true), (27, .bool false), (28, .int 4194304), (29, .int 12), (30, .tup [.int 1, .int 2, .int 1, .int 3, .int 1, .int 2, .int 1, .int 4]), (31, .int 4096), (32, .int 16), (33, .int 10), (34, .int 11), (35, .int 2097152), (36, .int (cnt : Int)), (37, .int (1 + hd / 2 % 2)), (38, .int 12), (39, .int (1 + hd / 4 % 30)), (40, .int 10), (41, .int 2), (42, .int 10), (43, .int 25)])) ?_ ?_
  · walk_at "w"
    refine op_div_int (by decide) (by decide) ?_
    walk_at "w"
    refine op_mod_int (by decide) ?_
    walk_at "w"
    exact ⟨rfl, rfl, updH_self⟩
  rintro xH2 hx
  refine exs_atH (setV script (some (.lst (ns.map .int))) (some (.int hd)) (some (.int b)) (some (.int (cnt : Int))) (some (.ref x)) none none none none none none ovN) (fun H' => H' x = some (.inst 305 dx [(22, .int 1), (24, .int 32768), (25, .bool true), (26, .bool true), (27, .bool false), (28, .int 4194304), (29, .int 12), (30, .tup [.int 1, .int 2, .int 1, .int 3, .int 1, .int 2, .int 1, .int 4]), (31, .int 4096), (32, .int 16), (33, .int 10), (34, .int 11), (35, .int 2097152), (36, .int (cnt : Int)), (37, .int (1 + hd / 2 % 2)), (38, .int 12), (39, .int (1 + hd / 4 % 30)), (40, .int (1 + hd / 120 % 3)), (41, .int 2), (42, .int 10), (43, .int 25)])) ?_ ?_
  · walk_at "w"
    refine op_div_int (by decide) (by decide) ?_
    walk_at "w"
    refine op_mod_int (by decide) ?_
    walk_at "w"
    exact ⟨rfl, rfl, updH_self⟩
  rintro xH3 hx
  refine exs_atH (setV script (some (.lst (ns.map .int))) (some (.int hd)) (some (.int b)) (some (.int (cnt : Int))) (some (.ref x)) none none none none none none ovN) (fun H' => H' x = some (.inst 305 dx [(22, .int 1), (24, .int 32768), (25, .bool true), (26, .bool true), (27, .bool false), (28, .int 4194304), (29, .int 12), (30, .tup [.int 1, .int 2, .int 1, .int 3, .int 1, .int 2, .int 1, .int 4]), (31, .int 4096), (32, .int 16), (33, .int 10), (34, .int 11), (35, .int (1 + b % 12)), (36, .int (cnt : Int)), (37, .int (1 + hd / 2 % 2)), (38, .int 12), (39, .int (1 + hd / 4 % 30)), (40, .int (1 + hd / 120 % 3)), (41, .int 2), (42, .int 10), (43, .int 25)])) ?_ ?_
  · walk_at "w"
    refine op_mod_int (by decide) ?_
    walk_at "w"
    exact ⟨rfl, rfl, updH_self⟩
  rintro xH4 hx
  refine exs_atH (setV script (some (.lst (ns.map .int))) (some (.int hd)) (some (.int b)) (some (.int (cnt : Int))) (some (.ref x)) none none none none none none ovN) (fun H' => H' x = some (.inst 305 dx [(22, .int 1), (24, .int 32768), (25, .bool true), (26, .bool true), (27, .bool false), (28, .int 4194304), (29, .int 12), (30, .tup [.int 1, .int 2, .int 1, .int 3, .int 1, .int 2, .int 1, .int 4]), (31, .int 4096), (32, .int 16), (33, .int 10), (34, .int 11), (35, .int (1 + b % 12)), (36, .int (cnt : Int)), (37, .int (1 + hd / 2 % 2)), (38, .int 12), (39, .int (1 + hd / 4 % 30)), (40, .int (1 + hd / 120 % 3)), (41, .int 2), (42, .int 10), (43, .int (1 + b / 12 % 4))])) ?_ ?_
  · walk_at "w"
    refine op_div_int (by decide) (by decide) ?_
    walk_at "w"
    refine op_mod_int (by decide) ?_
    walk_at "w"
    exact ⟨rfl, rfl, updH_self⟩
  rintro xH5 hx
  refine exs_atH (setV script (some (.lst (ns.map .int))) (some (.int hd)) (some (.int b)) (some (.int (cnt : Int))) (some (.ref x)) none none none none none none ovN) (fun H' => H' x = some (.inst 305 dx [(22, .int 1), (24, .int 32768), (25, .bool true), (26, .bool true), (27, .bool false), (28, .int 4194304), (29, .int 12), (30, .tup [.int 1, .int 2, .int 1, .int 3, .int 1, .int 2, .int 1, .int 4]), (31, .int 4096), (32, .int 16), (33, .int 10), (34, .int 11), (35, .int (1 + b % 12)), (36, .int (cnt : Int)), (37, .int (1 + hd / 2 % 2)), (38, .int 12), (39, .int (1 + hd / 4 % 30)), (40, .int (1 + hd / 120 % 3)), (41, .int 2), (42, .int (1 + b / 48 % 2)), (43, .int (1 + b / 12 % 4))])) ?_ ?_
  · walk_at "w"
    refine op_div_int (by decide) (by decide) ?_
    walk_at "w"
    refine op_mod_int (by decide) ?_
    walk_at "w"
    exact ⟨rfl, rfl, updH_self⟩
  rintro xH6 hx
  refine Exs.fzV (k := 81) rfl hx ?_
  refine exs_atH2 (fun y dy => setV script (some (.lst (ns.map .int))) (some (.int hd)) (some (.int b)) (some (.int (cnt : Int))) (some (optOf cnt hd b).T) (some (.ref y)) none none none none none ovN) (fun y dy H' => H' y = some (.inst 305 dy optFs)) ?_ ?_
  · walk_at "w"
    refine cl_clsG pf (m := 2) rfl rfl (fun y dy hy => sp_options pf updH_self ?_) (by walk_at "la")
    exact ⟨rfl, rfl, y, dy, rfl, updH_self⟩
  rintro y dy H7 hy
  unfold optFs at hy
  refine exs_atH (setV script (some (.lst (ns.map .int))) (some (.int hd)) (some (.int b)) (some (.int (cnt : Int))) (some (optOf cnt hd b).T) (some (.ref y)) none none none none none ovN) (fun H' => H' y = some (.inst 305 dy [(22, .int 1), (24, .int 32768), (25, .bool true), (26, .bool true), (27, .bool false), (28, .int 4194304), (29, .int 12), (30, .tup [.int 1, .int 2, .int 1, .int 3, .int 1, .int 2, .int 1, .int 4]), (31, .int 4096), (32, .int 16), (33, .int 10), (34, .int 11), (35, .int 2097152), (36, .int (cnt : Int)), (37, .int 4), (38, .int 12), (39, .int 10485760), (40, .int 10), (41, .int 2), (42, .int 10), (43, .int 25)])) ?_ ?_
  · walk_at "w"
    exact ⟨rfl, rfl, updH_self⟩
  rintro yH0 hy
  refine exs_atH (setV script (some (.lst (ns.map .int))) (some (.int hd)) (some (.int b)) (some (.int (cnt : Int))) (some (optOf cnt hd b).T) (some (.ref y)) none none none none none ovN) (fun H' => H' y = some (.inst 305 dy [(22, .int 1), (24, .int 32768), (25, .bool true), (26, .bool true), (27, .bool false), (28, .int 4194304), (29, .int 12), (30, .tup [.int 1, .int 2, .int 1, .int 3, .int 1, .int 2, .int 1, .int 4]), (31, .int 4096), (32, .int 16), (33, .int 10), (34, .int 11), (35, .int 2097152), (36, .int (cnt : Int)), (37, .int (4 - hd / 2 % 2)), (38, .int 12), (39, .int 10485760), (40, .int 10), (41, .int 2), (42, .int 10), (43, .int 25)])) ?_ ?_
  · walk_at "w"
    refine op_div_int (by decide) (by decide) ?_
    walk_at "w"
    refine op_mod_int (by decide) ?_
    walk_at "w"
    exact ⟨rfl, rfl, updH_self⟩
  rintro yH1 hy
  refine exs_atH (setV script (some (.lst (ns.map .int))) (some (.int hd)) (some (.int b)) (some (.int (cnt : Int))) (some (optOf cnt hd b).T) (some (.ref y)) none none none none none ovN) (fun H' => H' y = some (.inst 305 dy [(22, .int 1), (24, .int 32768), (25, .bool true), (26, .bool true), (27, .bool false), (28, .int 4194304), (29, .int 12), (30, .tup [.int 1, .int 2, .int 1, .int 3, .int 1, .int 2, .int 1, .int 4]), (31, .int 4096), (32, .int 16), (33, .int 10), (34, .int 11), (35, .int 2097152), (36, .int (cnt : Int)), (37, .int (4 - hd / 2 % 2)), (38, .int 12), (39, .int (1 + hd / 4 % 30 + 1 + b / 96 % 7)), (40, .int 10), (41, .int 2), (42, .int 10), (43, .int 25)])) ?_ ?_
  · walk_at "w"
    walk_at "w"
    refine op_div_int (by decide) (by decide) ?_
    walk_at "w"
    refine op_mod_int (by decide) ?_
    walk_at "w"
    exact ⟨rfl, rfl, updH_self⟩
  rintro yH2 hy
  refine exs_atH (setV script (some (.lst (ns.map .int))) (some (.int hd)) (some (.int b)) (some (.int (cnt : Int))) (some (optOf cnt hd b).T) (some (.ref y)) none none none none none ovN) (fun H' => H' y = some (.inst 305 dy [(22, .int 1), (24, .int 32768), (25, .bool true), (26, .bool true), (27, .bool false), (28, .int 4194304), (29, .int 12), (30, .tup [.int 1, .int 2, .int 1, .int 3, .int 1, .int 2, .int 1, .int 4]), (31, .int 4096), (32, .int 16), (33, .int 10), (34, .int 11), (35, .int 2097152), (36, .int (cnt : Int)), (37, .int (4 - hd / 2 % 2)), (38, .int 12), (39, .int (1 + hd / 4 % 30 + 1 + b / 96 % 7)), (40, .int (1 + b / 672 % 3)), (41, .int 2), (42, .int 10), (43, .int 25)])) ?_ ?_
  · walk_at "w"
    refine op_div_int (by decide) (by decide) ?_
    walk_at "w"
    refine op_mod_int (by decide) ?_
    walk_at "w"
    exact ⟨rfl, rfl, updH_self⟩
  rintro yH3 hy
  refine Exs.fzV (k := 179) rfl hy ?_
  refine exs_atA (setV script (some (.lst (ns.map .int))) (some (.int hd)) (some (.int b)) (some (.int (cnt : Int))) (some (optOf cnt hd b).T) (some (othOf cnt hd b).T) (some iordT) none none none none ovN) ?_ ?_
  · walk_at "w"
    refine cl_iord pf (by walk_at "la") ?_
    exact ⟨rfl, rfl⟩
  rintro H8
  refine exs_atA (setV script (some (.lst (ns.map .int))) (some (.int hd)) (some (.int b)) (some (.int (cnt : Int))) (some (optOf cnt hd b).T) (some (othOf cnt hd b).T) (some iordT) (some (pickT (optOf cnt hd b))) none none none ovN) ?_ ?_
  · walk_at "w"
    refine cl_picker pf (by walk_at "la") ?_
    exact ⟨rfl, rfl⟩
  rintro H9
  exact h ns cnt hd b H9 hne hn1 hn2 hc3 hc4 hhd0 hb0
end
end

section
/-- a world as it is made -/
structure New (H : Cells) (w : Addr) (d : Wd) (cnt : Nat) (wl : Addr) : Prop where
  a : WAt H w d
  l : d.L.length = cnt
  t : tot d.L ≤ 12
  g : ∀ b, d.b = some b → GoodB d.L b
  n : wl ∉ own w d
noncomputable def worldV (script : T) (ns : List Int) (hd b : Int) (cnt : Nat) (o o2 : Opt) (wl : Addr) (ov : Nat → Option T) (w levels places level p given world row : Option T) : Vs :=
  [(187, some script), (120, some (.lst (ns.map .int))), (189, some (.int hd)), (14, some (.int b)), (112, some (.int (cnt : Int))), (81, some o.T), (179, some o2.T), (57, some iordT), (183, some (pickT o)), (157, some (.ref wl)), (128, w), (177, none), (184, none), (190, ov 190), (176, ov 176), (191, ov 191), (130, levels), (90, places), (59, level), (194, given), (153, world), (48, row), (178, ov 178), (195, ov 195), (86, ov 86), (68, ov 68), (69, ov 69), (162, ov 162), (164, ov 164), (94, ov 94), (196, ov 196), (151, p), (197, ov 197)]
section
variable {g : Gl} (pf : PF g) {H : Cells} {Q : T → Cells → Prop}
include pf
set_option maxHeartbeats 8000000 in
theorem law_worlds {f : Fm} {l : List Env} {script : T} {ns : List Int} {cnt : Nat} {o o2 : Opt} {hd b : Int} (hf : f.full = true) (hg : f.globs = [4, 121, 192, 91, 193, 63, 129, 138, 154, 134, 180, 185, 158, 170, 168]) (hout : f.outer = some l)
    (hns : ns ≠ []) (hnl : ns.length ≤ 24) (hnb : ∀ n ∈ ns, 0 ≤ n ∧ n < 999983) (ho : o.Ok) (ho2 : o2.Ok) (hc1 : o.levels = cnt) (hc2 : o2.levels = cnt) (h3 : 3 ≤ cnt) (h4 : cnt ≤ 4) (hhd : 0 ≤ hd) (hb : 0 ≤ b)
    (h : ∀ H', Q (.bool true) H') :
    Exs g f 17 (lawB.drop 20) (setV script (some (.lst (ns.map .int))) (some (.int hd)) (some (.int b)) (some (.int (cnt : Int))) (some o.T) (some o2.T) (some iordT) (some (pickT o)) none none none ovN) H (kFin Q) := by
  conv => arg 4; whnf
  simp only [N_0, N_1, N_2, N_3, N_4, N_5, N_6, N_7, N_8, N_9, N_10, N_11, N_12, N_13, N_14, N_15, N_16, N_17, N_18, N_19, N_20, N_21, N_22, N_23, N_24, N_25, N_26, N_27, N_28, N_29, N_30, N_31, N_32, N_33, N_34, N_35, N_36, N_37, N_38, N_39, N_40, N_41, N_42, N_43, N_44, N_45, N_46, N_47, N_48, N_49, N_50, N_51, N_52, N_53, N_54, N_55, N_56, N_57, N_58, N_59, N_60, N_61, N_62, N_63, N_64, N_65, N_66, N_67, N_68, N_69, N_70, N_71, N_72, N_73, N_74, N_75, N_76, N_77, N_78, N_79, N_80, N_81, N_82, N_83, N_84, N_85, N_86, N_87, N_88, N_89, N_90, N_91, N_92, N_93, N_94, N_95, N_96, N_97, N_98, N_99, N_100, N_101, N_102, N_103, N_104, N_105, N_106, N_107, N_108, N_109, N_110, N_111, N_112, N_113, N_114, N_115, N_116, N_117, N_118, N_119, N_120, N_121, N_122, N_123, N_124, N_125, N_126, N_127, N_128, N_129, N_130, N_131, N_132, N_133, N_134, N_135, N_136, N_137, N_138, N_139, N_140, N_141, N_142, N_143, N_144, N_145, N_146, N_147, N_148, N_149, N_150, N_151, N_152, N_153, N_154, N_155, N_156, N_157, N_158, N_159, N_160, N_161, N_162, N_163, N_164, N_165, N_166, N_167, N_168, N_169, N_170, N_171, N_172, N_173, N_174, N_175, N_176, N_177, N_178, N_179, N_180, N_181, N_182, N_183, N_184, N_185, N_186, N_187, N_188, N_189, N_190, N_191, N_192, N_193, N_194, N_195, N_196, N_197]
  refine exs_atH1 (fun wl => setV script (some (.lst (ns.map .int))) (some (.int hd)) (some (.int b)) (some (.int (cnt : Int))) (some o.T) (some o2.T) (some iordT) (some (pickT o)) (some (.ref wl)) none none ovN) (fun wl H' => H' wl = some (.list [])) ?_ ?_
  · walk_at "w"
    refine ev_listX ?_
    walk_at "w"
    intro wl H2 _ hwl _
    exact ⟨rfl, wl, rfl, hwl⟩
  rintro wl H0 hwl
  refine exs_cons (ex_nx (fun V' H' => E2 fun (ov : Nat → Option T) (ws : List (Addr × Wd)) => A5 (V' = setV script (some (.lst (ns.map .int))) (some (.int hd)) (some (.int b)) (some (.int (cnt : Int))) (some o.T) (some o2.T) (some iordT) (some (pickT o)) (some (.ref wl)) none none ov) (H' wl = some (.list (ws.map fun p => .ref p.1))) (ws.length = 2) ((∀ p ∈ ws, New H' p.1 p.2 cnt wl)) (ws.Pairwise (fun p q => ∀ x ∈ own p.1 p.2, x ∉ own q.1 q.2))) ?_ ?_)
  · refine ex_forR (by assumption) rfl ?_
    walk_at "w"
    refine cl_range1 ?_
    refine ⟨_, _, rfl, by walk_at "la", fun i V' H' => E2 fun (ov : Nat → Option T) (ws : List (Addr × Wd)) => A5 (V' = setV script (some (.lst (ns.map .int))) (some (.int hd)) (some (.int b)) (some (.int (cnt : Int))) (some o.T) (some o2.T) (some iordT) (some (pickT o)) (some (.ref wl)) none none ov) (H' wl = some (.list (ws.map fun p => .ref p.1))) (ws.length = i) ((∀ p ∈ ws, New H' p.1 p.2 cnt wl)) (ws.Pairwise (fun p q => ∀ x ∈ own p.1 p.2, x ∉ own q.1 q.2)), ⟨ovN, [], rfl, hwl, rfl, by simp, by simp⟩, ?_, ?_⟩
    · rintro i V' H1 hi ⟨ov, ws, rfl, k1, k2, k3, k4⟩
      refine ⟨rfl, ?_⟩
      have ei : (0 : Int) + (i : Int) = (i : Int) := Int.zero_add _
      rw [ei]
      refine exs_atH3 (fun ls a0 L => worldV script ns hd b cnt o o2 wl ov (some (.int (i : Int))) (some (.ref ls)) (ov 90) (ov 59) (ov 151) (ov 194) (ov 153) (ov 48)) (fun ls a0 L H2 => A7 (H1 ls = none) (H1 a0 = none) (ls ≠ a0) (Lv H2 ls a0 L) (SubH H1 H2) (L.length = cnt) (tot L ≤ 12)) ?_ ?_
      · walk_at "w"
        refine op_mul_int (by decide) ?_
        walk_at "w"
        rw [show (2 + 2 * (i : Int)) = ((2 + 2 * i : Nat) : Int) from rfl]
        refine cl_fn (sp_draw pf .tree hns (by walk_at "la") (by walk_at "la") ?_) (by walk_at "la")
        walk_at "w"
        refine op_mul_int (by decide) ?_
        walk_at "w"
        rw [show (3 + 2 * (i : Int)) = ((3 + 2 * i : Nat) : Int) from rfl]
        refine cl_fn (sp_draw pf .tree hns (by walk_at "la") (by walk_at "la") ?_) (by walk_at "la")
        walk_at "w"
        refine cl_fn (sp_lay pf (cnt := cnt) (w := i) (draw_bd hnb) (draw_bd hnb) h3 h4 (by walk_at "la") fun ls a0 L H2 q1 q2 q3 q4 q5 q6 q7 => ?_) (by walk_at "la")
        exact ⟨rfl, ls, a0, L, rfl, q1, q2, q3, q4, q5, q6, q7⟩
      rintro ls a0 L H2 ⟨q1, q2, q3, q4, q5, q6, q7⟩
      refine exs_atH1 (fun pl => worldV script ns hd b cnt o o2 wl ov (some (.int (i : Int))) (some (.ref ls)) (some (.ref pl)) (ov 59) (ov 151) (ov 194) (ov 153) (ov 48)) (fun pl H3 => A3 (H2 pl = none) (H3 pl = some (.list [])) (SubH H2 H3)) ?_ ?_
      · walk_at "w"
        refine ev_listX ?_
        walk_at "w"
        intro pl H3 r1 r2 r3
        exact ⟨rfl, pl, rfl, r1, r2, r3⟩
      rintro pl H3 ⟨r1, r2, r3⟩
      refine exs_atH3 (fun (P : List (Option Key)) (o1 : Option T) (o2' : Option T) => worldV script ns hd b cnt o o2 wl ov (some (.int (i : Int))) (some (.ref ls)) (some (.ref pl)) o1 o2' (ov 194) (ov 153) (ov 48)) (fun (P : List (Option Key)) (o1 : Option T) (o2' : Option T) H4 => A4 (H4 pl = some (.list (P.map oK))) (P.length = cnt) (PtOk P) (∀ a c, a ≠ pl → H3 a = some c → H4 a = some c)) ?_ ?_
      · refine ex_forR (by assumption) rfl ?_
        walk_at "w"
        refine cl_range1 ?_
        refine ⟨_, _, rfl, by walk_at "la", fun j V' H4 => E3 fun (P : List (Option Key)) (o1 o2' : Option T) => A5 (V' = worldV script ns hd b cnt o o2 wl ov (some (.int (i : Int))) (some (.ref ls)) (some (.ref pl)) o1 o2' (ov 194) (ov 153) (ov 48)) (H4 pl = some (.list (P.map oK))) (P.length = j) (PtOk P) (∀ a c, a ≠ pl → H3 a = some c → H4 a = some c),
          ⟨[], _, _, rfl, r2, rfl, ⟨by simp⟩, fun a c _ e => e⟩, ?_, ?_⟩
        · rintro j V' H4 hj ⟨P, o1, o2', rfl, s1, s2, s3, s4⟩
          refine ⟨rfl, ?_⟩
          have ej : (0 : Int) + (j : Int) = (j : Int) := Int.zero_add _
          rw [ej]
          walk_at "w"
          refine op_mul_int (by decide) ?_
          walk_at "w"
          refine op_mul_int (by decide) ?_
          walk_at "w"
          refine op_pow_int (by walk_at "la") (by walk_at "la") (by decide) ?_
          have h3a : (0 : Int) < 3 ^ ((j : Int) + 2 * (i : Int)).toNat := Int.pow_pos (by decide)
          have h3b : (3 : Int) ^ ((j : Int) + 2 * (i : Int)).toNat ≤ 729 := by
            obtain ⟨m, hm, hm6⟩ : ∃ m, ((j : Int) + 2 * (i : Int)).toNat = m ∧ m ≤ 6 := ⟨_, rfl, by walk_at "la"⟩
            rw [hm]
            have : m = 0 ∨ m = 1 ∨ m = 2 ∨ m = 3 ∨ m = 4 ∨ m = 5 ∨ m = 6 := by walk_at "la"
            rcases this with rfl | rfl | rfl | rfl | rfl | rfl | rfl <;> decide
          refine op_div_int h3a (by walk_at "la") ?_
          generalize (hd + 2 * b) / 3 ^ ((j : Int) + 2 * (i : Int)).toNat = pp
          walk_at "w"
          refine op_mod_int (by decide) ?_
          walk_at "w"
          refine ite_dec (fun c => ?_) fun c => ?_
          · obtain ⟨m8, hm8, hm88⟩ := modN (x := pp) (m := 8) (by decide)
            obtain ⟨m9, hm9, hm99⟩ := modN (x := pp) (m := 9) (by decide)
            walk_at "w"
            refine op_mod_int (by decide) ?_
            rw [hm8]
            walk_at "w"
            refine op_mod_int (by decide) ?_
            rw [hm9]
            walk_at "w"
            refine ⟨_, s1, by rw [List.length_map]; walk_at "la", ?_⟩
            have eK : T.tup [.int (m8 : Int), .int (0 - 1 - (m9 : Int))] = oK (some ⟨m8, 1 + m9⟩) := by
              unfold oK keyT
              try dsimp only
              rw [show (0 - 1 - (m9 : Int)) = -((1 + m9 : Nat) : Int) by walk_at "la"]
            rw [eK, ← List.map_singleton (f := oK), ← List.map_append]
            refine ⟨P ++ [some ⟨m8, 1 + m9⟩], _, _, rfl, updH_self, by rw [List.length_append, List.length_singleton]; walk_at "la", ⟨fun p hp κ e => ?_⟩, fun a c h1 e => by rw [updH_ne h1]; exact s4 a c h1 e⟩
            rcases List.mem_append.mp hp with hp | hp
            · exact s3.ok p hp κ e
            · simp only [List.mem_singleton] at hp
              subst hp
              cases e
              exact ⟨by show m8 < 8; walk_at "la", by show 1 + m9 < 256; walk_at "la"⟩
          · walk_at "w"
            refine ⟨_, s1, by rw [List.length_map]; walk_at "la", ?_⟩
            have eK : T.none = oK none := rfl
            rw [eK, ← List.map_singleton (f := oK), ← List.map_append]
            refine ⟨P ++ [none], _, _, rfl, updH_self, by rw [List.length_append, List.length_singleton]; walk_at "la", ⟨fun p hp κ e => ?_⟩, fun a c h1 e => by rw [updH_ne h1]; exact s4 a c h1 e⟩
            rcases List.mem_append.mp hp with hp | hp
            · exact s3.ok p hp κ e
            · simp only [List.mem_singleton] at hp
              subst hp
              cases e
        · rintro V' H4 ⟨P, o1, o2', rfl, s1, s2, s3, s4⟩
          exact ⟨rfl, P, o1, o2', rfl, s1, by walk_at "la", s3, s4⟩
      rintro P o1 o2' H4 ⟨s1, s2, s3, s4⟩
      refine exs_atH1 (fun q => worldV script ns hd b cnt o o2 wl ov (some (.int (i : Int))) (some (.ref ls)) (some (.ref pl)) o1 o2' (some (.ref q)) (ov 153) (ov 48)) (fun q H5 => A3 (H4 q = none) (H5 q = some (.list (P.map pB))) (SubH H4 H5)) ?_ ?_
      · refine ex_assign_compX [] [125] (by assumption) rfl (by decide +kernel) rfl ?_
        unfold CompOk
        walk_at "w"
        refine ⟨Option Key, P, oK, fun p => some (pB p), .list (.cell s1), by walk_at "la", fun κ hκ fc hg' hc' => ?_, ?_⟩
        · refine ⟨_, rfl, ?_⟩
          cases κ with
          | none =>
            walk_at "w"
            refine ite_t ?_
            walk_at "w"
            exact ⟨rfl, SubH.rfl⟩
          | some κ =>
            walk_at "w"
            refine ite_f ?_
            walk_at "w"
            refine cl_fn (sp_ikey pf (s3.ok _ hκ κ rfl) ?_) (by walk_at "la")
            exact ⟨rfl, SubH.rfl⟩
        rw [fm_some]
        intro q H5 u1 u2 u3
        exact ⟨rfl, q, rfl, u1, u2, u3⟩
      rintro q H5 ⟨u1, u2, u3⟩
      -- what stands
      have c3 : ∀ x c, H2 x = some c → x ≠ pl ∧ H5 x = some c := fun x c e => by
        have hx : x ≠ pl := by rintro rfl; rw [r1] at e; cases e
        exact ⟨hx, u3 _ _ (s4 x c hx (r3 _ _ e))⟩
      have hLv5 : Lv H5 ls a0 L := ⟨(c3 _ _ q4.l).2, (c3 _ _ q4.a).2, q4.ok⟩
      have hpl5 : H5 pl = some (.list (P.map oK)) := u3 _ _ s1
      have hs15 : SubH H1 H5 := fun x c e => (c3 x c (q5 x c e)).2
      have lspl : ls ≠ pl := (c3 _ _ q4.l).1
      have a0pl : a0 ≠ pl := (c3 _ _ q4.a).1
      have qne : ∀ x c, H4 x = some c → q ≠ x := fun x c e e2 => by rw [e2, e] at u1; cases u1
      have qpl : q ≠ pl := qne _ _ s1
      have qls : q ≠ ls := qne _ _ (s4 _ _ lspl (r3 _ _ q4.l))
      have qa0 : q ≠ a0 := qne _ _ (s4 _ _ a0pl (r3 _ _ q4.a))
      have pl1 : H1 pl = none := by
        cases e : H1 pl with
        | none => rfl
        | some c => rw [q5 _ _ e] at r1; cases r1
      have qn1 : H1 q = none := by
        cases e : H1 q with
        | none => rfl
        | some c =>
          have := s4 q c qpl (r3 _ _ (q5 _ _ e))
          rw [u1] at this; cases this
      refine exs_atH2 (fun w d => worldV script ns hd b cnt o o2 wl ov (some (.int (i : Int))) (some (.ref ls)) (some (.ref pl)) o1 o2' (some (.ref q)) (some (.ref w)) (ov 48)) (fun w d H7 => A6 (WAt H7 w d) (SubH H1 H7) (∀ x ∈ own w d, H1 x = none) (d.L.length = cnt) (tot d.L ≤ 12) (d.b = none)) ?_ ?_
      · walk_at "w"
        refine ev_listX ?_
        walk_at "w"
        refine cl_fn (sp_lversion pf hLv5 fun v dx H6 nv hv hs6 => ?_) (by walk_at "la")
        walk_at "w"
        refine op_mul_int (by decide) ?_
        walk_at "w"
        intro w H7 nw hw hs7
        have c6 : ∀ x c, H5 x = some c → v ≠ x ∧ w ≠ x ∧ H7 x = some c := fun x c e =>
          ⟨(by rintro rfl; rw [nv] at e; cases e), (by rintro rfl; rw [hs6 _ _ e] at nw; cases nw), hs7 _ _ (hs6 _ _ e)⟩
        have wv : w ≠ v := by rintro rfl; rw [hv] at nw; cases nw
        have l1 := c6 _ _ hLv5.l
        have l2 := c6 _ _ hLv5.a
        have l3 := c6 _ _ hpl5
        have l4 := c6 _ _ u2
        refine ⟨rfl, w, ⟨v, q, ls, a0, pl, L, P, none, 100 * (i : Int) + 60⟩, rfl, ⟨hw, ⟨dx, _, _, hs7 _ _ hv, (fun b e => by cases e)⟩, l4.2.2, ⟨l1.2.2, l2.2.2, q4.ok⟩, l3.2.2, s3, by rw [s2]; exact q6.symm, Nd.nd ⟨wv, l4.2.1, l1.2.1, l2.2.1, l3.2.1, l4.1, l1.1, l2.1, l3.1, qls, qa0, qpl, q3, lspl, a0pl⟩⟩, fun x c e => (c6 x c (hs15 _ _ e)).2.2, fun x hx => ?_, q6, q7, rfl⟩
        have fr : ∀ y, (∀ c, H5 y = some c → False) → H1 y = none := fun y hy => by
          cases e : H1 y with
          | none => rfl
          | some c => exact (hy c (hs15 _ _ e)).elim
        simp only [own, List.mem_cons, List.not_mem_nil, or_false] at hx
        rcases hx with rfl | rfl | rfl | rfl | rfl | rfl
        · exact fr _ fun c e => (c6 _ c e).2.1 rfl
        · exact fr _ fun c e => (c6 _ c e).1 rfl
        · exact qn1
        · exact q1
        · exact q2
        · exact pl1
      rintro w d H7 ⟨hW, hs17, hfr, hdl, hdt, hdb⟩
      have hl1 : o.levels = d.L.length := by rw [hdl]; exact hc1
      have hl2 : o2.levels = d.L.length := by rw [hdl]; exact hc2
      have hog : GoodB d.L (best d.L o (d.L.length - 2)) := best_good hW.hL.ok ho
      let S : Option Best → Cells → Prop := fun bo H' => WAt H' w { d with b := bo } ∧ Kept (own w d) H7 H' ∧ ∀ b, bo = some b → GoodB d.L b
      refine exs_cons (ex_nx (fun V' H8 => (∃ bo, S bo H8) ∧ ∃ o3, V' = worldV script ns hd b cnt o o2 wl ov (some (.int (i : Int))) (some (.ref ls)) (some (.ref pl)) o1 o2' (some (.ref q)) (some (.ref w)) o3) ?_ ?_)
      · refine ex_forL (by assumption) rfl ?_
        walk_at "w"
        obtain ⟨rows, hrows, hrok⟩ : ∃ rows : List Opt, [T.tup [o.T, o2.T], T.tup [o2.T, o.T]][(i : Int).toNat]? = some (.tup (rows.map Opt.T)) ∧ ∀ r ∈ rows, r.Ok ∧ r.levels = d.L.length := by
          have : i = 0 ∨ i = 1 := by walk_at "la"
          rcases this with rfl | rfl
          · exact ⟨[o, o2], rfl, fun r hr => by
              simp only [List.mem_cons, List.not_mem_nil, or_false] at hr
              rcases hr with rfl | rfl
              · exact ⟨ho, hl1⟩
              · exact ⟨ho2, hl2⟩⟩
          · exact ⟨[o2, o], rfl, fun r hr => by
              simp only [List.mem_cons, List.not_mem_nil, or_false] at hr
              rcases hr with rfl | rfl
              · exact ⟨ho2, hl2⟩
              · exact ⟨ho, hl1⟩⟩
        refine op_sub_tup (by walk_at "la") (Nat.le_of_ble_eq_true rfl) hrows ?_
        refine ⟨Opt, rows, Opt.T, .tup, fun j V' H8 => (∃ bo, S bo H8) ∧ ∃ o3, V' = worldV script ns hd b cnt o o2 wl ov (some (.int (i : Int))) (some (.ref ls)) (some (.ref pl)) o1 o2' (some (.ref q)) (some (.ref w)) o3, ⟨⟨d.b, hW, Kept.of SubH.rfl, fun b e => by rw [hdb] at e; cases e⟩, ov 48, rfl⟩, ?_, ?_⟩
        · rintro j r V' H8 hj ⟨⟨bo, t1, t2, t3⟩, o3, rfl⟩
          obtain ⟨rok, rl⟩ := hrok r (List.mem_of_getElem? hj)
          refine ⟨.tup, rfl, ?_⟩
          walk_at "w"
          refine cl_fn (sp_scored pf rok t1 rl fun H9 v1 v2 => ?_) (by walk_at "la")
          walk_at "w"
          refine ite_f ?_
          walk_at "w"
          exact ⟨⟨_, v2, t2.trans v1, fun b e => by cases e; exact best_good hW.hL.ok rok⟩, _, rfl⟩
        · rintro V' H8 ⟨hS, o3, rfl⟩
          exact ⟨.tup, rfl, hS, o3, rfl⟩
      rintro V' H8 ⟨⟨bo, t1, t2, t3⟩, o3, rfl⟩
      refine seq_next ?_
      refine exs_cons (ex_nx (fun V' H9 => (∃ bo, S bo H9) ∧ V' = worldV script ns hd b cnt o o2 wl ov (some (.int (i : Int))) (some (.ref ls)) (some (.ref pl)) o1 o2' (some (.ref q)) (some (.ref w)) o3) ?_ ?_)
      · walk_at "w"
        refine cl_fn (sp_scored pf ho t1 hl1 fun H9 v1 v2 => ?_) (by walk_at "la")
        walk_at "w"
        refine ite_f ?_
        walk_at "w"
        exact ⟨rfl, ⟨_, v2, t2.trans v1, fun b e => by cases e; exact hog⟩, rfl⟩
      rintro V' H9 ⟨⟨bo, t1, t2, t3⟩, rfl⟩
      have hs19 : SubH H1 H9 := fun x c e => t2 x c (fun hm => by rw [hfr x hm] at e; cases e) (hs17 x c e)
      have hwl9 := hs19 _ _ k1
      have wlo : wl ∉ own w d := fun hm => by rw [hfr _ hm] at k1; cases k1
      walk_at "w"
      refine ⟨_, hwl9, by rw [List.length_map]; walk_at "la", ?_⟩
      refine ⟨fun z => getT (worldV script ns hd b cnt o o2 wl ov (some (.int (i : Int))) (some (.ref ls)) (some (.ref pl)) o1 o2' (some (.ref q)) (some (.ref w)) o3) z, ws ++ [(w, { d with b := bo })], rfl, by rw [updH_self, List.map_append]; rfl, by rw [List.length_append, List.length_singleton]; walk_at "la", fun p hp => ?_, ?_⟩
      · rcases List.mem_append.mp hp with hp | hp
        · have kp := k3 p hp
          exact ⟨kp.a.keep fun x hx c e => by
            rw [updH_ne (by rintro rfl; exact kp.n hx)]; exact hs19 x c e, kp.l, kp.t, kp.g, kp.n⟩
        · simp only [List.mem_singleton] at hp
          subst hp
          exact ⟨t1.keep fun x hx c e => by
            rw [updH_ne (by rintro rfl; exact wlo hx)]; exact e, hdl, hdt, t3, wlo⟩
      · refine List.pairwise_append.mpr ⟨k4, by simp, fun p hp p2 hp2 x hx hx2 => ?_⟩
        simp only [List.mem_singleton] at hp2
        subst hp2
        obtain ⟨c, e⟩ := (k3 p hp).a.live x hx
        rw [hfr x hx2] at e; cases e
    · rintro V' H' ⟨ov, ws, rfl, k1, k2, k3, k4⟩
      exact ⟨rfl, ov, ws, rfl, k1, by walk_at "la", k3, k4⟩
  · rintro V' H1 ⟨ov, ws, rfl, k1, k2, k3, k4⟩
    obtain ⟨⟨w0, d0⟩, ⟨w1, d1⟩, rfl⟩ := len_two k2
    have n0 := k3 (w0, d0) (by simp)
    have n1 := k3 (w1, d1) (by simp)
    have hdis : ∀ x ∈ own w0 d0, x ∉ own w1 d1 := (List.pairwise_cons.mp k4).1 (w1, d1) (by simp)
    dsimp only at n0 n1
    refine seq_next (Exs.fzV (k := 157) rfl k1 ?_)
    have a0 : WAt (delH H1 wl) w0 d0 := n0.a.keep fun x hx c e => by rw [delH_ne (by rintro rfl; exact n0.n hx)]; exact e
    have a1 : WAt (delH H1 wl) w1 d1 := n1.a.keep fun x hx c e => by rw [delH_ne (by rintro rfl; exact n1.n hx)]; exact e
    generalize delH H1 wl = H2 at a0 a1
    refine exs_atH1 (fun aw => setV script (some (.lst (ns.map .int))) (some (.int hd)) (some (.int b)) (some (.int (cnt : Int))) (some o.T) (some o2.T) (some iordT) (some (pickT o)) (some (.lst [.ref w0, .ref w1])) (some (.ref aw)) none ov) (fun aw H3 => A3 (H2 aw = none) (H3 aw = some (.list [])) (SubH H2 H3)) ?_ ?_
    · walk_at "w"
      refine ev_listX ?_
      walk_at "w"
      intro aw H3 r1 r2 r3
      exact ⟨rfl, aw, rfl, r1, r2, r3⟩
    rintro aw H3 ⟨r1, r2, r3⟩
    refine exs_atH1 (fun kp => mainV script ns (.int hd) (.int b) cnt o o2 w0 w1 aw kp ov) (fun kp H4 => A3 (H3 kp = none) (H4 kp = some (.list [])) (SubH H3 H4)) ?_ ?_
    · walk_at "w"
      refine ev_listX ?_
      walk_at "w"
      intro kp H4 s1 s2 s3
      exact ⟨rfl, kp, rfl, s1, s2, s3⟩
    rintro kp H4 ⟨s1, s2, s3⟩
    have haw : H4 aw = some (.list []) := s3 _ _ r2
    have live : ∀ x c, H2 x = some c → x ≠ aw ∧ x ≠ kp ∧ H4 x = some c := fun x c e =>
      ⟨(by rintro rfl; rw [r1] at e; cases e), (by rintro rfl; rw [r3 _ _ e] at s1; cases s1), s3 _ _ (r3 _ _ e)⟩
    have b0 : WAt H4 w0 d0 := a0.keep fun x _ c e => (live x c e).2.2
    have b1 : WAt H4 w1 d1 := a1.keep fun x _ c e => (live x c e).2.2
    have n0a : ∀ x ∈ own w0 d0, x ≠ aw ∧ x ≠ kp := fun x hx => by
      obtain ⟨c, e⟩ := a0.live x hx
      exact ⟨(live x c e).1, (live x c e).2.1⟩
    have n1a : ∀ x ∈ own w1 d1, x ≠ aw ∧ x ≠ kp := fun x hx => by
      obtain ⟨c, e⟩ := a1.live x hx
      exact ⟨(live x c e).1, (live x c e).2.1⟩
    have ak : aw ≠ kp := by rintro rfl; rw [r2] at s1; cases s1
    exact law_main pf (d0 := d0) (d1 := d1) hf hg hout hns hnl hnb ho ho2 hc1 hc2 h3 h4 ⟨b0, b1, hdis, n0.l, n1.l, n0.t, n1.t, n0.g, n1.g, fun hm => (n0a aw hm).1 rfl, fun hm => (n1a aw hm).1 rfl, fun hm => (n0a kp hm).2 rfl, fun hm => (n1a kp hm).2 rfl, ak, ⟨_, haw⟩, ⟨_, s2⟩⟩ haw s2 h
/-- the law, for every script -/
theorem sp_law {zs : List Int} {script : T} (hs : AsList H script (zs.map .int)) (hz : zs.length ≤ 1000) (h : ∀ H', Q (.bool true) H') : FSpecA g 18 731 [script] H Q := by
  refine fspecA_of (m := 17) (ps := [187]) (ls := [120, 189, 14, 112, 81, 179, 57, 183, 157, 128, 177, 184, 190, 176, 191, 130, 90, 59, 194, 153, 48, 178, 195, 86, 68, 69, 162, 164, 94, 196, 151, 197]) (gs := [4, 121, 192, 91, 193, 63, 129, 138, 154, 134, 180, 185, 158, 170, 168]) (cs := []) (pf.fn 731 _ rfl) (by decide +kernel) rfl fun f l hf hg hc hout => ?_
  exact law_head pf hf hg hs hz fun ns cnt hd b H' q1 q2 q3 q4 q5 q6 q7 => law_worlds pf hf hg hout q1 q2 q3 (optOf_ok q4 q5) (othOf_ok q4 q5) rfl rfl q4 q5 q6 q7 h
end
end

section
theorem rd_ints {Z : OM} {vs : List Value} {ns : List Int} (h : IntsAre vs ns) : RdL Z vs (ns.map T.int) := by
  induction h with
  | nil => exact .nil
  | cons _ _ _ ih => exact .cons (.int _ _) ih
theorem st_start (g : Gl) : St g g.s1.heap.get? g.s1.heap.get? (fun _ => none) g.s1 where
  sh := ⟨g.s1.heap, g.s1.toks, rfl⟩
  base := Sub.rfl
  kept := fun _ _ e => e
  kp := fun _ _ e => .of e
  kz := fun _ _ e => e
  zp := fun _ o e => .inr ⟨o, e⟩
  cl := fun _ _ e => by cases e
  ow := fun _ _ e => by cases e
  ap := fun _ _ _ _ _ e => by cases e
theorem law_run {g : Gl} (pf : PF g) (hgens : g.s1.gens = #[]) {l fa : Addr} {vs : List Value} {zs : List Int} (hL : g.s1.heap.IsList l vs.toArray) (hI : IntsAre vs zs) (hz : zs.length ≤ 1000) (hfa : g.mg (nm 188) = some (.ref fa))
    {c : ClaimW} {cl : Str → Option Addr} {mean : ExcName → Option Value} {args : List WData} (hn : ∀ cls, c.raises args cls = false) (hp : c.post args (.bool true) args = true) :
    wpAny g.M callerA (call (.ref fa) [.ref l]) (fun v s' => GoodWG c cl mean args g.s1 (.ok (.ret v)) s') (fun e s' => GoodWG c cl mean args g.s1 (.error e) s') g.s1 := by
  have h731 : fa = 731 := by
    rcases pf.glob 188 (.ref 731) rfl with h | ⟨h, _⟩
    · rw [hfa] at h; cases h; rfl
    · rw [hfa] at h; cases h
  subst h731
  obtain ⟨o, ho, hc, n, hd⟩ := hL
  obtain ⟨oc, od, odt, osl⟩ := o
  dsimp only at hc hd
  subst hc; subst hd
  have rd : RdL g.s1.heap.get? [.ref l] [.lst (zs.map T.int)] := .cons (.lst ho (by simpa using rd_ints hI)) .nil
  have hr : Room 18 callerA := ⟨rfl, by decide, by decide⟩
  refine wpAny_call (codeAny_mono ((sp_law pf (H := fun _ => none) (Q := fun t _ => t = .bool true) (zs := zs) (script := .lst (zs.map T.int)) .tree hz fun _ => rfl).go callerA _ _ g.s1 _ [] hr rfl (fun _ h => by cases h) (st_start g) rd) fun res s' ⟨v, Z', t, H', e, _, st', rd', q⟩ => ?_)
  subst e
  subst q
  cases rd'
  obtain ⟨h', tk, e⟩ := st'.sh
  refine ⟨.inl ⟨.bool true, .bool true, [], rfl, hn, .bool true, hp, fun _ => ⟨List.nodup_nil, fun a ha => by cases ha⟩⟩, .of_keep st'.kept, by rw [e], .of_eq (by rw [e]; exact hgens)⟩
end

end Mine

open PySem PySem.W PyProof.Rows
set_option maxHeartbeats 8000000 in
theorem PySem.Challenge.cw_xm0865_01_holds : PySem.Challenge.rw_xm0865_01.Holds := by
  w_on
  refine holds_law Mine.well_said fun said => ?_
  refine holds_open (q := Mine.pq) (loose := Mine.pl) (Xt := Mine.xt) (XP := XL Mine.pq []) (Yf := fun s => Mine.yK (Mine.fragOf s.heap (Mine.kAs s.heap))) (Ya := fun _ => Mine.yV) (YP := Mine.says) (N := 11384) Mine.left Mine.says_of Mine.says_keeps (fun s e => xl_of s (Bool.and_eq_true_iff.mp e).1) XL.keeps (by rfl) (by rfl) (by rfl) (fun s e => recFacts_of (Bool.and_eq_true_iff.mp e).2) (by rfl) said (by decide +kernel) ⟨rfl, rfl, rfl, rfl, rfl, by decide +kernel⟩ ⟨[WData.list []], by decide +kernel, by decide +kernel⟩ ?_
  intro w s₀ s₁ mg mb G Y fa o pm cd doc dV kV ho hd hcd hD hmg hg args vals as hpre hlay hrd hwl hlo
  obtain ⟨K, KX, hY⟩ := Y
  refine Ground.open G ?_
  intro T B D TE TW
  wrow_args hpre hlay hrd hwl hlo
  exact Mine.law_run (g := { prog := PySem.Challenge.rw_xm0865_01.row.prog, w := w, K := K, s1 := s₁, p := _, loose := _, mg := mg, mb := mb, KX := KX, TR := topRead_of T, NL := T.nolimit }) (Mine.pf_of hY) hg (by assumption) (by assumption) (by omega) hmg (fun cls => rfl) (postW_of (by wrow_shape) (by wtm_val) (by decide))

