import PyProof.Rows.All
import Wide.All
import OpenK.AllK
import Wide.FinOn
import Lean
import PySem.Challenge.RW_nz0373_01
set_option Elab.async false
set_option linter.all false
set_option maxHeartbeats 1000000
set_option genSizeOf false
set_option compiler.extract_closed false
open PySem PySem.W PySem.Spec PySem.Calls PyProof.Rows PyProof.V
namespace Mine


/-- abstract values: ints, bools, the two bytes of the text, references to abstract objects -/
inductive V where
  | none
  | bool (b : Bool)
  | int (i : Int)
  | bytes (k : Bool)
  | obj (i : Nat)
deriving DecidableEq

/-- abstract objects -/
inductive O where
  | inst (C : Nat) (as : List (Nat × V))
  | list (vs : List V)
  | tup (vs : List V)
  | dict (kvs : List (Int × V))
  | gone

/-- which of its two addresses an object has -/
noncomputable def O.has : O → Bool → Prop
  | .inst _ _, _ => True
  | .gone, _ => False
  | _, b => b = false

noncomputable def tabN : List String := ["BadConfig", "Ballots", "CAMP_ELECTION", "CAMP_PRE", "CAMP_TRANSFER", "CANDIDATE", "Config", "Elector", "Exception", "FOLLOWER", "KeepError", "LEADER", "LEASE", "LogPanic", "MSG_APP", "MSG_APP_RESP", "MSG_BEAT", "MSG_CHECK_QUORUM", "MSG_HEARTBEAT", "MSG_HUP", "MSG_PIECE", "MSG_PRE_VOTE", "MSG_PRE_VOTE_RESP", "MSG_PROP", "MSG_READ_INDEX", "MSG_SNAP", "MSG_SNAP_STATUS", "MSG_TIMEOUT_NOW", "MSG_TRANSFER", "MSG_UNREACHABLE", "MSG_VOTE", "MSG_VOTE_RESP", "MSG_WANT", "Message", "NONE", "NO_LIMIT", "PRE_CANDIDATE", "ProposalDropped", "RaftConfig", "RaftError", "SAFE", "TRANSFER_CONTEXT", "VOTE_LOST", "VOTE_PENDING", "VOTE_WON", "__init__", "_law_asked", "_law_draw", "_law_end", "_law_orders", "_law_says", "_law_wins", "_law_word", "_wall", "a", "acked", "all", "all_voters", "answer", "answer_lower", "answer_vote", "any", "append", "applied", "asked", "auto_leave", "b", "bcast_append", "become_candidate", "become_follower", "become_leader", "become_pre_candidate", "begin", "c", "campaign", "can_vote", "check", "check_all", "check_quorum", "come", "commit", "committed", "conf_state", "config", "context", "copy", "draw_timeout", "draws", "e", "early", "election_elapsed", "election_tick", "end", "entries", "entry", "extra", "far", "follow", "forget", "frm", "from_leader", "furnish", "get", "goes", "granted", "half", "halves", "heartbeat_elapsed", "heartbeat_tick", "held", "higher", "hup", "i", "ids", "in_lease", "index", "is_local", "j", "jitter", "joint", "joint_index", "joint_vote", "k", "kind", "last", "last_row", "last_term", "law", "lead", "leader", "learners", "learners_next", "left", "len", "log_term", "m", "majority_index", "majority_vote", "mark", "max", "max_committed_size", "max_inflight", "max_inflight_octets", "max_size_per_msg", "max_uncommitted_size", "may_lack_term", "member", "members", "messages", "missing", "mode", "need", "nid", "no", "no_forwarding", "noes", "nums", "ok", "open_yet", "order", "other", "out", "outgoing", "own", "past_timeout", "poll", "pre", "pre_vote", "promotable", "read_option", "record_vote", "reject", "reject_hint", "rejected", "request", "reset", "reset_votes", "rest", "result", "right", "rising", "row", "script", "self", "send", "settle_higher", "settle_term", "single", "snapshot", "soft_state", "sorted", "stand", "state", "step", "step_candidate", "step_down_on_removal", "step_follower", "step_leader", "storage", "tally", "term", "tick", "tick_election", "tick_heartbeat", "timeout", "to", "tracker", "unapplied_conf", "up_to_date", "vote", "vote_resp_kind", "voters", "votes", "want", "way", "ways", "who", "won", "words", "x", "y", "yes", "yeses", "z"]
noncomputable def srtB : String → List String → Bool
  | _, [] => true
  | a, b :: r => decide (a < b) && srtB b r
theorem srtB_nd : ∀ (l : List String) (a : String), srtB a l = true → (∀ x ∈ l, a < x) ∧ (a :: l).Nodup
  | [], a, _ => ⟨fun _ h => (nomatch h), List.nodup_cons.mpr ⟨List.not_mem_nil, List.nodup_nil⟩⟩
  | b :: r, a, h => by
    have h := Bool.and_eq_true_iff.mp h
    obtain ⟨h1, h2⟩ := srtB_nd r b h.2
    have ab : a < b := of_decide_eq_true h.1
    have al : ∀ x ∈ b :: r, a < x := fun x hx => (List.mem_cons.mp hx).elim (fun e => e ▸ ab) fun hx => String.lt_trans ab (h1 x hx)
    exact ⟨al, List.nodup_cons.mpr ⟨fun q => String.lt_irrefl a (al a q), h2⟩⟩
theorem tabN_nd : tabN.Nodup := (srtB_nd _ _ (by decide +kernel : srtB tabN.head! tabN.tail = true)).2
noncomputable def attrsOf (C : Nat) : List Nat :=
  if C = 132 then [80, 84, 93, 99, 115, 123, 134, 171, 172, 188, 200, 205]
  else if C = 242 then [65, 130, 131, 162, 211]
  else if C = 291 then [83, 212]
  else if C = 319 then [63, 78, 91, 108, 118, 140, 141, 142, 143, 144, 152, 154, 167, 169, 195, 198]
  else if C = 606 then [78, 83, 87, 90, 91, 107, 108, 118, 124, 129, 148, 152, 167, 192, 200, 204, 206, 209]
  else []
noncomputable def okA (C a : Nat) : Bool := (attrsOf C).contains a

abbrev Loc := List (Nat × V)
abbrev Hp := List O

noncomputable def lk : List (Nat × V) → Nat → Option V
  | [], _ => Option.none
  | (a, v) :: r, x => if a = x then some v else lk r x

noncomputable def put : List (Nat × V) → Nat → V → List (Nat × V)
  | [], x, v => [(x, v)]
  | (a, u) :: r, x, v => if a = x then (a, v) :: r else (a, u) :: put r x v

inductive All2 {α β : Type} (R : α → β → Prop) : List α → List β → Prop
  | nil : All2 R [] []
  | cons {a b as bs} : R a b → All2 R as bs → All2 R (a :: as) (b :: bs)

theorem All2.mono {α β : Type} {R R' : α → β → Prop} (h : ∀ a b, R a b → R' a b) : ∀ {as bs}, All2 R as bs → All2 R' as bs
  | _, _, .nil => .nil
  | _, _, .cons x r => .cons (h _ _ x) (r.mono h)
theorem All2.length {α β : Type} {R : α → β → Prop} : ∀ {as : List α} {bs : List β}, All2 R as bs → as.length = bs.length
  | _, _, .nil => rfl
  | _, _, .cons _ r => congrArg Nat.succ r.length
theorem All2.append {α β : Type} {R : α → β → Prop} : ∀ {as : List α} {bs : List β} {as' bs'}, All2 R as bs → All2 R as' bs' → All2 R (as ++ as') (bs ++ bs')
  | _, _, _, _, .nil, y => y
  | _, _, _, _, .cons x r, y => .cons x (r.append y)
theorem All2.get {α β : Type} {R : α → β → Prop} {as : List α} {bs : List β} (H : All2 R as bs) : ∀ {i : Nat} {a : α}, as[i]? = some a → ∃ b, bs[i]? = some b ∧ R a b := by
  induction H with
  | nil => intro i a h; simp at h
  | cons x r ih =>
    intro i a h
    cases i with
    | zero => simp at h; subst h; exact ⟨_, rfl, x⟩
    | succ i => simpa using ih (by simpa using h)

theorem ofString_inj {a b : String} (h : Str.ofString a = Str.ofString b) : a = b := by
  rw [Str.ofString_eq_byList] at h
  unfold Str.ofStringByList at h
  simp only [Str.mk.injEq] at h
  have h2 : a.toList.map Char.toNat = b.toList.map Char.toNat := by simpa using h
  have inj : ∀ {l l' : List Char}, l.map Char.toNat = l'.map Char.toNat → l = l' := by
    intro l
    induction l with
    | nil => intro l' h; cases l' with | nil => rfl | cons _ _ => simp at h
    | cons c l ih =>
      intro l' h
      cases l' with
      | nil => simp at h
      | cons d l' =>
        simp only [List.map_cons, List.cons.injEq] at h
        have hcd : c = d := Char.ext (UInt32.toNat_inj.mp h.1)
        rw [hcd, ih h.2]
  exact String.toList_inj.mp (inj h2)

theorem nodup_get {α : Type} : ∀ {l : List α} {i j : Nat}, l.Nodup → ∀ (hi : i < l.length) (hj : j < l.length), l[i] = l[j] → i = j
  | a :: l, i, j, nd, hi, hj, h => by
    rw [List.nodup_cons] at nd
    cases i with
    | zero => cases j with
      | zero => rfl
      | succ j => exact absurd (List.getElem_mem (Nat.lt_of_succ_lt_succ hj)) (fun q => nd.1 (by simp only [List.getElem_cons_zero, List.getElem_cons_succ] at h; rw [h]; exact q))
    | succ i => cases j with
      | zero => exact absurd (List.getElem_mem (Nat.lt_of_succ_lt_succ hi)) (fun q => nd.1 (by simp only [List.getElem_cons_zero, List.getElem_cons_succ] at h; rw [← h]; exact q))
      | succ j => simp only [List.getElem_cons_succ] at h; exact congrArg Nat.succ (nodup_get nd.2 (Nat.lt_of_succ_lt_succ hi) (Nat.lt_of_succ_lt_succ hj) h)

/-- the table of names -/
structure Names where
  tab : List String
  nd : tab.Nodup
noncomputable def Names.s (T : Names) (k : Nat) : Str := Str.ofString (T.tab.getD k "")
noncomputable def Names.n (T : Names) : Nat := T.tab.length
theorem Names.inj (T : Names) {i j : Nat} (hi : i < T.n) (hj : j < T.n) (h : T.s i = T.s j) : i = j := by
  have h2 := ofString_inj h
  unfold Names.n at hi hj
  rw [List.getD_eq_getElem?_getD, List.getD_eq_getElem?_getD, List.getElem?_eq_getElem hi, List.getElem?_eq_getElem hj] at h2
  exact nodup_get T.nd hi hj h2

/-- the bytes of the text -/
noncomputable def byt : Bool → Array UInt8
  | true => #[116, 114, 97, 110, 115, 102, 101, 114]
  | false => #[]

abbrev AdMap := Nat → Bool → Addr

inductive VR (α : AdMap) (n : Nat) : V → Value → Prop
  | none : VR α n .none .none
  | bool (b : Bool) : VR α n (.bool b) (.bool b)
  | int (i : Int) (t : Tok) : VR α n (.int i) (.int i t)
  | bytes (k : Bool) (t : Tok) : VR α n (.bytes k) (.bytes (byt k) t)
  | obj (i : Nat) (h : i < n) : VR α n (.obj i) (.ref (α i false))

abbrev listO (vs : List Value) (k : Nat) : Obj := listOf vs.toArray k
abbrev tupO (vs : List Value) : Obj := { cls := .type "tuple", data := .seq vs.toArray }

/-- the entries of an object's dict -/
noncomputable def EntR (T : Names) (α : AdMap) (n : Nat) (a : Nat × V) (e : DictEntry) : Prop := a.1 < T.n ∧ (∃ t, e.key = .str (T.s a.1) t) ∧ VR α n a.2 e.val

section
variable (T : Names) {prog : Program} {w : World}

/-- what the ledger holds of an abstract object -/
noncomputable def OR (prog : Program) (w : World) (α : AdMap) (n i : Nat) (news : List (Addr × Obj)) : O → Prop
  | .inst C as => (α i false, instObj C (α i true)) ∈ news ∧ (as.length ≤ 40 ∧ ∀ x v, lk as x = some v → okA C x = true) ∧ ∃ es k, (α i true, dictOf es k) ∈ news ∧ All2 (EntR T α n) as es
  | .list vs => vs.length ≤ 4096 ∧ ∃ vals k, (α i false, listO vals k) ∈ news ∧ All2 (VR α n) vs vals
  | .tup vs => vs.length ≤ 4096 ∧ ∃ vals, (α i false, tupO vals) ∈ news ∧ All2 (VR α n) vs vals
  | .dict kvs => kvs.length ≤ 4096 ∧ ∃ o kvals D, (α i false, o) ∈ news ∧ o.IsDictOf (intKind prog w) kvals ∧ FlatPairs PyData.int kvals D ∧ D.length = kvals.length ∧ (α i false == sysModules) = false ∧
      All2 (fun (a : Int × V) (b : Int × Value) => a.1 = b.1 ∧ VR α n a.2 b.2) kvs kvals
  | .gone => True

noncomputable def Dom (σ : Hp) (i : Nat) (b : Bool) : Prop := ∃ o, σ[i]? = some o ∧ o.has b

structure Rl (prog : Program) (w : World) (α : AdMap) (σ : Hp) (X news : List (Addr × Obj)) : Prop where
  nd : (news.map (·.1)).Nodup
  rel : ∀ i o, σ[i]? = some o → OR T prog w α σ.length i news o
  inj : ∀ i b j c, Dom σ i b → Dom σ j c → α i b = α j c → i = j ∧ b = c
  sub : ∀ p ∈ X, p ∈ news
  off : ∀ p ∈ X, ∀ i b, Dom σ i b → p.1 ≠ α i b

noncomputable def Ext (α : AdMap) (σ : Hp) (α' : AdMap) (σ' : Hp) : Prop := σ.length ≤ σ'.length ∧ ∀ i, i < σ.length → ∀ b, α' i b = α i b
end

theorem VR.mono {α α' : AdMap} {n n' : Nat} (h1 : n ≤ n') (h2 : ∀ i, i < n → α' i false = α i false) {v : V} {val : Value} (h : VR α n v val) : VR α' n' v val := by
  cases h with
  | none => exact .none
  | bool b => exact .bool b
  | int i t => exact .int i t
  | bytes k t => exact .bytes k t
  | obj i hi => rw [← h2 i hi]; exact .obj i (Nat.lt_of_lt_of_le hi h1)
theorem Ext.vr {α α' : AdMap} {σ σ' : Hp} (e : Ext α σ α' σ') {v : V} {val : Value} (h : VR α σ.length v val) : VR α' σ'.length v val := h.mono e.1 fun i hi => e.2 i hi false
theorem Ext.refl {α : AdMap} {σ : Hp} : Ext α σ α σ := ⟨Nat.le_refl _, fun _ _ _ => rfl⟩
theorem Ext.trans {α α' α'' : AdMap} {σ σ' σ'' : Hp} (a : Ext α σ α' σ') (b : Ext α' σ' α'' σ'') : Ext α σ α'' σ'' :=
  ⟨Nat.le_trans a.1 b.1, fun i hi c => (b.2 i (Nat.lt_of_lt_of_le hi a.1) c).trans (a.2 i hi c)⟩
theorem Ext.vrs {α α' : AdMap} {σ σ' : Hp} (e : Ext α σ α' σ') {vs : List V} {vals : List Value} (h : All2 (VR α σ.length) vs vals) : All2 (VR α' σ'.length) vs vals := h.mono fun _ _ => e.vr

section
variable {T : Names} {prog : Program} {w : World} {α : AdMap} {σ : Hp} {X news news' : List (Addr × Obj)}

theorem EntR.mono {α α' : AdMap} {n n' : Nat} (h1 : n ≤ n') (h2 : ∀ i, i < n → α' i false = α i false) {a : Nat × V} {e : DictEntry} (h : EntR T α n a e) : EntR T α' n' a e :=
  ⟨h.1, h.2.1, h.2.2.mono h1 h2⟩

theorem OR.mono {α α' : AdMap} {n n' i : Nat} {o : O} (h1 : n ≤ n') (h2 : ∀ j, j < n → α' j false = α j false) (hi : ∀ b, o.has b → α' i b = α i b)
    (hm : ∀ p ∈ news, ∀ b, o.has b → p.1 = α i b → p ∈ news') (h : OR T prog w α n i news o) : OR T prog w α' n' i news' o := by
  cases o with
  | inst C as =>
    obtain ⟨a, l, es, k, b, c⟩ := h
    have a' := hm _ a false trivial rfl
    have b' := hm _ b true trivial rfl
    rw [← hi false trivial, ← hi true trivial] at a'
    rw [← hi true trivial] at b'
    exact ⟨a', l, es, k, b', c.mono fun _ _ => EntR.mono h1 h2⟩
  | list vs =>
    obtain ⟨l, vals, k, a, b⟩ := h
    have a' := hm _ a false rfl rfl
    rw [← hi false rfl] at a'
    exact ⟨l, vals, k, a', b.mono fun _ _ => VR.mono h1 h2⟩
  | tup vs =>
    obtain ⟨l, vals, a, b⟩ := h
    have a' := hm _ a false rfl rfl
    rw [← hi false rfl] at a'
    exact ⟨l, vals, a', b.mono fun _ _ => VR.mono h1 h2⟩
  | dict kvs =>
    obtain ⟨l, o, kvals, D, a, b, c, d, e, f⟩ := h
    have a' := hm _ a false rfl rfl
    rw [← hi false rfl] at a' e
    exact ⟨l, o, kvals, D, a', b, c, d, e, f.mono fun x y z => ⟨z.1, z.2.mono h1 h2⟩⟩
  | gone => exact trivial

theorem upd_same : ∀ {r : List (Addr × Obj)} {d : Addr} (q : Obj), (∀ p ∈ r, p.1 ≠ d) → r.map (fun p => if p.1 = d then (d, q) else p) = r
  | [], _, _, _ => rfl
  | p :: l, d, q, hl => by rw [List.map_cons, if_neg (hl p (.head _)), upd_same q fun p hp => hl p (.tail _ hp)]

theorem upd_exists {d : Addr} {o o' : Obj} : ∀ {news : List (Addr × Obj)}, (news.map (·.1)).Nodup → (d, o) ∈ news →
    Upd d o o' news (news.map fun p => if p.1 = d then (d, o') else p) ∧ UpdF d o news (fun q => news.map fun p => if p.1 = d then (d, q) else p) := by
  intro news
  induction news with
  | nil => intro _ hm; exact absurd hm List.not_mem_nil
  | cons p r ih =>
    intro nd hm
    rw [List.map_cons, List.nodup_cons] at nd
    rcases List.mem_cons.mp hm with e | hm
    · subst e
      have hne : ∀ p ∈ r, p.1 ≠ d := fun p hp q => nd.1 (List.mem_map.mpr ⟨p, hp, q⟩)
      refine ⟨?_, ?_⟩
      · rw [List.map_cons, if_pos rfl, upd_same _ hne]
        exact .head hne
      · have : (fun q => ((d, o) :: r).map fun p => if p.1 = d then (d, q) else p) = fun q => (d, q) :: r := by
          funext q; rw [List.map_cons, if_pos rfl, upd_same _ hne]
        rw [this]; exact .head hne
    · have hne : p.1 ≠ d := fun q => nd.1 (List.mem_map.mpr ⟨(d, o), hm, q.symm⟩)
      obtain ⟨U, F⟩ := ih nd.2 hm
      refine ⟨?_, ?_⟩
      · rw [List.map_cons, if_neg hne]
        exact .tail hne U
      · have : (fun q => (p :: r).map fun p => if p.1 = d then (d, q) else p) = fun q => p :: (r.map fun p => if p.1 = d then (d, q) else p) := by
          funext q; rw [List.map_cons, if_neg hne]
        rw [this]; exact .tail hne F

noncomputable def upd (news : List (Addr × Obj)) (d : Addr) (q : Obj) : List (Addr × Obj) := news.map fun p => if p.1 = d then (d, q) else p
theorem upd_fst (d : Addr) (q : Obj) : (upd news d q).map (·.1) = news.map (·.1) := by
  unfold upd
  rw [List.map_map]
  apply List.map_congr_left
  intro p _
  show (if p.1 = d then (d, q) else p).1 = p.1
  split
  · rename_i h; exact h.symm
  · rfl
theorem upd_mem {d : Addr} {o q : Obj} (h : (d, o) ∈ news) : (d, q) ∈ upd news d q := List.mem_map.mpr ⟨(d, o), h, if_pos rfl⟩
theorem upd_keep {d : Addr} {q : Obj} {p : Addr × Obj} (h : p ∈ news) (hne : p.1 ≠ d) : p ∈ upd news d q := List.mem_map.mpr ⟨p, h, if_neg hne⟩

theorem Dom.lt {σ : Hp} {i : Nat} {b : Bool} (h : Dom σ i b) : i < σ.length := let ⟨_, h, _⟩ := h; (List.getElem?_eq_some_iff.mp h).1

/-- one of an abstract object's real objects turned -/
theorem Rl.set (R : Rl T prog w α σ X news) {i : Nat} {b : Bool} {o₀ o' : O} {oR q : Obj} (ho : σ[i]? = some o₀) (hb : o₀.has b) (hm : (α i b, oR) ∈ news)
    (hk : ∀ c, o'.has c → o₀.has c) (hnew : OR T prog w α σ.length i (upd news (α i b) q) o') : Rl T prog w α (σ.set i o') X (upd news (α i b) q) := by
  have hd : Dom σ i b := ⟨o₀, ho, hb⟩
  have hl : (σ.set i o').length = σ.length := List.length_set ..
  have hdom : ∀ j c, Dom (σ.set i o') j c → Dom σ j c := by
    rintro j c ⟨x, h1, h2⟩
    by_cases hj : i = j
    · subst hj
      rw [List.getElem?_set_self hd.lt] at h1
      cases h1
      exact ⟨o₀, ho, hk c h2⟩
    · rw [List.getElem?_set_ne hj] at h1
      exact ⟨x, h1, h2⟩
  refine ⟨by rw [upd_fst]; exact R.nd, fun j o hj => ?_, fun j c k e hj hk' => R.inj j c k e (hdom _ _ hj) (hdom _ _ hk'), fun p hp => upd_keep (R.sub p hp) (R.off p hp i b hd), fun p hp j c hj => R.off p hp j c (hdom _ _ hj)⟩
  rw [hl]
  by_cases hij : i = j
  · subst hij
    rw [List.getElem?_set_self hd.lt] at hj
    cases hj
    exact hnew
  · rw [List.getElem?_set_ne hij] at hj
    refine (R.rel j o hj).mono (Nat.le_refl _) (fun _ _ => rfl) (fun _ _ => rfl) fun p hp c hc e => upd_keep hp fun e' => ?_
    exact hij (R.inj j c i b ⟨o, hj, hc⟩ hd (e.symm.trans e')).1.symm

/-- an object taken out of sight: its real object stands aside -/
theorem Rl.lock (R : Rl T prog w α σ X news) {i : Nat} {o₀ : O} {oR : Obj} (ho : σ[i]? = some o₀) (hb : o₀.has false) (hm : (α i false, oR) ∈ news) : Rl T prog w α (σ.set i .gone) ((α i false, oR) :: X) news := by
  have hd : Dom σ i false := ⟨o₀, ho, hb⟩
  have hl : (σ.set i O.gone).length = σ.length := List.length_set ..
  have hdom : ∀ j c, Dom (σ.set i .gone) j c → Dom σ j c ∧ i ≠ j := by
    rintro j c ⟨x, h1, h2⟩
    by_cases hj : i = j
    · subst hj
      rw [List.getElem?_set_self hd.lt] at h1
      cases h1
      exact h2.elim
    · rw [List.getElem?_set_ne hj] at h1
      exact ⟨⟨x, h1, h2⟩, hj⟩
  refine ⟨R.nd, fun j o hj => ?_, fun j c k e hj hk' => R.inj j c k e (hdom _ _ hj).1 (hdom _ _ hk').1, fun p hp => ?_, fun p hp j c hj e => ?_⟩
  · rw [hl]
    by_cases hij : i = j
    · subst hij
      rw [List.getElem?_set_self hd.lt] at hj
      cases hj
      exact trivial
    · rw [List.getElem?_set_ne hij] at hj
      exact R.rel j o hj
  · rcases List.mem_cons.mp hp with rfl | hp
    · exact hm
    · exact R.sub p hp
  · rcases List.mem_cons.mp hp with rfl | hp
    · exact (hdom _ _ hj).2 (R.inj i false j c hd (hdom _ _ hj).1 e).1
    · exact R.off p hp j c (hdom _ _ hj).1 e
/-- and back -/
theorem Rl.unlock {a : Addr} {oR : Obj} (R : Rl T prog w α σ ((a, oR) :: X) news) {i : Nat} {o' : O} (ha : a = α i false) (ho : σ[i]? = some .gone) (hk : ∀ c, o'.has c → c = false) (hX : ∀ p ∈ X, p.1 ≠ a)
    (hnew : OR T prog w α σ.length i news o') : Rl T prog w α (σ.set i o') X news := by
  subst ha
  have hlt : i < σ.length := (List.getElem?_eq_some_iff.mp ho).1
  have hl : (σ.set i o').length = σ.length := List.length_set ..
  have hdom : ∀ j c, Dom (σ.set i o') j c → Dom σ j c ∨ (j = i ∧ c = false) := by
    rintro j c ⟨x, h1, h2⟩
    by_cases hj : i = j
    · subst hj
      rw [List.getElem?_set_self hlt] at h1
      cases h1
      exact .inr ⟨rfl, hk c h2⟩
    · rw [List.getElem?_set_ne hj] at h1
      exact .inl ⟨x, h1, h2⟩
  have hoff : ∀ j c, Dom σ j c → α i false ≠ α j c := fun j c hj => R.off (α i false, oR) List.mem_cons_self j c hj
  refine ⟨R.nd, fun j o hj => ?_, fun j c k e hj hk' he => ?_, fun p hp => R.sub p (List.mem_cons_of_mem _ hp), fun p hp j c hj => ?_⟩
  · rw [hl]
    by_cases hij : i = j
    · subst hij
      rw [List.getElem?_set_self hlt] at hj
      cases hj
      exact hnew
    · rw [List.getElem?_set_ne hij] at hj
      exact R.rel j o hj
  · rcases hdom _ _ hj with h1 | ⟨rfl, rfl⟩
    · rcases hdom _ _ hk' with h2 | ⟨rfl, rfl⟩
      · exact R.inj _ _ _ _ h1 h2 he
      · exact absurd he.symm (hoff _ _ h1)
    · rcases hdom _ _ hk' with h2 | ⟨rfl, rfl⟩
      · exact absurd he (hoff _ _ h2)
      · exact ⟨rfl, rfl⟩
  · rcases hdom _ _ hj with h1 | ⟨rfl, rfl⟩
    · exact R.off p (List.mem_cons_of_mem _ hp) j c h1
    · exact hX p hp

noncomputable def ext1 (α : AdMap) (n : Nat) (a b : Addr) : AdMap := fun i c => if i = n then (if c then b else a) else α i c
theorem ext1_lt {α : AdMap} {n : Nat} {a b : Addr} {i : Nat} (h : i < n) (c : Bool) : ext1 α n a b i c = α i c := if_neg (Nat.ne_of_lt h)
theorem ext1_f {α : AdMap} {n : Nat} {a b : Addr} : ext1 α n a b n false = a := by simp [ext1]
theorem ext1_t {α : AdMap} {n : Nat} {a b : Addr} : ext1 α n a b n true = b := by simp [ext1]

theorem push_get {σ : Hp} {o x : O} {j : Nat} (h : (σ ++ [o])[j]? = some x) : (j < σ.length ∧ σ[j]? = some x) ∨ (j = σ.length ∧ x = o) := by
  by_cases hj : j < σ.length
  · exact .inl ⟨hj, by rw [List.getElem?_append_left hj] at h; exact h⟩
  · refine .inr ?_
    rw [List.getElem?_append_right (Nat.not_lt.mp hj)] at h
    have : j - σ.length = 0 := by
      rcases Nat.eq_zero_or_pos (j - σ.length) with q | q
      · exact q
      · rw [List.getElem?_eq_none (by simp; omega)] at h; cases h
    rw [this] at h
    simp at h
    exact ⟨by omega, h.symm⟩
theorem dom_push {σ : Hp} {o : O} {j : Nat} {c : Bool} (h : Dom (σ ++ [o]) j c) : Dom σ j c ∨ (j = σ.length ∧ o.has c) := by
  obtain ⟨x, h1, h2⟩ := h
  rcases push_get h1 with ⟨_, h3⟩ | ⟨h3, rfl⟩
  · exact .inl ⟨x, h3, h2⟩
  · exact .inr ⟨h3, h2⟩

theorem Rl.here (R : Rl T prog w α σ X news) {j : Nat} {c : Bool} (hj : Dom σ j c) : ∃ q, (α j c, q) ∈ news := by
  obtain ⟨x, hx, hc⟩ := hj
  have r := R.rel j x hx
  cases x with
  | inst C as =>
    obtain ⟨h1, _, es, k, h4, _⟩ := r
    cases c
    · exact ⟨_, h1⟩
    · exact ⟨_, h4⟩
  | list vs => cases hc; obtain ⟨_, _, _, h4, _⟩ := r; exact ⟨_, h4⟩
  | tup vs => cases hc; obtain ⟨_, _, h4, _⟩ := r; exact ⟨_, h4⟩
  | dict vs => cases hc; obtain ⟨_, _, _, _, h4, _⟩ := r; exact ⟨_, h4⟩
  | gone => exact hc.elim

/-- a new abstract object: its real ones stand in front -/
theorem Rl.push (R : Rl T prog w α σ X news) {o : O} {a b : Addr} {add : List (Addr × Obj)} (hnd : ((add ++ news).map (·.1)).Nodup)
    (hab : o.has true → a ≠ b) (ha : a ∈ add.map (·.1)) (hb : o.has true → b ∈ add.map (·.1))
    (hnew : OR T prog w (ext1 α σ.length a b) (σ.length + 1) σ.length (add ++ news) o) : Rl T prog w (ext1 α σ.length a b) (σ ++ [o]) X (add ++ news) := by
  have hl : (σ ++ [o]).length = σ.length + 1 := by simp
  have hfree : ∀ p ∈ news, p.1 ∉ add.map (·.1) := by
    intro p hp hq
    rw [List.map_append, List.nodup_append] at hnd
    exact hnd.2.2 _ hq _ (List.mem_map.mpr ⟨p, hp, rfl⟩) rfl
  have hne : ∀ j c, Dom σ j c → α j c ∉ add.map (·.1) := fun j c hj => by obtain ⟨q, hq⟩ := R.here hj; exact hfree _ hq
  have hnew2 : ∀ c, o.has c → ext1 α σ.length a b σ.length c ∈ add.map (·.1) := fun c hc => by
    cases c with
    | false => rw [ext1_f]; exact ha
    | true => rw [ext1_t]; exact hb hc
  refine ⟨hnd, fun j x hj => ?_, ?_, fun p hp => List.mem_append_right _ (R.sub p hp), ?_⟩
  · rw [hl]
    rcases push_get hj with ⟨h1, h2⟩ | ⟨rfl, rfl⟩
    · exact (R.rel j x h2).mono (Nat.le_succ _) (fun k hk => ext1_lt hk false) (fun c _ => ext1_lt h1 c) fun p hp _ _ _ => List.mem_append_right _ hp
    · exact hnew
  · intro i c j d hi hj e
    rcases dom_push hi with h1 | ⟨rfl, h1⟩
    · rcases dom_push hj with h2 | ⟨rfl, h2⟩
      · rw [ext1_lt h1.lt, ext1_lt h2.lt] at e
        exact R.inj i c j d h1 h2 e
      · exfalso
        rw [ext1_lt h1.lt] at e
        exact hne i c h1 (e ▸ hnew2 d h2)
    · rcases dom_push hj with h2 | ⟨rfl, h2⟩
      · exfalso
        rw [ext1_lt h2.lt] at e
        exact hne j d h2 (e ▸ hnew2 c h1)
      · refine ⟨rfl, ?_⟩
        cases c <;> cases d <;> first | rfl | (exfalso; simp only [ext1_f, ext1_t] at e; first | exact hab h1 e | exact hab h2 e | exact hab h1 e.symm | exact hab h2 e.symm)
  · intro p hp i c hi e
    rcases dom_push hi with h1 | ⟨rfl, h1⟩
    · rw [ext1_lt h1.lt] at e
      exact R.off p hp i c h1 e
    · exact hfree p (R.sub p hp) (e ▸ hnew2 c h1)
end


set_option genInjectivity false in
structure Cx where
  A : Around
  env : Env
  fenv : Env
  outer : List Env
  A₀ : Around
  base : Heap
  h₀ : Heap
  L : Addr
  s₀ : Shared

noncomputable def Room (A : Around) (n : Nat) : Prop := A.handled = none ∧ A.depth + 2 * n < recursionLimit ∧ A.units + 40 * n + 100 < cLine
theorem Room.mono {A : Around} {n n' : Nat} (h : Room A n) (hn : n' ≤ n) : Room A n' := ⟨h.1, by have := h.2.1; omega, by have := h.2.2; omega⟩

noncomputable def attrOk (K : Frag) (C : Addr) (name : Str) : Bool := plainGet K C name && hasDictIn K C && match findIn K (.ref C) name with | some a => noGet K a | none => false

noncomputable def storeOk (K : Frag) (C : Addr) (name : Str) : Bool := (findIn K (.ref C) "__setattr__" == some (some (.builtin "object.__setattr__"))) && plainOver K C && (takerIn K C name == some none) && hasDictIn K C
/-- what the class's own facts must say of an attribute: it is read and stored as plain data -/
noncomputable def AttrT (K : Frag) (T : Names) (a : Nat) (C : Nat) : Prop := a < T.n ∧ attrOk K C (T.s a) = true ∧ storeOk K C (T.s a) = true

set_option genInjectivity false in
structure Fix where
  T : Names
  prog : Program
  w : World
  K : Frag
  p : Program
  loose : List Str
  mean : ExcName → Option Value
  mg : Str → Option Value
  mb : Str → Option Value
  ok : ∀ C a, okA C a = true → AttrT K T a C
  nodbg : ∀ k, (T.s k == ("__debug__" : Str)) = false ∧ (T.s k == ("__classdict__" : Str)) = false

structure Cx.Ok (Z : Fix) (sc : Scope) (n : Nat) (c : Cx) : Prop where
  B : Below c.A₀ c.base c.outer c.h₀
  X : Z.K.In c.h₀
  T : Top Z.p Z.loose Z.mean Z.mg Z.mb c.h₀
  hA : c.A.frames = some (c.fenv :: c.outer)
  hf : c.fenv.frame = some c.L
  hke : c.fenv.scope.kind = .function
  room : Room c.A n
  ek : c.env.scope.kind = .function
  eg : c.env.globals = mainGlobals
  eb : c.env.builtins = builtinsNs
  gl : ∀ x, sc.names.lookup x = some .globalImplicit → c.env.kindOf x = some .globalImplicit
  cf : ∀ x, (sc.names.lookup x = some .cell ∨ sc.names.lookup x = some .free) → (c.env.kindOf x = some .cell ∨ c.env.kindOf x = some .free) ∧ (c.env.cells.lookup x).isSome = true

/-- how a name of the block reads -/
noncomputable def Rd (env : Env) (L : Addr) (mr : Str → Option Value) (X : List (Addr × Obj)) (x : Str) (val : Value) : Prop :=
  (env.kindOf x = some .local ∧ env.locals = L ∧ mr x = some val) ∨
  (env.kindOf x = some .local ∧ ∃ oC m₂, (env.locals, oC) ∈ X ∧ LCg.NsObj oC m₂ ∧ m₂ x = some val) ∨
  ((env.kindOf x = some .cell ∨ env.kindOf x = some .free) ∧ ∃ c o, env.cells.lookup x = some c ∧ (c, o) ∈ X ∧ o.data = .cell (some val))

noncomputable def NR (Z : Fix) (c : Cx) (mr : Str → Option Value) (α : AdMap) (n : Nat) (X : List (Addr × Obj)) (m : Loc) : Prop :=
  ∀ x v, lk m x = some v → x < Z.T.n ∧ ∃ val, VR α n v val ∧ Rd c.env c.L mr X (Z.T.s x) val

structure HI (Z : Fix) (c : Cx) (mr : Str → Option Value) (α : AdMap) (σ : Hp) (X : List (Addr × Obj)) (s : Shared) : Prop where
  F : Fr c.h₀ c.L s.heap mr
  led : ∃ news, News c.h₀ c.L s.heap news ∧ Rl Z.T Z.prog Z.w α σ X news
  ex : ∃ h tk, s = { c.s₀ with heap := h, toks := tk }

theorem NR.ext {Z : Fix} {c : Cx} {mr : Str → Option Value} {α α' : AdMap} {σ σ' : Hp} {X : List (Addr × Obj)} {m : Loc} (e : Ext α σ α' σ') (h : NR Z c mr α σ.length X m) : NR Z c mr α' σ'.length X m :=
  fun x v hx => let ⟨a, val, b, d⟩ := h x v hx; ⟨a, val, e.vr b, d⟩

abbrev EW := Loc → Hp → (V → Hp → Prop) → Prop
abbrev TW := Loc → Hp → (Bool → Hp → Prop) → Prop
abbrev EsW := Loc → Hp → (List V → Hp → Prop) → Prop
abbrev FW := List V → Hp → (V → Hp → Prop) → Prop

/-- W is a sound reading of the expression e, in blocks of scope sc, with room for n calls below -/
noncomputable def SE (Z : Fix) (sc : Scope) (n : Nat) (e : Expr) (W : EW) : Prop :=
  ∀ (c : Cx), c.Ok Z sc n → ∀ mr α m σ X s Qa (Q : Value → Shared → Prop) Er, HI Z c mr α σ X s → NR Z c mr α σ.length X m → W m σ Qa →
    (∀ v σ' α' s' val, Qa v σ' → Ext α σ α' σ' → HI Z c mr α' σ' X s' → VR α' σ'.length v val → Q val s') → wpAny (model Z.prog Z.w) c.A (eval e c.env) Q Er s

noncomputable def STst (Z : Fix) (sc : Scope) (n : Nat) (e : Expr) (W : TW) : Prop :=
  ∀ (c : Cx), c.Ok Z sc n → ∀ mr α m σ X s Qa (Q : Bool → Shared → Prop) Er, HI Z c mr α σ X s → NR Z c mr α σ.length X m → W m σ Qa →
    (∀ b σ' α' s', Qa b σ' → Ext α σ α' σ' → HI Z c mr α' σ' X s' → Q b s') → wpAny (model Z.prog Z.w) c.A (isTrue e c.env (eval e c.env)) Q Er s

/-- the arguments of a call, in their order -/
noncomputable def SEs (Z : Fix) (sc : Scope) (n : Nat) (es : List Expr) (W : EsW) : Prop :=
  ∀ (c : Cx), c.Ok Z sc n → ∀ pos mr α m σ X s Qa (Q : List Value → Shared → Prop) Er, HI Z c mr α σ X s → NR Z c mr α σ.length X m → W m σ Qa →
    (∀ vs σ' α' s' vals, Qa vs σ' → Ext α σ α' σ' → HI Z c mr α' σ' X s' → All2 (VR α' σ'.length) vs vals → Q vals s') → wpAny (model Z.prog Z.w) c.A (spliced (backTo pos (starEach es c.env))) Q Er s


section
variable {Z : Fix} {sc : Scope} {n : Nat}

theorem Cx.Ok.mono {c : Cx} {n' : Nat} (h : c.Ok Z sc n) (hn : n' ≤ n) : c.Ok Z sc n' := { h with room := h.room.mono hn }

theorem HI.toks {c : Cx} {mr : Str → Option Value} {α : AdMap} {σ : Hp} {X : List (Addr × Obj)} {s : Shared} (h : HI Z c mr α σ X s) (k : Nat) : HI Z c mr α σ X { s with toks := k } :=
  ⟨h.F, h.led, let ⟨a, _, e⟩ := h.ex; ⟨a, k, by rw [e]⟩⟩

-- names
noncomputable def eLoc (x : Nat) : EW := fun m σ Q => ∃ v, lk m x = some v ∧ Q v σ
theorem se_loc {x : Nat} {nm : Str} {pos : Pos} (hx : Z.T.s x = nm) : SE Z sc n (.Name nm pos) (eLoc x) := by
  subst hx
  intro c hc mr α m σ X s Qa Q Er H R hW hQ
  obtain ⟨v, hv, hq⟩ := hW
  obtain ⟨_, val, hvr, hrd⟩ := R x v hv
  have fin : Q val s := hQ v σ α s val hq .refl H hvr
  refine wpAny_Name ?_ (Z.nodbg x).1
  rcases hrd with ⟨a, b, d⟩ | ⟨a, oC, m₂, hm, hn, hv₂⟩ | ⟨a, cc, o, hl, hm, hd⟩
  · exact wpAny_loadName_local hc.ek a (b ▸ H.F.ns) d fin
  · obtain ⟨news, N, Rr⟩ := H.led
    exact wpAny_loadName_local hc.ek a (hn.ns (N.get (Rr.sub _ hm))) hv₂ fin
  · obtain ⟨news, N, Rr⟩ := H.led
    rcases a with a | a
    · exact wpAny_loadName_cell hc.ek a hl ⟨o, N.get (Rr.sub _ hm), hd⟩ fin
    · exact wpAny_loadName_free hc.ek a hl ⟨o, N.get (Rr.sub _ hm), hd⟩ fin (Z.nodbg x).2

noncomputable def eV (v : V) : EW := fun _ σ Q => Q v σ
theorem load_global {c : Cx} (hc : c.Ok Z sc n) {mr : Str → Option Value} {α : AdMap} {σ : Hp} {X : List (Addr × Obj)} {s : Shared} (H : HI Z c mr α σ X s) {x : Nat} {val : Value} {pos : Pos} {Q : Value → Shared → Prop} {Er}
    (hg : sc.names.lookup (Z.T.s x) = some .globalImplicit) (hk : nsIn Z.K mainGlobals (Z.T.s x) = some (some val)) (h : Q val s) : wpAny (model Z.prog Z.w) c.A (eval (.Name (Z.T.s x) pos) c.env) Q Er s :=
  Name_function_global hc.ek (hc.gl _ hg) (loadGlobal_global (by rw [hc.eg]; exact hc.T.g.keeps H.F.keep) (mg_of hc.X hc.T.g hk) h) (Z.nodbg x).1
/-- a name of the text's that holds an int -/
theorem se_gint {x : Nat} {nm : Str} {pos : Pos} {i : Int} {t : Tok} (hx : Z.T.s x = nm) (hg : sc.names.lookup nm = some .globalImplicit) (hk : nsIn Z.K mainGlobals nm = some (some (.int i t))) :
    SE Z sc n (.Name nm pos) (eV (.int i)) := by
  subst hx
  intro c hc mr α m σ X s Qa Q Er H R hW hQ
  exact load_global hc H hg hk (hQ _ σ α s _ hW .refl H (.int i t))
theorem se_gbytes {x : Nat} {nm : Str} {pos : Pos} {k : Bool} {t : Tok} (hx : Z.T.s x = nm) (hg : sc.names.lookup nm = some .globalImplicit) (hk : nsIn Z.K mainGlobals nm = some (some (.bytes (byt k) t))) :
    SE Z sc n (.Name nm pos) (eV (.bytes k)) := by
  subst hx
  intro c hc mr α m σ X s Qa Q Er H R hW hQ
  exact load_global hc H hg hk (hQ _ σ α s _ hW .refl H (.bytes k t))

-- constants
theorem se_int {i : Int} {k : Nat} {pos : Pos} : SE Z sc n (.Constant (.int i) k pos) (eV (.int i)) := by
  intro c hc mr α m σ X s Qa Q Er H R hW hQ
  show wpAny _ _ (mkInt i) _ _ _
  exact fun Γ p hΓ => hQ (.int i) σ α { s with toks := s.toks + 1 } _ hW .refl (H.toks _) (.int i _)
theorem se_bool {b : Bool} {k : Nat} {pos : Pos} : SE Z sc n (.Constant (.bool b) k pos) (eV (.bool b)) := by
  intro c hc mr α m σ X s Qa Q Er H R hW hQ
  exact Constant_bool (hQ (.bool b) σ α s _ hW .refl H (.bool b))
theorem se_none {k : Nat} {pos : Pos} : SE Z sc n (.Constant .none k pos) (eV .none) := by
  intro c hc mr α m σ X s Qa Q Er H R hW hQ
  exact Constant_none (hQ .none σ α s _ hW .refl H .none)
theorem se_bytes0 {k : Nat} {pos : Pos} : SE Z sc n (.Constant (.bytes []) k pos) (eV (.bytes false)) := by
  intro c hc mr α m σ X s Qa Q Er H R hW hQ
  show wpAny _ _ (mkTextBytes #[]) _ _ _
  exact fun Γ p hΓ => hQ (.bytes false) σ α { s with toks := s.toks + 1 } _ hW .refl (H.toks _) (.bytes false _)

-- attributes
theorem vr_handed {α : AdMap} {k : Nat} {v : V} {val : Value} (h : VR α k v val) : handedIn val = true := by cases h <;> rfl

theorem getL_of {T : Names} {α : AdMap} {k : Nat} : ∀ {as : List (Nat × V)} {es : List DictEntry} {x : Nat} {v : V}, All2 (EntR T α k) as es → x < T.n → lk as x = some v →
    ∃ val, getL (T.s x) es = some (some val) ∧ VR α k v val
  | (a, u) :: as, e :: es, x, v, .cons h r, hx, hl => by
    obtain ⟨h1, ⟨t, h2⟩, h3⟩ := h
    simp only [lk] at hl
    by_cases hax : a = x
    · subst hax
      rw [if_pos rfl] at hl
      cases hl
      refine ⟨e.val, ?_, h3⟩
      have : e.key.isStr (T.s a) = true := by rw [h2]; simp [Value.isStr]
      simp only [getL, List.find?_cons, this]
    · rw [if_neg hax] at hl
      obtain ⟨val, hg, hv⟩ := getL_of r hx hl
      refine ⟨val, ?_, hv⟩
      have hne : e.key.isStr (T.s x) = false := by
        rw [h2]
        cases hq : (Value.str (T.s a) t).isStr (T.s x) with
        | false => rfl
        | true =>
          exfalso
          simp [Value.isStr] at hq
          exact hax (T.inj h1 hx (by first | exact hq | exact hq.symm))
      have hnr : e.refKey = false := by simp [DictEntry.refKey, h2]
      simp only [getL, List.find?_cons, hne, List.any_cons, hnr, Bool.false_or]
      exact hg

noncomputable def gAttr (σ : Hp) (v : V) (a : Nat) (Q : V → Prop) : Prop := ∃ i C as u, v = .obj i ∧ σ[i]? = some (.inst C as) ∧ lk as a = some u ∧ Q u
noncomputable def eAttr (e : EW) (a : Nat) : EW := fun m σ Q => e m σ fun v σ' => gAttr σ' v a fun u => Q u σ'

theorem getAttr_obj {c : Cx} (hc : c.Ok Z sc n) {mr : Str → Option Value} {α : AdMap} {σ : Hp} {X : List (Addr × Obj)} {s : Shared} (H : HI Z c mr α σ X s) {i C a : Nat} {as : List (Nat × V)} {u : V} {ex : Bool} {Q : Value → Shared → Prop} {Er}
    (hi : σ[i]? = some (.inst C as)) (hu : lk as a = some u)
    (h : ∀ s' val, HI Z c mr α σ X s' → VR α σ.length u val → Q val s') : wpAny (model Z.prog Z.w) c.A (getAttr (.ref (α i false)) (Z.T.s a) ex) Q Er s := by
  obtain ⟨news, N, R⟩ := H.led
  obtain ⟨h1, ⟨_, hoa⟩, es, k, h2, h3⟩ := R.rel i _ hi
  have hok := Z.ok C a (hoa a u hu)
  obtain ⟨val, hg, hv⟩ := getL_of h3 hok.1 hu
  replace hok := hok.2.1
  unfold attrOk at hok
  cases hf : findIn Z.K (.ref C) (Z.T.s a) with
  | none => rw [hf] at hok; simp at hok
  | some at_ =>
    rw [hf] at hok
    simp only [Bool.and_eq_true] at hok
    exact get_own H.F hc.X (InstAt.of_news N h1 h2) hok.1.1 hok.1.2 hf hok.2 hg (vr_handed hv) (h _ _ (H.toks _) hv)

theorem se_attr {e : Expr} {W : EW} {a : Nat} {nm : Str} {pos : Pos} (h : SE Z sc n e W) (ha : Z.T.s a = nm) 
    (he : ∀ env, eval (.Attribute e nm pos) env = (do
      let o ← eval e env
      standAt pos.atName
      let r ← holding [o] (getAttr o nm true)
      letTemporaryGo e o r
      pure r)) : SE Z sc n (.Attribute e nm pos) (eAttr W a) := by
  subst ha
  intro c hc mr α m σ X s Qa Q Er H R hW hQ
  refine Attribute_any_ ?_ (he c.env)
  refine h c hc mr α m σ X s _ _ Er H R hW fun v σ' α' s' val hq hE H' hv => ?_
  obtain ⟨i, C, as, u, rfl, hi, hu, hq⟩ := hq
  cases hv
  exact getAttr_obj hc H' hi hu fun s'' val' H'' hv' => hQ u σ' α' s'' val' hq hE H'' hv'
end


inductive Fl where
  | next
  | brk
  | cont
  | ret (v : V)

inductive FlR (α : AdMap) (n : Nat) : Fl → Flow → Prop
  | next : FlR α n .next .next
  | brk : FlR α n .brk .brk
  | cont : FlR α n .cont .cont
  | ret {v : V} {val : Value} (h : VR α n v val) : FlR α n (.ret v) (.ret val)

abbrev SW := Loc → Hp → (Fl → Loc → Hp → Prop) → Prop

structure FnSt (c : Cx) (sc : Scope) : Prop where
  env : c.env = c.fenv
  scope : c.env.scope = sc
  loc : c.env.locals = c.L
  cl : ∀ x, sc.names.lookup x = some .cell → (c.env.cells.lookup x).isSome = true

structure CellsOk (env : Env) (Cs X : List (Addr × Obj)) : Prop where
  has : ∀ x a, env.cells.lookup x = some a → ∃ o v₀, (a, o) ∈ Cs ∧ o.data = .cell v₀
  inj : ∀ x y a, env.cells.lookup x = some a → env.cells.lookup y = some a → x = y
  off : ∀ p ∈ Cs, ∀ q ∈ X, p.1 ≠ q.1

noncomputable def SS (Z : Fix) (sc : Scope) (n : Nat) (st : Stmt) (W : SW) : Prop :=
  ∀ (c : Cx), c.Ok Z sc n → FnSt c sc → ∀ mr α m σ Cs X s Qa (Q : Flow → Shared → Prop) Er, CellsOk c.env Cs X → HI Z c mr α σ (Cs ++ X) s → NR Z c mr α σ.length (Cs ++ X) m → W m σ Qa →
    (∀ fl m' σ' mr' Cs' α' s' f, Qa fl m' σ' → Ext α σ α' σ' → CellsOk c.env Cs' X → HI Z c mr' α' σ' (Cs' ++ X) s' → NR Z c mr' α' σ'.length (Cs' ++ X) m' → FlR α' σ'.length fl f → Q f s') →
    wpAny (model Z.prog Z.w) c.A (exec st c.env) Q Er s
noncomputable def SSs (Z : Fix) (sc : Scope) (n : Nat) (sts : List Stmt) (W : SW) : Prop :=
  ∀ (c : Cx), c.Ok Z sc n → FnSt c sc → ∀ mr α m σ Cs X s Qa (Q : Flow → Shared → Prop) Er, CellsOk c.env Cs X → HI Z c mr α σ (Cs ++ X) s → NR Z c mr α σ.length (Cs ++ X) m → W m σ Qa →
    (∀ fl m' σ' mr' Cs' α' s' f, Qa fl m' σ' → Ext α σ α' σ' → CellsOk c.env Cs' X → HI Z c mr' α' σ' (Cs' ++ X) s' → NR Z c mr' α' σ'.length (Cs' ++ X) m' → FlR α' σ'.length fl f → Q f s') →
    wpAny (model Z.prog Z.w) c.A (execs sts c.env) Q Er s

theorem lk_put : ∀ {m : List (Nat × V)} {x y : Nat} {v : V}, lk (put m x v) y = if x = y then some v else lk m y
  | [], x, y, v => by simp [put, lk]
  | (a, u) :: r, x, y, v => by
    unfold put
    by_cases h : a = x
    · rw [if_pos h]
      simp only [lk]
      by_cases h2 : a = y
      · simp [h2, ← h]
      · have : ¬ x = y := fun q => h2 (h.trans q)
        simp [h2, this]
    · rw [if_neg h]
      simp only [lk]
      by_cases h2 : a = y
      · have : ¬ x = y := fun q => h (h2.trans q.symm)
        simp [h2, this]
      · simp only [h2, if_false]
        exact lk_put
theorem put_length : ∀ {m : List (Nat × V)} {x : Nat} {v : V}, (put m x v).length ≤ m.length + 1
  | [], _, _ => by simp [put]
  | (a, u) :: r, x, v => by
    unfold put
    by_cases h : a = x
    · rw [if_pos h]; simp
    · rw [if_neg h]; simp only [List.length_cons]; have := put_length (m := r) (x := x) (v := v); omega

section
variable {Z : Fix} {sc : Scope} {n : Nat}

noncomputable def sNil : SW := fun m σ Q => Q .next m σ
noncomputable def sSeq (W₁ W₂ : SW) : SW := fun m σ Q => W₁ m σ fun fl m' σ' => match fl with
  | .next => W₂ m' σ' Q
  | .brk => Q .brk m' σ'
  | .cont => Q .cont m' σ'
  | .ret v => Q (.ret v) m' σ'
theorem ss_nil : SSs Z sc n [] sNil := by
  intro c hc hf mr α m σ Cs X s Qa Q Er hcs H R hW hQ
  exact wpAny_pure (hQ .next m σ mr Cs α s .next hW .refl hcs H R .next)
theorem ss_cons {st : Stmt} {rest : List Stmt} {W₁ W₂ : SW} (h₁ : SS Z sc n st W₁) (h₂ : SSs Z sc n rest W₂) : SSs Z sc n (st :: rest) (sSeq W₁ W₂) := by
  intro c hc hf mr α m σ Cs X s Qa Q Er hcs H R hW hQ
  refine wpAny_execs_cons (h₁ c hc hf mr α m σ Cs X s _ _ Er hcs H R hW fun fl m' σ' mr' Cs' α' s' f hq hE hcs' H' R' hfl => ?_)
  cases hfl with
  | next => exact h₂ c hc hf mr' α' m' σ' Cs' X s' Qa Q Er hcs' H' R' hq fun fl m2 σ2 mr2 Cs2 α2 s2 f hq2 hE2 hcs2 H2 R2 hfl2 => hQ fl m2 σ2 mr2 Cs2 α2 s2 f hq2 (hE.trans hE2) hcs2 H2 R2 hfl2
  | brk => exact hQ _ _ _ _ _ _ _ _ hq hE hcs' H' R' .brk
  | cont => exact hQ _ _ _ _ _ _ _ _ hq hE hcs' H' R' .cont
  | ret h => exact hQ _ _ _ _ _ _ _ _ hq hE hcs' H' R' (.ret h)
noncomputable def sFls : SW := fun _ _ _ => False
theorem ss_flss {sts : List Stmt} : SSs Z sc n sts sFls := by
  intro c hc hf mr α m σ Cs X s Qa Q Er hcs H R hW hQ
  exact hW.elim

noncomputable def sPass : SW := fun m σ Q => Q .next m σ
theorem ss_pass {pos : Pos} : SS Z sc n (.Pass pos) sPass := by
  intro c hc hf mr α m σ Cs X s Qa Q Er hcs H R hW hQ
  exact wpAny_Pass (hQ .next m σ mr Cs α s .next hW .refl hcs H R .next)
noncomputable def sCont : SW := fun m σ Q => Q .cont m σ
theorem ss_cont {pos : Pos} : SS Z sc n (.Continue pos) sCont := by
  intro c hc hf mr α m σ Cs X s Qa Q Er hcs H R hW hQ
  show wpAny _ _ (do standAt pos; pure Flow.cont : Sem Flow) _ _ _
  exact wpAny_bind (wpAny_standAt (wpAny_pure (hQ .cont m σ mr Cs α s .cont hW .refl hcs H R .cont)))
noncomputable def sRet (W : EW) : SW := fun m σ Q => W m σ fun v σ' => Q (.ret v) m σ'
theorem ss_ret {e : Expr} {W : EW} {pos : Pos} (h : SE Z sc n e W) : SS Z sc n (.Return (some e) pos) (sRet W) := by
  intro c hc hf mr α m σ Cs X s Qa Q Er hcs H R hW hQ
  show wpAny _ _ (do standAt pos; return Flow.ret (← eval e c.env) : Sem Flow) _ _ _
  refine wpAny_bind (wpAny_standAt (wpAny_bind (h c hc mr α m σ (Cs ++ X) s _ _ Er H R hW fun v σ' α' s' val hq hE H' hv => wpAny_pure ?_)))
  exact hQ (.ret v) m σ' mr Cs α' s' (.ret val) hq hE hcs H' (R.ext hE) (.ret hv)
noncomputable def sRet0 : SW := fun m σ Q => Q (.ret .none) m σ
theorem ss_ret0 {pos : Pos} : SS Z sc n (.Return none pos) sRet0 := by
  intro c hc hf mr α m σ Cs X s Qa Q Er hcs H R hW hQ
  show wpAny _ _ (do standAt pos; return Flow.ret Value.none : Sem Flow) _ _ _
  exact wpAny_bind (wpAny_standAt (wpAny_pure (hQ (.ret .none) m σ mr Cs α s (.ret .none) hW .refl hcs H R (.ret .none))))
noncomputable def sExp (W : EW) : SW := fun m σ Q => W m σ fun _ σ' => Q .next m σ'
theorem not_interactive {env : Env} (h : env.scope.kind = .function) : interactive env = false := by unfold interactive; rw [h]; rfl
theorem ss_exp {e : Expr} {W : EW} {pos : Pos} (h : SE Z sc n e W) (hs : ∀ env, swapsWith e none pos.line env = pure false) : SS Z sc n (.Expr e pos) (sExp W) := by
  intro c hc hf mr α m σ Cs X s Qa Q Er hcs H R hW hQ
  rw [exec_Expr _ e pos (not_interactive hc.ek) (hs c.env)]
  refine wpAny_bind (wpAny_standAt (wpAny_bind (h c hc mr α m σ (Cs ++ X) s _ _ Er H R hW fun v σ' α' s' val hq hE H' hv => wpAny_dropValue ?_)))
  exact hQ .next m σ' mr Cs α' s' .next hq hE hcs H' (R.ext hE) .next
noncomputable def sIf (Wt : TW) (W₁ W₂ : SW) : SW := fun m σ Q => Wt m σ fun b σ' => (b = true → W₁ m σ' Q) ∧ (b = false → W₂ m σ' Q)
theorem ss_if {e : Expr} {b o : List Stmt} {pos : Pos} {Wt : TW} {W₁ W₂ : SW} (h : STst Z sc n e Wt) (h₁ : SSs Z sc n b W₁) (h₂ : SSs Z sc n o W₂) : SS Z sc n (.If e b o pos) (sIf Wt W₁ W₂) := by
  intro c hc hf mr α m σ Cs X s Qa Q Er hcs H R hW hQ
  refine wpAny_If (h c hc mr α m σ (Cs ++ X) s _ _ Er H R hW fun t σ' α' s' hq hE H' => ?_)
  cases t with
  | true => exact h₁ c hc hf mr α' m σ' Cs X s' Qa Q Er hcs H' (R.ext hE) (hq.1 rfl) fun fl m2 σ2 mr2 Cs2 α2 s2 f hq2 hE2 hcs2 H2 R2 hfl2 => hQ fl m2 σ2 mr2 Cs2 α2 s2 f hq2 (hE.trans hE2) hcs2 H2 R2 hfl2
  | false => exact h₂ c hc hf mr α' m σ' Cs X s' Qa Q Er hcs H' (R.ext hE) (hq.2 rfl) fun fl m2 σ2 mr2 Cs2 α2 s2 f hq2 hE2 hcs2 H2 R2 hfl2 => hQ fl m2 σ2 mr2 Cs2 α2 s2 f hq2 (hE.trans hE2) hcs2 H2 R2 hfl2

-- a name stored
theorem Rl.cell {T : Names} {prog : Program} {w : World} {α : AdMap} {σ : Hp} {Cs X news : List (Addr × Obj)} (R : Rl T prog w α σ (Cs ++ X) news) {a : Addr} {o : Obj} (hm : (a, o) ∈ Cs) (hoff : ∀ p ∈ Cs, ∀ q ∈ X, p.1 ≠ q.1) (o' : Obj) :
    Rl T prog w α σ (upd Cs a o' ++ X) (upd news a o') := by
  have hin : (a, o) ∈ Cs ++ X := List.mem_append_left _ hm
  refine ⟨by rw [upd_fst]; exact R.nd, fun i x hi => ?_, R.inj, fun p hp => ?_, fun p hp i b hd => ?_⟩
  · exact (R.rel i x hi).mono (Nat.le_refl _) (fun _ _ => rfl) (fun _ _ => rfl) fun p hp b hb hpj => upd_keep hp fun e => R.off _ hin i b ⟨x, hi, hb⟩ (e.symm.trans hpj)
  · rcases List.mem_append.mp hp with hp | hp
    · obtain ⟨q, hq, rfl⟩ := List.mem_map.mp hp
      by_cases h : q.1 = a
      · rw [if_pos h]; exact upd_mem (R.sub _ hin)
      · rw [if_neg h]; exact upd_keep (R.sub _ (List.mem_append_left _ hq)) h
    · exact upd_keep (R.sub _ (List.mem_append_right _ hp)) (Ne.symm (hoff _ hm p hp))
  · rcases List.mem_append.mp hp with hp | hp
    · obtain ⟨q, hq, rfl⟩ := List.mem_map.mp hp
      by_cases h : q.1 = a
      · rw [if_pos h]; exact R.off _ hin i b hd
      · rw [if_neg h]; exact R.off _ (List.mem_append_left _ hq) i b hd
    · exact R.off _ (List.mem_append_right _ hp) i b hd

theorem upd_mem_cases {l : List (Addr × Obj)} {a : Addr} {q : Obj} {p : Addr × Obj} (h : p ∈ upd l a q) : p = (a, q) ∨ (p ∈ l ∧ p.1 ≠ a) := by
  obtain ⟨r, hr, rfl⟩ := List.mem_map.mp h
  by_cases e : r.1 = a
  · rw [if_pos e]; exact .inl rfl
  · rw [if_neg e]; exact .inr ⟨hr, e⟩

theorem store_name {c : Cx} (hc : c.Ok Z sc n) (hf : FnSt c sc) {mr : Str → Option Value} {α : AdMap} {m : Loc} {σ : Hp} {Cs X : List (Addr × Obj)} {s : Shared} {x : Nat} {v : V} {val : Value} {Q : Unit → Shared → Prop} {Er}
    (hx : x < Z.T.n) (hk : sc.names.lookup (Z.T.s x) = some .local ∨ (sc.names.lookup (Z.T.s x) = some .cell))
    (hcs : CellsOk c.env Cs X) (H : HI Z c mr α σ (Cs ++ X) s) (R : NR Z c mr α σ.length (Cs ++ X) m) (hv : VR α σ.length v val)
    (h : ∀ mr' Cs' s', CellsOk c.env Cs' X → HI Z c mr' α σ (Cs' ++ X) s' → NR Z c mr' α σ.length (Cs' ++ X) (put m x v) → Q () s') : wpAny (model Z.prog Z.w) c.A (storeName c.env (Z.T.s x) val) Q Er s := by
  obtain ⟨news, N, Rr⟩ := H.led
  obtain ⟨hh, tk, he⟩ := H.ex
  rcases hk with hk | hk
  · have hk' : c.env.kindOf (Z.T.s x) = some .local := by unfold Env.kindOf; rw [hf.scope]; exact hk
    refine wpAny_storeName_local hk' (hf.loc ▸ H.F.ns) (fun h' hn hs => ?_) (by rw [hc.ek]; rfl)
    have hn' : h'.Ns c.L (fun y => if y = Z.T.s x then some val else mr y) := hf.loc ▸ hn
    have hs' : Heap.SameBut c.L s.heap h' := hf.loc ▸ hs
    refine h _ Cs { s with heap := h', toks := s.toks + 1 } hcs ⟨H.F.set hn' hs', ⟨news, N.set hs', Rr⟩, ⟨h', s.toks + 1, by rw [he]⟩⟩ fun y u hy => ?_
    rw [lk_put] at hy
    by_cases hxy : x = y
    · subst hxy
      rw [if_pos rfl] at hy
      cases hy
      exact ⟨hx, val, hv, .inl ⟨hk', hf.loc, by simp⟩⟩
    · rw [if_neg hxy] at hy
      obtain ⟨a, val', b, d⟩ := R y u hy
      refine ⟨a, val', b, ?_⟩
      rcases d with ⟨d1, d2, d3⟩ | d | d
      · refine .inl ⟨d1, d2, ?_⟩
        show (if Z.T.s y = Z.T.s x then some val else mr (Z.T.s y)) = some val'
        rw [if_neg (fun e => hxy (Z.T.inj a hx e).symm)]
        exact d3
      · exact .inr (.inl d)
      · exact .inr (.inr d)
  · have hk' : c.env.kindOf (Z.T.s x) = some .cell := by unfold Env.kindOf; rw [hf.scope]; exact hk
    obtain ⟨a, ha⟩ := Option.isSome_iff_exists.mp (hf.cl _ hk)
    obtain ⟨o, v₀, hm, hd⟩ := hcs.has _ _ ha
    have hmem := N (a, o) (Rr.sub _ (List.mem_append_left _ hm))
    refine wpAny_storeName_cell hc.ek hk' ha ⟨o, hmem.1, hd⟩ fun h' hv' hs => ?_
    obtain ⟨o', ho', hd'⟩ := hv'
    have N' : News c.h₀ c.L h' (upd news a o') := fun p hp => by
      rcases upd_mem_cases hp with rfl | ⟨hp, hne⟩
      · exact ⟨ho', hmem.2⟩
      · exact ⟨(hs.2 _ hne).trans (N p hp).1, (N p hp).2⟩
    refine h mr (upd Cs a o') { s with heap := h' } ⟨fun y b hy => ?_, hcs.inj, fun p hp q hq => ?_⟩ ⟨H.F.change hs hmem.2.1 hmem.2.2, ⟨_, N', Rr.cell hm hcs.off o'⟩, ⟨h', s.toks, by rw [he]⟩⟩ fun y u hy => ?_
    · by_cases hb : b = a
      · subst hb; exact ⟨o', some val, upd_mem hm, hd'⟩
      · obtain ⟨o2, v2, h2, h3⟩ := hcs.has y b hy
        exact ⟨o2, v2, upd_keep h2 hb, h3⟩
    · rcases upd_mem_cases hp with rfl | ⟨hp, _⟩
      · exact hcs.off _ hm q hq
      · exact hcs.off p hp q hq
    · rw [lk_put] at hy
      by_cases hxy : x = y
      · subst hxy
        rw [if_pos rfl] at hy
        cases hy
        exact ⟨hx, val, hv, .inr (.inr ⟨.inl hk', a, o', ha, List.mem_append_left _ (upd_mem hm), hd'⟩)⟩
      · rw [if_neg hxy] at hy
        obtain ⟨hy1, val', b, d⟩ := R y u hy
        refine ⟨hy1, val', b, ?_⟩
        have keepX : ∀ p ∈ Cs ++ X, p.1 ≠ a → p ∈ upd Cs a o' ++ X := fun p hp hne => by
          rcases List.mem_append.mp hp with hp | hp
          · exact List.mem_append_left _ (upd_keep hp hne)
          · exact List.mem_append_right _ hp
        rcases d with d | ⟨d1, oC, m₂, d2, d3, d4⟩ | ⟨d1, cc, oc, d2, d3, d4⟩
        · exact .inl d
        · refine .inr (.inl ⟨d1, oC, m₂, keepX _ d2 fun e => ?_, d3, d4⟩)
          have e1 := (N _ (Rr.sub _ d2)).2.1
          exact e1 (by rw [hf.loc])
        · refine .inr (.inr ⟨d1, cc, oc, d2, keepX _ d3 fun e => ?_, d4⟩)
          simp only at e
          subst e
          exact hxy (Z.T.inj hx hy1 (hcs.inj _ _ _ ha d2))

/-- what a stored name must be in its scope -/
noncomputable def storeOkB (sc : Scope) (nm : Str) : Bool := sc.names.lookup nm == some .local || sc.names.lookup nm == some .cell
theorem storeOkB_iff {sc : Scope} {nm : Str} (h : storeOkB sc nm = true) : sc.names.lookup nm = some .local ∨ sc.names.lookup nm = some .cell := by
  unfold storeOkB at h
  simpa using h

noncomputable def sAsg (x : Nat) (W : EW) : SW := fun m σ Q => W m σ fun v σ' => Q .next (put m x v) σ'
theorem ss_asg {x : Nat} {nm : Str} {p pos : Pos} {e : Expr} {W : EW} (h : SE Z sc n e W) (hx : Z.T.s x = nm) (hn : x < Z.T.n) (hk : storeOkB sc nm = true) (hs : ∀ env, env.scope = sc → swapsWith e (some (.Name nm p)) pos.line env = pure false) :
    SS Z sc n (.Assign [.Name nm p] e pos) (sAsg x W) := by
  subst hx
  intro c hc hf mr α m σ Cs X s Qa Q Er hcs H R hW hQ
  refine wpAny_Assign_Name (h c hc mr α m σ (Cs ++ X) s _ _ Er H R hW fun v σ' α' s' val hq hE H' hv => ?_) (hs c.env hf.scope)
  exact store_name hc hf hn (storeOkB_iff hk) hcs H' (R.ext hE) hv fun mr' Cs' s'' hcs' H'' R' => hQ .next _ σ' mr' Cs' α' s'' .next hq hE hcs' H'' R' .next

-- an attribute stored
theorem entR_put {T : Names} {α : AdMap} {k : Nat} {h : Int} {t : Tok} {x : Nat} {v : V} {val : Value} (hx : x < T.n) (hv : VR α k v val) : ∀ {as : List (Nat × V)} {es : List DictEntry}, All2 (EntR T α k) as es →
    All2 (EntR T α k) (put as x v) (putL (T.s x) h (.str (T.s x) t) val es) ∧ (getL (T.s x) es).isSome = true
  | _, _, .nil => ⟨.cons ⟨hx, ⟨t, rfl⟩, hv⟩ .nil, rfl⟩
  | (a, u) :: as, e :: es, .cons ⟨h1, ⟨t', h2⟩, h3⟩ r => by
    have ih := entR_put (h := h) (t := t) hx hv r
    have h1' : a < T.n := h1
    have h2' : e.key = .str (T.s a) t' := h2
    unfold put putL
    by_cases hax : a = x
    · subst hax
      have hs : e.key.isStr (T.s a) = true := by rw [h2']; simp [Value.isStr]
      rw [if_pos rfl, if_pos hs]
      refine ⟨.cons ⟨h1, ⟨t', h2⟩, hv⟩ r, ?_⟩
      simp only [getL, List.find?_cons, hs]
      rfl
    · have hs : e.key.isStr (T.s x) = false := by
        rw [h2']
        cases hq : (Value.str (T.s a) t').isStr (T.s x) with
        | false => rfl
        | true =>
          exfalso
          simp [Value.isStr] at hq
          exact hax (T.inj h1' hx (by first | exact hq | exact hq.symm))
      have hnr : e.refKey = false := by simp [DictEntry.refKey, h2']
      rw [if_neg hax, if_neg (by rw [hs]; decide)]
      refine ⟨.cons ⟨h1, ⟨t', h2⟩, h3⟩ ih.1, ?_⟩
      have i2 := ih.2
      simp only [getL, List.find?_cons, hs, List.any_cons, hnr, Bool.false_or] at i2 ⊢
      exact i2

noncomputable def setA (σ : Hp) (o : V) (a : Nat) (v : V) (Q : Hp → Prop) : Prop := ∃ i C as, o = .obj i ∧ σ[i]? = some (.inst C as) ∧ okA C a = true ∧ as.length < 40 ∧ Q (σ.set i (.inst C (put as a v)))

theorem All2.len_le {α β : Type} {R : α → β → Prop} {as : List α} {bs : List β} (h : All2 R as bs) {k : Nat} (hk : as.length ≤ k) : bs.length ≤ k := h.length ▸ hk

theorem setAttr_obj {c : Cx} (hc : c.Ok Z sc n) {mr : Str → Option Value} {α : AdMap} {σ : Hp} {X : List (Addr × Obj)} {s : Shared} (H : HI Z c mr α σ X s) {i C a : Nat} {as : List (Nat × V)} {v : V} {val : Value} {Q : Unit → Shared → Prop} {Er}
    (hi : σ[i]? = some (.inst C as)) (hok : okA C a = true) (hlen : as.length < 40) (hv : VR α σ.length v val)
    (h : ∀ s', HI Z c mr α (σ.set i (.inst C (put as a v))) X s' → Q () s') : wpAny (model Z.prog Z.w) c.A (setAttr (.ref (α i false)) (Z.T.s a) val) Q Er s := by
  obtain ⟨news, N, R⟩ := H.led
  obtain ⟨hh, tk, he⟩ := H.ex
  obtain ⟨h1, ⟨hl, hoa⟩, es, k, h2, h3⟩ := R.rel i _ hi
  obtain ⟨hn, _, hst⟩ := Z.ok C a hok
  unfold storeOk at hst
  simp only [Bool.and_eq_true, beq_iff_eq] at hst
  obtain ⟨⟨⟨s1, s2⟩, s3⟩, s4⟩ := hst
  obtain ⟨e1, e2⟩ := entR_put (h := PyData.keyHash Z.w.params (Z.T.s a)) (t := s.toks + 1) hn hv h3
  obtain ⟨U, _⟩ := upd_exists (o' := dictOf (putL (Z.T.s a) (PyData.keyHash Z.w.params (Z.T.s a)) (.str (Z.T.s a) (s.toks + 1)) val es) (putN (Z.T.s a) es k)) R.nd h2
  have hpl : (put as a v).length ≤ 40 := Nat.le_trans put_length (by omega)
  refine set_dict H.F hc.X N (InstAt.of_news N h1 h2) rfl s1 s2 s3 s4 e2 rfl U (Nat.le_trans (e1.len_le hpl) (by decide)) fun h' F' N' => ?_
  refine h _ ⟨F', ⟨_, N', ?_⟩, ⟨h', _, by rw [he]⟩⟩
  refine R.set (b := true) hi trivial h2 (fun _ _ => trivial) ?_
  refine ⟨upd_keep h1 fun e => ?_, ⟨hpl, fun y u hy => ?_⟩, _, _, upd_mem h2, e1⟩
  · have := (R.inj i false i true ⟨_, hi, trivial⟩ ⟨_, hi, trivial⟩ e).2
    cases this
  · rw [lk_put] at hy
    by_cases hy2 : a = y
    · rw [← hy2]; exact hok
    · rw [if_neg hy2] at hy; exact hoa y u hy

theorem ext_set {α : AdMap} {σ : Hp} {i : Nat} {o : O} : Ext α σ α (σ.set i o) := ⟨by rw [List.length_set]; exact Nat.le_refl _, fun _ _ _ => rfl⟩

noncomputable def sSet (W Wo : EW) (a : Nat) : SW := fun m σ Q => W m σ fun v σ₁ => Wo m σ₁ fun o σ₂ => setA σ₂ o a v fun σ₃ => Q .next m σ₃
theorem ss_set {e o : Expr} {W Wo : EW} {a : Nat} {nm : Str} {p pos : Pos} (h : SE Z sc n e W) (ho : SE Z sc n o Wo) (ha : Z.T.s a = nm) (hs : ∀ env, swapsWith e (some (.Attribute o nm p)) pos.line env = pure false) :
    SS Z sc n (.Assign [.Attribute o nm p] e pos) (sSet W Wo a) := by
  subst ha
  intro c hc hf mr α m σ Cs X s Qa Q Er hcs H R hW hQ
  refine plainObj_wpAny_Assign_Attribute (h c hc mr α m σ (Cs ++ X) s _ _ Er H R hW fun v σ₁ α₁ s₁ val hq hE H₁ hv => ?_) (hs c.env)
  refine ho c hc mr α₁ m σ₁ (Cs ++ X) s₁ _ _ Er H₁ (R.ext hE) hq fun o σ₂ α₂ s₂ ov hq₂ hE₂ H₂ hov => ?_
  obtain ⟨i, C, as, rfl, hi, hok, hl, hq₃⟩ := hq₂
  cases hov
  have hR := (R.ext hE).ext hE₂
  refine setAttr_obj hc H₂ hi hok hl (hE₂.vr hv) fun s₃ H₃ => ?_
  exact hQ .next m _ mr Cs α₂ s₃ .next hq₃ ((hE.trans hE₂).trans ext_set) hcs H₃ (hR.ext ext_set) .next

-- ints: a name or an attribute counted up
noncomputable def addV (a b : V) (Q : V → Prop) : Prop := ∃ i j, a = .int i ∧ b = .int j ∧ Q (.int (i + j))
noncomputable def sAugN (x : Nat) (W : EW) : SW := fun m σ Q => ∃ u, lk m x = some u ∧ W m σ fun v σ' => addV u v fun r => Q .next (put m x r) σ'
theorem load_name {c : Cx} (hc : c.Ok Z sc n) {mr : Str → Option Value} {α : AdMap} {m : Loc} {σ : Hp} {X : List (Addr × Obj)} {s : Shared} {x : Nat} {v : V} {Q : Value → Shared → Prop} {Er}
    (H : HI Z c mr α σ X s) (R : NR Z c mr α σ.length X m) (hv : lk m x = some v) (h : ∀ val, VR α σ.length v val → Q val s) : wpAny (model Z.prog Z.w) c.A (loadName c.env (Z.T.s x)) Q Er s := by
  obtain ⟨_, val, hvr, hrd⟩ := R x v hv
  have fin : Q val s := h val hvr
  rcases hrd with ⟨a, b, d⟩ | ⟨a, oC, m₂, hm, hn, hv₂⟩ | ⟨a, cc, o, hl, hm, hd⟩
  · exact wpAny_loadName_local hc.ek a (b ▸ H.F.ns) d fin
  · obtain ⟨news, N, Rr⟩ := H.led
    exact wpAny_loadName_local hc.ek a (hn.ns (N.get (Rr.sub _ hm))) hv₂ fin
  · obtain ⟨news, N, Rr⟩ := H.led
    rcases a with a | a
    · exact wpAny_loadName_cell hc.ek a hl ⟨o, N.get (Rr.sub _ hm), hd⟩ fin
    · exact wpAny_loadName_free hc.ek a hl ⟨o, N.get (Rr.sub _ hm), hd⟩ fin (Z.nodbg x).2
theorem ss_augN {x : Nat} {nm : Str} {p pos : Pos} {e : Expr} {W : EW} (h : SE Z sc n e W) (hx : Z.T.s x = nm) (hn : x < Z.T.n) (hk : storeOkB sc nm = true) : SS Z sc n (.AugAssign (.Name nm p) .Add e pos) (sAugN x W) := by
  subst hx
  intro c hc hf mr α m σ Cs X s Qa Q Er hcs H R hW hQ
  obtain ⟨u, hu, hW⟩ := hW
  refine wpAny_AugAssign_Name (load_name hc H R hu fun ov hov => ?_)
  refine h c hc mr α m σ (Cs ++ X) s _ _ Er H R hW fun v σ' α' s' val hq hE H' hv => ?_
  obtain ⟨i, j, rfl, rfl, hq⟩ := hq
  cases hov; cases hv
  refine P.iadd_int ?_
  exact store_name hc hf hn (storeOkB_iff hk) hcs (H'.toks _) (R.ext hE) (.int _ _) fun mr' Cs' s'' hcs' H'' R' => hQ .next _ σ' mr' Cs' α' s'' .next hq hE hcs' H'' R' .next

noncomputable def sAugA (Wo : EW) (a : Nat) (W : EW) : SW := fun m σ Q => Wo m σ fun o σ₁ => gAttr σ₁ o a fun u => W m σ₁ fun v σ₂ => addV u v fun r => setA σ₂ o a r fun σ₃ => Q .next m σ₃
theorem ss_augA {o e : Expr} {Wo W : EW} {a : Nat} {nm : Str} {p pos : Pos} (ho : SE Z sc n o Wo) (h : SE Z sc n e W) (ha : Z.T.s a = nm) : SS Z sc n (.AugAssign (.Attribute o nm p) .Add e pos) (sAugA Wo a W) := by
  subst ha
  intro c hc hf mr α m σ Cs X s Qa Q Er hcs H R hW hQ
  refine wpAny_AugAssign_AttributeAny (ho c hc mr α m σ (Cs ++ X) s _ _ Er H R hW fun o σ₁ α₁ s₁ ov hq hE H₁ hov => ?_)
  obtain ⟨i, C, as, u, rfl, hi, hu, hq⟩ := hq
  cases hov
  rename_i hlt
  refine getAttr_obj hc H₁ hi hu fun s₂ uv H₂ huv => ?_
  refine h c hc mr α₁ m σ₁ (Cs ++ X) s₂ _ _ Er H₂ (R.ext hE) hq fun v σ₂ α₂ s₃ val hq₂ hE₂ H₃ hv => ?_
  obtain ⟨j, k, rfl, rfl, hq₃⟩ := hq₂
  cases huv; cases hv
  refine P.iadd_int ?_
  obtain ⟨i', C', as', e', hi', hok, hl, hq₄⟩ := hq₃
  cases e'
  rw [← hE₂.2 i hlt false]
  refine setAttr_obj hc (H₃.toks _) hi' hok hl (.int _ _) fun s₄ H₄ => ?_
  exact hQ .next m _ mr Cs α₂ s₄ .next hq₄ ((hE.trans hE₂).trans ext_set) hcs H₄ (((R.ext hE).ext hE₂).ext ext_set) .next
end
theorem lk_ne {m : List (Nat × V)} {x y : Nat} {v : V} {r : Option V} (h : Nat.beq x y = false) (k : lk m y = r) : lk (put m x v) y = r := by
  rw [lk_put, if_neg (Nat.ne_of_beq_eq_false h)]; exact k
theorem lk_eq {m : List (Nat × V)} {x : Nat} {v : V} : lk (put m x v) x = some v := by rw [lk_put, if_pos rfl]
local macro_rules | `(tactic| walk_at "mm") => `(tactic| first | exact List.mem_of_getElem? (i := 0) rfl | exact List.mem_of_getElem? (i := 1) rfl | exact List.mem_of_getElem? (i := 2) rfl | exact List.mem_of_getElem? (i := 3) rfl | exact List.mem_of_getElem? (i := 4) rfl | exact List.mem_of_getElem? (i := 5) rfl | exact List.mem_of_getElem? (i := 6) rfl | exact List.mem_of_getElem? (i := 7) rfl | exact List.mem_of_getElem? (i := 8) rfl | exact List.mem_of_getElem? (i := 9) rfl | exact List.mem_of_getElem? (i := 10) rfl | exact List.mem_of_getElem? (i := 11) rfl | exact List.mem_of_getElem? (i := 12) rfl | exact List.mem_of_getElem? (i := 13) rfl | exact List.mem_of_getElem? (i := 14) rfl | exact List.mem_of_getElem? (i := 15) rfl)
local macro_rules | `(tactic| walk_at "mt") => `(tactic| first | exact Nat.ne_of_beq_eq_false rfl | exact ⟨Nat.ne_of_beq_eq_false rfl, Nat.ne_of_beq_eq_false rfl⟩ | simp [O.tag, msgO])


/-- as SF, of the code of a call (a class makes its object under another frame) -/
noncomputable def SFc (Z : Fix) (n : Nat) (f : Addr) (W : FW) : Prop :=
  ∀ (c : Cx) (sc : Scope), c.Ok Z sc n → ∀ mr α args σ X s vals Qa (R : Result → Shared → Prop), HI Z c mr α σ X s → All2 (VR α σ.length) args vals → W args σ Qa →
    (∀ v σ' α' s' val, Qa v σ' → Ext α σ α' σ' → HI Z c mr α' σ' X s' → VR α' σ'.length v val → R (.ok (.ret val)) s') → codeAny (model Z.prog Z.w) c.A (.call (.ref f) ⟨vals, []⟩) R s

noncomputable def retV : Fl → V
  | .ret v => v
  | _ => .none

section
variable {Z : Fix} {sc : Scope} {n : Nat}

theorem SFc.mono {f : Addr} {W : FW} {n' : Nat} (h : SFc Z n f W) (hn : n ≤ n') : SFc Z n' f W :=
  fun c sc hc => h c sc (hc.mono hn)

-- arguments
structure SEsP (Z : Fix) (sc : Scope) (n : Nat) (es : List Expr) (W : EsW) : Prop where
  sound : SEs Z sc n es W
  plain : ∀ env, (starEach es env).any (·.1) = false
theorem backTo_any (pos : Pos) (l : List (Bool × Sem Value)) : (backTo pos l).any (·.1) = l.any (·.1) := by
  unfold backTo
  rw [List.any_map]
  congr 1
noncomputable def esNil : EsW := fun _ σ Q => Q [] σ
noncomputable def esCons (W : EW) (Ws : EsW) : EsW := fun m σ Q => W m σ fun v σ' => Ws m σ' fun vs σ'' => Q (v :: vs) σ''
theorem es_nil : SEsP Z sc n [] esNil := by
  refine ⟨?_, fun _ => rfl⟩
  intro c hc pos mr α m σ X s Qa Q Er H R hW hQ
  exact args_nil (hQ [] σ α s [] hW .refl H .nil)
theorem es_cons {e : Expr} {es : List Expr} {W : EW} {Ws : EsW} (h : SE Z sc n e W) (hs : SEsP Z sc n es Ws) (he : ∀ env, starEach (e :: es) env = (false, eval e env) :: starEach es env) : SEsP Z sc n (e :: es) (esCons W Ws) := by
  refine ⟨?_, fun env => by rw [he, List.any_cons, hs.plain]; rfl⟩
  intro c hc pos mr α m σ X s Qa Q Er H R hW hQ
  refine args_cons ?_ (he c.env)
  refine h c hc mr α m σ X s _ _ Er H R hW fun v σ' α' s' val hq hE H' hv => ?_
  refine hs.sound c hc pos mr α' m σ' X s' _ _ Er H' (R.ext hE) hq fun vs σ₂ α₂ s₂ vals hq₂ hE₂ H₂ hvs => ?_
  exact hQ _ σ₂ α₂ s₂ _ hq₂ (hE.trans hE₂) H₂ (.cons (hE₂.vr hv) hvs)

theorem HI.K {c : Cx} (hc : c.Ok Z sc n) {mr : Str → Option Value} {α : AdMap} {σ : Hp} {X : List (Addr × Obj)} {s : Shared} (H : HI Z c mr α σ X s) : Z.K.In s.heap := hc.X.keeps H.F.keep

theorem callWith_gen {c : Cx} (hc : c.Ok Z sc n) {mr : Str → Option Value} {α : AdMap} {m : Loc} {σ : Hp} {X : List (Addr × Obj)} {s : Shared} {f : Value} {first : List Value} {es : List Expr} {Ws : EsW} {pos : Pos} {Qa} {Q : Value → Shared → Prop} {Er}
    (hk : keepIn Z.K f = true) (hs : SEsP Z sc n es Ws) (H : HI Z c mr α σ X s) (R : NR Z c mr α σ.length X m) (hW : Ws m σ Qa)
    (h : ∀ vs σ' α' s' vals, Qa vs σ' → Ext α σ α' σ' → HI Z c mr α' σ' X s' → All2 (VR α' σ'.length) vs vals → wpAny (model Z.prog Z.w) c.A (call f (first ++ vals)) Q Er s') :
    wpAny (model Z.prog Z.w) c.A (callWith pos f first (backTo pos (starEach es c.env)) []) Q Er s := by
  have hp : ((backTo pos (starEach es c.env)).any (·.1) || ([] : List (Option Str × Sem Value)).any (·.1.isNone)) = false := by rw [backTo_any, hs.plain]; rfl
  refine callWith_of hp (keeps_K hk) ?_
  unfold evalArgs
  have main : wpAny (model Z.prog Z.w) c.A (spliced (backTo pos (starEach es c.env))) (fun vals s' => Z.K.In s'.heap ∧ wpAny (model Z.prog Z.w) c.A (call f (first ++ vals)) Q Er s') Er s :=
    hs.sound c hc pos mr α m σ X s Qa _ Er H R hW fun vs σ' α' s' vals hq hE H' hvs => ⟨H'.K hc, h vs σ' α' s' vals hq hE H' hvs⟩
  cases hb : backTo pos (starEach es c.env) with
  | nil =>
    rw [hb] at main
    show wpAny _ _ (spliced [] >>= _) _ _ _
    refine wpAny_bind (wpAny_mono main (fun vals s' h' => wpAny_bind (wpAny_pure (wpAny_holding ?_))) fun _ _ x => x)
    exact wpAny_bind (wpAny_pure (wpAny_bind (wpAny_pure (wpAny_pure h'))))
  | cons x r =>
    rw [hb] at main hp
    obtain ⟨b, t⟩ := x
    have hb0 : b = false := by
      cases b with
      | false => rfl
      | true => simp at hp
    subst hb0
    show wpAny _ _ (spliced ((false, t) :: r) >>= _) _ _ _
    refine wpAny_bind (wpAny_mono main (fun vals s' h' => wpAny_bind (wpAny_pure (wpAny_holding ?_))) fun _ _ x => x)
    exact wpAny_bind (wpAny_pure (wpAny_bind (wpAny_pure (wpAny_pure h'))))

theorem SFc.call {f : Addr} {W : FW} (h : SFc Z n f W) {c : Cx} (hc : c.Ok Z sc n) {mr : Str → Option Value} {α : AdMap} {args : List V} {σ : Hp} {X : List (Addr × Obj)} {s : Shared} {vals : List Value} {Qa} {Q : Value → Shared → Prop} {Er}
    (H : HI Z c mr α σ X s) (ha : All2 (VR α σ.length) args vals) (hW : W args σ Qa)
    (hQ : ∀ v σ' α' s' val, Qa v σ' → Ext α σ α' σ' → HI Z c mr α' σ' X s' → VR α' σ'.length v val → Q val s') : wpAny (model Z.prog Z.w) c.A (PySem.call (.ref f) vals) Q Er s :=
  wpAny_call (h c sc hc mr α args σ X s vals Qa _ H ha hW fun v σ' α' s' val hq hE H' hv => hQ v σ' α' s' val hq hE H' hv)

/-- f(args), f a def of the text's top -/
noncomputable def eCall (Wf : FW) (Ws : EsW) : EW := fun m σ Q => Ws m σ fun vs σ' => Wf vs σ' Q
theorem se_call {f : Addr} {Wf : FW} {Ws : EsW} {es : List Expr} {x : Nat} {nm : Str} {p pos : Pos} (hf : SFc Z n f Wf) (hs : SEsP Z sc n es Ws) (hx : Z.T.s x = nm) (hg : sc.names.lookup nm = some .globalImplicit)
    (hk : nsIn Z.K mainGlobals nm = some (some (.ref f))) (hkeep : keepIn Z.K (.ref f) = true) : SE Z sc n (.Call (.Name nm p) es [] pos) (eCall Wf Ws) := by
  subst hx
  intro c hc mr α m σ X s Qa Q Er H R hW hQ
  refine Call_ ?_ rfl
  refine load_global hc H hg hk ?_
  refine callWith_gen hc hkeep hs H R hW fun vs σ' α' s' vals hq hE H' hvs => ?_
  exact hf.call hc H' hvs hq fun v σ₂ α₂ s₂ val hq₂ hE₂ H₂ hv => hQ v σ₂ α₂ s₂ val hq₂ (hE.trans hE₂) H₂ hv

/-- o.f(args), f a method of the class C -/
noncomputable def eMeth (C : Nat) (a : Nat) (Wo : EW) (Wf : FW) (Ws : EsW) : EW := fun m σ Q => Wo m σ fun o σ₁ => ∃ i as, o = .obj i ∧ σ₁[i]? = some (.inst C as) ∧ lk as a = Option.none ∧ Ws m σ₁ fun vs σ₂ => Wf (.obj i :: vs) σ₂ Q

theorem getL_none {T : Names} {α : AdMap} {k : Nat} : ∀ {as : List (Nat × V)} {es : List DictEntry} {x : Nat}, All2 (EntR T α k) as es → x < T.n → lk as x = Option.none → getL (T.s x) es = some none
  | _, _, _, .nil, _, _ => rfl
  | (a, u) :: as, e :: es, x, .cons h r, hx, hl => by
    obtain ⟨h1, ⟨t, h2⟩, h3⟩ := h
    have h1' : a < T.n := h1
    have h2' : e.key = .str (T.s a) t := h2
    simp only [lk] at hl
    by_cases hax : a = x
    · rw [if_pos hax] at hl; cases hl
    · rw [if_neg hax] at hl
      have ih := getL_none r hx hl
      have hne : e.key.isStr (T.s x) = false := by
        rw [h2']
        cases hq : (Value.str (T.s a) t).isStr (T.s x) with
        | false => rfl
        | true =>
          exfalso
          simp [Value.isStr] at hq
          exact hax (T.inj h1' hx (by first | exact hq | exact hq.symm))
      have hnr : e.refKey = false := by simp [DictEntry.refKey, h2']
      simp only [getL, List.find?_cons, hne, List.any_cons, hnr, Bool.false_or] at ih ⊢
      exact ih

noncomputable def methOk (K : Frag) (C : Addr) (name : Str) (f : Addr) : Bool := plainGet K C name && (findIn K (.ref C) name == some (some (.ref f))) && isFn K (.ref f) && keepIn K (.ref f)

theorem se_meth {C f : Addr} {a : Nat} {nm : Str} {o : Expr} {Wo : EW} {Wf : FW} {Ws : EsW} {es : List Expr} {apos pos : Pos} (ho : SE Z sc n o Wo) (hf : SFc Z n f Wf) (hs : SEsP Z sc n es Ws) (ha : Z.T.s a = nm) (hn : a < Z.T.n) (hm : methOk Z.K C nm f = true)
    (he : ∀ env, ∃ pl pos', eval (.Call (.Attribute o nm apos) es [] pos) env = (do
      let ov ← eval o env
      standAt apos.atName
      let (f, first) ← holding [ov] (getMethod ov nm pl)
      callWith pos' f first (backTo pos' (starEach es env)) [])) : SE Z sc n (.Call (.Attribute o nm apos) es [] pos) (eMeth C a Wo Wf Ws) := by
  subst ha
  intro c hc mr α m σ X s Qa Q Er H R hW hQ
  obtain ⟨pl, pos', he⟩ := he c.env
  rw [he]
  unfold methOk at hm
  simp only [Bool.and_eq_true, beq_iff_eq] at hm
  obtain ⟨⟨⟨m1, m2⟩, m3⟩, m4⟩ := hm
  refine wpAny_bind (ho c hc mr α m σ X s _ _ Er H R hW fun ov σ₁ α₁ s₁ val hq hE H₁ hv => wpAny_bind (wpAny_standAt (wpAny_bind (wpAny_holding ?_))))
  obtain ⟨i, as, rfl, hi, hl, hq⟩ := hq
  cases hv
  rename_i hlt
  obtain ⟨news, N, Rr⟩ := H₁.led
  obtain ⟨h1, ⟨_, _⟩, ens, k, h2, h3⟩ := Rr.rel i _ hi
  refine method_inst H₁.F hc.X (InstAt.of_news N h1 h2) m1 m2 m3 (getL_none h3 hn hl) ?_
  dsimp only
  refine callWith_gen hc m4 hs H₁ (R.ext hE) hq fun vs σ₂ α₂ s₂ vals hq₂ hE₂ H₂ hvs => ?_
  have hself : VR α₂ σ₂.length (.obj i) (.ref (α₁ i false)) := by
    have := hE₂.vr (VR.obj (α := α₁) i hlt)
    exact this
  exact hf.call hc H₂ (.cons hself hvs) hq₂ fun v σ₃ α₃ s₃ val hq₃ hE₃ H₃ hv => hQ v σ₃ α₃ s₃ val hq₃ ((hE.trans hE₂).trans hE₃) H₃ hv

/-- C(args), C a class of the text's top with an __init__ -/
noncomputable def eNew (C : Nat) (Wi : FW) (Ws : EsW) : EW := fun m σ Q => Ws m σ fun vs σ₁ => Wi (.obj σ₁.length :: vs) (σ₁ ++ [.inst C []]) fun v σ₂ => v = .none ∧ Q (.obj σ₁.length) σ₂

noncomputable def clsOk (K : Frag) (C fI : Addr) : Bool := makesIn K C && (findIn K (.ref C) "__init__" == some (some (.ref fI))) && isFn K (.ref fI) && keepIn K (.ref C)

theorem nodup_cons2 {x d : Addr} {ox od : Obj} {news : List (Addr × Obj)} (nd : (news.map (·.1)).Nodup) (h1 : ∀ p ∈ news, p.1 < d) (h2 : d < x) : ((((x, ox) :: (d, od) :: news : List (Addr × Obj))).map (·.1)).Nodup := by
  simp only [List.map_cons, List.nodup_cons, List.mem_cons, List.mem_map]
  refine ⟨fun h => ?_, fun ⟨p, hp, e⟩ => ?_, nd⟩
  · rcases h with e | ⟨p, hp, e⟩
    · exact absurd h2 (e ▸ Nat.lt_irrefl _)
    · have := h1 p hp
      rw [e] at this
      exact absurd (Nat.lt_trans h2 this) (Nat.lt_irrefl _)
  · have := h1 p hp
    rw [e] at this
    exact absurd this (Nat.lt_irrefl _)
theorem nodup_cons1 {x : Addr} {ox : Obj} {news : List (Addr × Obj)} (nd : (news.map (·.1)).Nodup) (h1 : ∀ p ∈ news, p.1 < x) : ((((x, ox) :: news : List (Addr × Obj))).map (·.1)).Nodup := by
  simp only [List.map_cons, List.nodup_cons, List.mem_map]
  refine ⟨fun ⟨p, hp, e⟩ => ?_, nd⟩
  have := h1 p hp
  rw [e] at this
  exact absurd this (Nat.lt_irrefl _)

theorem ext_push {α : AdMap} {σ : Hp} {o : O} {a b : Addr} : Ext α σ (ext1 α σ.length a b) (σ ++ [o]) := ⟨by simp, fun _ hi c => ext1_lt hi c⟩
theorem len_push {σ : Hp} {o : O} : (σ ++ [o]).length = σ.length + 1 := by simp

theorem Cx.Ok.under {c : Cx} (hc : c.Ok Z sc n) (C : Addr) (vals : List Value) (hn : Room (c.A.under (.builtin "type.__call__" ⟨.ref C :: vals, []⟩)) n) : ({ c with A := c.A.under (.builtin "type.__call__" ⟨.ref C :: vals, []⟩) } : Cx).Ok Z sc n :=
  { hc with hA := hc.hA, room := hn }
theorem Room.make {A : Around} {C : Addr} {vals : List Value} (h : Room A (n + 1)) : Room (A.under (.builtin "type.__call__" ⟨.ref C :: vals, []⟩)) n :=
  ⟨h.1, by have := h.2.1; rw [depth_under_make]; omega, by have := h.2.2; rw [units_under_make]; omega⟩

theorem se_new {C fI : Addr} {Wi : FW} {Ws : EsW} {es : List Expr} {x : Nat} {nm : Str} {p pos : Pos} (hf : SFc Z n fI Wi) (hs : SEsP Z sc (n + 1) es Ws) (hx : Z.T.s x = nm) (hg : sc.names.lookup nm = some .globalImplicit)
    (hk : nsIn Z.K mainGlobals nm = some (some (.ref C))) (hcl : clsOk Z.K C fI = true) : SE Z sc (n + 1) (.Call (.Name nm p) es [] pos) (eNew C Wi Ws) := by
  subst hx
  unfold clsOk at hcl
  simp only [Bool.and_eq_true, beq_iff_eq] at hcl
  obtain ⟨⟨⟨k1, k2⟩, k3⟩, k4⟩ := hcl
  intro c hc mr α m σ X s Qa Q Er H R hW hQ
  refine Call_ ?_ rfl
  refine load_global hc H hg hk ?_
  refine callWith_gen hc k4 hs H R hW fun vs σ₁ α₁ s₁ vals hq hE H₁ hvs => ?_
  obtain ⟨news, N, Rr⟩ := H₁.led
  obtain ⟨hh, tk, he⟩ := H₁.ex
  refine call_cls H₁.F hc.X N k1 k2 k3 fun y dy h' F' N' l1 l2 => ?_
  have hnd : ((((y, instObj C dy) :: (dy, dictOf [] 0) :: news : List (Addr × Obj))).map (·.1)).Nodup := nodup_cons2 Rr.nd l1 l2
  have Rr' := Rr.push (o := .inst C []) (a := y) (b := dy) (add := [(y, instObj C dy), (dy, dictOf [] 0)]) hnd (fun _ => Nat.ne_of_gt l2) (by simp) (fun _ => by simp)
    ⟨by rw [ext1_f, ext1_t]; simp, ⟨by simp, fun _ _ q => by simp [lk] at q⟩, [], 0, by rw [ext1_t]; simp, .nil⟩
  have H₂ : HI Z { c with A := c.A.under (.builtin "type.__call__" ⟨.ref C :: vals, []⟩) } mr (ext1 α₁ σ₁.length y dy) (σ₁ ++ [.inst C []]) X { s₁ with heap := h' } := ⟨F', ⟨_, N', Rr'⟩, ⟨h', s₁.toks, by rw [he]⟩⟩
  have hc' : ({ c with A := c.A.under (.builtin "type.__call__" ⟨.ref C :: vals, []⟩) } : Cx).Ok Z sc n := (hc.mono (Nat.le_succ n)).under C vals hc.room.make
  have hself : VR (ext1 α₁ σ₁.length y dy) (σ₁ ++ [O.inst C []]).length (.obj σ₁.length) (.ref y) := by
    have := VR.obj (α := ext1 α₁ σ₁.length y dy) (n := (σ₁ ++ [O.inst C []]).length) σ₁.length (by simp)
    rw [ext1_f] at this
    exact this
  have hargs : All2 (VR (ext1 α₁ σ₁.length y dy) (σ₁ ++ [O.inst C []]).length) (.obj σ₁.length :: vs) (.ref y :: vals) := .cons hself (ext_push.vrs hvs)
  refine hf _ sc hc' mr _ _ _ X _ _ _ _ H₂ hargs hq fun v σ₃ α₃ s₃ val hq₃ hE₃ H₃ hv => ?_
  obtain ⟨rfl, hq₄⟩ := hq₃
  cases hv
  refine ⟨rfl, ?_⟩
  exact hQ (.obj σ₁.length) σ₃ α₃ s₃ (.ref y) hq₄ ((hE.trans ext_push).trans hE₃) ⟨H₃.F, H₃.led, H₃.ex⟩ (hE₃.vr hself)

-- a def of the text entered
theorem Rl.addX {T : Names} {prog : Program} {w : World} {α : AdMap} {σ : Hp} {X news add : List (Addr × Obj)} (R : Rl T prog w α σ X news) (nd : ((add ++ news).map (·.1)).Nodup) : Rl T prog w α σ (add ++ X) (add ++ news) := by
  have hfree : ∀ p ∈ news, p.1 ∉ add.map (·.1) := by
    intro p hp hq
    rw [List.map_append, List.nodup_append] at nd
    exact nd.2.2 _ hq _ (List.mem_map.mpr ⟨p, hp, rfl⟩) rfl
  refine ⟨nd, fun i o hi => ?_, R.inj, fun p hp => ?_, fun p hp i b hd => ?_⟩
  · exact (R.rel i o hi).mono (Nat.le_refl _) (fun _ _ => rfl) (fun _ _ => rfl) fun p hp _ _ _ => List.mem_append_right _ hp
  · rcases List.mem_append.mp hp with hp | hp
    · exact List.mem_append_left _ hp
    · exact List.mem_append_right _ (R.sub p hp)
  · rcases List.mem_append.mp hp with hp | hp
    · intro e
      obtain ⟨q, hq⟩ := R.here hd
      exact hfree _ hq (List.mem_map.mpr ⟨p, hp, e⟩)
    · exact R.off p hp i b hd
theorem Rl.subX {T : Names} {prog : Program} {w : World} {α : AdMap} {σ : Hp} {X Y news : List (Addr × Obj)} (R : Rl T prog w α σ Y news) (h : ∀ p ∈ X, p ∈ Y) : Rl T prog w α σ X news :=
  ⟨R.nd, R.rel, R.inj, fun p hp => R.sub p (h p hp), fun p hp => R.off p (h p hp)⟩

theorem Room.deeper {A : Around} {env : Env} (h : Room A (n + 1)) : Room (A.deeper env) n :=
  ⟨h.1, by have := h.2.1; rw [depth_deeper]; omega, by have := h.2.2; rw [units_deeper]; omega⟩

theorem zip_lookup : ∀ {ps : List Nat} {vals : List Value} {x : Nat} {v : V} {args : List V} {T : Names} {α : AdMap} {k : Nat}, All2 (VR α k) args vals → lk (ps.zip args) x = some v → ps.Nodup → (∀ p ∈ ps, p < T.n) →
    x ∈ ps ∧ ∃ val, VR α k v val ∧ ((ps.map T.s).zip vals).reverse.lookup (T.s x) = some val := by
  intro ps vals x v args T α k ha hl nd hps
  -- the names are apart: the first is the last
  have key : ∀ (ps : List Nat) (args : List V) (vals : List Value), All2 (VR α k) args vals → ps.Nodup → (∀ p ∈ ps, p < T.n) → lk (ps.zip args) x = some v →
      x ∈ ps ∧ ∃ val, VR α k v val ∧ (T.s x, val) ∈ (ps.map T.s).zip vals := by
    intro ps
    induction ps with
    | nil => intro args vals _ _ _ h; simp [lk] at h
    | cons p ps ih =>
      intro args vals ha nd hps h
      cases ha with
      | nil => simp [lk] at h
      | cons h1 h2 =>
        simp only [List.zip_cons_cons, lk] at h
        by_cases hp : p = x
        · rw [if_pos hp] at h
          cases h
          exact ⟨hp ▸ List.mem_cons_self, _, h1, by rw [List.map_cons, List.zip_cons_cons, hp]; exact List.mem_cons_self⟩
        · rw [if_neg hp] at h
          obtain ⟨a, val, b, d⟩ := ih _ _ h2 (List.nodup_cons.mp nd).2 (fun q hq => hps q (List.mem_cons_of_mem _ hq)) h
          exact ⟨List.mem_cons_of_mem _ a, val, b, by rw [List.map_cons, List.zip_cons_cons]; exact List.mem_cons_of_mem _ d⟩
  obtain ⟨hx, val, hv, hm⟩ := key ps args vals ha nd hps hl
  refine ⟨hx, val, hv, ?_⟩
  have uniq : ∀ (l : List (Str × Value)), (l.map (·.1)).Nodup → ∀ (a : Str) (b : Value), (a, b) ∈ l → l.lookup a = some b := by
    intro l
    induction l with
    | nil => intro _ a b h; exact absurd h List.not_mem_nil
    | cons q l ih =>
      intro nd a b h
      obtain ⟨q1, q2⟩ := q
      rw [List.map_cons, List.nodup_cons] at nd
      rw [List.lookup_cons]
      rcases List.mem_cons.mp h with e | h
      · cases e; simp
      · have : (a == q1) = false := by
          rw [beq_eq_false_iff_ne]
          intro e
          exact nd.1 (List.mem_map.mpr ⟨(a, b), h, e⟩)
        rw [this]
        exact ih nd.2 a b h
  refine uniq _ ?_ _ _ (List.mem_reverse.mpr hm)
  rw [List.map_reverse]
  refine (fun (h : (((ps.map T.s).zip vals).map (·.1)).Nodup) => (List.pairwise_reverse.mpr (List.Pairwise.imp (fun q => Ne.symm q) h) : List.Nodup _)) ?_
  have : ∀ (ps : List Nat) (vals : List Value), ps.Nodup → (∀ p ∈ ps, p < T.n) → (((ps.map T.s).zip vals).map (·.1)).Nodup := by
    intro ps
    induction ps with
    | nil => intro _ _ _; simp
    | cons p ps ih =>
      intro vals nd hps
      cases vals with
      | nil => simp
      | cons v vals =>
        rw [List.map_cons, List.zip_cons_cons, List.map_cons, List.nodup_cons]
        refine ⟨fun h => ?_, ih vals (List.nodup_cons.mp nd).2 fun q hq => hps q (List.mem_cons_of_mem _ hq)⟩
        obtain ⟨⟨a, b⟩, h1, h2⟩ := List.mem_map.mp h
        have h3 := (List.of_mem_zip h1).1
        obtain ⟨q, hq, e⟩ := List.mem_map.mp h3
        have : q = p := T.inj (hps q (List.mem_cons_of_mem _ hq)) (hps p List.mem_cons_self) (e.trans h2)
        exact (List.nodup_cons.mp nd).1 (this ▸ hq)
  exact this ps vals nd hps

/-- what holds of a def's object and its parameters -/
structure DefOk (Z : Fix) (f : Addr) (ps : List Nat) (scope : Scope) (body : List Stmt) : Prop where
  ex : ∃ name qual params dV kV doc pm cdv ct oc an od osl, Z.K.lookup f = some ⟨oc, od, .func (fnOf name qual params body scope dV kV doc pm an cdv ct), osl⟩ ∧ codeIn Z.K cdv qual = true ∧
    ∀ vals : List Value, vals.length = ps.length → bindArgs (fnOf name qual params body scope dV kV doc pm an cdv ct) ⟨vals, []⟩ = pure ((ps.map Z.T.s).zip vals)
  nd : ps.Nodup
  lt : ∀ p ∈ ps, p < Z.T.n
  co : scope.isCoroutine = false
  gen : scope.isGenerator = false
  kd : scope.kind = .function

theorem lookup_mem {α : Type} {x : Str} {k : α} : ∀ {l : List (Str × α)}, l.lookup x = some k → (x, k) ∈ l
  | (a1, a2) :: l, q => by
    rw [List.lookup_cons] at q
    cases h : x == a1 with
    | true => rw [h] at q; cases q; rw [beq_iff_eq.mp h]; exact List.mem_cons_self
    | false => rw [h] at q; exact List.mem_cons_of_mem _ (lookup_mem q)

theorem sf_def {f : Addr} {ps : List Nat} {scope : Scope} {body : List Stmt} {W : SW} (hd : DefOk Z f ps scope body) (hloc : ∀ p ∈ ps, scope.names.lookup (Z.T.s p) = some .local) (hcell : ∀ x ∈ scope.names, x.2 ≠ .cell) (hfree : ∀ x ∈ scope.names, x.2 ≠ .free)
    (hb : SSs Z scope n body W) : SFc Z (n + 1) f (fun args σ Q => args.length = ps.length ∧ W (ps.zip args) σ fun fl _ σ' => Q (retV fl) σ') := by
  obtain ⟨name, qual, params, dV, kV, doc, pm, cdv, ct, oc, an, od, osl, ho, hcd, hbind⟩ := hd.ex
  intro c sc hc mr α args σ X s vals Qa R H ha hW hQ
  obtain ⟨hlen, hW⟩ := hW
  have hvl : vals.length = ps.length := ha.length ▸ hlen
  obtain ⟨news, N, Rr⟩ := H.led
  obtain ⟨hh, tk, he⟩ := H.ex
  refine code_def hc.B H.F hc.X N hc.T hc.hA hc.hf hc.hke ho hcd (by have := hc.room.2.1; omega) (BindsTo.of_eq (hbind vals hvl)) (fun y hy => ?_) (fun g L' h₁ FG F' N' B' X' T' => ?_) hd.co hd.gen hd.kd hcell
  · obtain ⟨y1, y2⟩ := y
    have h3 := (List.of_mem_zip hy).1
    obtain ⟨q, hq, e⟩ := List.mem_map.mp h3
    exact e ▸ hloc q hq
  · let env' : Env := envOf qual scope L' f cdv
    let c' : Cx := { A := c.A.deeper env', env := env', fenv := env', outer := c.fenv :: c.outer, A₀ := c.A, base := c.base, h₀ := g, L := L', s₀ := { s with heap := h₁, toks := s.toks + ((ps.map Z.T.s).zip vals).length } }
    have hc' : c'.Ok Z scope n := ⟨B', X', T', Around.frames_deeper hc.hA, rfl, hd.kd, hc.room.deeper, hd.kd, rfl, rfl, fun x hx => hx, fun x hx => hx.elim (fun q => absurd rfl (hcell _ (lookup_mem q))) fun q => absurd rfl (hfree _ (lookup_mem q))⟩
    have hf' : FnSt c' scope := ⟨rfl, rfl, rfl, fun x hx => by
      exact absurd rfl (hcell _ (lookup_mem hx))⟩
    have hcs : CellsOk c'.env [] X := ⟨fun x a q => by simp [c', env', envOf] at q, fun x y a q => by simp [c', env', envOf] at q, fun p hp => absurd hp List.not_mem_nil⟩
    have H' : HI Z c' (fun y => ((ps.map Z.T.s).zip vals).reverse.lookup y) α σ ([] ++ X) c'.s₀ := ⟨F', ⟨news, N', Rr⟩, ⟨h₁, _, rfl⟩⟩
    have R' : NR Z c' (fun y => ((ps.map Z.T.s).zip vals).reverse.lookup y) α σ.length ([] ++ X) (ps.zip args) := fun x v hx => by
      obtain ⟨hx1, val, hv, hlk⟩ := zip_lookup (T := Z.T) ha hx hd.nd hd.lt
      exact ⟨hd.lt x hx1, val, hv, .inl ⟨hloc x hx1, rfl, hlk⟩⟩
    refine wpAny_mono (hb c' hc' hf' _ α _ σ [] X _ _ (fun fl s' => LeaveK c.h₀ c.L mr g R (match fl with | .ret v => v | _ => .none) s') (fun _ _ => False) hcs H' R' hW fun fl m' σ' mr' Cs' α' s' fv hq hE hcs' H2 R2 hfl => ?_) (fun _ _ x => x) (fun _ _ x => x.elim)
    obtain ⟨news', N2, Rr2⟩ := H2.led
    obtain ⟨hh2, tk2, he2⟩ := H2.ex
    refine ⟨L', mr', news', H2.F, N2, fun FF NN => ?_⟩
    have Hfin : HI Z c mr α' σ' X s' := ⟨FF, ⟨news', NN, Rr2.subX fun p hp => List.mem_append_right _ hp⟩, ⟨hh2, tk2, by rw [he2]; show ({ s with heap := hh2, toks := tk2 } : Shared) = _; rw [he]⟩⟩
    cases hfl with
    | next => exact hQ .none σ' α' s' .none hq hE Hfin .none
    | brk => exact hQ .none σ' α' s' .none hq hE Hfin .none
    | cont => exact hQ .none σ' α' s' .none hq hE Hfin .none
    | ret hv => exact hQ _ σ' α' s' _ hq hE Hfin hv
end


noncomputable def intsOf : List V → Option (List Int)
  | [] => some []
  | .int i :: r => (intsOf r).map (i :: ·)
  | _ :: _ => Option.none
theorem intsOf_map (ns : List Int) : intsOf (ns.map V.int) = some ns := by
  induction ns with
  | nil => rfl
  | cons n r ih => simp [intsOf, ih]
theorem intsOf_eq : ∀ {vs : List V} {ns : List Int}, intsOf vs = some ns → vs = ns.map V.int
  | [], ns, h => by simp [intsOf] at h; subst h; rfl
  | .int i :: r, ns, h => by
    simp only [intsOf, Option.map_eq_some_iff] at h
    obtain ⟨a, ha, rfl⟩ := h
    rw [intsOf_eq ha]; rfl
  | .none :: _, _, h => by simp [intsOf] at h
  | .bool _ :: _, _, h => by simp [intsOf] at h
  | .bytes _ :: _, _, h => by simp [intsOf] at h
  | .obj _ :: _, _, h => by simp [intsOf] at h
theorem ints_are {α : AdMap} {k : Nat} : ∀ {ns : List Int} {vals : List Value}, All2 (VR α k) (ns.map V.int) vals → IntsAre vals ns
  | [], _, .nil => .nil
  | n :: ns, _, .cons h r => by cases h; exact .cons _ _ (ints_are r)
theorem are_ints {α : AdMap} {k : Nat} : ∀ {ns : List Int} {vals : List Value}, IntsAre vals ns → All2 (VR α k) (ns.map V.int) vals
  | _, _, .nil => .nil
  | _, _, .cons n t r => .cons (.int n t) (are_ints r)

section
variable {Z : Fix} {sc : Scope} {n : Nat}

theorem HI.list {c : Cx} {mr : Str → Option Value} {α : AdMap} {σ : Hp} {X : List (Addr × Obj)} {s : Shared} (H : HI Z c mr α σ X s) {i : Nat} {vs : List V} (hi : σ[i]? = some (.list vs)) :
    ∃ vals, s.heap.IsList (α i false) vals.toArray ∧ All2 (VR α σ.length) vs vals ∧ vs.length ≤ 4096 := by
  obtain ⟨news, N, R⟩ := H.led
  obtain ⟨l, vals, k, hm, hv⟩ := R.rel i _ hi
  exact ⟨vals, N.isList hm, hv, l⟩
theorem HI.tup {c : Cx} {mr : Str → Option Value} {α : AdMap} {σ : Hp} {X : List (Addr × Obj)} {s : Shared} (H : HI Z c mr α σ X s) {i : Nat} {vs : List V} (hi : σ[i]? = some (.tup vs)) :
    ∃ vals, IsTup s.heap (α i false) vals.toArray ∧ All2 (VR α σ.length) vs vals ∧ vs.length ≤ 4096 := by
  obtain ⟨news, N, R⟩ := H.led
  obtain ⟨l, vals, hm, hv⟩ := R.rel i _ hi
  exact ⟨vals, N.isTup hm, hv, l⟩

-- comparisons of ints
noncomputable def isOrd : CmpOp → Bool
  | .Eq | .NotEq | .Lt | .LtE | .Gt | .GtE => true
  | _ => false
noncomputable def cmpB : CmpOp → Int → Int → Bool
  | .Eq, i, j => decide (i = j)
  | .NotEq, i, j => !decide (i = j)
  | .Lt, i, j => decide (i < j)
  | .LtE, i, j => decide (i ≤ j)
  | .Gt, i, j => decide (j < i)
  | .GtE, i, j => decide (j ≤ i)
  | _, _, _ => false
theorem cmp_int {A : Around} {op : CmpOp} (ho : isOrd op = true) {i j : Int} {t u : Tok} {s : Shared} {Q : Value → Shared → Prop} {E : Value → Shared → Prop} (h : Q (.bool (cmpB op i j)) s) :
    wpAny (model Z.prog Z.w) A (compareOp op (.int i t) (.int j u)) Q E s := by
  cases op <;> first | cases ho | skip
  · exact P.eq_int (by have e : (i == j) = decide (i = j) := rfl; rw [e]; exact h)
  · exact P.ne_int (by have e : (i != j) = !decide (i = j) := rfl; rw [e]; exact h)
  · exact P.lt_int h
  · exact P.le_int h
  · exact P.gt_int h
  · exact P.ge_int h
noncomputable def eCmpG (op : CmpOp) (W₁ W₂ : EW) (m : Loc) (σ : Hp) (Q : Bool → Hp → Prop) : Prop := W₁ m σ fun a σ₁ => W₂ m σ₁ fun b σ₂ => ∃ i j, a = .int i ∧ b = .int j ∧ Q (cmpB op i j) σ₂
noncomputable def tCmp (op : CmpOp) (W₁ W₂ : EW) : TW := fun m σ Q => eCmpG op W₁ W₂ m σ Q
noncomputable def eCmp (op : CmpOp) (W₁ W₂ : EW) : EW := fun m σ Q => eCmpG op W₁ W₂ m σ fun b => Q (.bool b)
theorem st_cmp {op : CmpOp} {l r : Expr} {pos : Pos} {W₁ W₂ : EW} (h₁ : SE Z sc n l W₁) (h₂ : SE Z sc n r W₂) (ho : isOrd op = true) (hm : behindInMarks op r = false) : STst Z sc n (.Compare l [op] [r] pos) (tCmp op W₁ W₂) := by
  intro c hc mr α m σ X s Qa Q Er H R hW hQ
  refine wpAny_isTrue_Compare1 (h₁ c hc mr α m σ X s _ _ Er H R hW fun a σ₁ α₁ s₁ va hq hE H₁ ha => ?_) hm
  refine h₂ c hc mr α₁ m σ₁ X s₁ _ _ Er H₁ (R.ext hE) hq fun b σ₂ α₂ s₂ vb hq₂ hE₂ H₂ hb => ?_
  obtain ⟨i, j, rfl, rfl, hq₃⟩ := hq₂
  cases ha; cases hb
  exact cmp_int ho (wpAny_truthy_bool (hQ _ σ₂ α₂ s₂ hq₃ (hE.trans hE₂) H₂))
theorem se_cmp {op : CmpOp} {l r : Expr} {pos : Pos} {W₁ W₂ : EW} (h₁ : SE Z sc n l W₁) (h₂ : SE Z sc n r W₂) (ho : isOrd op = true) (hm : behindInMarks op r = false) : SE Z sc n (.Compare l [op] [r] pos) (eCmp op W₁ W₂) := by
  intro c hc mr α m σ X s Qa Q Er H R hW hQ
  refine wpAny_Compare1 (h₁ c hc mr α m σ X s _ _ Er H R hW fun a σ₁ α₁ s₁ va hq hE H₁ ha => ?_) hm
  refine h₂ c hc mr α₁ m σ₁ X s₁ _ _ Er H₁ (R.ext hE) hq fun b σ₂ α₂ s₂ vb hq₂ hE₂ H₂ hb => ?_
  obtain ⟨i, j, rfl, rfl, hq₃⟩ := hq₂
  cases ha; cases hb
  exact cmp_int ho (hQ _ σ₂ α₂ s₂ _ hq₃ (hE.trans hE₂) H₂ (.bool _))

-- x is None, x an int or none
noncomputable def tIsN (neg : Bool) (W : EW) : TW := fun m σ Q => W m σ fun v σ' => Q ((decide (v = V.none)) != neg) σ'
theorem st_isNone {l : Expr} {k : Nat} {p pos : Pos} {W : EW} (h : SE Z sc n l W) : STst Z sc n (.Compare l [.Is] [.Constant .none k p] pos) (tIsN false fun m σ Q => W m σ fun v σ' => (∃ i, v = .int i) ∧ Q v σ') := by
  intro c hc mr α m σ X s Qa Q Er H R hW hQ
  refine wpAny_isTrue_Compare1 (h c hc mr α m σ X s _ _ Er H R hW fun a σ₁ α₁ s₁ va hq hE H₁ ha => ?_)
  refine Constant_none ?_
  obtain ⟨⟨i, rfl⟩, hq⟩ := hq
  cases ha
  exact is_int_none (wpAny_truthy_bool (hQ _ σ₁ α₁ s₁ hq hE H₁))

-- truth of a value
noncomputable def truthV (σ : Hp) (v : V) (Q : Bool → Prop) : Prop := match v with
  | .bool b => Q b
  | .int i => Q (!decide (i = 0))
  | .none => Q false
  | .bytes _ => False
  | .obj i => match σ[i]? with
    | some (.list vs) => Q (!vs.isEmpty)
    | _ => False
theorem truthy_V {c : Cx} {mr : Str → Option Value} {α : AdMap} {σ : Hp} {X : List (Addr × Obj)} {s : Shared} (H : HI Z c mr α σ X s) {v : V} {val : Value} (hv : VR α σ.length v val) {Q : Bool → Shared → Prop} {A : Around} {Er} {Qp : Bool → Prop}
    (hW : truthV σ v Qp) (h : ∀ b s', Qp b → HI Z c mr α σ X s' → Q b s') : wpAny (model Z.prog Z.w) A (truthy val) Q Er s := by
  cases hv with
  | none => exact truthy_none (h _ _ hW H)
  | bool b => exact wpAny_truthy_bool (h _ _ hW H)
  | int i t => exact P.truthy_int (by have e : (i != 0) = !decide (i = 0) := rfl; rw [e]; exact h _ _ hW H)
  | bytes k t => exact hW.elim
  | obj i hi =>
    unfold truthV at hW
    dsimp only at hW
    cases ho : σ[i]? with
    | none => rw [ho] at hW; exact hW.elim
    | some o =>
      rw [ho] at hW
      cases o with
      | list vs =>
        obtain ⟨vals, hl, hvs, hlen⟩ := H.list ho
        have hle : vals.length ≤ 4096 := hvs.length ▸ hlen
        refine wpAny_truthy_list hl (by rw [List.size_toArray]; omega) ?_
        have e : (!vals.toArray.isEmpty) = !vs.isEmpty := by
          have h1 := hvs.length
          cases vs <;> cases vals <;> simp_all
        rw [e]
        exact h _ _ hW (H.toks _)
      | inst C as => exact hW.elim
      | tup vs => exact hW.elim
      | dict kvs => exact hW.elim
      | gone => exact hW.elim
noncomputable def tVal (W : EW) : TW := fun m σ Q => W m σ fun v σ' => truthV σ' v fun b => Q b σ'
theorem st_val {e : Expr} {W : EW} (h : SE Z sc n e W) (he : ∀ env whole, isTrue e env whole = (do let v ← whole; standAt e.pos; holding [v] (truthy v))) : STst Z sc n e (tVal W) := by
  intro c hc mr α m σ X s Qa Q Er H R hW hQ
  refine isTrue_plain ?_ (he c.env _)
  exact h c hc mr α m σ X s _ _ Er H R hW fun v σ' α' s' val hq hE H' hv => truthy_V H' hv hq fun b s'' hb H'' => hQ b σ' α' s'' hb hE H''

-- not, and, or
noncomputable def tNot (W : TW) : TW := fun m σ Q => W m σ fun b σ' => Q (!b) σ'
theorem st_not {e : Expr} {pos : Pos} {W : TW} (h : STst Z sc n e W) : STst Z sc n (.UnaryOp .Not e pos) (tNot W) := by
  intro c hc mr α m σ X s Qa Q Er H R hW hQ
  exact isTrue_not (h c hc mr α m σ X s _ _ Er H R hW fun b σ' α' s' hq hE H' => hQ _ σ' α' s' hq hE H')
/-- the value of «not e» -/
noncomputable def eNot (W : EW) : EW := fun m σ Q => W m σ fun v σ' => truthV σ' v fun b => Q (.bool (!b)) σ'
theorem se_not {e : Expr} {pos : Pos} {W : EW} (h : SE Z sc n e W) : SE Z sc n (.UnaryOp .Not e pos) (eNot W) := by
  intro c hc mr α m σ X s Qa Q Er H R hW hQ
  refine UnaryOp_ (h c hc mr α m σ X s _ _ Er H R hW fun v σ' α' s' val hq hE H' hv => not_of ?_)
  exact truthy_V H' hv hq fun b s'' hb H'' => hQ _ σ' α' s'' _ hb hE H'' (.bool _)
noncomputable def tAnd : List TW → TW
  | [] => fun _ σ Q => Q true σ
  | W :: r => fun m σ Q => W m σ fun b σ' => (b = true → tAnd r m σ' Q) ∧ (b = false → Q false σ')
noncomputable def tOr : List TW → TW
  | [] => fun _ σ Q => Q false σ
  | W :: r => fun m σ Q => W m σ fun b σ' => (b = true → Q true σ') ∧ (b = false → tOr r m σ' Q)
inductive STsts (Z : Fix) (sc : Scope) (n : Nat) : List Expr → List TW → Prop
  | nil : STsts Z sc n [] []
  | cons {e : Expr} {es : List Expr} {W : TW} {Ws : List TW} : STst Z sc n e W → STsts Z sc n es Ws → STsts Z sc n (e :: es) (W :: Ws)
theorem st_and {es : List Expr} {Ws : List TW} {pos : Pos} (h : STsts Z sc n es Ws) : STst Z sc n (.BoolOp .And es pos) (tAnd Ws) := by
  intro c hc mr α m σ X s Qa Q Er H R hW hQ
  have gen : ∀ whole, wpAny (model Z.prog Z.w) c.A (isTrue (.BoolOp .And es pos) c.env whole) Q Er s := by
    induction h generalizing α σ s with
    | nil => exact fun _ => isTrue_and_nil (hQ true σ α s hW .refl H)
    | cons h _ ih =>
      intro whole
      refine isTrue_and (h c hc mr α m σ X s _ _ Er H R hW fun b σ' α' s' hq hE H' => ?_)
      cases b with
      | true => exact ih α' σ' s' H' (R.ext hE) (hq.1 rfl) (fun b2 σ2 α2 s2 hq2 hE2 H2 => hQ b2 σ2 α2 s2 hq2 (hE.trans hE2) H2) _
      | false => exact hQ false σ' α' s' (hq.2 rfl) hE H'
  exact gen _
theorem st_or {es : List Expr} {Ws : List TW} {pos : Pos} (h : STsts Z sc n es Ws) : STst Z sc n (.BoolOp .Or es pos) (tOr Ws) := by
  intro c hc mr α m σ X s Qa Q Er H R hW hQ
  have gen : ∀ whole, wpAny (model Z.prog Z.w) c.A (isTrue (.BoolOp .Or es pos) c.env whole) Q Er s := by
    induction h generalizing α σ s with
    | nil => exact fun _ => isTrue_or_nil (hQ false σ α s hW .refl H)
    | cons h _ ih =>
      intro whole
      refine isTrue_or (h c hc mr α m σ X s _ _ Er H R hW fun b σ' α' s' hq hE H' => ?_)
      cases b with
      | true => exact hQ true σ' α' s' (hq.1 rfl) hE H'
      | false => exact ih α' σ' s' H' (R.ext hE) (hq.2 rfl) (fun b2 σ2 α2 s2 hq2 hE2 H2 => hQ b2 σ2 α2 s2 hq2 (hE.trans hE2) H2) _
  exact gen _
/-- the value of «a or b», bools both -/
noncomputable def eOr2 (W₁ W₂ : EW) : EW := fun m σ Q => W₁ m σ fun v σ' => ∃ b, v = .bool b ∧ (b = true → Q (.bool true) σ') ∧ (b = false → W₂ m σ' Q)
theorem se_or2 {a b : Expr} {pos : Pos} {W₁ W₂ : EW} (h₁ : SE Z sc n a W₁) (h₂ : SE Z sc n b W₂) : SE Z sc n (.BoolOp .Or [a, b] pos) (eOr2 W₁ W₂) := by
  intro c hc mr α m σ X s Qa Q Er H R hW hQ
  refine BoolOp_or (h₁ c hc mr α m σ X s _ _ Er H R hW fun v σ' α' s' val hq hE H' hv => ?_)
  obtain ⟨t, rfl, hq⟩ := hq
  cases hv
  refine wpAny_truthy_bool ?_
  cases t with
  | true => exact hQ _ σ' α' s' _ (hq.1 rfl) hE H' (.bool _)
  | false => exact BoolOp_one (h₂ c hc mr α' m σ' X s' _ _ Er H' (R.ext hE) (hq.2 rfl) fun v σ2 α2 s2 val hq2 hE2 H2 hv => hQ v σ2 α2 s2 val hq2 (hE.trans hE2) H2 hv)

-- arithmetic on ints
noncomputable def binV (op : Operator) (i j : Int) (Q : Int → Prop) : Prop := match op with
  | .Add => Q (i + j)
  | .Sub => Q (i - j)
  | .Mult => (i.natAbs < 2 ^ 32 ∧ j.natAbs < 2 ^ 32) ∧ Q (i * j)
  | .Mod => j ≠ 0 ∧ Q (i.fmod j)
  | .FloorDiv => (j ≠ 0 ∧ j.natAbs < 1073741824) ∧ Q (i.fdiv j)
  | .Pow => (0 ≤ j ∧ j < 8 ∧ i.natAbs < 8) ∧ Q (i ^ j.toNat)
  | .LShift => (0 ≤ j ∧ j < 64 ∧ i.natAbs < 8) ∧ Q (i * 2 ^ j.toNat)
  | _ => False
end

section
variable {Z : Fix} {sc : Scope} {n : Nat}

theorem bin_int {A : Around} {op : Operator} {i j : Int} {t u : Tok} {s : Shared} {Qp : Int → Prop} {Q : Value → Shared → Prop} {E : Value → Shared → Prop} (hW : binV op i j Qp) (h : ∀ r t', Qp r → Q (.int r t') { s with toks := t' + 1 }) :
    wpAny (model Z.prog Z.w) A (binaryOp op (.int i t) (.int j u)) Q E s := by
  cases op <;> first | exact hW.elim | skip
  · exact P.add_int (h _ _ hW)
  · exact P.sub_int (h _ _ hW)
  · refine P.mul_int (h _ _ hW.2) (.of_left (intBits_le ?_))
    exact Nat.lt_trans hW.1.1 (by decide)
  · exact mod_int' hW.1 (h _ _ hW.2)
  · obtain ⟨⟨h0, h1, h2⟩, h3⟩ := hW
    exact pow_int_small h0 (by omega) (Nat.lt_trans h2 (by decide)) (h _ _ h3)
  · obtain ⟨⟨h0, h1, h2⟩, h3⟩ := hW
    exact lshift_int_small h0 (by omega) (Nat.lt_trans h2 (by decide)) (h _ _ h3)
  · obtain ⟨⟨h0, h1⟩, h3⟩ := hW
    exact floordiv_int h0 (h _ _ h3) (.inl (PyProof.noPylong_small h1))
noncomputable def eBin (op : Operator) (W₁ W₂ : EW) : EW := fun m σ Q => W₁ m σ fun a σ₁ => W₂ m σ₁ fun b σ₂ => ∃ i j, a = .int i ∧ b = .int j ∧ binV op i j fun r => Q (.int r) σ₂
theorem se_bin {op : Operator} {l r : Expr} {pos : Pos} {W₁ W₂ : EW} (h₁ : SE Z sc n l W₁) (h₂ : SE Z sc n r W₂) : SE Z sc n (.BinOp l op r pos) (eBin op W₁ W₂) := by
  intro c hc mr α m σ X s Qa Q Er H R hW hQ
  refine wpAny_BinOp (h₁ c hc mr α m σ X s _ _ Er H R hW fun a σ₁ α₁ s₁ va hq hE H₁ ha => ?_)
  refine h₂ c hc mr α₁ m σ₁ X s₁ _ _ Er H₁ (R.ext hE) hq fun b σ₂ α₂ s₂ vb hq₂ hE₂ H₂ hb => ?_
  obtain ⟨i, j, rfl, rfl, hq₃⟩ := hq₂
  cases ha; cases hb
  exact bin_int hq₃ fun r t' hr => hQ _ σ₂ α₂ _ _ hr (hE.trans hE₂) (H₂.toks _) (.int r t')
/-- a written -1 -/
theorem se_neg {i : Int} {k : Nat} {p pos : Pos} : SE Z sc n (.UnaryOp .USub (.Constant (.int i) k p) pos) (eV (.int (-i))) := by
  intro c hc mr α m σ X s Qa Q Er H R hW hQ
  refine UnaryOp_ (se_int (Z := Z) (sc := sc) (n := n) c hc mr α m σ X s (fun v σ' => v = .int i ∧ Qa (.int (-i)) σ') _ Er H R ⟨rfl, hW⟩ fun v σ' α' s' val hq hE H' hv => ?_)
  obtain ⟨rfl, hq⟩ := hq
  cases hv
  exact P.neg_int (hQ _ σ' α' _ _ hq hE (H'.toks _) (.int _ _))

-- a builtin by its name
theorem load_builtin {c : Cx} (hc : c.Ok Z sc n) {mr : Str → Option Value} {α : AdMap} {σ : Hp} {X : List (Addr × Obj)} {s : Shared} (H : HI Z c mr α σ X s) {x : Nat} {val : Value} {pos : Pos} {Q : Value → Shared → Prop} {Er}
    (hg : sc.names.lookup (Z.T.s x) = some .globalImplicit) (hk : nsIn Z.K mainGlobals (Z.T.s x) = some none) (hb : bootBuiltins (Z.T.s x) = some val) (hne : Z.T.s x ≠ "__name__") (h : Q val s) : wpAny (model Z.prog Z.w) c.A (eval (.Name (Z.T.s x) pos) c.env) Q Er s :=
  Name_function_global hc.ek (hc.gl _ hg) (loadGlobal_builtin (by rw [hc.eg]; exact hc.T.g.keeps H.F.keep) (mg_none_of hc.X hc.T.g hk) (by rw [hc.eb]; exact hc.T.b.keeps H.F.keep) ((hc.T.builtins _ hne).trans hb) h) (Z.nodbg x).1

theorem callWith_blt {c : Cx} (hc : c.Ok Z sc n) {mr : Str → Option Value} {α : AdMap} {m : Loc} {σ : Hp} {X : List (Addr × Obj)} {s : Shared} {id : String} {first : List Value} {e : Expr} {W : EW} {pos : Pos} {Qa} {Q : Value → Shared → Prop} {Er}
    (hs : SE Z sc n e W) (he : ∀ env, starEach [e] env = (false, eval e env) :: starEach [] env) (H : HI Z c mr α σ X s) (R : NR Z c mr α σ.length X m) (hW : W m σ Qa)
    (h : ∀ v σ' α' s' val, Qa v σ' → Ext α σ α' σ' → HI Z c mr α' σ' X s' → VR α' σ'.length v val → wpAny (model Z.prog Z.w) c.A (PySem.call (.builtin id) (first ++ [val])) Q Er s') :
    wpAny (model Z.prog Z.w) c.A (callWith pos (.builtin id) first (backTo pos (starEach [e] c.env)) []) Q Er s := by
  have hp : (backTo pos (starEach [e] c.env)).any (·.1) = false := by rw [backTo_any, he]; rfl
  refine callWith_builtin hp ?_
  have main : wpAny (model Z.prog Z.w) c.A (spliced (backTo pos (starEach [e] c.env))) (fun vals s' => wpAny (model Z.prog Z.w) c.A (PySem.call (.builtin id) (first ++ vals) []) Q Er s') Er s := by
    refine args_cons ?_ (he c.env)
    refine hs c hc mr α m σ X s _ _ Er H R hW fun v σ' α' s' val hq hE H' hv => ?_
    exact args_nil (h v σ' α' s' val hq hE H' hv)
  rw [he] at main ⊢
  exact evalArgs_plain main

/-- what a def of the builtins' is at its name: not hidden by the text -/
structure BltOk (Z : Fix) (sc : Scope) (x : Nat) (nm : Str) (id : String) : Prop where
  hx : Z.T.s x = nm
  hg : sc.names.lookup nm = some .globalImplicit
  hk : nsIn Z.K mainGlobals nm = some none
  hb : bootBuiltins nm = some (.builtin id)
  ne : nm ≠ "__name__"

noncomputable def lenV (σ : Hp) (v : V) (Q : Int → Prop) : Prop := match v with
  | .obj i => match σ[i]? with
    | some (.list vs) => Q vs.length
    | some (.tup vs) => Q vs.length
    | _ => False
  | _ => False
theorem len_V {c : Cx} {mr : Str → Option Value} {α : AdMap} {σ : Hp} {X : List (Addr × Obj)} {s : Shared} (H : HI Z c mr α σ X s) {v : V} {val : Value} (hv : VR α σ.length v val) {Q : Value → Shared → Prop} {A : Around} {Er} {Qp : Int → Prop}
    (hW : lenV σ v Qp) (h : ∀ k t s', Qp k → HI Z c mr α σ X s' → Q (.int k t) s') : wpAny (model Z.prog Z.w) A (PySem.call (.builtin "len") [val]) Q Er s := by
  unfold lenV at hW
  cases hv <;> first | exact hW.elim | skip
  rename_i i hi
  dsimp only at hW
  cases ho : σ[i]? with
  | none => rw [ho] at hW; exact hW.elim
  | some o =>
    rw [ho] at hW
    cases o with
    | list vs =>
      obtain ⟨vals, hl, hvs, hlen⟩ := H.list ho
      have e := hvs.length
      refine len_list hl (by rw [List.size_toArray]; omega) ?_
      rw [List.size_toArray, ← e]
      exact h _ _ _ hW (H.toks _)
    | tup vs =>
      obtain ⟨vals, hl, hvs, hlen⟩ := H.tup ho
      have e := hvs.length
      refine len_tuple hl (by rw [List.size_toArray]; omega) ?_
      rw [List.size_toArray, ← e]
      exact h _ _ _ hW (H.toks _)
    | inst C as => exact hW.elim
    | dict kvs => exact hW.elim
    | gone => exact hW.elim
noncomputable def eLen (W : EW) : EW := fun m σ Q => W m σ fun v σ' => lenV σ' v fun k => Q (.int k) σ'
theorem se_len {x : Nat} {nm : Str} {e : Expr} {p pos : Pos} {W : EW} (hb : BltOk Z sc x nm "len") (h : SE Z sc n e W) (he : ∀ env, starEach [e] env = (false, eval e env) :: starEach [] env) : SE Z sc n (.Call (.Name nm p) [e] [] pos) (eLen W) := by
  obtain ⟨rfl, hg, hk, hbb, ne⟩ := hb
  intro c hc mr α m σ X s Qa Q Er H R hW hQ
  refine Call_ (load_builtin hc H hg hk hbb ne ?_) rfl
  refine callWith_blt hc h he H R hW fun v σ' α' s' val hq hE H' hv => ?_
  exact len_V H' hv hq fun k t s'' hk H'' => hQ _ σ' α' s'' _ hk hE H'' (.int k t)

/-- sorted of a list of ints: any list whose ints are those, rising -/
noncomputable def eSorted (W : EW) : EW := fun m σ Q => W m σ fun v σ' => ∃ (i : Nat) (ns : List Int), v = .obj i ∧ σ'[i]? = some (.list (ns.map V.int)) ∧ ns.length < 64 ∧
  ∀ ns' : List Int, ns'.Perm ns → ns'.Pairwise (· ≤ ·) → Q (.obj σ'.length) (σ' ++ [.list (ns'.map V.int)])

theorem fresh1 {c : Cx} {mr : Str → Option Value} {α : AdMap} {σ : Hp} {X : List (Addr × Obj)} {s : Shared} (H : HI Z c mr α σ X s) {news : List (Addr × Obj)} (Rr : Rl Z.T Z.prog Z.w α σ X news) {D : Addr} {oD : Obj} {h' : Heap} {tk : Nat} {o : O}
    (F' : Fr c.h₀ c.L h' mr) (N' : News c.h₀ c.L h' ((D, oD) :: news)) (l1 : ∀ q ∈ news, q.1 < D) (hni : ¬ o.has true)
    (hnew : OR Z.T Z.prog Z.w (ext1 α σ.length D 0) (σ.length + 1) σ.length ((D, oD) :: news) o) :
    HI Z c mr (ext1 α σ.length D 0) (σ ++ [o]) X { s with heap := h', toks := tk } ∧ Ext α σ (ext1 α σ.length D 0) (σ ++ [o]) ∧ VR (ext1 α σ.length D 0) (σ ++ [o]).length (.obj σ.length) (.ref D) := by
  obtain ⟨hh, tk', he⟩ := H.ex
  refine ⟨⟨F', ⟨_, N', ?_⟩, ⟨h', tk, by rw [he]⟩⟩, ext_push, ?_⟩
  · have := Rr.push (o := o) (a := D) (b := 0) (add := [(D, oD)]) (nodup_cons1 Rr.nd l1) (fun e => absurd e hni) (by simp) (fun e => absurd e hni) hnew
    exact this
  · have := VR.obj (α := ext1 α σ.length D 0) (n := (σ ++ [o]).length) σ.length (by simp)
    rw [ext1_f] at this
    exact this

theorem se_sorted {x : Nat} {nm : Str} {e : Expr} {p pos : Pos} {W : EW} (hb : BltOk Z sc x nm "sorted") (h : SE Z sc n e W) (he : ∀ env, starEach [e] env = (false, eval e env) :: starEach [] env) : SE Z sc n (.Call (.Name nm p) [e] [] pos) (eSorted W) := by
  obtain ⟨rfl, hg, hk, hbb, ne⟩ := hb
  intro c hc mr α m σ X s Qa Q Er H R hW hQ
  refine Call_ (load_builtin hc H hg hk hbb ne ?_) rfl
  refine callWith_blt hc h he H R hW fun v σ' α' s' val hq hE H' hv => ?_
  obtain ⟨i, ns, rfl, hi, h64, hq⟩ := hq
  cases hv
  obtain ⟨news, N, Rr⟩ := H'.led
  obtain ⟨vals, hl, hvs, hlen⟩ := H'.list hi
  refine kso_sorted H'.F N hl (ints_are hvs) h64 fun D vs' ns' cnt h' F' N' l1 hi' hl' hp hs _ => ?_
  obtain ⟨HH, EE, VV⟩ := fresh1 (tk := s'.toks) (o := .list (ns'.map V.int)) H' Rr F' N' l1 (fun q => nomatch q)
    ⟨by rw [List.length_map, hl']; omega, vs', cnt, by rw [ext1_f]; exact List.mem_cons_self, are_ints hi'⟩
  exact hQ _ _ _ _ _ (hq ns' hp hs) (hE.trans EE) HH VV

-- displays
noncomputable def eList (Ws : EsW) : EW := fun m σ Q => Ws m σ fun vs σ' => vs.length ≤ 4096 ∧ Q (.obj σ'.length) (σ' ++ [.list vs])
theorem se_list {es : List Expr} {Ws : EsW} {pos : Pos} (h : SEsP Z sc n es Ws) : SE Z sc n (.List es pos) (eList Ws) := by
  intro c hc mr α m σ X s Qa Q Er H R hW hQ
  refine List_ (h.sound c hc pos mr α m σ X s _ _ Er H R hW fun vs σ' α' s' vals hq hE H' hvs => ?_)
  obtain ⟨hl, hq⟩ := hq
  obtain ⟨news, N, Rr⟩ := H'.led
  refine newList_K H'.F N (fun D h' F' N' l1 => ?_) (by rw [← hvs.length, sizeLine_eq]; omega)
  obtain ⟨HH, EE, VV⟩ := fresh1 (tk := s'.toks) (o := .list vs) H' Rr F' N' l1 (fun q => nomatch q)
    ⟨hl, vals, 0, by rw [ext1_f]; exact List.mem_cons_self, (ext_push (o := .list vs) (a := D) (b := 0)).vrs hvs |>.mono fun a b q => by rwa [len_push] at q⟩
  exact hQ _ _ _ _ _ hq (hE.trans EE) HH VV
noncomputable def eTup (Ws : EsW) : EW := fun m σ Q => Ws m σ fun vs σ' => vs.length ≤ 4096 ∧ Q (.obj σ'.length) (σ' ++ [.tup vs])
theorem se_tup {es : List Expr} {Ws : EsW} {k : Nat} {pos : Pos} (h : SEsP Z sc n es Ws) : SE Z sc n (.Tuple es k pos) (eTup Ws) := by
  intro c hc mr α m σ X s Qa Q Er H R hW hQ
  refine Tuple_ (h.sound c hc pos mr α m σ X s _ _ Er H R hW fun vs σ' α' s' vals hq hE H' hvs => ?_)
  obtain ⟨hl, hq⟩ := hq
  obtain ⟨news, N, Rr⟩ := H'.led
  refine newTuple_N H'.F N (fun h' F' N' => ?_) (by rw [← hvs.length, sizeLine_eq]; omega)
  obtain ⟨HH, EE, VV⟩ := fresh1 (tk := s'.toks) (o := .tup vs) H' Rr F' N' (fun p hp => Heap.lt_size (N p hp).1) (fun q => nomatch q)
    ⟨hl, vals, by rw [ext1_f]; exact List.mem_cons_self, (ext_push (o := .tup vs) (a := s'.heap.objs.size) (b := 0)).vrs hvs |>.mono fun a b q => by rwa [len_push] at q⟩
  exact hQ _ _ _ _ _ hq (hE.trans EE) HH VV
noncomputable def eDict0 : EW := fun _ σ Q => Q (.obj σ.length) (σ ++ [.dict []])
theorem se_dict0 {pos : Pos} : SE Z sc n (.Dict [] [] pos) eDict0 := by
  intro c hc mr α m σ X s Qa Q Er H R hW hQ
  obtain ⟨news, N, Rr⟩ := H.led
  refine newDict_K H.F N hc.T.nolimit fun D h' o F' N' l1 lo _ _ hd hf => ?_
  obtain ⟨HH, EE, VV⟩ := fresh1 (tk := s.toks) (o := .dict []) H Rr F' N' l1 (fun q => nomatch q)
    ⟨by simp, o, [], [], by rw [ext1_f]; exact List.mem_cons_self, hd, hf, rfl, by rw [ext1_f]; exact lo, .nil⟩
  exact hQ _ _ _ _ _ hW EE HH VV

-- list + list
noncomputable def eCat (W₁ W₂ : EW) : EW := fun m σ Q => W₁ m σ fun a σ₁ => W₂ m σ₁ fun b σ₂ => ∃ i j vs ws, a = .obj i ∧ b = .obj j ∧ σ₂[i]? = some (.list vs) ∧ σ₂[j]? = some (.list ws) ∧ (vs ++ ws).length ≤ 4096 ∧ Q (.obj σ₂.length) (σ₂ ++ [.list (vs ++ ws)])
theorem se_cat {l r : Expr} {pos : Pos} {W₁ W₂ : EW} (h₁ : SE Z sc n l W₁) (h₂ : SE Z sc n r W₂) : SE Z sc n (.BinOp l .Add r pos) (eCat W₁ W₂) := by
  intro c hc mr α m σ X s Qa Q Er H R hW hQ
  refine wpAny_BinOp (h₁ c hc mr α m σ X s _ _ Er H R hW fun a σ₁ α₁ s₁ va hq hE H₁ ha => ?_)
  refine h₂ c hc mr α₁ m σ₁ X s₁ _ _ Er H₁ (R.ext hE) hq fun b σ₂ α₂ s₂ vb hq₂ hE₂ H₂ hb => ?_
  obtain ⟨i, j, vs, ws, rfl, rfl, hi, hj, hlen, hq₃⟩ := hq₂
  have ha' := hE₂.vr ha
  cases ha'; cases hb
  obtain ⟨news, N, Rr⟩ := H₂.led
  obtain ⟨vals, hl, hvs, hl1⟩ := H₂.list hi
  obtain ⟨wals, hl', hws, hl2⟩ := H₂.list hj
  have e1 := hvs.length
  have e2 := hws.length
  refine add_arrays H₂.F N hl hl' (fun h' F' N' => ?_) (by rw [List.size_toArray, List.size_toArray, sizeLine_eq]; omega)
  have hall := hvs.append hws
  obtain ⟨HH, EE, VV⟩ := fresh1 (tk := s₂.toks) (o := .list (vs ++ ws)) H₂ Rr F' N' (fun p hp => Heap.lt_size (N p hp).1) (fun q => nomatch q)
    ⟨hlen, vals ++ wals, 0, by rw [ext1_f]; exact List.mem_cons_self, (ext_push (o := .list (vs ++ ws)) (a := s₂.heap.objs.size) (b := 0)).vrs hall |>.mono fun a b q => by rwa [len_push] at q⟩
  exact hQ _ _ _ _ _ hq₃ ((hE.trans hE₂).trans EE) HH VV

-- an item
noncomputable def idxV (σ : Hp) (o i : V) (Q : V → Prop) : Prop := match o, i with
  | .obj j, .int k => match σ[j]? with
    | some (.list vs) => ∃ q v, seqIndex? k vs.length = some q ∧ vs[q]? = some v ∧ Q v
    | some (.tup vs) => ∃ q v, seqIndex? k vs.length = some q ∧ vs[q]? = some v ∧ Q v
    | some (.dict kvs) => ∃ v, (kvs.find? fun a => a.1 = k).map (·.2) = some v ∧ Q v
    | _ => False
  | _, _ => False
theorem seqIndex_bounds {k : Int} {n q : Nat} (h : seqIndex? k n = some q) : -(n : Int) ≤ k ∧ k < n ∧ q < n ∧ (if k < 0 then k + n else k) = q := by
  unfold seqIndex? at h
  split at h <;> simp only [Bool.and_eq_true, decide_eq_true_eq] at h <;> split at h <;> simp_all <;> omega
theorem valueAt_of {α : AdMap} {n : Nat} : ∀ {kvs : List (Int × V)} {kvals : List (Int × Value)} {k : Int}, All2 (fun (a : Int × V) (b : Int × Value) => a.1 = b.1 ∧ VR α n a.2 b.2) kvs kvals →
    (∀ v, (kvs.find? fun a => a.1 = k).map (·.2) = some v → ∃ val, valueAt kvals k = some val ∧ VR α n v val) ∧ (valueAt kvals k).isSome = (kvs.any fun a => decide (a.1 = k))
  | _, _, k, .nil => ⟨fun v h => by simp at h, rfl⟩
  | (a, u) :: kvs, (b, w) :: kvals, k, .cons h r => by
    obtain ⟨h1, h2⟩ := h
    simp only at h1 h2
    subst h1
    obtain ⟨i1, i2⟩ := valueAt_of (k := k) r
    unfold valueAt at i1 i2 ⊢
    by_cases hk : a = k
    · subst hk
      refine ⟨fun v hv => ?_, by simp⟩
      simp at hv
      subst hv
      exact ⟨w, by simp, h2⟩
    · simp only [List.find?_cons, hk, decide_false, List.any_cons, Bool.false_or]
      exact ⟨i1, i2⟩
theorem idx_V {c : Cx} {mr : Str → Option Value} {α : AdMap} {σ : Hp} {X : List (Addr × Obj)} {s : Shared} (H : HI Z c mr α σ X s) {o i : V} {ov iv : Value} (ho : VR α σ.length o ov) (hi : VR α σ.length i iv) {value slice : Expr} {Q : Value → Shared → Prop} {A : Around} {Er} {Qp : V → Prop}
    (hs : ∀ a k t, subscripted slice false (.ref a) (.int k t) = operate [.ref a, .int k t] (getItem (.ref a) (.int k t)))
    (hW : idxV σ o i Qp) (h : ∀ v s' val, Qp v → HI Z c mr α σ X s' → VR α σ.length v val → Q val s') : wpAny (model Z.prog Z.w) A (subscriptTail value slice ov iv) Q Er s := by
  unfold idxV at hW
  cases ho <;> cases hi <;> first | exact hW.elim | skip
  rename_i j hj k t
  dsimp only at hW
  cases hx : σ[j]? with
  | none => rw [hx] at hW; exact hW.elim
  | some x =>
    rw [hx] at hW
    cases x with
    | list vs =>
      obtain ⟨q, v, hq, hv, hp⟩ := hW
      obtain ⟨vals, hl, hvs, hlen⟩ := H.list hx
      obtain ⟨val, hval, hvr⟩ := hvs.get hv
      obtain ⟨b1, b2, b3, b4⟩ := seqIndex_bounds hq
      have e := hvs.length
      refine tail_any hl.typeIs slot_list_getitem.lookup ?_ (hs _ _ _)
      by_cases hk : k < 0
      · rw [if_pos hk] at b4
        exact wpAny_getItem_list_neg hl hk (by rw [List.size_toArray, ← e]; omega) (by omega) (by rw [List.size_toArray, ← e, b4]; simpa using hval) (h v s val hp H hvr)
      · rw [if_neg hk] at b4
        exact wpAny_getItem_list hl (by omega) (by omega) (by rw [b4]; simpa using hval) (h v s val hp H hvr)
    | tup vs =>
      obtain ⟨q, v, hq, hv, hp⟩ := hW
      obtain ⟨vals, hl, hvs, hlen⟩ := H.tup hx
      obtain ⟨val, hval, hvr⟩ := hvs.get hv
      obtain ⟨b1, b2, b3, b4⟩ := seqIndex_bounds hq
      have e := hvs.length
      exact item_tupleT hl (by omega) (by omega) (by rw [← e]; exact hq) hval (h v s val hp H hvr) (hs _ _ _)
    | dict kvs =>
      obtain ⟨v, hv, hp⟩ := hW
      obtain ⟨news, N, R⟩ := H.led
      obtain ⟨_, ob, kvals, D, hm, hd, hf, _, lo, ha⟩ := R.rel j _ hx
      obtain ⟨val, h1, h2⟩ := (valueAt_of (k := k) ha).1 v hv
      have hD : s.heap.DictOf (intKind Z.prog Z.w) (α j false) kvals := Heap.dictOf_iff.mpr ⟨ob, N.get hm, hd⟩
      exact tail_any hD.mapOf.typeIs slot_dict_getitem.lookup (wpAny_getItem_of (k := k) (intKind_is _ _ _ _) hD.mapOf h1 (h v _ val hp (H.toks _) h2)) (hs _ _ _)
    | inst C as => exact hW.elim
    | gone => exact hW.elim
noncomputable def eIdx (Wo Wi : EW) : EW := fun m σ Q => Wo m σ fun o σ₁ => Wi m σ₁ fun i σ₂ => idxV σ₂ o i fun v => Q v σ₂
theorem se_idx {o i : Expr} {pos : Pos} {Wo Wi : EW} (h₁ : SE Z sc n o Wo) (h₂ : SE Z sc n i Wi) (hs : ∀ a k t, subscripted i false (.ref a) (.int k t) = operate [.ref a, .int k t] (getItem (.ref a) (.int k t))) : SE Z sc n (.Subscript o i pos) (eIdx Wo Wi) := by
  intro c hc mr α m σ X s Qa Q Er H R hW hQ
  refine Subscript_ (h₁ c hc mr α m σ X s _ _ Er H R hW fun a σ₁ α₁ s₁ va hq hE H₁ ha => ?_)
  refine h₂ c hc mr α₁ m σ₁ X s₁ _ _ Er H₁ (R.ext hE) hq fun b σ₂ α₂ s₂ vb hq₂ hE₂ H₂ hb => ?_
  exact idx_V H₂ (hE₂.vr ha) hb hs hq₂ fun v s' val hv H' hvr => hQ v σ₂ α₂ s' val hv (hE.trans hE₂) H' hvr
end

section
variable {Z : Fix} {sc : Scope} {n : Nat}

-- in
noncomputable def inV (σ : Hp) (a b : V) (Q : Bool → Prop) : Prop := match a, b with
  | .int k, .obj j => match σ[j]? with
    | some (.list vs) => match intsOf vs with
      | some ns => Q (ns.any (· == k))
      | Option.none => False
    | some (.tup vs) => match intsOf vs with
      | some ns => Q (ns.any (· == k))
      | Option.none => False
    | some (.dict kvs) => Q (kvs.any fun a => decide (a.1 = k))
    | _ => False
  | _, _ => False
theorem in_V {c : Cx} {mr : Str → Option Value} {α : AdMap} {σ : Hp} {X : List (Addr × Obj)} {s : Shared} (H : HI Z c mr α σ X s) {a b : V} {av bv : Value} (ha : VR α σ.length a av) (hb : VR α σ.length b bv) {neg : Bool} {Q : Value → Shared → Prop} {A : Around} {Er} {Qp : Bool → Prop}
    (hW : inV σ a b Qp) (h : ∀ t s', Qp t → HI Z c mr α σ X s' → Q (.bool (t != neg)) s') : wpAny (model Z.prog Z.w) A (compareOp (if neg then .NotIn else .In) av bv) Q Er s := by
  unfold inV at hW
  cases ha <;> cases hb <;> first | exact hW.elim | skip
  rename_i k t j hj
  dsimp only at hW
  cases hx : σ[j]? with
  | none => rw [hx] at hW; exact hW.elim
  | some x =>
    rw [hx] at hW
    cases x with
    | list vs =>
      dsimp only at hW
      cases hn : intsOf vs with
      | none => rw [hn] at hW; exact hW.elim
      | some ns =>
        rw [hn] at hW
        obtain rfl := intsOf_eq hn
        obtain ⟨vals, hl, hvs, hlen⟩ := H.list hx
        cases neg
        · exact in_list_ints hl (ints_are hvs) (by have := h _ s hW H; rwa [Bool.bne_false] at this)
        · exact notin_list_ints hl (ints_are hvs) (by have := h _ s hW H; rwa [Bool.bne_true] at this)
    | tup vs =>
      dsimp only at hW
      cases hn : intsOf vs with
      | none => rw [hn] at hW; exact hW.elim
      | some ns =>
        rw [hn] at hW
        obtain rfl := intsOf_eq hn
        obtain ⟨vals, hl, hvs, hlen⟩ := H.tup hx
        have hi : IntsAre vals.toArray.toList ns := ints_are hvs
        cases neg
        · exact in_tuple_ints hl hi (by have := h _ s hW H; rwa [Bool.bne_false] at this)
        · exact notin_tuple_ints hl hi (by have := h _ s hW H; rwa [Bool.bne_true] at this)
    | dict kvs =>
      obtain ⟨news, N, R⟩ := H.led
      obtain ⟨_, ob, kvals, D, hm, hd, hf, _, lo, ha⟩ := R.rel j _ hx
      have e := (valueAt_of (k := k) ha).2
      have hD : s.heap.DictOf (intKind Z.prog Z.w) (α j false) kvals := Heap.dictOf_iff.mpr ⟨ob, N.get hm, hd⟩
      cases neg
      · exact wpAny_in_of (k := k) (intKind_is _ _ _ _) lo hD.mapOf (by rw [e]; have := h _ _ hW (H.toks (s.toks + 1)); rwa [Bool.bne_false] at this)
      · exact wpAny_notIn_of (k := k) (intKind_is _ _ _ _) lo hD.mapOf (by rw [e]; have := h _ _ hW (H.toks (s.toks + 1)); rwa [Bool.bne_true] at this)
    | inst C as => exact hW.elim
    | gone => exact hW.elim
noncomputable def eInG (neg : Bool) (W₁ W₂ : EW) (m : Loc) (σ : Hp) (Q : Bool → Hp → Prop) : Prop := W₁ m σ fun a σ₁ => W₂ m σ₁ fun b σ₂ => inV σ₂ a b fun t => Q (t != neg) σ₂
noncomputable def tIn (neg : Bool) (W₁ W₂ : EW) : TW := fun m σ Q => eInG neg W₁ W₂ m σ Q
noncomputable def eIn (neg : Bool) (W₁ W₂ : EW) : EW := fun m σ Q => eInG neg W₁ W₂ m σ fun b => Q (.bool b)
theorem st_in {neg : Bool} {op : CmpOp} {l r : Expr} {pos : Pos} {W₁ W₂ : EW} (ho : op = if neg then .NotIn else .In) (h₁ : SE Z sc n l W₁) (h₂ : SE Z sc n r W₂) (hm : behindInMarks op r = false) : STst Z sc n (.Compare l [op] [r] pos) (tIn neg W₁ W₂) := by
  subst ho
  intro c hc mr α m σ X s Qa Q Er H R hW hQ
  refine wpAny_isTrue_Compare1 (h₁ c hc mr α m σ X s _ _ Er H R hW fun a σ₁ α₁ s₁ va hq hE H₁ ha => ?_) hm
  refine h₂ c hc mr α₁ m σ₁ X s₁ _ _ Er H₁ (R.ext hE) hq fun b σ₂ α₂ s₂ vb hq₂ hE₂ H₂ hb => ?_
  exact in_V H₂ (hE₂.vr ha) hb hq₂ fun t s' ht H' => wpAny_truthy_bool (hQ _ σ₂ α₂ s' ht (hE.trans hE₂) H')
theorem se_in {neg : Bool} {op : CmpOp} {l r : Expr} {pos : Pos} {W₁ W₂ : EW} (ho : op = if neg then .NotIn else .In) (h₁ : SE Z sc n l W₁) (h₂ : SE Z sc n r W₂) (hm : behindInMarks op r = false) : SE Z sc n (.Compare l [op] [r] pos) (eIn neg W₁ W₂) := by
  subst ho
  intro c hc mr α m σ X s Qa Q Er H R hW hQ
  refine wpAny_Compare1 (h₁ c hc mr α m σ X s _ _ Er H R hW fun a σ₁ α₁ s₁ va hq hE H₁ ha => ?_) hm
  refine h₂ c hc mr α₁ m σ₁ X s₁ _ _ Er H₁ (R.ext hE) hq fun b σ₂ α₂ s₂ vb hq₂ hE₂ H₂ hb => ?_
  exact in_V H₂ (hE₂.vr ha) hb hq₂ fun t s' ht H' => hQ _ σ₂ α₂ s' _ ht (hE.trans hE₂) H' (.bool _)

-- list.append
theorem HI.setObj {c : Cx} {mr : Str → Option Value} {α : AdMap} {σ : Hp} {X : List (Addr × Obj)} {s : Shared} (H : HI Z c mr α σ X s) {news : List (Addr × Obj)} (R : Rl Z.T Z.prog Z.w α σ X news) {i : Nat} {o₀ o' : O} {oR q : Obj} {h' : Heap} {tk : Nat}
    (ho : σ[i]? = some o₀) (hb : o₀.has false) (hm : (α i false, oR) ∈ news) (hk : ∀ c, o'.has c → o₀.has c) (hnew : OR Z.T Z.prog Z.w α σ.length i (upd news (α i false) q) o')
    (F' : Fr c.h₀ c.L h' mr) (N' : News c.h₀ c.L h' (upd news (α i false) q)) : HI Z c mr α (σ.set i o') X { s with heap := h', toks := tk } :=
  let ⟨_, _, he⟩ := H.ex
  ⟨F', ⟨_, N', R.set ho hb hm hk hnew⟩, ⟨h', tk, by rw [he]⟩⟩

noncomputable def sApp (Wo W : EW) : EW := fun m σ Q => Wo m σ fun o σ₁ => (∃ i vs, o = .obj i ∧ σ₁[i]? = some (.list vs)) ∧ W m σ₁ fun v σ₂ => ∃ i vs, o = .obj i ∧ σ₂[i]? = some (.list vs) ∧ vs.length < 4096 ∧ Q .none (σ₂.set i (.list (vs ++ [v])))
theorem se_append {o e : Expr} {nm : Str} {apos pos : Pos} {Wo W : EW} (hn : nm = Str.ofString "append") (ho : SE Z sc n o Wo) (h : SE Z sc n e W) (hst : ∀ env, starEach [e] env = (false, eval e env) :: starEach [] env)
    (he : ∀ env, ∃ pl pos', eval (.Call (.Attribute o nm apos) [e] [] pos) env = (do
      let ov ← eval o env
      standAt apos.atName
      let (f, first) ← holding [ov] (getMethod ov nm pl)
      callWith pos' f first (backTo pos' (starEach [e] env)) [])) : SE Z sc n (.Call (.Attribute o nm apos) [e] [] pos) (sApp Wo W) := by
  subst hn
  intro c hc mr α m σ X s Qa Q Er H R hW hQ
  obtain ⟨pl, pos', he⟩ := he c.env
  rw [he]
  refine wpAny_bind (ho c hc mr α m σ X s _ _ Er H R hW fun ov σ₁ α₁ s₁ val hq hE H₁ hv => wpAny_bind (wpAny_standAt (wpAny_bind (wpAny_holding ?_))))
  obtain ⟨⟨i, vs, rfl, hi⟩, hq⟩ := hq
  cases hv
  rename_i hlt
  obtain ⟨news, N, Rr⟩ := H₁.led
  obtain ⟨_, vals, k, hm, hvs⟩ := Rr.rel i _ hi
  refine getMethod_list_append (N.get hm) rfl rfl ?_
  dsimp only
  refine callWith_blt hc h hst H₁ (R.ext hE) hq fun v σ₂ α₂ s₂ val₂ hq₂ hE₂ H₂ hv₂ => ?_
  obtain ⟨i', vs', e', hi', hlen, hq₃⟩ := hq₂
  cases e'
  obtain ⟨news₂, N₂, Rr₂⟩ := H₂.led
  obtain ⟨_, vals', k', hm', hvs'⟩ := Rr₂.rel i _ hi'
  rw [← hE₂.2 i hlt false]
  have hlen' := hvs'.length
  obtain ⟨U, _⟩ := upd_exists (o' := listOf (vals'.toArray.push val₂) (k' + 1)) Rr₂.nd hm'
  refine append_K H₂.F N₂ U (fun h' F' N' => ?_) (by rw [List.size_toArray, sizeLine_eq]; omega)
  have HH := H₂.setObj Rr₂ (o' := .list (vs' ++ [v])) (tk := s₂.toks) hi' rfl hm' (fun _ q => q)
    ⟨by simp; omega, vals' ++ [val₂], k' + 1, by
      have := upd_mem (q := listOf (vals'.toArray.push val₂) (k' + 1)) hm'
      rw [List.push_toArray] at this
      rw [List.push_toArray]
      exact this, hvs'.append (.cons hv₂ .nil)⟩ F' N'
  exact hQ .none _ α₂ _ _ hq₃ ((hE.trans hE₂).trans ext_set) HH .none

-- dict[int] = bool
noncomputable def putD (kvs : List (Int × V)) (k : Int) (v : V) : List (Int × V) := if kvs.any (fun a => decide (a.1 = k)) then kvs.map (fun a => if a.1 = k then (a.1, v) else a) else kvs ++ [(k, v)]
theorem stored_rel {α : AdMap} {n : Nat} {kvs : List (Int × V)} {kvals : List (Int × Value)} {k : Int} {v : V} {val : Value} (h : All2 (fun (a : Int × V) (b : Int × Value) => a.1 = b.1 ∧ VR α n a.2 b.2) kvs kvals) (hv : VR α n v val) :
    All2 (fun (a : Int × V) (b : Int × Value) => a.1 = b.1 ∧ VR α n a.2 b.2) (putD kvs k v) (stored kvals k val) := by
  have hany : (kvs.any fun a => decide (a.1 = k)) = kvals.any (fun kv => decide (kv.1 = k)) := by
    induction h with
    | nil => rfl
    | cons h _ ih => simp only [List.any_cons, h.1, ih]
  unfold putD stored
  rw [hany]
  clear hany
  split
  · rename_i hsplit
    clear hsplit
    induction h with
    | nil => exact .nil
    | cons h _ ih =>
      rename_i a b _ _ _
      simp only [List.map_cons]
      refine .cons ?_ ih
      by_cases hk : a.1 = k
      · rw [if_pos hk, if_pos (h.1 ▸ hk)]; exact ⟨h.1, hv⟩
      · rw [if_neg hk, if_neg (h.1 ▸ hk)]; exact h
  · exact h.append (.cons ⟨rfl, hv⟩ .nil)
theorem putD_length {kvs : List (Int × V)} {k : Int} {v : V} : (putD kvs k v).length ≤ kvs.length + 1 := by
  unfold putD
  split <;> simp
noncomputable def sSetItem (W Wo Wi : EW) : SW := fun m σ Q => W m σ fun v σ₁ => Wo m σ₁ fun o σ₂ => Wi m σ₂ fun i σ₃ => ∃ j kvs k b, o = .obj j ∧ i = .int k ∧ v = .bool b ∧ σ₃[j]? = some (.dict kvs) ∧ kvs.length < 4096 ∧ Q .next m (σ₃.set j (.dict (putD kvs k v)))
theorem ss_setitem {e o i : Expr} {W Wo Wi : EW} {p pos : Pos} (h : SE Z sc n e W) (ho : SE Z sc n o Wo) (hi : SE Z sc n i Wi) (hs : ∀ env, swapsWith e (some (.Subscript o i p)) pos.line env = pure false) : SS Z sc n (.Assign [.Subscript o i p] e pos) (sSetItem W Wo Wi) := by
  intro c hc hf mr α m σ Cs X s Qa Q Er hcs H R hW hQ
  refine wpAny_Assign_Subscript ?_ (hs c.env)
  refine h c hc mr α m σ (Cs ++ X) s _ _ Er H R hW fun v σ₁ α₁ s₁ vv hq hE H₁ hv => ?_
  refine ho c hc mr α₁ m σ₁ (Cs ++ X) s₁ _ _ Er H₁ (R.ext hE) hq fun ob σ₂ α₂ s₂ ov hq₂ hE₂ H₂ hov => ?_
  have hR := (R.ext hE).ext hE₂
  refine hi c hc mr α₂ m σ₂ (Cs ++ X) s₂ _ _ Er H₂ hR hq₂ fun ii σ₃ α₃ s₃ iv hq₃ hE₃ H₃ hiv => ?_
  obtain ⟨j, kvs, k, b, rfl, rfl, rfl, hj, hlen, hq₄⟩ := hq₃
  have hov' := hE₃.vr hov
  cases hov'; cases hiv; cases hv
  obtain ⟨news, N, Rr⟩ := H₃.led
  obtain ⟨_, od, kvals, D, hm, hd, hfl, hDl, lo, ha⟩ := Rr.rel j _ hj
  obtain ⟨_, U⟩ := upd_exists (o' := od) Rr.nd hm
  have hkl := ha.length
  refine setItem_K PyProof.V.same_int (intKind_is _ _ _ _) (Flat.bool b) H₃.F N U hd hfl (fun h' o' F' N' hd' hf' => ?_) (by rw [hDl, ← hkl, sizeLine_eq]; omega)
  have HH := H₃.setObj Rr (o' := .dict (putD kvs k (.bool b))) (tk := s₃.toks + 1) hj rfl hm (fun _ q => q)
    ⟨Nat.le_trans putD_length hlen, o', _, _, upd_mem hm, hd', hf', hf'.length.symm ▸ rfl, lo, stored_rel ha (.bool b)⟩ F' N'
  exact hQ .next m _ mr Cs α₃ _ .next hq₄ (((hE.trans hE₂).trans hE₃).trans ext_set) hcs HH ((hR.ext hE₃).ext ext_set) .next

-- for
noncomputable def forW (i : Nat) (o : O) (x : Nat) (Wb : SW) : List V → Loc → Hp → (Fl → Loc → Hp → Prop) → Prop
  | [], m, σ, Q => σ[i]? = some .gone ∧ Q .next m (σ.set i o)
  | v :: r, m, σ, Q => Wb (put m x v) σ fun fl m' σ' => match fl with
    | .next => forW i o x Wb r m' σ' Q
    | .cont => forW i o x Wb r m' σ' Q
    | .brk => σ'[i]? = some .gone ∧ Q .next m' (σ'.set i o)
    | .ret u => σ'[i]? = some .gone ∧ Q (.ret u) m' (σ'.set i o)
noncomputable def sFor (x : Nat) (We : EW) (Wb : SW) : SW := fun m σ Q => We m σ fun v σ₁ => ∃ i o vs, v = .obj i ∧ σ₁[i]? = some o ∧ (o = .list vs ∨ o = .tup vs) ∧ forW i o x Wb vs m (σ₁.set i .gone) Q

theorem Rl.drop {T : Names} {prog : Program} {w : World} {α : AdMap} {σ : Hp} {X news : List (Addr × Obj)} {a : Addr} {oR : Obj} (R : Rl T prog w α σ ((a, oR) :: X) news) (hX : ∀ p ∈ X, p.1 ≠ a) : Rl T prog w α σ X (news.filter fun p => !decide (p.1 = a)) := by
  have hmem : ∀ {p : Addr × Obj}, p ∈ news → p.1 ≠ a → p ∈ news.filter fun p => !decide (p.1 = a) := fun hp hne => List.mem_filter.mpr ⟨hp, by simpa using hne⟩
  refine ⟨?_, fun i o hi => ?_, R.inj, fun p hp => hmem (R.sub p (List.mem_cons_of_mem _ hp)) (hX p hp), fun p hp => R.off p (List.mem_cons_of_mem _ hp)⟩
  · exact List.Pairwise.sublist (List.Sublist.map _ List.filter_sublist) R.nd
  · exact (R.rel i o hi).mono (Nat.le_refl _) (fun _ _ => rfl) (fun _ _ => rfl) fun p hp b hb e => hmem hp fun q => R.off (a, oR) List.mem_cons_self i b ⟨o, hi, hb⟩ (q.symm.trans e)

theorem seq_or {α : AdMap} {k i : Nat} {news : List (Addr × Obj)} {o : O} {vs : List V} (ho : o = .list vs ∨ o = .tup vs) (h : OR Z.T Z.prog Z.w α k i news o) :
    vs.length ≤ 4096 ∧ ∃ (vals : List Value) (nm : String) (cnt : Nat) (lo : Obj), (α i false, lo) ∈ news ∧ lo.cls = .type nm ∧ lo.data = .seq vals.toArray cnt ∧ All2 (VR α k) vs vals ∧ ((o = .list vs ∧ nm = "list") ∨ (o = .tup vs ∧ nm = "tuple")) ∧
      ∀ (α' : AdMap) (k' : Nat) (news' : List (Addr × Obj)), α' i false = α i false → (α i false, lo) ∈ news' → All2 (VR α' k') vs vals → OR Z.T Z.prog Z.w α' k' i news' o := by
  rcases ho with rfl | rfl
  · obtain ⟨l, vals, k', hm, hv⟩ := h
    exact ⟨l, vals, "list", k', _, hm, rfl, rfl, hv, .inl ⟨rfl, rfl⟩, fun α' k'' news' e hm' hv' => ⟨l, vals, k', e ▸ hm', hv'⟩⟩
  · obtain ⟨l, vals, hm, hv⟩ := h
    exact ⟨l, vals, "tuple", _, _, hm, rfl, rfl, hv, .inr ⟨rfl, rfl⟩, fun α' k'' news' e hm' hv' => ⟨l, vals, e ▸ hm', hv'⟩⟩

theorem for_rest {c : Cx} (hc : c.Ok Z sc n) (hf : FnSt c sc) {x : Nat} {nm : Str} {p : Pos} {body : List Stmt} {Wb : SW} {Cs₀ X : List (Addr × Obj)} {s : Shared} {Qa : Fl → Loc → Hp → Prop} {Q : Flow → Shared → Prop} {i : Nat} {o : O} {vs₀ : List V} {lo : Obj} {ax I : Addr} {itn : String}
    (hb : SSs Z sc n body Wb) (hx : Z.T.s x = nm) (hn : x < Z.T.n) (hk : storeOkB sc nm = true) (hax : ∀ p ∈ X, p.1 ≠ ax) (hhas : ∀ b, o.has b → b = false) (hI : ∀ p ∈ X, p.1 ≠ I) (hIax : ax ≠ I)
    (hex : ∃ h tk, s = { c.s₀ with heap := h, toks := tk }) {α₀ : AdMap} {σ₀ : Hp}
    (hor : ∀ (α' : AdMap) (σ' : Hp) (news' : List (Addr × Obj)), Ext α₀ σ₀ α' σ' → (ax, lo) ∈ news' → α' i false = ax ∧ OR Z.T Z.prog Z.w α' σ'.length i news' o)
    (hQ : ∀ fl m' σ' mr' Cs' α' s' f, Qa fl m' σ' → Ext α₀ σ₀ α' σ' → CellsOk c.env Cs' X → HI Z c mr' α' σ' (Cs' ++ X) s' → NR Z c mr' α' σ'.length (Cs' ++ X) m' → FlR α' σ'.length fl f → Q f s') :
    ∀ (vs : List V) (vals : List Value) (mr : Str → Option Value) (α : AdMap) (m : Loc) (σ : Hp) (Cs news : List (Addr × Obj)), Ext α₀ σ₀ α σ → All2 (VR α σ.length) vs vals → CellsOk c.env Cs ((ax, lo) :: X) → Rl Z.T Z.prog Z.w α σ (Cs ++ ((ax, lo) :: X)) news →
      NR Z c mr α σ.length (Cs ++ ((ax, lo) :: X)) m → (∀ p ∈ news, p.1 ≠ I) → forW i o x Wb vs m σ Qa →
      ItemsRest Z.prog Z.w c.A (fun _ _ => False) c.h₀ c.env (.Name nm p) body Q s [(I, itn)] [(ax, lo)] (vals.map Itm.val) mr news := by
  subst hx
  -- what is needed when the loop ends in a state
  have fin : ∀ {mr : Str → Option Value} {α : AdMap} {m : Loc} {σ : Hp} {Cs news : List (Addr × Obj)} {h : Heap} {tk : Nat} {fl : Fl} {f : Flow}, Ext α₀ σ₀ α σ → CellsOk c.env Cs ((ax, lo) :: X) → Rl Z.T Z.prog Z.w α σ (Cs ++ ((ax, lo) :: X)) news →
      NR Z c mr α σ.length (Cs ++ ((ax, lo) :: X)) m → Fr c.h₀ c.L h mr → News c.h₀ c.L h news → σ[i]? = some .gone → Qa fl m (σ.set i o) → FlR α σ.length fl f → Q f { s with heap := h, toks := tk } := by
    intro mr α m σ Cs news h tk fl f hE hcs Rr R F N hg hq hfl
    have hsub : ∀ p ∈ (ax, lo) :: (Cs ++ X), p ∈ Cs ++ ((ax, lo) :: X) := fun p hp => by
      rcases List.mem_cons.mp hp with rfl | hp
      · exact List.mem_append_right _ List.mem_cons_self
      · rcases List.mem_append.mp hp with hp | hp
        · exact List.mem_append_left _ hp
        · exact List.mem_append_right _ (List.mem_cons_of_mem _ hp)
    obtain ⟨ea, eo⟩ := hor α σ news hE (Rr.sub _ (hsub _ List.mem_cons_self))
    have Rr' : Rl Z.T Z.prog Z.w α (σ.set i o) (Cs ++ X) news := (Rr.subX hsub).unlock ea.symm hg hhas (fun p hp => by
      rcases List.mem_append.mp hp with hp | hp
      · exact hcs.off p hp (ax, lo) List.mem_cons_self
      · exact hax p hp) eo
    obtain ⟨hh, tk', he⟩ := hex
    refine hQ fl m (σ.set i o) mr Cs α _ f hq (hE.trans ext_set) ⟨hcs.has, hcs.inj, fun p hp q hq => hcs.off p hp q (List.mem_cons_of_mem _ hq)⟩ ⟨F, ⟨news, N, Rr'⟩, ⟨h, tk, by rw [he]⟩⟩ (fun y v hy => ?_) (by rw [List.length_set]; exact hfl)
    rw [List.length_set]
    obtain ⟨a, val, b, d⟩ := R y v hy
    refine ⟨a, val, b, ?_⟩
    rcases d with d | ⟨d1, oC, m₂, d2, d3⟩ | ⟨d1, cc, oc, d2, d3, d4⟩
    · exact .inl d
    · exfalso
      exact (N _ (Rr.sub _ d2)).2.1 (by rw [hf.loc])
    · refine .inr (.inr ⟨d1, cc, oc, d2, ?_, d4⟩)
      obtain ⟨o2, v2, h2, h3⟩ := hcs.has _ _ d2
      have e1 := (N _ (Rr.sub _ d3)).1
      have e2 := (N _ (Rr.sub _ (List.mem_append_left _ h2))).1
      have : oc = o2 := Option.some.inj (e1.symm.trans e2)
      rw [this]
      exact List.mem_append_left _ h2
  intro vs
  induction vs with
  | nil =>
    intro vals mr α m σ Cs news hE hv hcs Rr R hIn hW
    cases hv
    refine ItemsRest.zero fun h tk F N => ?_
    exact fin hE hcs Rr R (hf.loc ▸ F) (hf.loc ▸ N) hW.1 hW.2 .next
  | cons v vs ih =>
    intro vals mr α m σ Cs news hE hv hcs Rr R hIn hW
    cases hv with
    | cons hv1 hv2 =>
    rename_i val vals
    refine ItemsRest.val fun h tk F => ?_
    refine AllObj.cons fun it hit => AllObj.nil fun N => ?_
    have N' : News c.h₀ c.L h ((I, it) :: news) := hf.loc ▸ N
    have F' : Fr c.h₀ c.L h mr := hf.loc ▸ F
    have nd : (((I, it) :: news).map (·.1)).Nodup := by
      rw [List.map_cons, List.nodup_cons]
      exact ⟨fun q => by obtain ⟨p, hp, e⟩ := List.mem_map.mp q; exact hIn p hp e, Rr.nd⟩
    have Rr1 : Rl Z.T Z.prog Z.w α σ (Cs ++ ((I, it) :: (ax, lo) :: X)) ((I, it) :: news) := by
      have := Rr.addX (add := [(I, it)]) nd
      refine this.subX fun p hp => ?_
      rcases List.mem_append.mp hp with hp | hp
      · exact List.mem_append_right _ (List.mem_append_left _ hp)
      · rcases List.mem_cons.mp hp with rfl | hp
        · exact List.mem_append_left _ List.mem_cons_self
        · exact List.mem_append_right _ (List.mem_append_right _ hp)
    obtain ⟨hh, tk', he⟩ := hex
    have H1 : HI Z c mr α σ (Cs ++ ((I, it) :: (ax, lo) :: X)) { s with heap := h, toks := tk } := ⟨F', ⟨_, N', Rr1⟩, ⟨h, tk, by rw [he]⟩⟩
    have hcs1 : CellsOk c.env Cs ((I, it) :: (ax, lo) :: X) := ⟨hcs.has, hcs.inj, fun p hp q hq => by
      rcases List.mem_cons.mp hq with rfl | hq
      · exact hIn p (Rr.sub p (List.mem_append_left _ hp))
      · exact hcs.off p hp q hq⟩
    have R1 : NR Z c mr α σ.length (Cs ++ ((I, it) :: (ax, lo) :: X)) m := fun y u hy => by
      obtain ⟨a, val', b, d⟩ := R y u hy
      refine ⟨a, val', b, ?_⟩
      have up : ∀ p ∈ Cs ++ ((ax, lo) :: X), p ∈ Cs ++ ((I, it) :: (ax, lo) :: X) := fun p hp => by
        rcases List.mem_append.mp hp with hp | hp
        · exact List.mem_append_left _ hp
        · exact List.mem_append_right _ (List.mem_cons_of_mem _ hp)
      rcases d with d | ⟨d1, oC, m₂, d2, d3⟩ | ⟨d1, cc, oc, d2, d3, d4⟩
      · exact .inl d
      · exact .inr (.inl ⟨d1, oC, m₂, up _ d2, d3⟩)
      · exact .inr (.inr ⟨d1, cc, oc, d2, up _ d3, d4⟩)
    refine assign_Name ?_
    refine store_name hc hf hn (storeOkB_iff hk) hcs1 H1 R1 hv1 fun mr2 Cs2 s2 hcs2 H2 R2 => ?_
    obtain ⟨h2, tk2, he2⟩ := H2.ex
    have hs2 : s2 = { ({ s with heap := h, toks := tk } : Shared) with heap := h2, toks := tk2 } := by rw [he2, he]
    refine hb c hc hf mr2 α _ σ Cs2 _ s2 _ _ (fun _ _ => False) hcs2 H2 R2 hW fun fl m3 σ3 mr3 Cs3 α3 s3 f hq3 hE3 hcs3 H3 R3 hfl3 => ?_
    obtain ⟨news3, N3, Rr3⟩ := H3.led
    obtain ⟨h3, tk3, he3⟩ := H3.ex
    have hs3 : s3 = { s with heap := h3, toks := tk3 } := by rw [he3, he]
    have Rr3' : Rl Z.T Z.prog Z.w α3 σ3 (Cs3 ++ ((ax, lo) :: X)) (news3.filter fun p => !decide (p.1 = I)) := by
      refine Rl.drop (a := I) (oR := it) (Rr3.subX fun p hp => ?_) fun p hp => ?_
      · rcases List.mem_cons.mp hp with rfl | hp
        · exact List.mem_append_right _ List.mem_cons_self
        · rcases List.mem_append.mp hp with hp | hp
          · exact List.mem_append_left _ hp
          · exact List.mem_append_right _ (List.mem_cons_of_mem _ hp)
      · rcases List.mem_append.mp hp with hp | hp
        · exact hcs3.off p hp (I, it) List.mem_cons_self
        · rcases List.mem_cons.mp hp with rfl | hp
          · exact hIax
          · exact hI p hp
    have N3' : News c.h₀ c.L s3.heap (news3.filter fun p => !decide (p.1 = I)) := fun p hp => N3 p (List.mem_filter.mp hp).1
    have hcs3' : CellsOk c.env Cs3 ((ax, lo) :: X) := ⟨hcs3.has, hcs3.inj, fun p hp q hq => hcs3.off p hp q (List.mem_cons_of_mem _ hq)⟩
    have R3' : NR Z c mr3 α3 σ3.length (Cs3 ++ ((ax, lo) :: X)) m3 := fun y u hy => by
      obtain ⟨a, val', b, d⟩ := R3 y u hy
      refine ⟨a, val', b, ?_⟩
      rcases d with d | ⟨d1, oC, m₂, d2, d3⟩ | ⟨d1, cc, oc, d2, d3, d4⟩
      · exact .inl d
      · exfalso
        exact (N3 _ (Rr3.sub _ d2)).2.1 (by rw [hf.loc])
      · refine .inr (.inr ⟨d1, cc, oc, d2, ?_, d4⟩)
        obtain ⟨o2, v2, h2', h3'⟩ := hcs3.has _ _ d2
        have e1 := (N3 _ (Rr3.sub _ d3)).1
        have e2 := (N3 _ (Rr3.sub _ (List.mem_append_left _ h2'))).1
        have : oc = o2 := Option.some.inj (e1.symm.trans e2)
        rw [this]
        exact List.mem_append_left _ h2'
    have hE' : Ext α₀ σ₀ α3 σ3 := hE.trans hE3
    have hIn3 : ∀ p ∈ news3.filter (fun p => !decide (p.1 = I)), p.1 ≠ I := fun p hp => by simpa using (List.mem_filter.mp hp).2
    have goOn : forW i o x Wb vs m3 σ3 Qa → UnrEndW c.h₀ c.env.locals { s with heap := h, toks := tk } [(I, it)] (fun m' n' => SubL [(ax, lo)] n' ∧ ItemsRest Z.prog Z.w c.A (fun _ _ => False) c.h₀ c.env (.Name (Z.T.s x) p) body Q s [(I, itn)] [(ax, lo)] (vals.map Itm.val) m' n') s3 := fun hgo => by
      refine ⟨h3, tk3, mr3, news3.filter fun p => !decide (p.1 = I), by rw [hs3], ?_, ?_, ?_, ⟨?_, trivial⟩, ?_⟩
      · have := H3.F; rw [hs3] at this; exact hf.loc ▸ this
      · have e3 : s3.heap = h3 := by rw [hs3]
        intro q hq
        rw [hf.loc, ← e3]
        rcases List.mem_cons.mp hq with rfl | hq
        · exact N3 _ (Rr3.sub _ (List.mem_append_right _ List.mem_cons_self))
        · exact N3' q hq
      · intro q hq r hr
        rw [List.mem_singleton.mp hr]
        exact hIn3 q hq
      · exact Rr3'.sub _ (List.mem_append_right _ List.mem_cons_self)
      · exact ih vals mr3 α3 m3 σ3 Cs3 _ hE' (hE3.vrs hv2) hcs3' Rr3' R3' hIn3 hgo
    have hs3h : ({ s with heap := s3.heap, toks := s3.toks } : Shared) = s3 := by rw [hs3]
    cases hfl3 with
    | next => exact goOn hq3
    | cont => exact goOn hq3
    | brk =>
      have := fin (tk := s3.toks) hE' hcs3' Rr3' R3' H3.F N3' hq3.1 hq3.2 .next
      rw [hs3h] at this
      exact this
    | ret hvr =>
      have := fin (tk := s3.toks) hE' hcs3' Rr3' R3' H3.F N3' hq3.1 hq3.2 (.ret hvr)
      rw [hs3h] at this
      exact this

theorem ss_for {x : Nat} {nm : Str} {p pos : Pos} {iter : Expr} {body : List Stmt} {We : EW} {Wb : SW} (h : SE Z sc n iter We) (hb : SSs Z sc n body Wb) (hx : Z.T.s x = nm) (hn : x < Z.T.n) (hk : storeOkB sc nm = true) (hs : ∀ env v, foldedSetIterable iter env v = pure v) :
    SS Z sc n (.For (.Name nm p) iter body [] pos) (sFor x We Wb) := by
  intro c hc hf mr α m σ Cs X s Qa Q Er hcs H R hW hQ
  refine wpAny_mono (E := fun _ _ => False) ?_ (fun _ _ x => x) (fun _ _ x => x.elim)
  refine For_turns (h₀ := c.h₀) (hf.loc ▸ H.F) ?_ (hs c.env) .never
  refine h c hc mr α m σ (Cs ++ X) s _ _ _ H R hW fun v σ₁ α₁ s₁ val hq hE H₁ hv => ?_
  obtain ⟨i, o, vs, rfl, hi, ho, hfor⟩ := hq
  cases hv
  rename_i hlt
  obtain ⟨news, N, Rr⟩ := H₁.led
  obtain ⟨hlen, vals, nm', cnt, lo, hm, hcls, hdata, hvs, hkind, hback⟩ := seq_or (Z := Z) ho (Rr.rel i o hi)
  have hhas0 : o.has false := by rcases ho with rfl | rfl <;> rfl
  have hhas : ∀ b, o.has b → b = false := fun b hb => by rcases ho with rfl | rfl <;> exact hb
  have Rl1 : Rl Z.T Z.prog Z.w α₁ (σ₁.set i .gone) (Cs ++ ((α₁ i false, lo) :: X)) news := (Rr.lock hi hhas0 hm).subX fun q hq => by
    rcases List.mem_append.mp hq with hq | hq
    · exact List.mem_cons_of_mem _ (List.mem_append_left _ hq)
    · rcases List.mem_cons.mp hq with rfl | hq
      · exact List.mem_cons_self
      · exact List.mem_cons_of_mem _ (List.mem_append_right _ hq)
  have hax : ∀ q ∈ Cs ++ X, q.1 ≠ α₁ i false := fun q hq => Rr.off q hq i false ⟨o, hi, hhas0⟩
  have main : ∀ I : Addr, (∀ q ∈ news, q.1 < I) → ∀ itn, ItemsRest Z.prog Z.w c.A (fun _ _ => False) c.h₀ c.env (.Name nm p) body Q s₁ [(I, itn)] [(α₁ i false, lo)] (vals.map Itm.val) mr news := by
    intro I hI itn
    refine for_rest (Cs₀ := Cs) (X := X) (Qa := Qa) (vs₀ := vs) (α₀ := α₁) (σ₀ := σ₁) (i := i) (o := o) hc hf hb hx hn hk (fun q hq => hax q (List.mem_append_right _ hq)) hhas
      (fun q hq => Nat.ne_of_lt (hI q (Rr.sub q (List.mem_append_right _ hq)))) (Nat.ne_of_lt (hI _ hm)) H₁.ex (fun α' σ' news' hE' hm' => ⟨hE'.2 i hlt false, hback α' σ'.length news' (hE'.2 i hlt false) hm' (hE'.vrs hvs)⟩)
      (fun fl m' σ' mr' Cs' α' s' f hq hE' hcs' H' R' hfl => hQ fl m' σ' mr' Cs' α' s' f hq (hE.trans hE') hcs' H' R' hfl) vs vals mr α₁ m (σ₁.set i .gone) Cs news ext_set (by rw [List.length_set]; exact hvs)
      ⟨hcs.has, hcs.inj, fun q hq r hr => ?_⟩ Rl1 ?_ (fun q hq => Nat.ne_of_lt (hI q hq)) hfor
    · rcases List.mem_cons.mp hr with rfl | hr
      · exact hax q (List.mem_append_left _ hq)
      · exact hcs.off q hq r hr
    · rw [List.length_set]
      have R1 := R.ext hE
      intro y u hy
      obtain ⟨a, val', b, d⟩ := R1 y u hy
      refine ⟨a, val', b, ?_⟩
      have up : ∀ q ∈ Cs ++ X, q ∈ Cs ++ ((α₁ i false, lo) :: X) := fun q hq => by
        rcases List.mem_append.mp hq with hq | hq
        · exact List.mem_append_left _ hq
        · exact List.mem_append_right _ (List.mem_cons_of_mem _ hq)
      rcases d with d | ⟨d1, oC, m₂, d2, d3⟩ | ⟨d1, cc, oc, d2, d3, d4⟩
      · exact .inl d
      · exact .inr (.inl ⟨d1, oC, m₂, up _ d2, d3⟩)
      · exact .inr (.inr ⟨d1, cc, oc, d2, up _ d3, d4⟩)
  rcases hkind with ⟨_, rfl⟩ | ⟨_, rfl⟩
  · exact iter_listTurns (n := cnt) hc.room.1 (hf.loc ▸ H₁.F) (hf.loc ▸ N) hm hcls hdata fun I hI => main I hI _
  · exact iter_tupTurns (n := cnt) hc.room.1 (hf.loc ▸ H₁.F) (hf.loc ▸ N) hm hcls hdata fun I hI => main I hI _
end

section
variable {Z : Fix} {sc : Scope} {n : Nat}

-- a, b = e
noncomputable def sUnp2 (x y : Nat) (W : EW) : SW := fun m σ Q => W m σ fun v σ₁ => ∃ i u w, v = .obj i ∧ σ₁[i]? = some (.tup [u, w]) ∧ Q .next (put (put m x u) y w) σ₁
theorem ss_unp2 {x y k : Nat} {nx ny : Str} {px py tp pos : Pos} {e : Expr} {W : EW} (h : SE Z sc n e W) (hx : Z.T.s x = nx) (hy : Z.T.s y = ny) (hnx : x < Z.T.n) (hny : y < Z.T.n) (hkx : storeOkB sc nx = true) (hky : storeOkB sc ny = true)
    (hs : ∀ env, swapsWithSole [.Tuple [.Name nx px, .Name ny py] k tp] e pos.line env = pure false)
    (hw : ∀ env, env.scope = sc → swappedStores [.Tuple [.Name nx px, .Name ny py] k tp] e env = pure none) :
    SS Z sc n (.Assign [.Tuple [.Name nx px, .Name ny py] k tp] e pos) (sUnp2 x y W) := by
  subst hx hy
  intro c hc hf mr α m σ Cs X s Qa Q Er hcs H R hW hQ
  refine Assign_Tuple ?_ (hs c.env) (hw c.env hf.scope)
  refine h c hc mr α m σ (Cs ++ X) s _ _ Er H R hW fun v σ₁ α₁ s₁ val hq hE H₁ hv => ?_
  obtain ⟨i, u, w, rfl, hi, hq⟩ := hq
  cases hv
  obtain ⟨vals, ht, hvs, _⟩ := H₁.tup hi
  cases hvs with
  | cons h1 hvs =>
  cases hvs with
  | cons h2 hvs =>
  cases hvs
  rename_i vu vw
  obtain ⟨news, N, Rr⟩ := H₁.led
  obtain ⟨hh, tk, he⟩ := H₁.ex
  refine wpAny_assign_Tuple (items := #[vu, vw]) hc.room.1 ht rfl rfl fun h' hext => ?_
  have H₂ : HI Z c mr α₁ σ₁ (Cs ++ X) { s₁ with heap := h' } := ⟨H₁.F.extBut hext (Nat.le_refl _), ⟨news, N.extBut hext (Nat.le_refl _), Rr⟩, ⟨h', s₁.toks, by rw [he]⟩⟩
  have hR := R.ext hE
  show wpAny _ _ (do holding [vw] (assign (.Name (Z.T.s x) px) c.env vu); assignInOrder [assign (.Name (Z.T.s y) py) c.env] [vw]) _ _ _
  refine wpAny_bind (wpAny_holding (assign_Name (store_name hc hf hnx (storeOkB_iff hkx) hcs H₂ hR h1 fun mr1 Cs1 s2 hcs1 H3 R3 => ?_)))
  show wpAny _ _ (do holding [] (assign (.Name (Z.T.s y) py) c.env vw); pure ()) _ _ _
  refine wpAny_bind (wpAny_holding (assign_Name (store_name hc hf hny (storeOkB_iff hky) hcs1 H3 R3 h2 fun mr2 Cs2 s3 hcs2 H4 R4 => ?_)))
  exact wpAny_pure (hQ .next _ σ₁ mr2 Cs2 α₁ s3 .next hq hE hcs2 H4 R4 .next)
end


-- what a block closes over
noncomputable def closOf (cells : List (Str × Addr)) : List (Str × NameKind) → List (Str × Addr) → List (Str × Addr)
  | [], acc => acc
  | (n, k) :: r, acc => closOf cells r (if k == .free then (n, (cells.lookup n).getD 0) :: acc else acc)

theorem clos_loop {env : Env} (f : Str × NameKind → List (Str × Addr) → Sem (ForInStep (List (Str × Addr))))
    (hf : ∀ n k cs, f (n, k) cs = if k == .free then (do let a ← cellOf env n; pure (.yield ((n, a) :: cs))) else pure (.yield cs)) :
    ∀ (l : List (Str × NameKind)) (acc : List (Str × Addr)), (∀ x ∈ l, x.2 = .free → (env.cells.lookup x.1).isSome = true) → forIn l acc f = pure (closOf env.cells l acc)
  | [], acc, _ => by rw [List.forIn_nil]; rfl
  | (n, k) :: r, acc, h => by
    have hr : ∀ x ∈ r, x.2 = .free → (env.cells.lookup x.1).isSome = true := fun x hx => h x (List.mem_cons_of_mem _ hx)
    rw [List.forIn_cons, hf]
    unfold closOf
    by_cases hk : k = .free
    · subst hk
      obtain ⟨a, ha⟩ := Option.isSome_iff_exists.mp (h (n, .free) List.mem_cons_self rfl)
      have hc : cellOf env n = pure a := by unfold cellOf; rw [show env.cells.lookup n = some a from ha]
      simp only [beq_self_eq_true, if_true, hc, pure_bind]
      rw [clos_loop f hf r _ hr, show env.cells.lookup n = some a from ha]
      rfl
    · have hb : (k == NameKind.free) = false := by simpa using hk
      simp only [hb, Bool.false_eq_true, if_false, pure_bind]
      exact clos_loop f hf r _ hr
theorem closureFor_eq {sci : Scope} {env : Env} (h : ∀ x ∈ sci.names, x.2 = .free → (env.cells.lookup x.1).isSome = true) : closureFor sci env = pure (closOf env.cells sci.names []) := by
  simp only [closureFor]
  rw [clos_loop (env := env) _ (fun n k cs => by cases hk : k == NameKind.free <;> simp [hk]) sci.names [] h]
  rfl
theorem closOf_lookup {cells : List (Str × Addr)} {y : Str} (hs : (cells.lookup y).isSome = true) : ∀ (l : List (Str × NameKind)) (acc : List (Str × Addr)), acc.lookup y = cells.lookup y ∨ (y, NameKind.free) ∈ l → (closOf cells l acc).lookup y = cells.lookup y
  | [], acc, h => by
    rcases h with h | h
    · exact h
    · exact absurd h List.not_mem_nil
  | (n, k) :: r, acc, h => by
    unfold closOf
    by_cases hk : k = .free
    · subst hk
      simp only [beq_self_eq_true, if_true]
      refine closOf_lookup hs r _ ?_
      by_cases hy : y = n
      · subst hy
        refine .inl ?_
        rw [List.lookup_cons, beq_self_eq_true]
        obtain ⟨a, ha⟩ := Option.isSome_iff_exists.mp hs
        rw [ha]; rfl
      · have hb : (y == n) = false := by simpa using hy
        rcases h with h | h
        · refine .inl ?_
          rw [List.lookup_cons, hb]; exact h
        · rcases List.mem_cons.mp h with e | h
          · cases e; exact absurd rfl hy
          · exact .inr h
    · have hb : (k == NameKind.free) = false := by simpa using hk
      simp only [hb, Bool.false_eq_true, if_false]
      refine closOf_lookup hs r _ ?_
      rcases h with h | h
      · exact .inl h
      · rcases List.mem_cons.mp h with e | h
        · cases e; exact absurd rfl hk
        · exact .inr h

theorem cells_none : ∀ {l : List (Str × NameKind)} {n : Nat} {acc : List (Str × Addr)} {h : Heap}, l.filter (fun z => z.2 == .cell) = [] → cellsFrom n l acc = acc ∧ pushCells h l = h
  | [], _, _, _, _ => ⟨rfl, rfl⟩
  | (a, k) :: r, n, acc, h, e => by
    by_cases hk : (k == NameKind.cell) = true
    · rw [List.filter_cons_of_pos (by exact hk)] at e; cases e
    · rw [List.filter_cons_of_neg (by exact hk)] at e
      unfold cellsFrom pushCells
      rw [if_neg hk, if_neg hk]
      exact cells_none e
theorem cells_one {x : Str} : ∀ {l : List (Str × NameKind)} {n : Nat} {acc : List (Str × Addr)} {h : Heap}, l.filter (fun z => z.2 == .cell) = [(x, .cell)] →
    cellsFrom n l acc = (x, n) :: acc ∧ pushCells h l = h.push { cls := .type "cell", data := .cell none }
  | [], _, _, _, e => by cases e
  | (a, k) :: r, n, acc, h, e => by
    by_cases hk : (k == NameKind.cell) = true
    · rw [List.filter_cons_of_pos (by exact hk)] at e
      obtain ⟨e1, e2⟩ := List.cons.inj e
      cases e1
      unfold cellsFrom pushCells
      rw [if_pos hk, if_pos hk]
      exact cells_none e2
    · rw [List.filter_cons_of_neg (by exact hk)] at e
      unfold cellsFrom pushCells
      rw [if_neg hk, if_neg hk]
      exact cells_one e

theorem wpAny_newCompEnv {M : Model} {A : Around} {E : Value → Shared → Prop} {s : Shared} {scope : Scope} {globals : Addr} {cl : List (Str × Addr)} {qual : Str} {env : Env} {Q : Env → Shared → Prop}
    (h : Q { scope := scope, locals := s.heap.objs.size, globals := globals, cells := cellsFrom (s.heap.objs.size + 1) scope.names cl, qual := qual, func := none, code := env.code, frame := env.frame, builtins := env.builtins }
      { s with heap := pushCells (s.heap.push { cls := .type "dict", data := .dict #[] }) scope.names }) : wpAny M A (newFunctionEnv scope globals cl [] qual none .none (some env)) Q E s := by
  simp only [newFunctionEnv, Option.isSome_some, if_true]
  refine wpAny_bind (wpAny_alloc ?_)
  refine wpAny_bind (wpAny_layCells _ (fun name kind cells => by cases hkc : kind == NameKind.cell <;> simp [hkc]) _ _ _ _ ?_)
  rw [show ({ s with heap := s.heap.push { cls := .type "dict", data := .dict #[] } } : Shared).heap.objs.size = s.heap.objs.size + 1 from Heap.size_push ..]
  simp only [List.forIn_nil, pure_bind]
  exact wpAny_pure h

-- relabelled names
theorem lookup_relabel {env : Env} {x : Str} {k : NameKind} (hk : k ≠ .free) : ∀ {names : List (Str × NameKind)}, names.lookup x = some k →
    (names.map fun (n, k) => if (k == NameKind.free && env.scope.kind == .function && env.kindOf n == some .cell) then (n, NameKind.cell) else (n, k)).lookup x = some k
  | [], h => by simp at h
  | (n, k') :: r, h => by
    have ih := @lookup_relabel env x k hk r
    show List.lookup x ((if (k' == NameKind.free && env.scope.kind == .function && env.kindOf n == some .cell) = true then (n, NameKind.cell) else (n, k')) :: _) = _
    cases hx : x == n with
    | true =>
      simp only [List.lookup_cons, hx] at h
      cases h
      have hkf : (k == NameKind.free) = false := by simpa using hk
      rw [hkf]
      simp only [Bool.false_and, Bool.false_eq_true, if_false, List.lookup_cons, hx]
    | false =>
      simp only [List.lookup_cons, hx] at h
      by_cases hc : (k' == NameKind.free && env.scope.kind == .function && env.kindOf n == some .cell) = true
      · rw [if_pos hc]; simp only [List.lookup_cons, hx]; exact ih h
      · rw [if_neg hc]; simp only [List.lookup_cons, hx]; exact ih h
theorem lookup_relabel_free {env : Env} {x : Str} : ∀ {names : List (Str × NameKind)}, names.lookup x = some .free →
    (names.map fun (n, k) => if (k == NameKind.free && env.scope.kind == .function && env.kindOf n == some .cell) then (n, NameKind.cell) else (n, k)).lookup x = some .cell ∨
    (names.map fun (n, k) => if (k == NameKind.free && env.scope.kind == .function && env.kindOf n == some .cell) then (n, NameKind.cell) else (n, k)).lookup x = some .free
  | [], h => by simp at h
  | (n, k') :: r, h => by
    have ih := @lookup_relabel_free env x r
    show List.lookup x ((if (k' == NameKind.free && env.scope.kind == .function && env.kindOf n == some .cell) = true then (n, NameKind.cell) else (n, k')) :: _) = _ ∨ List.lookup x ((if (k' == NameKind.free && env.scope.kind == .function && env.kindOf n == some .cell) = true then (n, NameKind.cell) else (n, k')) :: _) = _
    cases hx : x == n with
    | true =>
      simp only [List.lookup_cons, hx] at h
      cases h
      by_cases hc : (NameKind.free == NameKind.free && env.scope.kind == .function && env.kindOf n == some .cell) = true
      · rw [if_pos hc]; left; simp only [List.lookup_cons, hx]
      · rw [if_neg hc]; right; simp only [List.lookup_cons, hx]
    | false =>
      simp only [List.lookup_cons, hx] at h
      by_cases hc : (k' == NameKind.free && env.scope.kind == .function && env.kindOf n == some .cell) = true
      · rw [if_pos hc]; simp only [List.lookup_cons, hx]; exact ih h
      · rw [if_neg hc]; simp only [List.lookup_cons, hx]; exact ih h

/-- what a comprehension's own scope must be: x its one name, cap what it closes over -/
noncomputable def compOkB (T : Names) (sc sci : Scope) (x : Nat) (cap : List Nat) : Bool :=
  (sci.kind == .function) && sci.names.all (fun z => z.2 != .local || sci.names.lookup z.1 == some .local) &&
  ((sci.names.filter (fun z => z.2 == .cell) == [] && sci.names.lookup (T.s x) == some .local) || (sci.names.filter (fun z => z.2 == .cell) == [(T.s x, .cell)] && sci.names.lookup (T.s x) == some .cell)) &&
  sci.names.all (fun z => z.2 != .free || sc.names.lookup z.1 == some .cell || sc.names.lookup z.1 == some .free) &&
  cap.all (fun y => sci.names.lookup (T.s y) == some .free)
structure CompOk (T : Names) (sc sci : Scope) (x : Nat) (cap : List Nat) : Prop where
  kind : sci.kind = .function
  loc : ∀ z ∈ sci.names, z.2 = .local → sci.names.lookup z.1 = some .local
  tgt : (sci.names.filter (fun z => z.2 == .cell) = [] ∧ sci.names.lookup (T.s x) = some .local) ∨ (sci.names.filter (fun z => z.2 == .cell) = [(T.s x, .cell)] ∧ sci.names.lookup (T.s x) = some .cell)
  free : ∀ z ∈ sci.names, z.2 = .free → sc.names.lookup z.1 = some .cell ∨ sc.names.lookup z.1 = some .free
  cap : ∀ y ∈ cap, sci.names.lookup (T.s y) = some .free
theorem CompOk.of {T : Names} {sc sci : Scope} {x : Nat} {cap : List Nat} (h : compOkB T sc sci x cap = true) : CompOk T sc sci x cap := by
  unfold compOkB at h
  simp only [Bool.and_eq_true, Bool.or_eq_true, beq_iff_eq, List.all_eq_true, bne_iff_ne, ne_eq] at h
  obtain ⟨⟨⟨⟨h1, h2⟩, h3⟩, h4⟩, h5⟩ := h
  exact ⟨h1, fun z hz e => (h2 z hz).resolve_left (fun q => q e), h3, fun z hz e => by
    rcases h4 z hz with (q | q) | q
    · exact absurd e q
    · exact .inl q
    · exact .inr q, h5⟩

noncomputable def innerL (m : Loc) (x : Nat) (v : V) (cap : List Nat) : Loc := (x, v) :: m.filter fun p => cap.contains p.1
theorem lk_filter {cap : List Nat} {y : Nat} {u : V} : ∀ {m : Loc}, lk (m.filter fun p => cap.contains p.1) y = some u → y ∈ cap ∧ lk m y = some u
  | [], h => by simp [lk] at h
  | (a, w) :: r, h => by
    by_cases hc : cap.contains a = true
    · rw [List.filter_cons_of_pos (by exact hc)] at h
      simp only [lk] at h ⊢
      by_cases ha : a = y
      · rw [if_pos ha] at h ⊢
        exact ⟨by rw [← ha]; simpa using hc, h⟩
      · rw [if_neg ha] at h ⊢
        exact lk_filter h
    · rw [List.filter_cons_of_neg (by exact hc)] at h
      obtain ⟨h1, h2⟩ := lk_filter h
      refine ⟨h1, ?_⟩
      simp only [lk]
      rw [if_neg (fun e => hc (by rw [e]; simpa using h1))]
      exact h2

noncomputable def compW (i : Nat) (o : O) (x : Nat) (cap : List Nat) (Wc : TW) (We : EW) (m : Loc) : List V → List V → Hp → (List V → Hp → Prop) → Prop
  | [], acc, σ, Q => σ[i]? = some .gone ∧ Q acc (σ.set i o)
  | v :: r, acc, σ, Q => Wc (innerL m x v cap) σ fun b σ₁ => (b = true → We (innerL m x v cap) σ₁ fun u σ₂ => compW i o x cap Wc We m r (acc ++ [u]) σ₂ Q) ∧ (b = false → compW i o x cap Wc We m r acc σ₁ Q)
noncomputable def eComp (x : Nat) (cap : List Nat) (Wi : EW) (Wc : TW) (We : EW) : EW := fun m σ Q => Wi m σ fun v σ₁ => ∃ i o vs, v = .obj i ∧ σ₁[i]? = some o ∧ (o = .list vs ∨ o = .tup vs) ∧
  compW i o x cap Wc We m vs [] (σ₁.set i .gone) fun acc σ₂ => Q (.obj σ₂.length) (σ₂ ++ [.list acc])

section
variable {Z : Fix} {sc : Scope} {n : Nat}

/-- the tests of a clause -/
noncomputable def STests (Z : Fix) (sc : Scope) (n : Nat) (ifs : List Expr) (W : TW) : Prop :=
  ∀ (c : Cx), c.Ok Z sc n → ∀ mr α m σ X s Qa (Q : Bool → Shared → Prop) Er, HI Z c mr α σ X s → NR Z c mr α σ.length X m → W m σ Qa →
    (∀ b σ' α' s', Qa b σ' → Ext α σ α' σ' → HI Z c mr α' σ' X s' → Q b s') →
    wpAny (model Z.prog Z.w) c.A (forIn ifs true fun cc r => if r = true then do let ok ← isTrue cc c.env (eval cc c.env); pure (ForInStep.yield ok) else pure (ForInStep.yield r)) Q Er s
noncomputable def tTrue : TW := fun _ σ Q => Q true σ
theorem stests_nil : STests Z sc n [] tTrue := by
  intro c hc mr α m σ X s Qa Q Er H R hW hQ
  exact wpAny_tests_nil (hQ true σ α s hW .refl H)
theorem stests_one {e : Expr} {W : TW} (h : STst Z sc n e W) : STests Z sc n [e] W := by
  intro c hc mr α m σ X s Qa Q Er H R hW hQ
  exact wpAny_tests_one (h c hc mr α m σ X s Qa Q Er H R hW hQ)

theorem Rl.dropAll {T : Names} {prog : Program} {w : World} {α : AdMap} {σ : Hp} {own X news : List (Addr × Obj)} (R : Rl T prog w α σ (own ++ X) news) (hX : ∀ p ∈ X, p.1 ∉ own.map (·.1)) :
    Rl T prog w α σ X (news.filter fun p => !decide (p.1 ∈ own.map (·.1))) := by
  have hmem : ∀ {p : Addr × Obj}, p ∈ news → p.1 ∉ own.map (·.1) → p ∈ news.filter fun p => !decide (p.1 ∈ own.map (·.1)) := fun hp hne => List.mem_filter.mpr ⟨hp, by simpa using hne⟩
  refine ⟨?_, fun i o hi => ?_, R.inj, fun p hp => hmem (R.sub p (List.mem_append_right _ hp)) (hX p hp), fun p hp => R.off p (List.mem_append_right _ hp)⟩
  · exact List.Pairwise.sublist (List.Sublist.map _ List.filter_sublist) R.nd
  · refine (R.rel i o hi).mono (Nat.le_refl _) (fun _ _ => rfl) (fun _ _ => rfl) fun p hp b hb e => hmem hp fun q => ?_
    obtain ⟨r, hr, e2⟩ := List.mem_map.mp q
    exact R.off r (List.mem_append_left _ hr) i b ⟨o, hi, hb⟩ (e2.trans e)

theorem Cx.Ok.comp {c : Cx} (hc : c.Ok Z sc n) {sci : Scope} {x : Nat} {cap : List Nat} (ok : CompOk Z.T sc sci x cap) (C : Addr) : ({ c with env := compEnvC sci (cellsFrom (C + 1) sci.names (closOf c.env.cells sci.names [])) C c.env } : Cx).Ok Z sci n := by
  have hfr : ∀ y, sci.names.lookup y = some .free → (c.env.kindOf y = some .cell ∨ c.env.kindOf y = some .free) ∧ (c.env.cells.lookup y).isSome = true := fun y hy => hc.cf y (ok.free (y, .free) (lookup_mem hy) rfl)
  refine ⟨hc.B, hc.X, hc.T, hc.hA, hc.hf, hc.hke, hc.room, ok.kind, hc.eg, hc.eb, fun y hy => lookup_relabel (by decide) hy, fun y hy => ?_⟩
  rcases hy with hy | hy
  · refine ⟨.inl (lookup_relabel (by decide) hy), ?_⟩
    rcases ok.tgt with ⟨t1, t2⟩ | ⟨t1, t2⟩
    · exfalso
      have : (y, NameKind.cell) ∈ sci.names.filter (fun z => z.2 == .cell) := List.mem_filter.mpr ⟨lookup_mem hy, rfl⟩
      rw [t1] at this; exact absurd this List.not_mem_nil
    · have hm : (y, NameKind.cell) ∈ sci.names.filter (fun z => z.2 == .cell) := List.mem_filter.mpr ⟨lookup_mem hy, rfl⟩
      rw [t1] at hm
      have e : y = Z.T.s x := by simpa using hm
      subst e
      show ((cellsFrom (C + 1) sci.names (closOf c.env.cells sci.names [])).lookup (Z.T.s x)).isSome = true
      rw [(cells_one (h := default) t1).1, List.lookup_cons, beq_self_eq_true]
      rfl
  · refine ⟨lookup_relabel_free hy, ?_⟩
    obtain ⟨_, h2⟩ := hfr y hy
    have hl := closOf_lookup h2 sci.names [] (.inr (lookup_mem hy))
    show ((cellsFrom (C + 1) sci.names (closOf c.env.cells sci.names [])).lookup y).isSome = true
    rcases ok.tgt with ⟨t1, t2⟩ | ⟨t1, t2⟩
    · rw [(cells_none (h := default) t1).1, hl]; exact h2
    · rw [(cells_one (h := default) t1).1, List.lookup_cons]
      split
      · rfl
      · rw [hl]; exact h2
end

section
variable {Z : Fix} {sc : Scope} {n : Nat}

theorem nlt1 (a : Nat) : ¬ (a + 1 < a) := by omega
theorem nlt2 (a : Nat) : ¬ (a + 1 + 1 < a) := by omega

noncomputable def CL (T : Names) (sci : Scope) (x : Nat) (C : Addr) (l : List (Addr × Obj)) : Prop :=
  (sci.names.filter (fun z => z.2 == .cell) = [] ∧ sci.names.lookup (T.s x) = some .local ∧ l = []) ∨
  (sci.names.filter (fun z => z.2 == .cell) = [(T.s x, .cell)] ∧ sci.names.lookup (T.s x) = some .cell ∧ ∃ oc v₀, l = [(C + 1, oc)] ∧ oc.data = .cell v₀)
noncomputable def TV (T : Names) (sci : Scope) (x : Nat) (C : Addr) (val : Value) (mC : Str → Option Value) (l : List (Addr × Obj)) : Prop :=
  (sci.names.lookup (T.s x) = some .local ∧ mC (T.s x) = some val) ∨
  (sci.names.filter (fun z => z.2 == .cell) = [(T.s x, .cell)] ∧ sci.names.lookup (T.s x) = some .cell ∧ ∃ oc, l = [(C + 1, oc)] ∧ oc.data = .cell (some val))

theorem store_tgt {A : Around} {E : Value → Shared → Prop} {s : Shared} {env : Env} {sci : Scope} {x : Nat} {C : Addr} {cl0 : List (Str × Addr)} {l : List (Addr × Obj)} {mC : Str → Option Value} {val : Value} {Q : Unit → Shared → Prop}
    (hk : sci.kind = .function) (hcl : CL Z.T sci x C l) (hn : s.heap.Ns C mC) (hl : ∀ p ∈ l, s.heap.get? p.1 = some p.2)
    (h : ∀ h' tk' mC' l', h'.Ns C mC' → CL Z.T sci x C l' → l'.map (·.1) = l.map (·.1) → TV Z.T sci x C val mC' l' → (∀ p ∈ l', h'.get? p.1 = some p.2) →
      (∀ b o, b ≠ C → b ∉ l.map (·.1) → s.heap.get? b = some o → h'.get? b = some o) → Q () { s with heap := h', toks := tk' }) :
    wpAny (model Z.prog Z.w) A (storeName (compEnvC sci (cellsFrom (C + 1) sci.names cl0) C env) (Z.T.s x) val) Q E s := by
  rcases hcl with ⟨h1, h2, rfl⟩ | ⟨h1, h2, oc, v₀, rfl, hd⟩
  · refine wpAny_storeName_local (lookup_relabel (by decide) h2) hn (fun h' hn' hs' => ?_) (by simp [compEnvC, relabel, hk])
    exact h h' _ _ [] hn' (.inl ⟨h1, h2, rfl⟩) rfl (.inl ⟨h2, by simp⟩) (fun p hp => absurd hp List.not_mem_nil) fun b o hb _ e => hs'.extBut b o hb e
  · have hc : (compEnvC sci (cellsFrom (C + 1) sci.names cl0) C env).cells.lookup (Z.T.s x) = some (C + 1) := by
      show (cellsFrom (C + 1) sci.names cl0).lookup (Z.T.s x) = some (C + 1)
      rw [(cells_one (h := default) h1).1, List.lookup_cons, beq_self_eq_true]
    refine wpAny_storeName_cell hk (lookup_relabel (by decide) h2) hc ⟨oc, hl (C + 1, oc) List.mem_cons_self, hd⟩ fun h' hv hs => ?_
    obtain ⟨o', ho', hd'⟩ := hv
    refine h h' s.toks mC [(C + 1, o')] (hn.sameBut hs (Nat.ne_of_lt (Nat.lt_succ_self C))) (.inr ⟨h1, h2, o', _, rfl, hd'⟩) rfl (.inr ⟨h1, h2, o', rfl, hd'⟩) (fun p hp => ?_) fun b o _ hb e => ?_
    · rw [List.mem_singleton.mp hp]; exact ho'
    · exact hs.extBut b o (fun q => hb (by rw [q]; exact List.mem_cons_self)) e

theorem fr_off {h₀ h h' : Heap} {L : Addr} {S : List Addr} {m : Str → Option Value} (F : Fr h₀ L h m) (hk : ∀ b o, b ∉ S → h.get? b = some o → h'.get? b = some o) (hL : L ∉ S) (hS : ∀ b ∈ S, h₀.get? b = none) : Fr h₀ L h' m :=
  ⟨F.ns.at' fun o e => hk L o hL e, fun b o e => hk b o (fun hm => by rw [hS b hm] at e; cases e) (F.keep b o e), F.above⟩
theorem news_off {h₀ h h' : Heap} {L : Addr} {S : List Addr} {news : List (Addr × Obj)} (N : News h₀ L h news) (hk : ∀ b o, b ∉ S → h.get? b = some o → h'.get? b = some o) (off : ∀ p ∈ news, p.1 ∉ S) : News h₀ L h' news :=
  fun p hp => ⟨hk _ _ (off p hp) (N p hp).1, (N p hp).2⟩

theorem nr_inner {c : Cx} (hc : c.Ok Z sc n) {sci : Scope} {x : Nat} {cap : List Nat} (ok : CompOk Z.T sc sci x cap) (hn : x < Z.T.n) {mr : Str → Option Value} {α : AdMap} {k : Nat} {X Y : List (Addr × Obj)} {m : Loc} {C : Addr} {v : V} {val : Value} {mC : Str → Option Value} {l : List (Addr × Obj)} {oC : Obj}
    (R : NR Z c mr α k X m) (hv : VR α k v val) (hC : (C, oC) ∈ Y) (hoC : LCg.NsObj oC mC) (ht : TV Z.T sci x C val mC l) (hl : ∀ p ∈ l, p ∈ Y) (hX : ∀ p ∈ X, p ∈ Y) :
    NR Z { c with env := compEnvC sci (cellsFrom (C + 1) sci.names (closOf c.env.cells sci.names [])) C c.env } mr α k Y (innerL m x v cap) := by
  intro y u hy
  unfold innerL at hy
  simp only [lk] at hy
  by_cases hxy : x = y
  · subst hxy
    rw [if_pos rfl] at hy
    cases hy
    refine ⟨hn, val, hv, ?_⟩
    rcases ht with ⟨t1, t2⟩ | ⟨t0, t1, oc, rfl, t2⟩
    · exact .inr (.inl ⟨lookup_relabel (by decide) t1, oC, mC, hC, hoC, t2⟩)
    · refine .inr (.inr ⟨.inl (lookup_relabel (by decide) t1), C + 1, oc, ?_, hl _ List.mem_cons_self, t2⟩)
      show (cellsFrom (C + 1) sci.names _).lookup (Z.T.s x) = some (C + 1)
      rw [(cells_one (h := default) t0).1, List.lookup_cons, beq_self_eq_true]
  · rw [if_neg hxy] at hy
    obtain ⟨hcap, hy⟩ := lk_filter hy
    obtain ⟨hyn, val', hv', hrd⟩ := R y u hy
    refine ⟨hyn, val', hv', ?_⟩
    have hfy := ok.cap y hcap
    obtain ⟨hk, hs⟩ := hc.cf _ (ok.free (Z.T.s y, .free) (lookup_mem hfy) rfl)
    have hne : Z.T.s y ≠ Z.T.s x := fun e => hxy (Z.T.inj hyn hn e).symm
    rcases hrd with ⟨a, _⟩ | ⟨a, _⟩ | ⟨a, cc, o, hcl, hm, hd⟩
    · exfalso
      have e1 : c.env.kindOf (Z.T.s y) = some .local := a
      rcases hk with hk | hk <;> · rw [hk] at e1; cases e1
    · exfalso
      have e1 : c.env.kindOf (Z.T.s y) = some .local := a
      rcases hk with hk | hk <;> · rw [hk] at e1; cases e1
    · refine .inr (.inr ⟨lookup_relabel_free hfy, cc, o, ?_, hX _ hm, hd⟩)
      have hl2 := closOf_lookup hs sci.names [] (.inr (lookup_mem hfy))
      show (cellsFrom (C + 1) sci.names (closOf c.env.cells sci.names [])).lookup (Z.T.s y) = some cc
      rcases ok.tgt with ⟨t1, t2⟩ | ⟨t1, t2⟩
      · rw [(cells_none (h := default) t1).1, hl2]; exact hcl
      · rw [(cells_one (h := default) t1).1, List.lookup_cons]
        have hb : (Z.T.s y == Z.T.s x) = false := by simpa using hne
        rw [hb]
        show (closOf c.env.cells sci.names []).lookup (Z.T.s y) = some cc
        rw [hl2]; exact hcl

set_option genInjectivity false in
set_option genSizeOf false in
/-- what holds ahead of each turn of a comprehension -/
inductive CompI (Z : Fix) (c : Cx) (mr : Str → Option Value) (α₀ : AdMap) (σ₀ : Hp) (X : List (Addr × Obj)) (vs : List V) (I C D ax : Addr) (lo : Obj) (St : Nat → Heap → Prop) (LC : List (Addr × Obj) → Prop) (cw : List V → List V → Hp → Prop) (k : Nat) (s' : Shared) : Prop
  | mk (h : Heap) (tk : Nat) (i : Nat) (ys : List Value) (acc : List V) (α : AdMap) (σ : Hp) (mC : Str → Option Value) (l nw : List (Addr × Obj)) (es : s' = { c.s₀ with heap := h, toks := tk }) (hi : i ≤ vs.length) (ek : k = vs.length + 1 - i) (hal : acc.length ≤ i)
    (hst : St i h) (F : Fr c.h₀ c.L h mr) (hn : h.Ns C mC) (N : News c.h₀ c.L h nw) (hD : h.get? D = some (LCg.lst ys)) (hl : LC l) (hlh : ∀ p ∈ l, h.get? p.1 = some p.2) (hoff : ∀ p ∈ nw, p.1 ≠ I ∧ p.1 ≠ C ∧ p.1 ≠ D ∧ p.1 ∉ l.map (·.1))
    (R : Rl Z.T Z.prog Z.w α σ ((ax, lo) :: X) nw) (hacc : All2 (VR α σ.length) acc ys) (hE : Ext α₀ σ₀ α σ) (hw : cw (vs.drop i) acc σ) : CompI Z c mr α₀ σ₀ X vs I C D ax lo St LC cw k s'

theorem comp_block {c : Cx} (hc : c.Ok Z sc n) {sci : Scope} {x : Nat} {nm : Str} {cap : List Nat} {elt iter : Expr} {ifs : List Expr} {px pos : Pos} {Wc : TW} {We : EW}
    (ok : CompOk Z.T sc sci x cap) (hx : Z.T.s x = nm) (hn : x < Z.T.n) (ht : STests Z sci n ifs Wc) (he : SE Z sci n elt We)
    {mr : Str → Option Value} {α₀ : AdMap} {m : Loc} {σ₀ : Hp} {X : List (Addr × Obj)} {vs : List V} {vals : List Value} {i₀ : Nat} {o : O} {ax I : Addr} {lo : Obj} {St : Nat → Heap → Prop} {news : List (Addr × Obj)} {s₂ : Shared}
    {Qa : V → Hp → Prop} {Q : Value → Shared → Prop} {E : Value → Shared → Prop}
    (W : Walks Z.prog Z.w c.A I [I, ax] [I] vals.toArray.size (fun i v => vals.toArray[i]? = some v) St)
    (hIo : ∀ i h, St i h → ∃ o, h.get? I = some o) (hst : St 0 s₂.heap)
    (F : Fr c.h₀ c.L s₂.heap mr) (N : News c.h₀ c.L s₂.heap news) (R : Rl Z.T Z.prog Z.w α₀ (σ₀.set i₀ .gone) ((ax, lo) :: X) news) (NRm : NR Z c mr α₀ σ₀.length X m)
    (hIL : c.L ≠ I) (hI₀ : c.h₀.get? I = none) (hIn : ∀ p ∈ news, p.1 ≠ I) (hIlt : I < s₂.heap.objs.size)
    (hv : All2 (VR α₀ σ₀.length) vs vals) (hlen : vs.length ≤ 4096) (hex : ∃ h tk, s₂ = { c.s₀ with heap := h, toks := tk })
    (hhas : ∀ b, o.has b → b = false) (haX : ∀ p ∈ X, p.1 ≠ ax)
    (hor : ∀ (α' : AdMap) (σ' : Hp) (news' : List (Addr × Obj)), Ext α₀ σ₀ α' σ' → (ax, lo) ∈ news' → α' i₀ false = ax ∧ OR Z.T Z.prog Z.w α' σ'.length i₀ news' o)
    (hW : compW i₀ o x cap Wc We m vs [] (σ₀.set i₀ .gone) fun acc σ₂ => Qa (.obj σ₂.length) (σ₂ ++ [.list acc]))
    (hQ : ∀ v σ' α' s' val, Qa v σ' → Ext α₀ σ₀ α' σ' → HI Z c mr α' σ' X s' → VR α' σ'.length v val → Q val s') :
    wpAny (model Z.prog Z.w) c.A (newList []) (fun acc s₃ => wpAny (model Z.prog Z.w) c.A (newFunctionEnv sci c.env.globals (closOf c.env.cells sci.names []) [] c.env.qual none .none (some c.env)) (fun cenv s₄ =>
      codeAny (model Z.prog Z.w) c.A (.compStart (.ListComp elt [⟨.Name nm px, iter, ifs, 0⟩] sci pos) 0 (.ref I) acc { cenv with scope := relabel sci c.env }) (compPost (model Z.prog Z.w) c.A E none Q acc cenv.locals) s₄) E s₃) E s₂ := by
  subst hx
  refine wpAny_newObj_type (wpAny_newCompEnv ?_)
  dsimp only
  generalize hH2 : s₂.heap.push { cls := .type "list", dict := none, data := .seq ([] : List Value).toArray } = H2
  have hC : H2.objs.size = s₂.heap.objs.size + 1 := by rw [← hH2, Heap.size_push]
  generalize hCe : H2.objs.size = C at hC ⊢
  generalize hDe : s₂.heap.objs.size = D at hC hIlt ⊢
  generalize hH3 : pushCells (H2.push { cls := .type "dict", data := .dict #[] }) sci.names = H3
  have up2 : ∀ b o, s₂.heap.get? b = some o → H2.get? b = some o := fun b o e => hH2 ▸ Heap.get?_push_of_some _ e
  have up3 : ∀ b o, H2.get? b = some o → H3.get? b = some o := fun b o e => by rw [← hH3]; exact pushCells_keeps _ _ b o (Heap.get?_push_of_some _ e)
  have up : ∀ b o, s₂.heap.get? b = some o → H3.get? b = some o := fun b o e => up3 b o (up2 b o e)
  have hD3 : H3.get? D = some (LCg.lst []) := up3 _ _ (by rw [← hH2, ← hDe]; exact Heap.get?_push_size _ rfl)
  have hn3 : H3.Ns C (fun _ => none) := by rw [← hH3, ← hCe]; exact (Heap.Ns.new H2 (.type "dict")).keeps (pushCells_keeps _ _)
  have fresh : ∀ a, D ≤ a → s₂.heap.get? a = none := fun a ha => by
    cases e : s₂.heap.get? a with
    | none => rfl
    | some o' => exact absurd (Heap.lt_size e) (Nat.not_lt.mpr (hDe ▸ ha))
  have fresh₀ : ∀ a, D ≤ a → c.h₀.get? a = none := fun a ha => by
    cases e : c.h₀.get? a with
    | none => rfl
    | some o' => have := F.keep a o' e; rw [fresh a ha] at this; cases this
  have hLlt : c.L < D := hDe ▸ F.ns.lt
  have hnlt : ∀ p ∈ news, p.1 < D := fun p hp => hDe ▸ Heap.lt_size (N p hp).1
  -- the cell, if there is one
  obtain ⟨l₀, hl₀, hl₀h⟩ : ∃ l, CL Z.T sci x C l ∧ ∀ p ∈ l, H3.get? p.1 = some p.2 := by
    rcases ok.tgt with ⟨t1, t2⟩ | ⟨t1, t2⟩
    · exact ⟨[], .inl ⟨t1, t2, rfl⟩, fun p hp => absurd hp List.not_mem_nil⟩
    · refine ⟨[(C + 1, { cls := .type "cell", data := .cell none })], .inr ⟨t1, t2, _, _, rfl, rfl⟩, fun p hp => ?_⟩
      rw [List.mem_singleton.mp hp, ← hH3, (cells_one (n := 0) (acc := []) t1).2]
      have e : (H2.push { cls := .type "dict", data := .dict #[] }).objs.size = C + 1 := by rw [Heap.size_push, hCe]
      rw [← e]
      exact Heap.get?_push_size _ rfl
  have hlS : ∀ l, CL Z.T sci x C l → ∀ b ∈ l.map (·.1), b = C + 1 := fun l hl b hb => by
    rcases hl with ⟨_, _, rfl⟩ | ⟨_, _, oc, v₀, rfl, _⟩
    · exact absurd hb List.not_mem_nil
    · simpa using hb
  have hlnd : ∀ l, CL Z.T sci x C l → (l.map (·.1)).Nodup := fun l hl => by
    rcases hl with ⟨_, _, rfl⟩ | ⟨_, _, oc, v₀, rfl, _⟩
    · exact List.nodup_nil
    · simp
  have sz : vals.toArray.size = vs.length := by rw [List.size_toArray]; exact hv.length.symm
  obtain ⟨hh, tk₀, hs₂⟩ := hex
  have hwalk : ∀ i h h', St i h → (∀ o, h.get? I = some o → h'.get? I = some o) → (∀ o, h.get? ax = some o → h'.get? ax = some o) → St i h' := fun i h h' st k1 k2 => W.frame i h h' st fun b hb o e => by
    rcases List.mem_cons.mp hb with rfl | hb
    · exact k1 o e
    · rw [List.mem_singleton.mp hb] at e ⊢; exact k2 o e
  let cl0 := closOf c.env.cells sci.names []
  let c' : Cx := { c with env := compEnvC sci (cellsFrom (C + 1) sci.names cl0) C c.env }
  have hc' : c'.Ok Z sci n := hc.comp ok C
  have loop : ∀ s₃ : Shared, s₃ = { s₂ with heap := H3 } →
      codeAny (model Z.prog Z.w) c.A (.compLoop (.ListComp elt [⟨.Name (Z.T.s x) px, iter, ifs, 0⟩] sci pos) 0 (.ref I) (.ref D) (compEnvC sci (cellsFrom (C + 1) sci.names cl0) C c.env))
        (compPost (model Z.prog Z.w) c.A E none Q (.ref D) C) s₃ := by
    rintro s₃ rfl
    refine codeAny_compLoop_tests
      (CompI Z c mr α₀ σ₀ X vs I C D ax lo St (CL Z.T sci x C) fun r acc σ => compW i₀ o x cap Wc We m r acc σ fun acc σ₂ => Qa (.obj σ₂.length) (σ₂ ++ [.list acc])) ?_ (vs.length + 1)
      ⟨H3, tk₀, 0, [], [], α₀, σ₀.set i₀ .gone, _, l₀, news, by rw [hs₂], Nat.zero_le _, rfl, Nat.le_refl _, hwalk 0 _ _ hst (fun o e => up _ _ e) (fun o e => up _ _ e), F.keeps up, hn3, fun p hp => ⟨up _ _ (N p hp).1, (N p hp).2⟩, hD3, hl₀, hl₀h,
        fun p hp => ⟨hIn p hp, ?_, ?_, fun q => ?_⟩, R, .nil, ext_set, (List.drop_zero (l := vs)).symm ▸ hW⟩
    · rintro k s' ⟨h, tk, i, ys, acc, α, σ, mC, l, nw, rfl, hi, rfl, hal, hst', F', hn', N', hD', hl, hlh, hoff, R', hacc, hE, hw⟩
      have hDI : D ≠ I := Nat.ne_of_gt hIlt
      have hCI : C ≠ I := by rw [hC]; exact Nat.ne_of_gt (Nat.lt_succ_of_lt hIlt)
      have hC1I : C + 1 ≠ I := by rw [hC]; exact Nat.ne_of_gt (Nat.lt_succ_of_lt (Nat.lt_succ_of_lt hIlt))
      have hCD : C ≠ D := by rw [hC]; exact Nat.succ_ne_self D
      have hC1D : C + 1 ≠ D := by rw [hC]; omega
      have hax : (ax, lo) ∈ nw := R'.sub _ List.mem_cons_self
      by_cases hlt : i < vals.toArray.size
      · have hlt' : i < vs.length := sz ▸ hlt
        have hdrop : vs.drop i = vs[i] :: vs.drop (i + 1) := List.drop_eq_getElem_cons hlt'
        rw [hdrop] at hw
        refine W.item i _ _ _ hlt hst' fun val h₂ tk₂ hPv hst₂ hk₂ => ?_
        dsimp only
        have hvr : VR α σ.length vs[i] val := by
          obtain ⟨val', e1, e2⟩ := hv.get (i := i) (a := vs[i]) (by simp [hlt'])
          have e3 : vals[i]? = some val := by simpa using hPv
          rw [e3] at e1
          cases e1
          exact hE.vr e2
        have hS : ∀ p ∈ l, p.1 = C + 1 := fun p hp => hlS l hl _ (List.mem_map_of_mem hp)
        refine wpAny_assign_Name (store_tgt ok.kind hl (hn'.at' fun o e => hk₂ _ o (by simpa using hCI) e) (fun p hp => hk₂ _ _ (by rw [hS p hp]; simpa using hC1I) (hlh p hp)) fun h₃ tk₃ mC' l' hn₃ hl' hll htv hlh' hk₃ => ?_)
        have hk23 : ∀ b o, b ∉ I :: C :: l.map (·.1) → h.get? b = some o → h₃.get? b = some o := fun b o hb e =>
          hk₃ b o (fun q => hb (by rw [q]; exact List.mem_cons_of_mem _ List.mem_cons_self)) (fun q => hb (List.mem_cons_of_mem _ (List.mem_cons_of_mem _ q))) (hk₂ b o (fun q => hb (by rw [List.mem_singleton.mp q]; exact List.mem_cons_self)) e)
        have hSge : ∀ b ∈ I :: C :: l.map (·.1), c.h₀.get? b = none := fun b hb => by
          rcases List.mem_cons.mp hb with rfl | hb
          · exact hI₀
          · rcases List.mem_cons.mp hb with rfl | hb
            · exact fresh₀ _ (by rw [hC]; exact Nat.le_succ D)
            · rw [hlS l hl b hb]; exact fresh₀ _ (by rw [hC]; omega)
        have hLS : c.L ∉ I :: C :: l.map (·.1) := fun hb => by
          rcases List.mem_cons.mp hb with e | hb
          · exact hIL e
          · rcases List.mem_cons.mp hb with e | hb
            · rw [e, hC] at hLlt; exact absurd hLlt (nlt1 D)
            · rw [hlS l hl _ hb, hC] at hLlt; exact absurd hLlt (nlt2 D)
        have hoffS : ∀ p ∈ nw, p.1 ∉ I :: C :: l.map (·.1) := fun p hp hb => by
          rcases List.mem_cons.mp hb with e | hb
          · exact (hoff p hp).1 e
          · rcases List.mem_cons.mp hb with e | hb
            · exact (hoff p hp).2.1 e
            · exact (hoff p hp).2.2.2 hb
        have F₃ : Fr c.h₀ c.L h₃ mr := fr_off F' hk23 hLS hSge
        have N₃ : News c.h₀ c.L h₃ nw := news_off N' hk23 hoffS
        have hDS : D ∉ I :: C :: l.map (·.1) := fun hb => by
          rcases List.mem_cons.mp hb with e | hb
          · exact hDI e
          · rcases List.mem_cons.mp hb with e | hb
            · exact hCD e.symm
            · exact hC1D (hlS l hl _ hb).symm
        have hD₃ : h₃.get? D = some (LCg.lst ys) := hk23 _ _ hDS hD'
        have hk3I : ∀ o, h₂.get? I = some o → h₃.get? I = some o := fun o e => hk₃ I o (Ne.symm hCI) (fun q => hC1I (hlS l hl _ q).symm) e
        have hst₃ : St (i + 1) h₃ := hwalk _ _ _ hst₂ hk3I fun o e => hk₃ ax o (fun q => (hoff _ hax).2.1 q) (fun q => (hoff _ hax).2.2.2 q) e
        obtain ⟨oI, heI⟩ := hIo _ _ hst₃
        obtain ⟨oC, heC, hoC⟩ := LCg.ns_obj hn₃
        -- the comprehension's own objects
        let own : List (Addr × Obj) := (I, oI) :: (C, oC) :: (D, LCg.lst ys) :: l'
        have hownA : ∀ b, b ∈ own.map (·.1) ↔ b = I ∨ b = C ∨ b = D ∨ b ∈ l.map (·.1) := fun b => by
          simp only [own, List.map_cons, List.mem_cons, hll]
        have hownN : News c.h₀ c.L h₃ own := fun p hp => by
          rcases List.mem_cons.mp hp with rfl | hp
          · exact ⟨heI, Ne.symm hIL, hI₀⟩
          · rcases List.mem_cons.mp hp with rfl | hp
            · exact ⟨heC, fun e => hLS (by rw [← e]; exact List.mem_cons_of_mem _ List.mem_cons_self), hSge _ (List.mem_cons_of_mem _ List.mem_cons_self)⟩
            · rcases List.mem_cons.mp hp with rfl | hp
              · exact ⟨hD₃, Ne.symm (Nat.ne_of_lt hLlt), fresh₀ _ (Nat.le_refl _)⟩
              · have e := hlS l' hl' _ (List.mem_map_of_mem hp)
                refine ⟨hlh' p hp, ?_, ?_⟩
                · rw [e]; intro q; rw [← q, hC] at hLlt; exact absurd hLlt (nlt2 D)
                · rw [e]; exact fresh₀ _ (by rw [hC]; omega)
        have hownnd : (own.map (·.1)).Nodup := by
          simp only [own, List.map_cons, List.nodup_cons, List.mem_cons]
          refine ⟨fun q => ?_, fun q => ?_, fun q => ?_, hlnd l' hl'⟩
          · rcases q with q | q | q
            · exact hCI q.symm
            · exact hDI q.symm
            · exact hC1I (hlS l' hl' _ q).symm
          · rcases q with q | q
            · exact hCD q
            · exact absurd (hlS l' hl' _ q) (Nat.ne_of_lt (Nat.lt_succ_self C))
          · exact hC1D (hlS l' hl' _ q).symm
        have hdisj : ∀ p ∈ nw, p.1 ∉ own.map (·.1) := fun p hp q => by
          rcases (hownA _).mp q with q | q | q | q
          · exact (hoff p hp).1 q
          · exact (hoff p hp).2.1 q
          · exact (hoff p hp).2.2.1 q
          · exact (hoff p hp).2.2.2 q
        have nd : ((own ++ nw).map (·.1)).Nodup := by
          rw [List.map_append, List.nodup_append]
          refine ⟨hownnd, R'.nd, fun a ha b hb e => ?_⟩
          obtain ⟨p, hp, rfl⟩ := List.mem_map.mp hb
          exact hdisj p hp (e ▸ ha)
        have N₃' : News c.h₀ c.L h₃ (own ++ nw) := fun p hp => (List.mem_append.mp hp).elim (hownN p) (N₃ p)
        have H1 : HI Z c' mr α σ (own ++ ((ax, lo) :: X)) { c.s₀ with heap := h₃, toks := tk₃ } := ⟨F₃, ⟨own ++ nw, N₃', R'.addX nd⟩, ⟨h₃, tk₃, rfl⟩⟩
        have NR1 : NR Z c' mr α σ.length (own ++ ((ax, lo) :: X)) (innerL m x vs[i] cap) :=
          nr_inner hc ok hn (NRm.ext hE) hvr (List.mem_append_left _ (List.mem_cons_of_mem _ List.mem_cons_self)) hoC htv (fun p hp => List.mem_append_left _ (List.mem_cons_of_mem _ (List.mem_cons_of_mem _ (List.mem_cons_of_mem _ hp))))
            fun p hp => List.mem_append_right _ (List.mem_cons_of_mem _ hp)
        have hXoff : ∀ p ∈ (ax, lo) :: X, p.1 ∉ own.map (·.1) := fun p hp => hdisj p (R'.sub p hp)
        -- what holds behind a turn
        have back : ∀ {α₄ : AdMap} {σ₄ : Hp} {s₄ : Shared}, HI Z c' mr α₄ σ₄ (own ++ ((ax, lo) :: X)) s₄ → ∃ nw₄, Fr c.h₀ c.L s₄.heap mr ∧ News c.h₀ c.L s₄.heap nw₄ ∧ (∀ p ∈ own, s₄.heap.get? p.1 = some p.2) ∧ Rl Z.T Z.prog Z.w α₄ σ₄ ((ax, lo) :: X) nw₄ ∧
            (∀ p ∈ nw₄, p.1 ∉ own.map (·.1)) ∧ St (i + 1) s₄.heap ∧ ∃ tk, s₄ = { c.s₀ with heap := s₄.heap, toks := tk } := by
          intro α₄ σ₄ s₄ H4
          obtain ⟨news₄, N₄, R₄⟩ := H4.led
          obtain ⟨h4, tk4, e4⟩ := H4.ex
          have hown4 : ∀ p ∈ own, s₄.heap.get? p.1 = some p.2 := fun p hp => (N₄ p (R₄.sub p (List.mem_append_left _ hp))).1
          refine ⟨_, H4.F, fun p hp => N₄ p (List.mem_filter.mp hp).1, hown4, Rl.dropAll R₄ hXoff, fun p hp => by simpa using (List.mem_filter.mp hp).2, ?_, tk4, ?_⟩
          · refine hwalk _ _ _ hst₃ (fun o e => ?_) fun o e => ?_
            · rw [heI] at e; cases e
              exact hown4 _ List.mem_cons_self
            · have e1 := (N₃ _ hax).1
              rw [e1] at e; cases e
              exact (N₄ _ (R₄.sub _ (List.mem_append_right _ List.mem_cons_self))).1
          · rw [e4]
        refine ht c' hc' mr α _ σ _ _ _ _ _ H1 NR1 hw fun b σ₁ α₁ s₁ hb hE1 H1' => ?_
        cases b with
        | false =>
          simp only [Bool.false_eq_true, if_false]
          obtain ⟨nw₄, F₄, N₄, hown4, R₄, hoff4, hst4, tk4, e4⟩ := back H1'
          refine ⟨vs.length + 1 - (i + 1), by omega, s₁.heap, tk4, i + 1, ys, acc, α₁, σ₁, mC', l', nw₄, e4, hlt', rfl, Nat.le_succ_of_le hal, hst4, F₄, hoC.ns (hown4 (C, oC) (List.mem_cons_of_mem _ List.mem_cons_self)), N₄, hown4 (D, _) (List.mem_cons_of_mem _ (List.mem_cons_of_mem _ List.mem_cons_self)), hl',
            fun p hp => hown4 p (List.mem_cons_of_mem _ (List.mem_cons_of_mem _ (List.mem_cons_of_mem _ hp))), fun p hp => ?_, R₄, hE1.vrs hacc, hE.trans hE1, hb.2 rfl⟩
          have z := hoff4 p hp
          rw [hownA] at z
          simp only [not_or] at z
          exact ⟨z.1, z.2.1, z.2.2.1, by rw [hll]; exact z.2.2.2⟩
        | true =>
          simp only [if_true]
          refine he c' hc' mr α₁ _ σ₁ _ s₁ _ _ _ H1' (NR1.ext hE1) (hb.1 rfl) fun u σ₂ α₂ s₅ y hu hE2 H2' hy => ?_
          obtain ⟨nw₄, F₄, N₄, hown4, R₄, hoff4, hst4, tk4, e4⟩ := back H2'
          have hyl : ys.length = acc.length := hacc.length.symm
          refine append_at (hsz := by show ys.toArray.size ≤ sizeLine; rw [List.size_toArray, sizeLine_eq]; omega) (hown4 (D, _) (List.mem_cons_of_mem _ (List.mem_cons_of_mem _ List.mem_cons_self))) fun h₅ hs₅ hD₅ => ?_
          have hoffD : ∀ p ∈ nw₄, p.1 ≠ D := fun p hp e => hoff4 p hp ((hownA _).mpr (.inr (.inr (.inl e))))
          refine ⟨vs.length + 1 - (i + 1), by omega, h₅, tk4, i + 1, ys ++ [y], acc ++ [u], α₂, σ₂, mC', l', nw₄, by rw [e4], hlt', rfl, by rw [List.length_append, List.length_singleton]; exact Nat.succ_le_succ hal,
            hwalk _ _ _ hst4 (fun o e => hs₅.extBut _ _ (Ne.symm hDI) e) (fun o e => hs₅.extBut _ _ (hoffD (ax, lo) (R₄.sub _ List.mem_cons_self)) e), F₄.change hs₅ (Ne.symm (Nat.ne_of_lt hLlt)) (fresh₀ _ (Nat.le_refl _)),
            (hoC.ns (hown4 (C, oC) (List.mem_cons_of_mem _ List.mem_cons_self))).sameBut hs₅ hCD, fun p hp => ⟨hs₅.extBut _ _ (hoffD p hp) (N₄ p hp).1, (N₄ p hp).2⟩, hD₅.trans (congrArg some (LCg.lst_snoc ys y)), hl',
            fun p hp => hs₅.extBut _ _ (fun e => hC1D (by rw [← hlS l' hl' _ (List.mem_map_of_mem hp)]; exact e)) (hown4 p (List.mem_cons_of_mem _ (List.mem_cons_of_mem _ (List.mem_cons_of_mem _ hp)))), fun p hp => ?_, R₄, (hE2.vrs (hE1.vrs hacc)).append (.cons hy .nil), (hE.trans hE1).trans hE2, hu⟩
          have z := hoff4 p hp
          rw [hownA] at z
          simp only [not_or] at z
          exact ⟨z.1, z.2.1, z.2.2.1, by rw [hll]; exact z.2.2.2⟩
      · have hie : i = vals.toArray.size := Nat.le_antisymm (sz ▸ hi) (Nat.not_lt.mp hlt)
        have hnil : vs.drop i = [] := List.drop_eq_nil_of_le (by rw [hie, sz]; exact Nat.le_refl _)
        rw [hnil] at hw
        refine W.done _ _ _ (hie ▸ hst') fun h₂ tk₂ hk₂ => ?_
        have hk₂' : ∀ b o, b ∉ [I] → h.get? b = some o → h₂.get? b = some o := hk₂
        have F₂ : Fr c.h₀ c.L h₂ mr := fr_off F' hk₂' (by simpa using hIL) (fun b hb => by rw [List.mem_singleton.mp hb]; exact hI₀)
        have N₂ : News c.h₀ c.L h₂ nw := news_off N' hk₂' fun p hp => by simpa using (hoff p hp).1
        have hD₂ : h₂.get? D = some (LCg.lst ys) := hk₂ _ _ (by simpa using hDI) hD'
        refine ⟨mC, hn'.at' fun o e => hk₂ _ o (by simpa using hCI) e, fun h'' hs'' => ?_⟩
        obtain ⟨hg, hqa⟩ := hw
        obtain ⟨ea, eo⟩ := hor α σ nw hE (R'.sub _ List.mem_cons_self)
        have Ru : Rl Z.T Z.prog Z.w α (σ.set i₀ o) X nw := R'.unlock ea.symm hg hhas haX eo
        have hC₀ : c.h₀.get? C = none := fresh₀ _ (by rw [hC]; exact Nat.le_succ D)
        have hCL : C ≠ c.L := fun e => by rw [← e, hC] at hLlt; exact absurd hLlt (nlt1 D)
        have Nf : News c.h₀ c.L h'' ((D, LCg.lst ys) :: nw) := fun p hp => by
          rcases List.mem_cons.mp hp with rfl | hp
          · exact ⟨hs''.extBut _ _ (Ne.symm hCD) hD₂, Ne.symm (Nat.ne_of_lt hLlt), fresh₀ _ (Nat.le_refl _)⟩
          · exact ⟨hs''.extBut _ _ (hoff p hp).2.1 (N₂ p hp).1, (N₂ p hp).2⟩
        have ndf : ((([(D, LCg.lst ys)] ++ nw : List (Addr × Obj))).map (·.1)).Nodup := by
          simp only [List.singleton_append, List.map_cons, List.nodup_cons]
          exact ⟨fun q => by obtain ⟨p, hp, e⟩ := List.mem_map.mp q; exact (hoff p hp).2.2.1 e, R'.nd⟩
        have hls : (σ.set i₀ o).length = σ.length := List.length_set ..
        have Rf := Ru.push (o := .list acc) (a := D) (b := 0) (add := [(D, LCg.lst ys)]) ndf (fun q => nomatch q) (by simp) (fun q => nomatch q)
          ⟨by omega, ys, ys.length, by rw [ext1_f]; exact List.mem_cons_self, by
            have := (ext_push (α := α) (σ := σ.set i₀ o) (o := .list acc) (a := D) (b := 0)).vrs (hls.symm ▸ hacc)
            rwa [len_push] at this⟩
        refine hQ _ _ _ _ _ hqa ((hE.trans ext_set).trans ext_push) ⟨F₂.change hs'' hCL hC₀, ⟨_, Nf, Rf⟩, ⟨h'', tk₂, rfl⟩⟩ ?_
        have := VR.obj (α := ext1 α (σ.set i₀ o).length D 0) (n := (σ.set i₀ o ++ [O.list acc]).length) (σ.set i₀ o).length (by simp)
        rwa [ext1_f] at this
    · have := hnlt p hp; rw [hC]; exact Nat.ne_of_lt (Nat.lt_succ_of_lt this)
    · exact Nat.ne_of_lt (hnlt p hp)
    · have := hnlt p hp
      rw [hlS l₀ hl₀ _ q, hC] at this; exact absurd this (nlt2 D)
  exact codeAny_compStart_list (loop _ rfl) (W.self 0 _ _ _ (hwalk 0 _ _ hst (fun o e => up _ _ e) (fun o e => up _ _ e)) (loop _ rfl))
end

section
variable {Z : Fix} {sc : Scope} {n : Nat}

/-- a sound reading in one frame -/
noncomputable def SEat (Z : Fix) (c : Cx) (mr : Str → Option Value) (e : Expr) (W : EW) : Prop :=
  ∀ α m σ X s Qa (Q : Value → Shared → Prop) Er, HI Z c mr α σ X s → NR Z c mr α σ.length X m → W m σ Qa →
    (∀ v σ' α' s' val, Qa v σ' → Ext α σ α' σ' → HI Z c mr α' σ' X s' → VR α' σ'.length v val → Q val s') → wpAny (model Z.prog Z.w) c.A (eval e c.env) Q Er s
theorem se_comp_at {c : Cx} {mr : Str → Option Value} {sci : Scope} {x : Nat} {nm : Str} {cap : List Nat} {elt iter : Expr} {ifs : List Expr} {px pos : Pos} {Wi : EW} {Wc : TW} {We : EW} (hc : c.Ok Z sc n) (hi : SEat Z c mr iter Wi) (ht : STests Z sci n ifs Wc) (he : SE Z sci n elt We)
    (hx : Z.T.s x = nm) (hn : x < Z.T.n) (hok : compOkB Z.T sc sci x cap = true) (hs : ∀ env v, foldedSetIterable iter env v = pure v) :
    SEat Z c mr (.ListComp elt [⟨.Name nm px, iter, ifs, 0⟩] sci pos) (eComp x cap Wi Wc We) := by
  have ok := CompOk.of hok
  intro α m σ X s Qa Q Er H R hW hQ
  rw [eval_ListComp]
  refine wpAny_comprehension_free (use := none) rfl (hs c.env) (closureFor_eq fun z hz e => (hc.cf z.1 (ok.free z hz e)).2) ok.kind ok.loc ?_
  show wpAny _ _ (eval iter c.env) _ _ _
  refine hi α m σ X s _ _ _ H R hW fun v σ₁ α₁ s₁ val hq hE H₁ hv => ?_
  obtain ⟨i, o, vs, rfl, hi', ho, hcw⟩ := hq
  cases hv
  rename_i hlt
  obtain ⟨news, N, Rr⟩ := H₁.led
  obtain ⟨hh, tk, hex⟩ := H₁.ex
  obtain ⟨hlen, vals, nm', cnt, lo, hm, hcls, hdata, hvs, hkind, hback⟩ := seq_or (Z := Z) ho (Rr.rel i o hi')
  have hhas0 : o.has false := by rcases ho with rfl | rfl <;> rfl
  have hhas : ∀ b, o.has b → b = false := fun b hb => by rcases ho with rfl | rfl <;> exact hb
  have Rl1 : Rl Z.T Z.prog Z.w α₁ (σ₁.set i .gone) ((α₁ i false, lo) :: X) news := Rr.lock hi' hhas0 hm
  have hax : ∀ q ∈ X, q.1 ≠ α₁ i false := fun q hq => Rr.off q hq i false ⟨o, hi', hhas0⟩
  have hltA : α₁ i false < s₁.heap.objs.size := Heap.lt_size (N _ hm).1
  have main : ∀ (cl : String) (St : Nat → Heap → Prop), Walks Z.prog Z.w c.A s₁.heap.objs.size [s₁.heap.objs.size, α₁ i false] [s₁.heap.objs.size] vals.toArray.size (fun i v => vals.toArray[i]? = some v) St → (∀ i h, St i h → ∃ o, h.get? s₁.heap.objs.size = some o) →
      St 0 (s₁.heap.push { cls := .type cl, data := .fields #[.ref (α₁ i false), .int 0 0] }) → wpAny (model Z.prog Z.w) c.A (newList []) (fun acc s₃ => wpAny (model Z.prog Z.w) c.A (newFunctionEnv sci c.env.globals (closOf c.env.cells sci.names []) [] c.env.qual none .none (some c.env)) (fun cenv s₄ =>
      codeAny (model Z.prog Z.w) c.A (.compStart (.ListComp elt [⟨.Name nm px, iter, ifs, 0⟩] sci pos) 0 (.ref s₁.heap.objs.size) acc { cenv with scope := relabel sci c.env }) (compPost (model Z.prog Z.w) c.A Er none Q acc cenv.locals) s₄) Er s₃) Er
      { s₁ with heap := s₁.heap.push { cls := .type cl, data := .fields #[.ref (α₁ i false), .int 0 0] } } := by
    intro cl St W hIo hst
    have up : ∀ b o, s₁.heap.get? b = some o → (s₁.heap.push { cls := .type cl, data := .fields #[.ref (α₁ i false), .int 0 0] }).get? b = some o := fun b o e => Heap.get?_push_of_some _ e
    refine comp_block (mr := mr) (α₀ := α₁) (m := m) (σ₀ := σ₁) (X := X) (vs := vs) (vals := vals) (i₀ := i) (o := o) (ax := α₁ i false) (lo := lo) (news := news) (Qa := Qa) hc ok hx hn ht he W hIo hst (H₁.F.keeps up) (fun p hp => ⟨up _ _ (N p hp).1, (N p hp).2⟩) Rl1 (R.ext hE) (Nat.ne_of_lt H₁.F.ns.lt) ?_
      (fun p hp => Nat.ne_of_lt (Heap.lt_size (N p hp).1)) ?_ hvs hlen ⟨_, tk, by rw [hex]⟩ hhas hax (fun α' σ' news' hE' hm' => ⟨hE'.2 i hlt false, hback α' σ'.length news' (hE'.2 i hlt false) hm' (hE'.vrs hvs)⟩) hcw fun v σ' α' s' val hq hE' H' hv => hQ v σ' α' s' val hq (hE.trans hE') H' hv
    · cases e : c.h₀.get? s₁.heap.objs.size with
      | none => rfl
      | some o' => exact absurd (Heap.lt_size (H₁.F.keep _ o' e)) (Nat.lt_irrefl _)
    · show s₁.heap.objs.size < (s₁.heap.push _).objs.size
      rw [Heap.size_push]; exact Nat.lt_succ_self _
  rcases hkind with ⟨_, rfl⟩ | ⟨_, rfl⟩
  · have hl : s₁.heap.IsList (α₁ i false) vals.toArray := ⟨lo, (N _ hm).1, hcls, cnt, hdata⟩
    exact wpAny_pyIter_list hl (main "list_iterator" _ (Walks.list hc.room.1 _ _ (Nat.ne_of_lt hltA) _) (fun i h st => by obtain ⟨o, e, _⟩ := st.1; exact ⟨o, e⟩) ⟨⟨_, Heap.get?_push_size _ rfl, rfl, rfl⟩, hl.push _⟩)
  · have hl : s₁.heap.IsTuple (α₁ i false) vals.toArray := ⟨lo, (N _ hm).1, hcls, cnt, hdata⟩
    exact wpAny_pyIter_tuple hl (main "tuple_iterator" _ (Walks.tuple hc.room.1 _ _ (Nat.ne_of_lt hltA) _) (fun i h st => by obtain ⟨o, e, _⟩ := st.1; exact ⟨o, e⟩) ⟨⟨_, Heap.get?_push_size _ rfl, rfl, rfl⟩, hl.at fun o e => Heap.get?_push_of_some _ e⟩)

theorem se_comp {sci : Scope} {x : Nat} {nm : Str} {cap : List Nat} {elt iter : Expr} {ifs : List Expr} {px pos : Pos} {Wi : EW} {Wc : TW} {We : EW} (hi : SE Z sc n iter Wi) (ht : STests Z sci n ifs Wc) (he : SE Z sci n elt We)
    (hx : Z.T.s x = nm) (hn : x < Z.T.n) (hok : compOkB Z.T sc sci x cap = true) (hs : ∀ env v, foldedSetIterable iter env v = pure v) :
    SE Z sc n (.ListComp elt [⟨.Name nm px, iter, ifs, 0⟩] sci pos) (eComp x cap Wi Wc We) :=
  fun c hc mr => se_comp_at hc (hi c hc mr) ht he hx hn hok hs

-- all, any, max
noncomputable def boolsOf : List V → Option (List Bool)
  | [] => some []
  | .bool b :: r => (boolsOf r).map (b :: ·)
  | _ :: _ => Option.none
theorem boolsOf_map (bs : List Bool) : boolsOf (bs.map V.bool) = some bs := by
  induction bs with
  | nil => rfl
  | cons b r ih => simp [boolsOf, ih]
theorem bools_are {α : AdMap} {k : Nat} : ∀ {vs : List V} {bs : List Bool} {vals : List Value}, boolsOf vs = some bs → All2 (VR α k) vs vals → LSm.BoolsAre vals bs
  | [], bs, _, h, .nil => by simp [boolsOf] at h; subst h; exact .nil
  | .bool b :: r, bs, _, h, .cons h1 h2 => by
    simp only [boolsOf, Option.map_eq_some_iff] at h
    obtain ⟨a, ha, rfl⟩ := h
    cases h1
    exact .cons b (bools_are ha h2)
  | .none :: _, _, _, h, _ => by simp [boolsOf] at h
  | .int _ :: _, _, _, h, _ => by simp [boolsOf] at h
  | .bytes _ :: _, _, _, h, _ => by simp [boolsOf] at h
  | .obj _ :: _, _, _, h, _ => by simp [boolsOf] at h
noncomputable def eAllG (f : List Bool → Bool) (W : EW) : EW := fun m σ Q => W m σ fun v σ' => ∃ i vs bs, v = .obj i ∧ σ'[i]? = some (.list vs) ∧ boolsOf vs = some bs ∧ Q (.bool (f bs)) σ'
noncomputable def eAll (W : EW) : EW := eAllG (fun bs => bs.all id) W
noncomputable def eAny (W : EW) : EW := eAllG (fun bs => bs.any id) W
theorem HI.grown {c : Cx} {mr : Str → Option Value} {α : AdMap} {σ : Hp} {X : List (Addr × Obj)} {s : Shared} (H : HI Z c mr α σ X s) {news : List (Addr × Obj)} (Rr : Rl Z.T Z.prog Z.w α σ X news) {h' : Heap} {tk : Nat} (F' : Fr c.h₀ c.L h' mr) (N' : News c.h₀ c.L h' news) :
    HI Z c mr α σ X { s with heap := h', toks := tk } :=
  let ⟨_, _, he⟩ := H.ex
  ⟨F', ⟨news, N', Rr⟩, ⟨h', tk, by rw [he]⟩⟩
theorem se_all {x : Nat} {nm : Str} {e : Expr} {p pos : Pos} {W : EW} (hb : BltOk Z sc x nm "all") (h : SE Z sc n e W) (he : ∀ env, starEach [e] env = (false, eval e env) :: starEach [] env) : SE Z sc n (.Call (.Name nm p) [e] [] pos) (eAll W) := by
  obtain ⟨rfl, hg, hk, hbb, ne⟩ := hb
  intro c hc mr α m σ X s Qa Q Er H R hW hQ
  refine Call_ (load_builtin hc H hg hk hbb ne ?_) rfl
  refine callWith_blt hc h he H R hW fun v σ' α' s' val hq hE H' hv => ?_
  obtain ⟨i, vs, bs, rfl, hi, hbs, hq⟩ := hq
  cases hv
  obtain ⟨news, N, Rr⟩ := H'.led
  obtain ⟨vals, hl, hvs, hlen⟩ := H'.list hi
  exact LSm.all_bools H'.F N hc.room.1 hl (bools_are hbs hvs) fun h' tk F' N' => hQ _ σ' α' _ _ hq hE (H'.grown Rr F' N') (.bool _)
theorem se_any {x : Nat} {nm : Str} {e : Expr} {p pos : Pos} {W : EW} (hb : BltOk Z sc x nm "any") (h : SE Z sc n e W) (he : ∀ env, starEach [e] env = (false, eval e env) :: starEach [] env) : SE Z sc n (.Call (.Name nm p) [e] [] pos) (eAny W) := by
  obtain ⟨rfl, hg, hk, hbb, ne⟩ := hb
  intro c hc mr α m σ X s Qa Q Er H R hW hQ
  refine Call_ (load_builtin hc H hg hk hbb ne ?_) rfl
  refine callWith_blt hc h he H R hW fun v σ' α' s' val hq hE H' hv => ?_
  obtain ⟨i, vs, bs, rfl, hi, hbs, hq⟩ := hq
  cases hv
  obtain ⟨news, N, Rr⟩ := H'.led
  obtain ⟨vals, hl, hvs, hlen⟩ := H'.list hi
  exact LSm.any_bools H'.F N hc.room.1 hl (bools_are hbs hvs) fun h' tk F' N' => hQ _ σ' α' _ _ hq hE (H'.grown Rr F' N') (.bool _)
noncomputable def eMax (W : EW) : EW := fun m σ Q => W m σ fun v σ' => ∃ (i : Nat) (ns : List Int), v = .obj i ∧ σ'[i]? = some (.list (ns.map V.int)) ∧ 0 < ns.length ∧ ∀ M ∈ ns, (∀ a ∈ ns, a ≤ M) → Q (.int M) σ'
theorem se_max {x : Nat} {nm : Str} {e : Expr} {p pos : Pos} {W : EW} (hb : BltOk Z sc x nm "max") (h : SE Z sc n e W) (he : ∀ env, starEach [e] env = (false, eval e env) :: starEach [] env) : SE Z sc n (.Call (.Name nm p) [e] [] pos) (eMax W) := by
  obtain ⟨rfl, hg, hk, hbb, ne⟩ := hb
  intro c hc mr α m σ X s Qa Q Er H R hW hQ
  refine Call_ (load_builtin hc H hg hk hbb ne ?_) rfl
  refine callWith_blt hc h he H R hW fun v σ' α' s' val hq hE H' hv => ?_
  obtain ⟨i, ns, rfl, hi, h0, hq⟩ := hq
  cases hv
  obtain ⟨news, N, Rr⟩ := H'.led
  obtain ⟨vals, hl, hvs, hlen⟩ := H'.list hi
  exact max_list_N hc.room.1 H'.F N hl (ints_are hvs) h0 fun h' M t tk F' N' hM hle => hQ _ σ' α' _ _ (hq M hM hle) hE (H'.grown Rr F' N') (.int M t)

-- tuple + tuple, neither empty
noncomputable def eCatT (W₁ W₂ : EW) : EW := fun m σ Q => W₁ m σ fun a σ₁ => W₂ m σ₁ fun b σ₂ => ∃ i j vs ws, a = .obj i ∧ b = .obj j ∧ σ₂[i]? = some (.tup vs) ∧ σ₂[j]? = some (.tup ws) ∧ vs ≠ [] ∧ ws ≠ [] ∧ (vs ++ ws).length ≤ 4096 ∧ Q (.obj σ₂.length) (σ₂ ++ [.tup (vs ++ ws)])
theorem se_catT {l r : Expr} {pos : Pos} {W₁ W₂ : EW} (h₁ : SE Z sc n l W₁) (h₂ : SE Z sc n r W₂) : SE Z sc n (.BinOp l .Add r pos) (eCatT W₁ W₂) := by
  intro c hc mr α m σ X s Qa Q Er H R hW hQ
  refine wpAny_BinOp (h₁ c hc mr α m σ X s _ _ Er H R hW fun a σ₁ α₁ s₁ va hq hE H₁ ha => ?_)
  refine h₂ c hc mr α₁ m σ₁ X s₁ _ _ Er H₁ (R.ext hE) hq fun b σ₂ α₂ s₂ vb hq₂ hE₂ H₂ hb => ?_
  obtain ⟨i, j, vs, ws, rfl, rfl, hi, hj, hv0, hw0, hlen, hq₃⟩ := hq₂
  have ha' := hE₂.vr ha
  cases ha'; cases hb
  obtain ⟨news, N, Rr⟩ := H₂.led
  obtain ⟨vals, hl, hvs, hl1⟩ := H₂.tup hi
  obtain ⟨wals, hl', hws, hl2⟩ := H₂.tup hj
  have e1 := hvs.length
  have e2 := hws.length
  have hvn : vals ≠ [] := fun e => by subst e; cases hvs; exact hv0 rfl
  have hwn : wals ≠ [] := fun e => by subst e; cases hws; exact hw0 rfl
  refine add_tuples H₂.F N hl hl' (fun e => absurd e hvn) (fun _ e => absurd e hwn) (fun _ _ h' F' N' => ?_) (by rw [List.length_append] at hlen; rw [sizeLine_eq]; omega)
  have hall := hvs.append hws
  obtain ⟨HH, EE, VV⟩ := fresh1 (tk := s₂.toks) (o := .tup (vs ++ ws)) H₂ Rr F' N' (fun p hp => Heap.lt_size (N p hp).1) (fun q => nomatch q)
    ⟨hlen, vals ++ wals, by rw [ext1_f]; exact List.mem_cons_self, (ext_push (o := .tup (vs ++ ws)) (a := s₂.heap.objs.size) (b := 0)).vrs hall |>.mono fun a b q => by rwa [len_push] at q⟩
  exact hQ _ _ _ _ _ hq₃ ((hE.trans hE₂).trans EE) HH VV

-- == and != of tuples of ints and bytes, and of lists of such tuples
noncomputable def compat : V → V → Bool
  | .int _, .int _ => true
  | .bytes _, .bytes _ => true
  | _, _ => false
noncomputable def compatL : List V → List V → Bool
  | [], [] => true
  | a :: r, b :: t => compat a b && compatL r t
  | _, _ => false
noncomputable def compatLL : List (List V) → List (List V) → Bool
  | [], [] => true
  | a :: r, b :: t => compatL a b && compatLL r t
  | _, _ => false
theorem compatL_length : ∀ {a b : List V}, compatL a b = true → a.length = b.length
  | [], [], _ => rfl
  | _ :: r, _ :: t, h => by
    simp only [compatL, Bool.and_eq_true] at h
    simp [compatL_length h.2]
  | [], _ :: _, h => by cases h
  | _ :: _, [], h => by cases h
theorem compatL_get : ∀ {a b : List V}, compatL a b = true → ∀ j (h1 : j < a.length) (h2 : j < b.length), compat a[j] b[j] = true
  | x :: r, y :: t, h, j, h1, h2 => by
    simp only [compatL, Bool.and_eq_true] at h
    cases j with
    | zero => exact h.1
    | succ j => exact compatL_get h.2 j (Nat.lt_of_succ_lt_succ h1) (Nat.lt_of_succ_lt_succ h2)
  | [], _, _, j, h1, _ => absurd h1 (Nat.not_lt_zero j)
  | _ :: _, [], _, j, _, h2 => absurd h2 (Nat.not_lt_zero j)
theorem all_range_eq {α : Type} [DecidableEq α] : ∀ {a b : List α}, a.length = b.length → ((List.range a.length).all fun j => decide (a[j]? = b[j]?)) = decide (a = b) := by
  intro a b h
  rw [Bool.eq_iff_iff, List.all_eq_true, decide_eq_true_iff]
  constructor
  · intro q
    apply List.ext_getElem? 
    intro j
    by_cases hj : j < a.length
    · exact of_decide_eq_true (q j (List.mem_range.mpr hj))
    · rw [List.getElem?_eq_none (Nat.not_lt.mp hj), List.getElem?_eq_none (h ▸ Nat.not_lt.mp hj)]
  · intro q j _
    rw [q]; exact decide_eq_true rfl
theorem RcAt_bytes {A : Around} {s : Shared} {b c : Array UInt8} {t u : Tok} : SeqAt.RcAt A s (.bytes b t) (.bytes c u) (b.toList == c.toList) := fun _ _ _ _ h => eq_bytes h
theorem EqAt_bytes {A : Around} {s : Shared} {b c : Array UInt8} {t u : Tok} : SeqAt.EqAt A s (.bytes b t) (.bytes c u) (b.toList == c.toList) := fun prog w E Q h => by
  unfold eqBool
  refine wpAny_holding ?_
  refine wpAny_ite_split (fun hab => ?_) (fun _ => ?_)
  · have e : b = c := by have := eq_of_beq hab; injection this
    subst e
    exact wpAny_bind (wpAny_rule (wpAny_pure (by simpa using h)))
  · exact wpAny_bind (RcAt_bytes prog w E _ (wpAny_truthy_bool h))
theorem byt_inj {k l : Bool} : ((byt k).toList == (byt l).toList) = decide (k = l) := by cases k <;> cases l <;> decide
theorem leaf_eq {α : AdMap} {k : Nat} {A : Around} {s : Shared} {a b : V} {x y : Value} (hc : compat a b = true) (ha : VR α k a x) (hb : VR α k b y) : SeqAt.EqAt A s x y (decide (a = b)) := by
  cases ha <;> cases hb <;> first | (exfalso; simp [compat] at hc; done) | skip
  · rename_i i t j u
    have e : decide (V.int i = V.int j) = (i == j) := by
      by_cases h : i = j <;> simp [h]
    rw [e]
    exact SeqAt.EqAt.int_int i t j u
  · rename_i i t j u
    have e : decide (V.bytes i = V.bytes j) = ((byt i).toList == (byt j).toList) := by
      rw [byt_inj]
      by_cases h : i = j <;> simp [h]
    rw [e]
    exact EqAt_bytes
theorem vr_get {α : AdMap} {k : Nat} {vs : List V} {vals : List Value} (h : All2 (VR α k) vs vals) {j : Nat} (h1 : j < vs.length) (h2 : j < vals.length) : VR α k vs[j] vals[j] := by
  obtain ⟨b, e, r⟩ := h.get (i := j) (a := vs[j]) (by simp [h1])
  have : vals[j] = b := by rw [List.getElem?_eq_getElem h2] at e; exact Option.some.inj e
  rw [this]; exact r
theorem tup_all {vs ws : List V} (hl : vs.length = ws.length) {k : Nat} (hk : k = vs.length) : ((List.range (min k k)).all (fun j => decide (vs[j]? = ws[j]?)) && k == k) = decide (vs = ws) := by
  subst hk
  rw [Nat.min_self, beq_self_eq_true, Bool.and_true]
  exact all_range_eq hl
section
variable {α : AdMap} {k : Nat} {A : Around} {s : Shared} {vs ws : List V} {vals wals : List Value} {l b : Addr}
theorem tup_he (hv : All2 (VR α k) vs vals) (hw : All2 (VR α k) ws wals) (hc : compatL vs ws = true) : ∀ j (h1 : j < vals.toArray.size) (h2 : j < wals.toArray.size), SeqAt.EqAt A s vals.toArray[j] wals.toArray[j] (decide (vs[j]? = ws[j]?)) := fun j h1 h2 => by
  have a1 : j < vs.length := by rw [hv.length]; simpa using h1
  have a2 : j < ws.length := by rw [hw.length]; simpa using h2
  have e : decide (vs[j]? = ws[j]?) = decide (vs[j] = ws[j]) := by
    rw [List.getElem?_eq_getElem a1, List.getElem?_eq_getElem a2]; simp
  rw [e]
  have := leaf_eq (A := A) (s := s) (compatL_get hc j a1 a2) (vr_get hv a1 (by simpa using h1)) (vr_get hw a2 (by simpa using h2))
  simpa using this
theorem tup_rc (hl : s.heap.IsTuple l vals.toArray) (hb : s.heap.IsTuple b wals.toArray) (hv : All2 (VR α k) vs vals) (hw : All2 (VR α k) ws wals) (hc : compatL vs ws = true) (hu : A.units < cLine) :
    SeqAt.RcAt A s (.ref l) (.ref b) (decide (vs = ws)) := by
  have r := SeqAt.RcAt.tuples hl hb hu (tup_he (A := A.in1) (s := s) hv hw hc)
  rw [List.size_toArray, List.size_toArray, ← hv.length, ← hw.length, ← compatL_length hc, tup_all (compatL_length hc) rfl] at r
  exact r
theorem tup_rcn (hl : s.heap.IsTuple l vals.toArray) (hb : s.heap.IsTuple b wals.toArray) (hv : All2 (VR α k) vs vals) (hw : All2 (VR α k) ws wals) (hc : compatL vs ws = true) (hu : A.units < cLine) :
    SeqAt.RcNeAt A s (.ref l) (.ref b) (!decide (vs = ws)) := by
  have r := SeqAt.RcNeAt.tuples hl hb hu (tup_he (A := A.in1) (s := s) hv hw hc)
  rw [List.size_toArray, List.size_toArray, ← hv.length, ← hw.length, ← compatL_length hc, tup_all (compatL_length hc) rfl] at r
  exact r
end

noncomputable def tEqT (neg : Bool) (W₁ W₂ : EW) : TW := fun m σ Q => W₁ m σ fun a σ₁ => W₂ m σ₁ fun b σ₂ => ∃ i j vs ws, a = .obj i ∧ b = .obj j ∧ σ₂[i]? = some (.tup vs) ∧ σ₂[j]? = some (.tup ws) ∧ compatL vs ws = true ∧ Q (decide (vs = ws) != neg) σ₂
theorem st_eqT {neg : Bool} {op : CmpOp} {l r : Expr} {pos : Pos} {W₁ W₂ : EW} (ho : op = if neg then .NotEq else .Eq) (h₁ : SE Z sc n l W₁) (h₂ : SE Z sc n r W₂) (hm : behindInMarks op r = false) : STst Z sc n (.Compare l [op] [r] pos) (tEqT neg W₁ W₂) := by
  subst ho
  intro c hc mr α m σ X s Qa Q Er H R hW hQ
  refine wpAny_isTrue_Compare1 (h₁ c hc mr α m σ X s _ _ Er H R hW fun a σ₁ α₁ s₁ va hq hE H₁ ha => ?_) hm
  refine h₂ c hc mr α₁ m σ₁ X s₁ _ _ Er H₁ (R.ext hE) hq fun b σ₂ α₂ s₂ vb hq₂ hE₂ H₂ hb => ?_
  obtain ⟨i, j, vs, ws, rfl, rfl, hi, hj, hcp, hq₃⟩ := hq₂
  have ha' := hE₂.vr ha
  cases ha'; cases hb
  obtain ⟨vals, hl, hvs, hl1⟩ := H₂.tup hi
  obtain ⟨wals, hl', hws, hl2⟩ := H₂.tup hj
  have hu : c.A.units < cLine := by have := hc.room.2.2; omega
  cases neg
  · refine tup_rc hl hl' hvs hws hcp hu _ _ _ _ (wpAny_truthy_bool ?_)
    have := hQ _ σ₂ α₂ s₂ hq₃ (hE.trans hE₂) H₂
    rwa [Bool.bne_false] at this
  · refine tup_rcn hl hl' hvs hws hcp hu _ _ _ _ (wpAny_truthy_bool ?_)
    have := hQ _ σ₂ α₂ s₂ hq₃ (hE.trans hE₂) H₂
    rwa [Bool.bne_true] at this
end

section
variable {Z : Fix} {sc : Scope} {n : Nat}

/-- the tuples that a list's items are -/
noncomputable def tups (σ : Hp) : List V → Option (List (List V))
  | [] => some []
  | .obj i :: r => match σ[i]? with
    | some (.tup vs) => (tups σ r).map (vs :: ·)
    | _ => Option.none
  | _ :: _ => Option.none
theorem tups_length {σ : Hp} : ∀ {vs : List V} {A : List (List V)}, tups σ vs = some A → vs.length = A.length
  | [], A, h => by simp [tups] at h; subst h; rfl
  | .obj i :: r, A, h => by
    simp only [tups] at h
    split at h
    · simp only [Option.map_eq_some_iff] at h
      obtain ⟨B, hB, rfl⟩ := h
      simp [tups_length hB]
    · cases h
  | .none :: _, _, h => by simp [tups] at h
  | .bool _ :: _, _, h => by simp [tups] at h
  | .int _ :: _, _, h => by simp [tups] at h
  | .bytes _ :: _, _, h => by simp [tups] at h
theorem tups_get {σ : Hp} : ∀ {vs : List V} {A : List (List V)}, tups σ vs = some A → ∀ j (h1 : j < vs.length) (h2 : j < A.length), ∃ i, vs[j] = .obj i ∧ σ[i]? = some (.tup A[j])
  | .obj i :: r, A, h, j, h1, h2 => by
    simp only [tups] at h
    split at h
    · rename_i vs0 hv
      simp only [Option.map_eq_some_iff] at h
      obtain ⟨B, hB, rfl⟩ := h
      cases j with
      | zero => exact ⟨i, rfl, hv⟩
      | succ j => exact tups_get hB j (Nat.lt_of_succ_lt_succ h1) (Nat.lt_of_succ_lt_succ h2)
    · cases h
  | [], _, _, j, h1, _ => absurd h1 (Nat.not_lt_zero j)
  | .none :: _, _, h, _, _, _ => by simp [tups] at h
  | .bool _ :: _, _, h, _, _, _ => by simp [tups] at h
  | .int _ :: _, _, h, _, _, _ => by simp [tups] at h
  | .bytes _ :: _, _, h, _, _, _ => by simp [tups] at h
theorem compatLL_get : ∀ {a b : List (List V)}, compatLL a b = true → ∀ j (h1 : j < a.length) (h2 : j < b.length), compatL a[j] b[j] = true
  | x :: r, y :: t, h, j, h1, h2 => by
    simp only [compatLL, Bool.and_eq_true] at h
    cases j with
    | zero => exact h.1
    | succ j => exact compatLL_get h.2 j (Nat.lt_of_succ_lt_succ h1) (Nat.lt_of_succ_lt_succ h2)
  | [], _, _, j, h1, _ => absurd h1 (Nat.not_lt_zero j)
  | _ :: _, [], _, j, _, h2 => absurd h2 (Nat.not_lt_zero j)

theorem rc_to_eq {A : Around} {s : Shared} {l b : Addr} {k : Bool} (h : SeqAt.RcAt A s (.ref l) (.ref b) k) (hs : l = b → k = true) : SeqAt.EqAt A s (.ref l) (.ref b) k := by
  by_cases e : l = b
  · have := hs e
    subst this e
    exact .same _
  · exact .of_refs e h

theorem lists_all {c : Cx} {mr : Str → Option Value} {α : AdMap} {σ : Hp} {X : List (Addr × Obj)} {s : Shared} (H : HI Z c mr α σ X s) {xs ys : List V} {vals wals : List Value} {P R : List (List V)} {A : Around} (hu : A.units < cLine)
    (hx : tups σ xs = some P) (hy : tups σ ys = some R) (hv : All2 (VR α σ.length) xs vals) (hw : All2 (VR α σ.length) ys wals) (hcp : compatLL P R = true) (_hl : P.length = R.length) :
    ∀ j (h1 : j < vals.toArray.size) (h2 : j < wals.toArray.size), SeqAt.EqAt A s vals.toArray[j] wals.toArray[j] (decide (P[j]? = R[j]?)) := fun j h1 h2 => by
  have a1 : j < xs.length := by rw [hv.length]; simpa using h1
  have a2 : j < ys.length := by rw [hw.length]; simpa using h2
  have b1 : j < P.length := tups_length hx ▸ a1
  have b2 : j < R.length := tups_length hy ▸ a2
  obtain ⟨i, e1, hi⟩ := tups_get hx j a1 b1
  obtain ⟨i', e2, hi'⟩ := tups_get hy j a2 b2
  have v1 := vr_get hv a1 (by simpa using h1)
  have v2 := vr_get hw a2 (by simpa using h2)
  rw [e1] at v1
  rw [e2] at v2
  obtain ⟨tv, ht1, hv1, _⟩ := H.tup hi
  obtain ⟨tw, ht2, hv2, _⟩ := H.tup hi'
  have e : decide (P[j]? = R[j]?) = decide (P[j] = R[j]) := by
    rw [List.getElem?_eq_getElem b1, List.getElem?_eq_getElem b2]; simp
  rw [e]
  have g1 : vals.toArray[j] = vals[j]'(by simpa using h1) := by simp
  have g2 : wals.toArray[j] = wals[j]'(by simpa using h2) := by simp
  rw [g1, g2]
  generalize vals[j]'(by simpa using h1) = x1 at v1
  generalize wals[j]'(by simpa using h2) = x2 at v2
  cases v1; cases v2
  refine rc_to_eq (tup_rc ht1 ht2 hv1 hv2 (compatLL_get hcp j b1 b2) hu) fun ea => ?_
  obtain ⟨news, N, Rr⟩ := H.led
  have := (Rr.inj i false i' false ⟨_, hi, rfl⟩ ⟨_, hi', rfl⟩ ea).1
  subst this
  rw [hi] at hi'
  injection hi' with h
  injection h with h
  exact decide_eq_true h

/-- [..] != want, both lists of tuples -/
noncomputable def tNeL (W₁ W₂ : EW) : TW := fun m σ Q => W₁ m σ fun a σ₁ => W₂ m σ₁ fun b σ₂ => ∃ i j xs ys P R, a = .obj i ∧ b = .obj j ∧ σ₂[i]? = some (.list xs) ∧ σ₂[j]? = some (.list ys) ∧ tups σ₂ xs = some P ∧ tups σ₂ ys = some R ∧ (P.length = R.length → compatLL P R = true) ∧ Q (!decide (P = R)) σ₂
theorem st_neL {l r : Expr} {pos : Pos} {W₁ W₂ : EW} (h₁ : SE Z sc n l W₁) (h₂ : SE Z sc n r W₂) (hm : behindInMarks .NotEq r = false) : STst Z sc n (.Compare l [.NotEq] [r] pos) (tNeL W₁ W₂) := by
  intro c hc mr α m σ X s Qa Q Er H R hW hQ
  refine wpAny_isTrue_Compare1 (h₁ c hc mr α m σ X s _ _ Er H R hW fun a σ₁ α₁ s₁ va hq hE H₁ ha => ?_) hm
  refine h₂ c hc mr α₁ m σ₁ X s₁ _ _ Er H₁ (R.ext hE) hq fun b σ₂ α₂ s₂ vb hq₂ hE₂ H₂ hb => ?_
  obtain ⟨i, j, xs, ys, P, S, rfl, rfl, hi, hj, hP, hS, hcp, hq₃⟩ := hq₂
  have ha' := hE₂.vr ha
  cases ha'; cases hb
  obtain ⟨vals, hl, hvs, hl1⟩ := H₂.list hi
  obtain ⟨wals, hl', hws, hl2⟩ := H₂.list hj
  have hu : c.A.units + 8 < cLine := by have := hc.room.2.2; omega
  have e1 := tups_length hP
  have e2 := tups_length hS
  have e3 := hvs.length
  have e4 := hws.length
  by_cases hlen : P.length = S.length
  · have r := SeqAt.RcNeAt.lists (A := c.A) hl hl' (by rw [List.size_toArray, List.size_toArray]; omega) (by omega) (lists_all H₂ (A := c.A.in1) (by rw [Around.in1_units]; omega) hP hS hvs hws (hcp hlen) hlen)
    rw [List.size_toArray, ← e3, e1, all_range_eq hlen] at r
    exact r _ _ _ _ (wpAny_truthy_bool (hQ _ σ₂ α₂ s₂ hq₃ (hE.trans hE₂) H₂))
  · have r := SeqAt.RcNeAt.lists_lengths (A := c.A) (s := s₂) hl hl' (by rw [List.size_toArray, List.size_toArray, ← e3, ← e4, e1, e2]; simpa using hlen) (by omega)
    have hd : (!decide (P = S)) = true := by
      have : ¬ P = S := fun e => hlen (congrArg List.length e)
      simp [this]
    rw [hd] at hq₃
    exact r _ _ _ _ (wpAny_truthy_bool (hQ _ σ₂ α₂ s₂ hq₃ (hE.trans hE₂) H₂))

-- a def with cells entered
theorem cellsFrom_ap : ∀ (names : List (Str × NameKind)) (k : Nat) (acc : List (Str × Addr)), (∀ p ∈ acc, p.2 < k) → (acc.Pairwise fun x y => x.2 ≠ y.2) →
    ((cellsFrom k names acc).Pairwise fun x y => x.2 ≠ y.2) ∧ ∀ p ∈ cellsFrom k names acc, p ∈ acc ∨ k ≤ p.2
  | [], _, _, _, hp => ⟨hp, fun _ h => .inl h⟩
  | (nm, kd) :: r, k, acc, ha, hp => by
    unfold cellsFrom
    split
    · obtain ⟨q1, q2⟩ := cellsFrom_ap r (k + 1) ((nm, k) :: acc) (fun p hp => by
        rcases List.mem_cons.mp hp with rfl | hp
        · exact Nat.lt_succ_self k
        · exact Nat.lt_succ_of_lt (ha p hp)) (List.pairwise_cons.mpr ⟨fun y hy e => absurd (ha y hy) (e ▸ Nat.lt_irrefl _), hp⟩)
      refine ⟨q1, fun p hp => ?_⟩
      rcases q2 p hp with h | h
      · rcases List.mem_cons.mp h with rfl | h
        · exact .inr (Nat.le_refl _)
        · exact .inl h
      · exact .inr (Nat.le_of_succ_le h)
    · exact cellsFrom_ap r k acc ha hp
theorem cellsAre_get {cm : Str → Option Value} : ∀ {cs : List (Str × Addr)} {cells : List (Addr × Obj)}, CellsAre cm cs cells → cells.map (·.1) = cs.map (·.2) ∧ ∀ x a, (x, a) ∈ cs → ∃ o, (a, o) ∈ cells ∧ o.data = .cell (cm x)
  | _, _, .nil => ⟨rfl, fun x a h => absurd h List.not_mem_nil⟩
  | _, _, .cons hd r => by
    obtain ⟨h1, h2⟩ := cellsAre_get r
    refine ⟨by simp [h1], fun x a h => ?_⟩
    rcases List.mem_cons.mp h with e | h
    · cases e; exact ⟨_, List.mem_cons_self, hd⟩
    · obtain ⟨o, a1, a2⟩ := h2 x a h
      exact ⟨o, List.mem_cons_of_mem _ a1, a2⟩
theorem bindL_not {kindOf : Str → Option NameKind} {y : Str} : ∀ {l : List (Str × Value)} {m : Str → Option Value}, y ∉ l.map (·.1) → bindL kindOf l m y = m y
  | [], _, _ => rfl
  | (a, v) :: r, m, h => by
    rw [List.map_cons, List.mem_cons, not_or] at h
    unfold bindL
    rw [bindL_not h.2]
    split
    · show (if y = a then some v else m y) = m y
      rw [if_neg h.1]
    · rfl
theorem bindC_not {kindOf : Str → Option NameKind} {y : Str} : ∀ {l : List (Str × Value)} {m : Str → Option Value}, y ∉ l.map (·.1) → bindC kindOf l m y = m y
  | [], _, _ => rfl
  | (a, v) :: r, m, h => by
    rw [List.map_cons, List.mem_cons, not_or] at h
    unfold bindC
    rw [bindC_not h.2]
    split
    · rfl
    · show (if y = a then some v else m y) = m y
      rw [if_neg h.1]
theorem bindL_mem {kindOf : Str → Option NameKind} {y : Str} {v : Value} (hk : kindOf y = some .local) : ∀ {l : List (Str × Value)} {m : Str → Option Value}, (l.map (·.1)).Nodup → (y, v) ∈ l → bindL kindOf l m y = some v
  | (a, w) :: r, m, nd, h => by
    rw [List.map_cons, List.nodup_cons] at nd
    unfold bindL
    rcases List.mem_cons.mp h with e | h
    · cases e
      rw [bindL_not nd.1, if_pos hk]
      show (if y = y then some v else m y) = some v
      rw [if_pos rfl]
    · exact bindL_mem hk nd.2 h
theorem bindC_mem {kindOf : Str → Option NameKind} {y : Str} {v : Value} (hk : ¬ kindOf y = some .local) : ∀ {l : List (Str × Value)} {m : Str → Option Value}, (l.map (·.1)).Nodup → (y, v) ∈ l → bindC kindOf l m y = some v
  | (a, w) :: r, m, nd, h => by
    rw [List.map_cons, List.nodup_cons] at nd
    unfold bindC
    rcases List.mem_cons.mp h with e | h
    · cases e
      rw [bindC_not nd.1, if_neg hk]
      show (if y = y then some v else m y) = some v
      rw [if_pos rfl]
    · exact bindC_mem hk nd.2 h
theorem zip_nd {T : Names} : ∀ {ps : List Nat} {vals : List Value}, ps.Nodup → (∀ p ∈ ps, p < T.n) → (((ps.map T.s).zip vals).map (·.1)).Nodup
  | [], _, _, _ => by simp
  | p :: ps, [], _, _ => by simp
  | p :: ps, v :: vals, nd, hps => by
    rw [List.map_cons, List.zip_cons_cons, List.map_cons, List.nodup_cons]
    refine ⟨fun h => ?_, zip_nd (List.nodup_cons.mp nd).2 fun q hq => hps q (List.mem_cons_of_mem _ hq)⟩
    obtain ⟨⟨a, b⟩, h1, h2⟩ := List.mem_map.mp h
    obtain ⟨q, hq, e⟩ := List.mem_map.mp (List.of_mem_zip h1).1
    have : q = p := T.inj (hps q (List.mem_cons_of_mem _ hq)) (hps p List.mem_cons_self) (e.trans h2)
    exact (List.nodup_cons.mp nd).1 (this ▸ hq)

theorem sf_defC {f : Addr} {ps : List Nat} {scope : Scope} {body : List Stmt} {W : SW} (hd : DefOk Z f ps scope body) (hpar : ∀ p ∈ ps, scope.names.lookup (Z.T.s p) = some .local ∨ scope.names.lookup (Z.T.s p) = some .cell) (hfree : ∀ x ∈ scope.names, x.2 ≠ .free)
    (hcnd : ((cellsFrom 0 scope.names []).map (·.1)).Nodup) (hb : SSs Z scope n body W) : SFc Z (n + 1) f (fun args σ Q => args.length = ps.length ∧ W (ps.zip args) σ fun fl _ σ' => Q (retV fl) σ') := by
  obtain ⟨name, qual, params, dV, kV, doc, pm, cdv, ct, oc, an, od, osl, ho, hcd, hbind⟩ := hd.ex
  intro c sc hc mr α args σ X s vals Qa R H ha hW hQ
  obtain ⟨hlen, hW⟩ := hW
  have hvl : vals.length = ps.length := ha.length ▸ hlen
  obtain ⟨news, N, Rr⟩ := H.led
  obtain ⟨hh, tk, he⟩ := H.ex
  have hkind : (((ps.map Z.T.s).zip vals).all fun y => scope.names.lookup y.1 == some .local || scope.names.lookup y.1 == some .cell) = true := by
    rw [List.all_eq_true]
    rintro ⟨y1, y2⟩ hy
    obtain ⟨q, hq, e⟩ := List.mem_map.mp (List.of_mem_zip hy).1
    subst e
    rcases hpar q hq with h | h <;> simp [h]
  refine code_defC hc.B H.F hc.X N hc.T hc.hA hc.hf hc.hke ho hcd (by have := hc.room.2.1; omega) (BindsTo.of_eq (hbind vals hvl)) hkind hcnd (fun g L' h₁ tk' cells FG F' N' Y B' X' T' l1 => ?_) hd.co hd.gen hd.kd
  let env' : Env := envOfC qual scope L' f cdv
  let c' : Cx := { A := c.A.deeper env', env := env', fenv := env', outer := c.fenv :: c.outer, A₀ := c.A, base := c.base, h₀ := g, L := L', s₀ := { s with heap := h₁, toks := tk' } }
  have hcl : ∀ x, scope.names.lookup x = some .cell → (env'.cells.lookup x).isSome = true := fun x hx => cellsFrom_some _ _ _ (.inl hx)
  have hc' : c'.Ok Z scope n := ⟨B', X', T', Around.frames_deeper hc.hA, rfl, hd.kd, hc.room.deeper, hd.kd, rfl, rfl, fun x hx => hx, fun x hx => hx.elim (fun q => ⟨.inl q, hcl x q⟩) fun q => absurd rfl (hfree _ (lookup_mem q))⟩
  have hf' : FnSt c' scope := ⟨rfl, rfl, rfl, hcl⟩
  obtain ⟨ap1, ap2⟩ := cellsFrom_ap scope.names (L' + 1) [] (fun p hp => absurd hp List.not_mem_nil) List.Pairwise.nil
  obtain ⟨y1, y2⟩ := cellsAre_get Y
  have hge : ∀ p ∈ cells, L' < p.1 := fun p hp => by
    have : p.1 ∈ (cellsFrom (L' + 1) scope.names []).map (·.2) := y1 ▸ List.mem_map_of_mem hp
    obtain ⟨q, hq, e⟩ := List.mem_map.mp this
    rcases ap2 q hq with h | h
    · exact absurd h List.not_mem_nil
    · rw [← e]; exact h
  have hdisj : ∀ p ∈ cells, ∀ q ∈ news, p.1 ≠ q.1 := fun p hp q hq e => absurd (Nat.lt_trans (hge p hp) (e ▸ l1 q hq)) (Nat.lt_irrefl _)
  have nd : ((cells ++ news).map (·.1)).Nodup := by
    rw [List.map_append, List.nodup_append]
    refine ⟨?_, Rr.nd, fun a ha b hb e => ?_⟩
    · rw [y1]
      exact List.pairwise_map.mpr ap1
    · obtain ⟨p, hp, rfl⟩ := List.mem_map.mp ha
      obtain ⟨q, hq, rfl⟩ := List.mem_map.mp hb
      exact hdisj p hp q hq e
  have hcs : CellsOk c'.env cells X := ⟨fun x a q => by
      obtain ⟨o, h1, h2⟩ := y2 x a (mem_of_lookup q)
      exact ⟨o, _, h1, h2⟩, fun x y a h1 h2 => name_of_addr ap1 (mem_of_lookup h1) (mem_of_lookup h2), fun p hp q hq => hdisj p hp q (Rr.sub q hq)⟩
  have H' : HI Z c' (bindL env'.kindOf ((ps.map Z.T.s).zip vals) fun _ => none) α σ (cells ++ X) c'.s₀ := ⟨F', ⟨cells ++ news, N', Rr.addX nd⟩, ⟨h₁, tk', rfl⟩⟩
  have R' : NR Z c' (bindL env'.kindOf ((ps.map Z.T.s).zip vals) fun _ => none) α σ.length (cells ++ X) (ps.zip args) := fun x v hx => by
    obtain ⟨hx1, val, hv, hlk⟩ := zip_lookup (T := Z.T) ha hx hd.nd hd.lt
    have hm : (Z.T.s x, val) ∈ (ps.map Z.T.s).zip vals := List.mem_reverse.mp (lookup_mem hlk)
    have hnd := zip_nd (T := Z.T) (vals := vals) hd.nd hd.lt
    refine ⟨hd.lt x hx1, val, hv, ?_⟩
    rcases hpar x hx1 with hk | hk
    · exact .inl ⟨hk, rfl, bindL_mem hk hnd hm⟩
    · have hk' : ¬ env'.kindOf (Z.T.s x) = some .local := fun e => by
        have : scope.names.lookup (Z.T.s x) = some .local := e
        rw [hk] at this; cases this
      obtain ⟨a, ha'⟩ := Option.isSome_iff_exists.mp (hcl _ hk)
      obtain ⟨o, h1, h2⟩ := y2 _ a (mem_of_lookup ha')
      exact .inr (.inr ⟨.inl hk, a, o, ha', List.mem_append_left _ h1, h2.trans (congrArg _ (bindC_mem hk' hnd hm))⟩)
  refine wpAny_mono (hb c' hc' hf' _ α _ σ cells X _ _ (fun fl s' => LeaveK c.h₀ c.L mr g R (match fl with | .ret v => v | _ => .none) s') (fun _ _ => False) hcs H' R' hW fun fl m' σ' mr' Cs' α' s' fv hq hE hcs' H2 R2 hfl => ?_) (fun _ _ x => x) (fun _ _ x => x.elim)
  obtain ⟨news', N2, Rr2⟩ := H2.led
  obtain ⟨hh2, tk2, he2⟩ := H2.ex
  refine ⟨L', mr', news', H2.F, N2, fun FF NN => ?_⟩
  have Hfin : HI Z c mr α' σ' X s' := ⟨FF, ⟨news', NN, Rr2.subX fun p hp => List.mem_append_right _ hp⟩, ⟨hh2, tk2, by rw [he2]; show ({ s with heap := hh2, toks := tk2 } : Shared) = _; rw [he]⟩⟩
  cases hfl with
  | next => exact hQ .none σ' α' s' .none hq hE Hfin .none
  | brk => exact hQ .none σ' α' s' .none hq hE Hfin .none
  | cont => exact hQ .none σ' α' s' .none hq hE Hfin .none
  | ret hv => exact hQ _ σ' α' s' _ hq hE Hfin hv
end

noncomputable def prog0 : Program := PySem.Challenge.pw_nz0373_01
noncomputable def noSt : Stmt := .Pass default
noncomputable def topSt (i : Nat) : Stmt := prog0.main.body.getD i noSt
noncomputable def clsSts : Stmt → List Stmt
  | .ClassDef _ _ _ b _ _ _ _ _ _ _ => b
  | _ => []
noncomputable def methSt (i j : Nat) : Stmt := (clsSts (topSt i)).getD j noSt
noncomputable def stBody : Stmt → List Stmt
  | .FunctionDef _ _ b _ _ _ _ _ _ _ => b
  | _ => []
noncomputable def stArgs : Stmt → Arguments
  | .FunctionDef _ a _ _ _ _ _ _ _ _ => a
  | _ => default
noncomputable def stName : Stmt → Str
  | .FunctionDef n _ _ _ _ _ _ _ _ _ => n
  | _ => Str.empty
noncomputable def stScope : Stmt → Scope
  | .FunctionDef _ _ _ _ _ _ s _ _ _ => s
  | _ => default
abbrev vs (s : String) (t : Tok) : Value := .str (Str.ofString s) t
abbrev vi (i : Int) : Value := .int i 0
abbrev vI (i : Int) (t : Tok) : Value := .int i t
abbrev vr (a : Addr) : Value := .ref a
noncomputable def fnO (st : Stmt) (qual : String) (pm : Value) (code : Addr) : Obj := { cls := .type "function", data := .func (fnOf (stName st) (Str.ofString qual) (stArgs st) (stBody st) (stScope st) .none .none .none pm none (.ref code) .none) }
noncomputable def cdO (l : List Value) : Obj := { cls := .type "code", data := .fields l.toArray }
noncomputable def clO (a : Addr) (n : String) (ns : Addr) (t u : Tok) : Obj := { cls := .type "type", data := .cls { name := Str.ofString n, bases := [.type "object"], mro := [.ref a, .type "object"], ns := ns, qualname := Str.ofString n }, slots := #[none, none, some (vs n t), some (vs n u), some (.builtin "object.__new__"), some (.bool true)] }
noncomputable def de (P : Params) (n : String) (t : Tok) (v : Value) : DictEntry := ⟨PyData.keyHash P (Str.ofString n), .str (Str.ofString n) t, v⟩
noncomputable def nsO (l : List DictEntry) (n : Nat) : Obj := { cls := .type "dict", data := .dict l.toArray n }
noncomputable def oNames (P : Params) : Obj := nsO [de P "__name__" 165 (vs "law_nz0373_01" 1044), de P "__doc__" 166 .none, de P "__package__" 167 .none, de P "__loader__" 168 (.builtin "__main__.__loader__#opaque"), de P "__spec__" 169 .none, de P "__annotations__" 170 (vr 6), de P "__builtins__" 171 (vr 4), de P "__file__" 173 (vs "/claim/cut.py" 172), de P "__cached__" 174 .none, de P "_wall" 193 (vr 21), de P "KeepError" 215 (vr 31), de P "RaftError" 231 (vr 44), de P "BadConfig" 247 (vr 56), de P "ProposalDropped" 263 (vr 68), de P "LogPanic" 279 (vr 80), de P "NONE" 283 (vI (0) 282), de P "NO_LIMIT" 285 (vI (18446744073709551615) 284), de P "MSG_HUP" 287 (vI (0) 286), de P "MSG_BEAT" 289 (vI (1) 288), de P "MSG_PROP" 291 (vI (2) 290), de P "MSG_APP" 293 (vI (3) 292), de P "MSG_APP_RESP" 295 (vI (4) 294), de P "MSG_VOTE" 297 (vI (5) 296), de P "MSG_VOTE_RESP" 299 (vI (6) 298), de P "MSG_SNAP" 301 (vI (7) 300), de P "MSG_HEARTBEAT" 303 (vI (8) 302), de P "MSG_UNREACHABLE" 305 (vI (10) 304), de P "MSG_SNAP_STATUS" 307 (vI (11) 306), de P "MSG_CHECK_QUORUM" 309 (vI (12) 308), de P "MSG_TRANSFER" 311 (vI (13) 310), de P "MSG_TIMEOUT_NOW" 313 (vI (14) 312), de P "MSG_READ_INDEX" 315 (vI (15) 314), de P "MSG_PRE_VOTE" 317 (vI (17) 316), de P "MSG_PRE_VOTE_RESP" 319 (vI (18) 318), de P "MSG_WANT" 321 (vI (19) 320), de P "MSG_PIECE" 323 (vI (20) 322), de P "is_local" 330 (vr 89), de P "vote_resp_kind" 337 (vr 96), de P "rising" 346 (vr 103), de P "Message" 402 (vr 132), de P "VOTE_PENDING" 406 (vI (1) 405), de P "VOTE_LOST" 408 (vI (2) 407), de P "VOTE_WON" 410 (vI (3) 409), de P "majority_index" 416 (vr 141), de P "majority_vote" 428 (vr 148), de P "joint_index" 439 (vr 155), de P "joint_vote" 450 (vr 162), de P "Config" 552 (vr 242), de P "SAFE" 556 (vI (0) 555), de P "LEASE" 558 (vI (1) 557), de P "Ballots" 620 (vr 291), de P "FOLLOWER" 624 (vI (0) 623), de P "CANDIDATE" 626 (vI (1) 625), de P "LEADER" 628 (vI (2) 627), de P "PRE_CANDIDATE" 630 (vI (3) 629), de P "CAMP_PRE" 632 (vI (1) 631), de P "CAMP_ELECTION" 634 (vI (2) 633), de P "CAMP_TRANSFER" 636 (vI (3) 635), de P "TRANSFER_CONTEXT" 638 (.bytes #[116, 114, 97, 110, 115, 102, 101, 114] 637), de P "RaftConfig" 692 (vr 319), de P "may_lack_term" 699 (vr 330), de P "Elector" 1043 (vr 606), de P "_law_orders" 1051 (vr 617), de P "_law_draw" 1059 (vr 624), de P "_law_says" 1070 (vr 631), de P "_law_word" 1086 (vr 638), de P "_law_wins" 1092 (vr 643), de P "_law_end" 1098 (vr 648), de P "_law_asked" 1104 (vr 653), de P "law" 1110 (vr 658)] 70
noncomputable def KK (P : Params) : Frag := [(3, oNames P),
  (88, cdO [(vs "is_local" 324), (vs "is_local" 325), (vs "/claim/cut.py" 326), (vi (37)), (vi (1)), (vi (0)), (vi (0)), (vi (3)), (vr 83), (.bool true), (vi (181)), (vr 84), .none, (vr 85), (vr 86), (vr 87), (vi (328)), (vi (37)), (vs "/claim/cut.py" 329)]),
  (89, fnO (topSt 29) "is_local" (vs "raftkeep.messages" 280) 88),
  (102, cdO [(vs "rising" 338), (vs "rising" 339), (vs "/claim/cut.py" 340), (vi (45)), (vi (1)), (vi (0)), (vi (0)), (vi (3)), (vr 97), (.bool true), (vi (181)), (vr 98), .none, (vr 99), (vr 100), (vr 101), (vi (344)), (vi (45)), (vs "/claim/cut.py" 345)]),
  (103, fnO (topSt 31) "rising" (vs "raftkeep.messages" 280) 102),
  (116, cdO [(vs "__init__" 359), (vs "Message.__init__" 360), (vs "/claim/cut.py" 361), (vi (53)), (vi (5)), (vi (0)), (vi (0)), (vi (3)), (vr 111), (.bool true), (vi (181)), (vr 112), .none, (vr 113), (vr 114), (vr 115), (vi (367)), (vi (53)), (vs "/claim/cut.py" 368)]),
  (117, fnO (methSt 32 0) "Message.__init__" (vs "raftkeep.messages" 280) 116),
  (131, nsO [de P "__module__" 354 (vs "raftkeep.messages" 280), de P "__firstlineno__" 358 (vI (51) 357), de P "__init__" 369 (vr 117), de P "row" 376 (vr 124), de P "copy" 382 (vr 129), de P "__static_attributes__" 395 (vr 130), de P "__dict__" 397 (vr 133), de P "__weakref__" 399 (vr 134), de P "__doc__" 400 .none] 4),
  (132, clO 132 "Message" 131 347 355),
  (147, cdO [(vs "majority_vote" 417), (vs "majority_vote" 418), (vs "/claim/cut.py" 419), (vi (91)), (vi (2)), (vi (0)), (vi (0)), (vi (3)), (vr 142), (.bool true), (vi (181)), (vr 143), .none, (vr 144), (vr 145), (vr 146), (vi (426)), (vi (91)), (vs "/claim/cut.py" 427)]),
  (148, fnO (topSt 38) "majority_vote" (vs "raftkeep.quorum" 403) 147),
  (161, cdO [(vs "joint_vote" 440), (vs "joint_vote" 441), (vs "/claim/cut.py" 442), (vi (113)), (vi (3)), (vi (0)), (vi (0)), (vi (3)), (vr 156), (.bool true), (vi (181)), (vr 157), .none, (vr 158), (vr 159), (vr 160), (vi (448)), (vi (113)), (vs "/claim/cut.py" 449)]),
  (162, fnO (topSt 40) "joint_vote" (vs "raftkeep.quorum" 403) 161),
  (175, cdO [(vs "__init__" 463), (vs "Config.__init__" 464), (vs "/claim/cut.py" 465), (vi (123)), (vi (6)), (vi (0)), (vi (0)), (vi (3)), (vr 170), (.bool true), (vi (181)), (vr 171), .none, (vr 172), (vr 173), (vr 174), (vi (472)), (vi (123)), (vs "/claim/cut.py" 473)]),
  (176, fnO (methSt 41 0) "Config.__init__" (vs "raftkeep.quorum" 403) 175),
  (189, cdO [(vs "copy" 482), (vs "Config.copy" 483), (vs "/claim/cut.py" 484), (vi (133)), (vi (1)), (vi (0)), (vi (0)), (vi (3)), (vr 184), (.bool true), (vi (181)), (vr 185), .none, (vr 186), (vr 187), (vr 188), (vi (486)), (vi (133)), (vs "/claim/cut.py" 487)]),
  (190, fnO (methSt 41 2) "Config.copy" (vs "raftkeep.quorum" 403) 189),
  (203, cdO [(vs "all_voters" 496), (vs "Config.all_voters" 497), (vs "/claim/cut.py" 498), (vi (139)), (vi (1)), (vi (0)), (vi (0)), (vi (3)), (vr 198), (.bool true), (vi (181)), (vr 199), .none, (vr 200), (vr 201), (vr 202), (vi (500)), (vi (139)), (vs "/claim/cut.py" 501)]),
  (204, fnO (methSt 41 4) "Config.all_voters" (vs "raftkeep.quorum" 403) 203),
  (210, cdO [(vs "members" 503), (vs "Config.members" 504), (vs "/claim/cut.py" 505), (vi (142)), (vi (1)), (vi (0)), (vi (0)), (vi (3)), (vr 205), (.bool true), (vi (181)), (vr 206), .none, (vr 207), (vr 208), (vr 209), (vi (507)), (vi (142)), (vs "/claim/cut.py" 508)]),
  (211, fnO (methSt 41 5) "Config.members" (vs "raftkeep.quorum" 403) 210),
  (224, cdO [(vs "vote" 518), (vs "Config.vote" 519), (vs "/claim/cut.py" 520), (vi (148)), (vi (2)), (vi (0)), (vi (0)), (vi (3)), (vr 219), (.bool true), (vi (181)), (vr 220), .none, (vr 221), (vr 222), (vr 223), (vi (523)), (vi (148)), (vs "/claim/cut.py" 524)]),
  (225, fnO (methSt 41 7) "Config.vote" (vs "raftkeep.quorum" 403) 224),
  (241, nsO [de P "__module__" 458 (vs "raftkeep.quorum" 403), de P "__firstlineno__" 462 (vI (121) 461), de P "__init__" 474 (vr 176), de P "row" 481 (vr 183), de P "copy" 488 (vr 190), de P "joint" 495 (vr 197), de P "all_voters" 502 (vr 204), de P "members" 509 (vr 211), de P "committed" 517 (vr 218), de P "vote" 525 (vr 225), de P "conf_state" 532 (vr 232), de P "check" 539 (vr 239), de P "__static_attributes__" 545 (vr 240), de P "__dict__" 547 (vr 243), de P "__weakref__" 549 (vr 244), de P "__doc__" 550 .none] 4),
  (242, clO 242 "Config" 241 451 459),
  (259, cdO [(vs "__init__" 571), (vs "Ballots.__init__" 572), (vs "/claim/cut.py" 573), (vi (161)), (vi (1)), (vi (0)), (vi (0)), (vi (3)), (vr 254), (.bool true), (vi (181)), (vr 255), .none, (vr 256), (vr 257), (vr 258), (vi (575)), (vi (161)), (vs "/claim/cut.py" 576)]),
  (260, fnO (methSt 45 0) "Ballots.__init__" (vs "raftkeep.tracker" 553) 259),
  (266, cdO [(vs "record_vote" 578), (vs "Ballots.record_vote" 579), (vs "/claim/cut.py" 580), (vi (165)), (vi (3)), (vi (0)), (vi (0)), (vi (3)), (vr 261), (.bool true), (vi (181)), (vr 262), .none, (vr 263), (vr 264), (vr 265), (vi (584)), (vi (165)), (vs "/claim/cut.py" 585)]),
  (267, fnO (methSt 45 1) "Ballots.record_vote" (vs "raftkeep.tracker" 553) 266),
  (273, cdO [(vs "reset_votes" 587), (vs "Ballots.reset_votes" 588), (vs "/claim/cut.py" 589), (vi (169)), (vi (1)), (vi (0)), (vi (0)), (vi (3)), (vr 268), (.bool true), (vi (181)), (vr 269), .none, (vr 270), (vr 271), (vr 272), (vi (591)), (vi (169)), (vs "/claim/cut.py" 592)]),
  (274, fnO (methSt 45 2) "Ballots.reset_votes" (vs "raftkeep.tracker" 553) 273),
  (280, cdO [(vs "tally" 594), (vs "Ballots.tally" 595), (vs "/claim/cut.py" 596), (vi (172)), (vi (1)), (vi (0)), (vi (0)), (vi (3)), (vr 275), (.bool true), (vi (181)), (vr 276), .none, (vr 277), (vr 278), (vr 279), (vi (601)), (vi (172)), (vs "/claim/cut.py" 602)]),
  (281, fnO (methSt 45 3) "Ballots.tally" (vs "raftkeep.tracker" 553) 280),
  (290, nsO [de P "__module__" 566 (vs "raftkeep.tracker" 553), de P "__firstlineno__" 570 (vI (159) 569), de P "__init__" 577 (vr 260), de P "record_vote" 586 (vr 267), de P "reset_votes" 593 (vr 274), de P "tally" 603 (vr 281), de P "single" 610 (vr 288), de P "__static_attributes__" 613 (vr 289), de P "__dict__" 615 (vr 292), de P "__weakref__" 617 (vr 293), de P "__doc__" 618 .none] 4),
  (291, clO 291 "Ballots" 290 559 567),
  (308, cdO [(vs "__init__" 651), (vs "RaftConfig.__init__" 652), (vs "/claim/cut.py" 653), (vi (197)), (vi (5)), (vi (0)), (vi (0)), (vi (3)), (vr 303), (.bool true), (vi (181)), (vr 304), .none, (vr 305), (vr 306), (vr 307), (vi (659)), (vi (197)), (vs "/claim/cut.py" 660)]),
  (309, fnO (methSt 55 0) "RaftConfig.__init__" (vs "raftkeep.core" 621) 308),
  (315, cdO [(vs "check_all" 662), (vs "RaftConfig.check_all" 663), (vs "/claim/cut.py" 664), (vi (215)), (vi (1)), (vi (0)), (vi (0)), (vi (3)), (vr 310), (.bool true), (vi (181)), (vr 311), .none, (vr 312), (vr 313), (vr 314), (vi (666)), (vi (215)), (vs "/claim/cut.py" 667)]),
  (316, fnO (methSt 55 1) "RaftConfig.check_all" (vs "raftkeep.core" 621) 315),
  (318, nsO [de P "__module__" 646 (vs "raftkeep.core" 621), de P "__firstlineno__" 650 (vI (195) 649), de P "__init__" 661 (vr 309), de P "check_all" 668 (vr 316), de P "__static_attributes__" 685 (vr 317), de P "__dict__" 687 (vr 320), de P "__weakref__" 689 (vr 321), de P "__doc__" 690 .none] 4),
  (319, clO 319 "RaftConfig" 318 639 647),
  (329, cdO [(vs "may_lack_term" 693), (vs "may_lack_term" 694), (vs "/claim/cut.py" 695), (vi (240)), (vi (1)), (vi (0)), (vi (0)), (vi (3)), (vr 324), (.bool true), (vi (181)), (vr 325), .none, (vr 326), (vr 327), (vr 328), (vi (697)), (vi (240)), (vs "/claim/cut.py" 698)]),
  (330, fnO (topSt 56) "may_lack_term" (vs "raftkeep.core" 621) 329),
  (343, cdO [(vs "__init__" 712), (vs "Elector.__init__" 713), (vs "/claim/cut.py" 714), (vi (246)), (vi (2)), (vi (0)), (vi (0)), (vi (3)), (vr 338), (.bool true), (vi (181)), (vr 339), .none, (vr 340), (vr 341), (vr 342), (vi (717)), (vi (246)), (vs "/claim/cut.py" 718)]),
  (344, fnO (methSt 57 0) "Elector.__init__" (vs "raftkeep.core" 621) 343),
  (350, cdO [(vs "furnish" 720), (vs "Elector.furnish" 721), (vs "/claim/cut.py" 722), (vi (269)), (vi (1)), (vi (0)), (vi (0)), (vi (3)), (vr 345), (.bool true), (vi (181)), (vr 346), .none, (vr 347), (vr 348), (vr 349), (vi (724)), (vi (269)), (vs "/claim/cut.py" 725)]),
  (351, fnO (methSt 57 1) "Elector.furnish" (vs "raftkeep.core" 621) 350),
  (357, cdO [(vs "begin" 727), (vs "Elector.begin" 728), (vs "/claim/cut.py" 729), (vi (272)), (vi (1)), (vi (0)), (vi (0)), (vi (3)), (vr 352), (.bool true), (vi (181)), (vr 353), .none, (vr 354), (vr 355), (vr 356), (vi (731)), (vi (272)), (vs "/claim/cut.py" 732)]),
  (358, fnO (methSt 57 2) "Elector.begin" (vs "raftkeep.core" 621) 357),
  (364, cdO [(vs "stand" 734), (vs "Elector.stand" 735), (vs "/claim/cut.py" 736), (vi (275)), (vi (5)), (vi (0)), (vi (0)), (vi (3)), (vr 359), (.bool true), (vi (181)), (vr 360), .none, (vr 361), (vr 362), (vr 363), (vi (742)), (vi (275)), (vs "/claim/cut.py" 743)]),
  (365, fnO (methSt 57 3) "Elector.stand" (vs "raftkeep.core" 621) 364),
  (371, cdO [(vs "last_row" 745), (vs "Elector.last_row" 746), (vs "/claim/cut.py" 747), (vi (281)), (vi (1)), (vi (0)), (vi (0)), (vi (3)), (vr 366), (.bool true), (vi (181)), (vr 367), .none, (vr 368), (vr 369), (vr 370), (vi (749)), (vi (281)), (vs "/claim/cut.py" 750)]),
  (372, fnO (methSt 57 4) "Elector.last_row" (vs "raftkeep.core" 621) 371),
  (385, cdO [(vs "promotable" 763), (vs "Elector.promotable" 764), (vs "/claim/cut.py" 765), (vi (288)), (vi (1)), (vi (0)), (vi (0)), (vi (3)), (vr 380), (.bool true), (vi (181)), (vr 381), .none, (vr 382), (vr 383), (vr 384), (vi (767)), (vi (288)), (vs "/claim/cut.py" 768)]),
  (386, fnO (methSt 57 6) "Elector.promotable" (vs "raftkeep.core" 621) 385),
  (392, cdO [(vs "unapplied_conf" 770), (vs "Elector.unapplied_conf" 771), (vs "/claim/cut.py" 772), (vi (291)), (vi (1)), (vi (0)), (vi (0)), (vi (3)), (vr 387), (.bool true), (vi (181)), (vr 388), .none, (vr 389), (vr 390), (vr 391), (vi (774)), (vi (291)), (vs "/claim/cut.py" 775)]),
  (393, fnO (methSt 57 7) "Elector.unapplied_conf" (vs "raftkeep.core" 621) 392),
  (406, cdO [(vs "bcast_append" 784), (vs "Elector.bcast_append" 785), (vs "/claim/cut.py" 786), (vi (297)), (vi (1)), (vi (0)), (vi (0)), (vi (3)), (vr 401), (.bool true), (vi (181)), (vr 402), .none, (vr 403), (vr 404), (vr 405), (vi (788)), (vi (297)), (vs "/claim/cut.py" 789)]),
  (407, fnO (methSt 57 9) "Elector.bcast_append" (vs "raftkeep.core" 621) 406),
  (413, cdO [(vs "forget" 791), (vs "Elector.forget" 792), (vs "/claim/cut.py" 793), (vi (300)), (vi (1)), (vi (0)), (vi (0)), (vi (3)), (vr 408), (.bool true), (vi (181)), (vr 409), .none, (vr 410), (vr 411), (vr 412), (vi (795)), (vi (300)), (vs "/claim/cut.py" 796)]),
  (414, fnO (methSt 57 10) "Elector.forget" (vs "raftkeep.core" 621) 413),
  (420, cdO [(vs "lead" 798), (vs "Elector.lead" 799), (vs "/claim/cut.py" 800), (vi (303)), (vi (1)), (vi (0)), (vi (0)), (vi (3)), (vr 415), (.bool true), (vi (181)), (vr 416), .none, (vr 417), (vr 418), (vr 419), (vi (802)), (vi (303)), (vs "/claim/cut.py" 803)]),
  (421, fnO (methSt 57 11) "Elector.lead" (vs "raftkeep.core" 621) 420),
  (427, cdO [(vs "step_leader" 805), (vs "Elector.step_leader" 806), (vs "/claim/cut.py" 807), (vi (306)), (vi (2)), (vi (0)), (vi (0)), (vi (3)), (vr 422), (.bool true), (vi (181)), (vr 423), .none, (vr 424), (vr 425), (vr 426), (vi (810)), (vi (306)), (vs "/claim/cut.py" 811)]),
  (428, fnO (methSt 57 12) "Elector.step_leader" (vs "raftkeep.core" 621) 427),
  (441, cdO [(vs "step_follower" 821), (vs "Elector.step_follower" 822), (vs "/claim/cut.py" 823), (vi (312)), (vi (2)), (vi (0)), (vi (0)), (vi (3)), (vr 436), (.bool true), (vi (181)), (vr 437), .none, (vr 438), (vr 439), (vr 440), (vi (826)), (vi (312)), (vs "/claim/cut.py" 827)]),
  (442, fnO (methSt 57 14) "Elector.step_follower" (vs "raftkeep.core" 621) 441),
  (462, cdO [(vs "send" 843), (vs "Elector.send" 844), (vs "/claim/cut.py" 845), (vi (325)), (vi (2)), (vi (0)), (vi (0)), (vi (3)), (vr 457), (.bool true), (vi (181)), (vr 458), .none, (vr 459), (vr 460), (vr 461), (vi (848)), (vi (325)), (vs "/claim/cut.py" 849)]),
  (463, fnO (methSt 57 17) "Elector.send" (vs "raftkeep.core" 621) 462),
  (469, cdO [(vs "draw_timeout" 851), (vs "Elector.draw_timeout" 852), (vs "/claim/cut.py" 853), (vi (338)), (vi (1)), (vi (0)), (vi (0)), (vi (3)), (vr 464), (.bool true), (vi (181)), (vr 465), .none, (vr 466), (vr 467), (vr 468), (vi (856)), (vi (338)), (vs "/claim/cut.py" 857)]),
  (470, fnO (methSt 57 18) "Elector.draw_timeout" (vs "raftkeep.core" 621) 469),
  (476, cdO [(vs "reset" 859), (vs "Elector.reset" 860), (vs "/claim/cut.py" 861), (vi (343)), (vi (2)), (vi (0)), (vi (0)), (vi (3)), (vr 471), (.bool true), (vi (181)), (vr 472), .none, (vr 473), (vr 474), (vr 475), (vi (864)), (vi (343)), (vs "/claim/cut.py" 865)]),
  (477, fnO (methSt 57 19) "Elector.reset" (vs "raftkeep.core" 621) 476),
  (483, cdO [(vs "become_follower" 867), (vs "Elector.become_follower" 868), (vs "/claim/cut.py" 869), (vi (354)), (vi (3)), (vi (0)), (vi (0)), (vi (3)), (vr 478), (.bool true), (vi (181)), (vr 479), .none, (vr 480), (vr 481), (vr 482), (vi (873)), (vi (354)), (vs "/claim/cut.py" 874)]),
  (484, fnO (methSt 57 20) "Elector.become_follower" (vs "raftkeep.core" 621) 483),
  (490, cdO [(vs "become_candidate" 876), (vs "Elector.become_candidate" 877), (vs "/claim/cut.py" 878), (vi (359)), (vi (1)), (vi (0)), (vi (0)), (vi (3)), (vr 485), (.bool true), (vi (181)), (vr 486), .none, (vr 487), (vr 488), (vr 489), (vi (880)), (vi (359)), (vs "/claim/cut.py" 881)]),
  (491, fnO (methSt 57 21) "Elector.become_candidate" (vs "raftkeep.core" 621) 490),
  (497, cdO [(vs "become_pre_candidate" 883), (vs "Elector.become_pre_candidate" 884), (vs "/claim/cut.py" 885), (vi (366)), (vi (1)), (vi (0)), (vi (0)), (vi (3)), (vr 492), (.bool true), (vi (181)), (vr 493), .none, (vr 494), (vr 495), (vr 496), (vi (887)), (vi (366)), (vs "/claim/cut.py" 888)]),
  (498, fnO (methSt 57 22) "Elector.become_pre_candidate" (vs "raftkeep.core" 621) 497),
  (504, cdO [(vs "become_leader" 890), (vs "Elector.become_leader" 891), (vs "/claim/cut.py" 892), (vi (373)), (vi (1)), (vi (0)), (vi (0)), (vi (3)), (vr 499), (.bool true), (vi (181)), (vr 500), .none, (vr 501), (vr 502), (vr 503), (vi (894)), (vi (373)), (vs "/claim/cut.py" 895)]),
  (505, fnO (methSt 57 23) "Elector.become_leader" (vs "raftkeep.core" 621) 504),
  (525, cdO [(vs "step" 911), (vs "Elector.step" 912), (vs "/claim/cut.py" 913), (vi (389)), (vi (2)), (vi (0)), (vi (0)), (vi (3)), (vr 520), (.bool true), (vi (181)), (vr 521), .none, (vr 522), (vr 523), (vr 524), (vi (916)), (vi (389)), (vs "/claim/cut.py" 917)]),
  (526, fnO (methSt 57 26) "Elector.step" (vs "raftkeep.core" 621) 525),
  (532, cdO [(vs "settle_term" 919), (vs "Elector.settle_term" 920), (vs "/claim/cut.py" 921), (vi (408)), (vi (2)), (vi (0)), (vi (0)), (vi (3)), (vr 527), (.bool true), (vi (181)), (vr 528), .none, (vr 529), (vr 530), (vr 531), (vi (924)), (vi (408)), (vs "/claim/cut.py" 925)]),
  (533, fnO (methSt 57 27) "Elector.settle_term" (vs "raftkeep.core" 621) 532),
  (546, cdO [(vs "settle_higher" 934), (vs "Elector.settle_higher" 935), (vs "/claim/cut.py" 936), (vi (423)), (vi (2)), (vi (0)), (vi (0)), (vi (3)), (vr 541), (.bool true), (vi (181)), (vr 542), .none, (vr 543), (vr 544), (vr 545), (vi (939)), (vi (423)), (vs "/claim/cut.py" 940)]),
  (547, fnO (methSt 57 29) "Elector.settle_higher" (vs "raftkeep.core" 621) 546),
  (553, cdO [(vs "answer_lower" 942), (vs "Elector.answer_lower" 943), (vs "/claim/cut.py" 944), (vi (437)), (vi (2)), (vi (0)), (vi (0)), (vi (3)), (vr 548), (.bool true), (vi (181)), (vr 549), .none, (vr 550), (vr 551), (vr 552), (vi (949)), (vi (437)), (vs "/claim/cut.py" 950)]),
  (554, fnO (methSt 57 30) "Elector.answer_lower" (vs "raftkeep.core" 621) 553),
  (574, cdO [(vs "hup" 970), (vs "Elector.hup" 971), (vs "/claim/cut.py" 972), (vi (465)), (vi (2)), (vi (0)), (vi (0)), (vi (3)), (vr 569), (.bool true), (vi (181)), (vr 570), .none, (vr 571), (vr 572), (vr 573), (vi (975)), (vi (465)), (vs "/claim/cut.py" 976)]),
  (575, fnO (methSt 57 33) "Elector.hup" (vs "raftkeep.core" 621) 574),
  (581, cdO [(vs "campaign" 978), (vs "Elector.campaign" 979), (vs "/claim/cut.py" 980), (vi (472)), (vi (2)), (vi (0)), (vi (0)), (vi (3)), (vr 576), (.bool true), (vi (181)), (vr 577), .none, (vr 578), (vr 579), (vr 580), (vi (989)), (vi (472)), (vs "/claim/cut.py" 990)]),
  (582, fnO (methSt 57 34) "Elector.campaign" (vs "raftkeep.core" 621) 581),
  (588, cdO [(vs "poll" 992), (vs "Elector.poll" 993), (vs "/claim/cut.py" 994), (vi (495)), (vi (4)), (vi (0)), (vi (0)), (vi (3)), (vr 583), (.bool true), (vi (181)), (vr 584), .none, (vr 585), (vr 586), (vr 587), (vi (999)), (vi (495)), (vs "/claim/cut.py" 1000)]),
  (589, fnO (methSt 57 35) "Elector.poll" (vs "raftkeep.core" 621) 588),
  (595, cdO [(vs "won" 1002), (vs "Elector.won" 1003), (vs "/claim/cut.py" 1004), (vi (503)), (vi (1)), (vi (0)), (vi (0)), (vi (3)), (vr 590), (.bool true), (vi (181)), (vr 591), .none, (vr 592), (vr 593), (vr 594), (vi (1006)), (vi (503)), (vs "/claim/cut.py" 1007)]),
  (596, fnO (methSt 57 36) "Elector.won" (vs "raftkeep.core" 621) 595),
  (602, cdO [(vs "step_candidate" 1009), (vs "Elector.step_candidate" 1010), (vs "/claim/cut.py" 1011), (vi (510)), (vi (2)), (vi (0)), (vi (0)), (vi (3)), (vr 597), (.bool true), (vi (181)), (vr 598), .none, (vr 599), (vr 600), (vr 601), (vi (1015)), (vi (510)), (vs "/claim/cut.py" 1016)]),
  (603, fnO (methSt 57 37) "Elector.step_candidate" (vs "raftkeep.core" 621) 602),
  (605, nsO [de P "__module__" 707 (vs "raftkeep.core" 621), de P "__firstlineno__" 711 (vI (244) 710), de P "__init__" 719 (vr 344), de P "furnish" 726 (vr 351), de P "begin" 733 (vr 358), de P "stand" 744 (vr 365), de P "last_row" 751 (vr 372), de P "up_to_date" 762 (vr 379), de P "promotable" 769 (vr 386), de P "unapplied_conf" 776 (vr 393), de P "tick_heartbeat" 783 (vr 400), de P "bcast_append" 790 (vr 407), de P "forget" 797 (vr 414), de P "lead" 804 (vr 421), de P "step_leader" 812 (vr 428), de P "follow" 820 (vr 435), de P "step_follower" 828 (vr 442), de P "soft_state" 835 (vr 449), de P "past_timeout" 842 (vr 456), de P "send" 850 (vr 463), de P "draw_timeout" 858 (vr 470), de P "reset" 866 (vr 477), de P "become_follower" 875 (vr 484), de P "become_candidate" 882 (vr 491), de P "become_pre_candidate" 889 (vr 498), de P "become_leader" 896 (vr 505), de P "tick" 903 (vr 512), de P "tick_election" 910 (vr 519), de P "step" 918 (vr 526), de P "settle_term" 926 (vr 533), de P "in_lease" 933 (vr 540), de P "settle_higher" 941 (vr 547), de P "answer_lower" 951 (vr 554), de P "can_vote" 959 (vr 561), de P "answer_vote" 969 (vr 568), de P "hup" 977 (vr 575), de P "campaign" 991 (vr 582), de P "poll" 1001 (vr 589), de P "won" 1008 (vr 596), de P "step_candidate" 1017 (vr 603), de P "__static_attributes__" 1036 (vr 604), de P "__dict__" 1038 (vr 607), de P "__weakref__" 1040 (vr 608), de P "__doc__" 1041 .none] 4),
  (606, clO 606 "Elector" 605 700 708),
  (616, cdO [(vs "_law_orders" 1046), (vs "_law_orders" 1047), (vs "/claim/cut.py" 1048), (vi (530)), (vi (0)), (vi (0)), (vi (0)), (vi (3)), (vr 611), (.bool true), (vi (181)), (vr 612), .none, (vr 613), (vr 614), (vr 615), (vi (1049)), (vi (530)), (vs "/claim/cut.py" 1050)]),
  (617, fnO (topSt 59) "_law_orders" (vs "law_nz0373_01" 1044) 616),
  (623, cdO [(vs "_law_draw" 1052), (vs "_law_draw" 1053), (vs "/claim/cut.py" 1054), (vi (532)), (vi (2)), (vi (0)), (vi (0)), (vi (3)), (vr 618), (.bool true), (vi (181)), (vr 619), .none, (vr 620), (vr 621), (vr 622), (vi (1057)), (vi (532)), (vs "/claim/cut.py" 1058)]),
  (624, fnO (topSt 60) "_law_draw" (vs "law_nz0373_01" 1044) 623),
  (630, cdO [(vs "_law_says" 1060), (vs "_law_says" 1061), (vs "/claim/cut.py" 1062), (vi (534)), (vi (4)), (vi (0)), (vi (0)), (vi (3)), (vr 625), (.bool true), (vi (181)), (vr 626), .none, (vr 627), (vr 628), (vr 629), (vi (1068)), (vi (534)), (vs "/claim/cut.py" 1069)]),
  (631, fnO (topSt 61) "_law_says" (vs "law_nz0373_01" 1044) 630),
  (637, cdO [(vs "_law_word" 1071), (vs "_law_word" 1072), (vs "/claim/cut.py" 1073), (vi (538)), (vi (5)), (vi (0)), (vi (0)), (vi (3)), (vr 632), (.bool true), (vi (181)), (vr 633), .none, (vr 634), (vr 635), (vr 636), (vi (1084)), (vi (538)), (vs "/claim/cut.py" 1085)]),
  (638, fnO (topSt 62) "_law_word" (vs "law_nz0373_01" 1044) 637),
  (642, cdO [(vs "_law_wins" 1087), (vs "_law_wins" 1088), (vs "/claim/cut.py" 1089), (vi (561)), (vi (2)), (vi (0)), (vi (0)), (vi (3)), (vr 639), (.bool true), (vi (181)), (vr 640), .none, .none, .none, (vr 641), (vi (1090)), (vi (561)), (vs "/claim/cut.py" 1091)]),
  (643, fnO (topSt 63) "_law_wins" (vs "law_nz0373_01" 1044) 642),
  (647, cdO [(vs "_law_end" 1093), (vs "_law_end" 1094), (vs "/claim/cut.py" 1095), (vi (563)), (vi (7)), (vi (0)), (vi (0)), (vi (3)), (vr 644), (.bool true), (vi (181)), (vr 645), .none, .none, .none, (vr 646), (vi (1096)), (vi (563)), (vs "/claim/cut.py" 1097)]),
  (648, fnO (topSt 64) "_law_end" (vs "law_nz0373_01" 1044) 647),
  (652, cdO [(vs "_law_asked" 1099), (vs "_law_asked" 1100), (vs "/claim/cut.py" 1101), (vi (579)), (vi (5)), (vi (0)), (vi (0)), (vi (3)), (vr 649), (.bool true), (vi (181)), (vr 650), .none, .none, .none, (vr 651), (vi (1102)), (vi (579)), (vs "/claim/cut.py" 1103)]),
  (653, fnO (topSt 65) "_law_asked" (vs "law_nz0373_01" 1044) 652),
  (657, cdO [(vs "law" 1105), (vs "law" 1106), (vs "/claim/cut.py" 1107), (vi (583)), (vi (1)), (vi (0)), (vi (0)), (vi (3)), (vr 654), (.bool true), (vi (181)), (vr 655), .none, .none, .none, (vr 656), (vi (1108)), (vi (583)), (vs "/claim/cut.py" 1109)]),
  (658, fnO (topSt 66) "law" (vs "law_nz0373_01" 1044) 657)]
noncomputable def KKa : List Addr := [3, 88, 89, 102, 103, 116, 117, 131, 132, 147, 148, 161, 162, 175, 176, 189, 190, 203, 204, 210, 211, 224, 225, 241, 242, 259, 260, 266, 267, 273, 274, 280, 281, 290, 291, 308, 309, 315, 316, 318, 319, 329, 330, 343, 344, 350, 351, 357, 358, 364, 365, 371, 372, 385, 386, 392, 393, 406, 407, 413, 414, 420, 421, 427, 428, 441, 442, 462, 463, 469, 470, 476, 477, 483, 484, 490, 491, 497, 498, 504, 505, 525, 526, 532, 533, 546, 547, 553, 554, 574, 575, 581, 582, 588, 589, 595, 596, 602, 603, 605, 606, 616, 617, 623, 624, 630, 631, 637, 638, 642, 643, 647, 648, 652, 653, 657, 658]
theorem KKa_eq (P : Params) : KKa = (KK P).map (·.1) := rfl

noncomputable def TT : Names := ⟨tabN, tabN_nd⟩
noncomputable def attrAll (K : Frag) (C : Nat) : Bool := (attrsOf C).all fun a => decide (a < TT.n) && attrOk K C (TT.s a) && storeOk K C (TT.s a)
set_option maxRecDepth 100000
theorem attr_132 (P : Params) : attrAll (KK P) 132 = true := by kernel_rfl
theorem attr_242 (P : Params) : attrAll (KK P) 242 = true := by kernel_rfl
theorem attr_291 (P : Params) : attrAll (KK P) 291 = true := by kernel_rfl
theorem attr_319 (P : Params) : attrAll (KK P) 319 = true := by kernel_rfl
theorem attr_606 (P : Params) : attrAll (KK P) 606 = true := by kernel_rfl
theorem attr_ok (P : Params) (C a : Nat) (h : okA C a = true) : AttrT (KK P) TT a C := by
  have hm : a ∈ attrsOf C := by unfold okA at h; simpa using h
  have key : attrAll (KK P) C = true := by
    by_cases h1 : C = 132
    · rw [h1]; exact attr_132 P
    by_cases h2 : C = 242
    · rw [h2]; exact attr_242 P
    by_cases h3 : C = 291
    · rw [h3]; exact attr_291 P
    by_cases h4 : C = 319
    · rw [h4]; exact attr_319 P
    by_cases h5 : C = 606
    · rw [h5]; exact attr_606 P
    · unfold attrsOf at hm
      rw [if_neg h1, if_neg h2, if_neg h3, if_neg h4, if_neg h5] at hm
      exact absurd hm List.not_mem_nil
  unfold attrAll at key
  have := List.all_eq_true.mp key a hm
  simp only [Bool.and_eq_true, decide_eq_true_eq] at this
  exact ⟨this.1.1, this.1.2, this.2⟩
theorem nodbg_all : ("" :: tabN).all (fun s => !(Str.ofString s == ("__debug__" : Str)) && !(Str.ofString s == ("__classdict__" : Str))) = true := by decide +kernel
theorem getD_mem' {α : Type} {d : α} : ∀ (l : List α) (k : Nat), l.getD k d ∈ d :: l
  | [], _ => by simp
  | a :: r, 0 => by simp
  | a :: r, k + 1 => by
    rcases List.mem_cons.mp (getD_mem' (d := d) r k) with h | h
    · simp only [List.getD_cons_succ]; rw [h]; exact List.mem_cons_self
    · simp only [List.getD_cons_succ]; exact List.mem_cons_of_mem _ (List.mem_cons_of_mem _ h)
theorem nodbg (k : Nat) : (TT.s k == ("__debug__" : Str)) = false ∧ (TT.s k == ("__classdict__" : Str)) = false := by
  have := List.all_eq_true.mp nodbg_all _ (getD_mem' tabN k)
  simpa [TT, Names.s] using this

/-- what the walk brings -/
structure Un where
  prog : Program
  w : World
  p : Program
  loose : List Str
  mean : ExcName → Option Value
  mg : Str → Option Value
  mb : Str → Option Value
noncomputable def ZZ (u : Un) : Fix := ⟨TT, u.prog, u.w, KK u.w.params, u.p, u.loose, u.mean, u.mg, u.mb, attr_ok u.w.params, nodbg⟩
noncomputable def fd (st : Stmt) (qual : Str) (pm : Value) (code : Addr) : FuncData := fnOf (stName st) qual (stArgs st) (stBody st) (stScope st) .none .none .none pm none (.ref code) .none
theorem defOk {u : Un} {f : Addr} {ps : List Nat} {st : Stmt} {qual : String} {pm : Value} {code : Addr} (h : (KK u.w.params).lookup f = some (fnO st qual pm code)) (hc : codeIn (KK u.w.params) (.ref code) (Str.ofString qual) = true)
    (hb : ∀ vals : List Value, vals.length = ps.length → bindArgs (fd st (Str.ofString qual) pm code) ⟨vals, []⟩ = pure ((ps.map TT.s).zip vals)) (nd : ps.Nodup) (lt : ∀ p ∈ ps, p < TT.n)
    (k1 : (stScope st).isCoroutine = false) (k2 : (stScope st).isGenerator = false) (k3 : (stScope st).kind = .function) : DefOk (ZZ u) f ps (stScope st) (stBody st) :=
  ⟨⟨_, _, _, _, _, _, _, _, _, _, _, _, _, h, hc, hb⟩, nd, lt, k1, k2, k3⟩
theorem f_none {Z : Fix} {n : Nat} {f : Addr} : SFc Z n f (fun _ _ _ => False) := fun _ _ _ _ _ _ _ _ _ _ _ _ _ _ hW => hW.elim

theorem lt {u : Un} {k : Nat} (h : k < 224) : k < (ZZ u).T.n := h
noncomputable def parB (sc : Scope) (ps : List Nat) : Bool := ps.all (fun p => sc.names.lookup (TT.s p) == some .local) && sc.names.all fun x => x.2 != .cell && x.2 != .free
noncomputable def parCB (sc : Scope) (ps : List Nat) : Bool := ps.all (fun p => sc.names.lookup (TT.s p) == some .local || sc.names.lookup (TT.s p) == some .cell) && sc.names.all fun x => x.2 != .free
theorem s_def {u : Un} {n : Nat} {f : Addr} {ps : List Nat} {scope : Scope} {body : List Stmt} {W : SW} (hd : DefOk (ZZ u) f ps scope body) (hp : parB scope ps = true)
    (hb : SSs (ZZ u) scope n body W) : SFc (ZZ u) (n + 1) f (fun args σ Q => args.length = ps.length ∧ W (ps.zip args) σ fun fl _ σ' => Q (retV fl) σ') := by
  unfold parB at hp
  simp only [Bool.and_eq_true, List.all_eq_true, beq_iff_eq, bne_iff_ne, ne_eq] at hp
  exact sf_def hd hp.1 (fun x hx => (hp.2 x hx).1) (fun x hx => (hp.2 x hx).2) hb
theorem s_defC {u : Un} {n : Nat} {f : Addr} {ps : List Nat} {scope : Scope} {body : List Stmt} {W : SW} (hd : DefOk (ZZ u) f ps scope body) (hp : parCB scope ps = true) (hc : ((cellsFrom 0 scope.names []).map (·.1)).Nodup)
    (hb : SSs (ZZ u) scope n body W) : SFc (ZZ u) (n + 1) f (fun args σ Q => args.length = ps.length ∧ W (ps.zip args) σ fun fl _ σ' => Q (retV fl) σ') := by
  unfold parCB at hp
  simp only [Bool.and_eq_true, Bool.or_eq_true, List.all_eq_true, beq_iff_eq, bne_iff_ne, ne_eq] at hp
  exact sf_defC hd hp.1 hp.2 hc hb
theorem len0 {P : List Value → Prop} (h : P []) : ∀ vals : List Value, vals.length = 0 → P vals
  | [], _ => h
theorem len1 {P : List Value → Prop} (h : ∀ a, P [a]) : ∀ vals : List Value, vals.length = 1 → P vals
  | [a], _ => h a
theorem len2 {P : List Value → Prop} (h : ∀ a b, P [a, b]) : ∀ vals : List Value, vals.length = 2 → P vals
  | a :: r, e => len1 (P := fun l => P (a :: l)) (h a) r (Nat.succ.inj e)
theorem len3 {P : List Value → Prop} (h : ∀ a b c, P [a, b, c]) : ∀ vals : List Value, vals.length = 3 → P vals
  | a :: r, e => len2 (P := fun l => P (a :: l)) (h a) r (Nat.succ.inj e)
theorem len4 {P : List Value → Prop} (h : ∀ a b c d, P [a, b, c, d]) : ∀ vals : List Value, vals.length = 4 → P vals
  | a :: r, e => len3 (P := fun l => P (a :: l)) (h a) r (Nat.succ.inj e)
theorem len5 {P : List Value → Prop} (h : ∀ a b c d e, P [a, b, c, d, e]) : ∀ vals : List Value, vals.length = 5 → P vals
  | a :: r, e => len4 (P := fun l => P (a :: l)) (h a) r (Nat.succ.inj e)
theorem len6 {P : List Value → Prop} (h : ∀ a b c d e f, P [a, b, c, d, e, f]) : ∀ vals : List Value, vals.length = 6 → P vals
  | a :: r, e => len5 (P := fun l => P (a :: l)) (h a) r (Nat.succ.inj e)
theorem len7 {P : List Value → Prop} (h : ∀ a b c d e f g, P [a, b, c, d, e, f, g]) : ∀ vals : List Value, vals.length = 7 → P vals
  | a :: r, e => len6 (P := fun l => P (a :: l)) (h a) r (Nat.succ.inj e)

section
variable {env : Env} {es : List Expr} {pos : Pos}
theorem sE_Name {nm : Str} : starEach (.Name nm pos :: es) env = (false, eval (.Name nm pos) env) :: starEach es env := rfl
theorem sw_Name {nm : Str} {t : Option Expr} {line : Nat} : swapsWith (.Name nm pos) t line env = pure false := rfl
theorem tr_Name {nm : Str} {whole : Sem Value} : isTrue (.Name nm pos) env whole = (do let v ← whole; standAt (Expr.pos (.Name nm pos)); holding [v] (truthy v)) := rfl
theorem fo_Name {nm : Str} {v : Value} : foldedSetIterable (.Name nm pos) env v = pure v := rfl
theorem su_Name {nm : Str} {a : Addr} {i0 : Int} {t : Tok} : subscripted (.Name nm pos) false (.ref a) (.int i0 t) = operate [.ref a, .int i0 t] (getItem (.ref a) (.int i0 t)) := rfl
theorem at_Name {nm : Str} {nm2 : Str} {pos2 : Pos} : eval (.Attribute (.Name nm pos) nm2 pos2) env = (do
      let o1 ← eval (.Name nm pos) env
      standAt pos2.atName
      let r ← holding [o1] (getAttr o1 nm2 true)
      letTemporaryGo (.Name nm pos) o1 r
      pure r) := rfl
theorem sE_Constant {c : Const} {k : Nat} : starEach (.Constant c k pos :: es) env = (false, eval (.Constant c k pos) env) :: starEach es env := rfl
theorem sw_Constant {c : Const} {k : Nat} {t : Option Expr} {line : Nat} : swapsWith (.Constant c k pos) t line env = pure false := rfl
theorem su_Constant {j : Int} {k : Nat} {a : Addr} {i0 : Int} {t : Tok} : subscripted (.Constant (.int j) k pos) false (.ref a) (.int i0 t) = operate [.ref a, .int i0 t] (getItem (.ref a) (.int i0 t)) := rfl
theorem sE_Attribute {o : Expr} {nm : Str} : starEach (.Attribute o nm pos :: es) env = (false, eval (.Attribute o nm pos) env) :: starEach es env := rfl
theorem sw_Attribute {o : Expr} {nm : Str} {t : Option Expr} {line : Nat} : swapsWith (.Attribute o nm pos) t line env = pure false := rfl
theorem tr_Attribute {o : Expr} {nm : Str} {whole : Sem Value} : isTrue (.Attribute o nm pos) env whole = (do let v ← whole; standAt (Expr.pos (.Attribute o nm pos)); holding [v] (truthy v)) := rfl
theorem fo_Attribute {o : Expr} {nm : Str} {v : Value} : foldedSetIterable (.Attribute o nm pos) env v = pure v := rfl
theorem at_Attribute {o : Expr} {nm : Str} {nm2 : Str} {pos2 : Pos} : eval (.Attribute (.Attribute o nm pos) nm2 pos2) env = (do
      let o1 ← eval (.Attribute o nm pos) env
      standAt pos2.atName
      let r ← holding [o1] (getAttr o1 nm2 true)
      letTemporaryGo (.Attribute o nm pos) o1 r
      pure r) := rfl
theorem sE_BinOp {l r : Expr} {op : Operator} : starEach (.BinOp l op r pos :: es) env = (false, eval (.BinOp l op r pos) env) :: starEach es env := rfl
theorem sw_BinOp {l r : Expr} {op : Operator} {t : Option Expr} {line : Nat} : swapsWith (.BinOp l op r pos) t line env = pure false := rfl
theorem su_BinOp {l r : Expr} {op : Operator} {a : Addr} {i0 : Int} {t : Tok} : subscripted (.BinOp l op r pos) false (.ref a) (.int i0 t) = operate [.ref a, .int i0 t] (getItem (.ref a) (.int i0 t)) := rfl
theorem sE_UnaryOp {uo : UnaryOp} {o : Expr} : starEach (.UnaryOp uo o pos :: es) env = (false, eval (.UnaryOp uo o pos) env) :: starEach es env := rfl
theorem su_UnaryOp {uo : UnaryOp} {o : Expr} {a : Addr} {i0 : Int} {t : Tok} : subscripted (.UnaryOp uo o pos) false (.ref a) (.int i0 t) = operate [.ref a, .int i0 t] (getItem (.ref a) (.int i0 t)) := rfl
theorem sE_Compare {l : Expr} {cs : List CmpOp} {rs : List Expr} : starEach (.Compare l cs rs pos :: es) env = (false, eval (.Compare l cs rs pos) env) :: starEach es env := rfl
theorem sw_Compare {l : Expr} {cs : List CmpOp} {rs : List Expr} {t : Option Expr} {line : Nat} : swapsWith (.Compare l cs rs pos) t line env = pure false := rfl
theorem sw_BoolOp {bo : BoolOp} {xs : List Expr} {t : Option Expr} {line : Nat} : swapsWith (.BoolOp bo xs pos) t line env = pure false := rfl
theorem sE_List {xs : List Expr} : starEach (.List xs pos :: es) env = (false, eval (.List xs pos) env) :: starEach es env := rfl
theorem sw_List {xs : List Expr} {t : Option Expr} {line : Nat} : swapsWith (.List xs pos) t line env = pure false := rfl
theorem sE_Tuple {xs : List Expr} {k : Nat} : starEach (.Tuple xs k pos :: es) env = (false, eval (.Tuple xs k pos) env) :: starEach es env := rfl
theorem sw_Tuple {xs : List Expr} {k : Nat} {t : Option Expr} {line : Nat} : swapsWith (.Tuple xs k pos) t line env = pure false := rfl
theorem fo_Tuple {xs : List Expr} {k : Nat} {v : Value} : foldedSetIterable (.Tuple xs k pos) env v = pure v := rfl
theorem sw_Dict {t : Option Expr} {line : Nat} : swapsWith (.Dict [] [] pos) t line env = pure false := rfl
theorem sE_Subscript {o i : Expr} : starEach (.Subscript o i pos :: es) env = (false, eval (.Subscript o i pos) env) :: starEach es env := rfl
theorem sw_Subscript {o i : Expr} {t : Option Expr} {line : Nat} : swapsWith (.Subscript o i pos) t line env = pure false := rfl
theorem tr_Subscript {o i : Expr} {whole : Sem Value} : isTrue (.Subscript o i pos) env whole = (do let v ← whole; standAt (Expr.pos (.Subscript o i pos)); holding [v] (truthy v)) := rfl
theorem fo_Subscript {o i : Expr} {v : Value} : foldedSetIterable (.Subscript o i pos) env v = pure v := rfl
theorem sE_Call {o : Expr} {xs : List Expr} : starEach (.Call o xs [] pos :: es) env = (false, eval (.Call o xs [] pos) env) :: starEach es env := rfl
theorem sw_Call {o : Expr} {xs : List Expr} {t : Option Expr} {line : Nat} : swapsWith (.Call o xs [] pos) t line env = pure false := rfl
theorem tr_Call {o : Expr} {xs : List Expr} {whole : Sem Value} : isTrue (.Call o xs [] pos) env whole = (do let v ← whole; standAt (Expr.pos (.Call o xs [] pos)); holding [v] (truthy v)) := rfl
theorem fo_Call {o : Expr} {xs : List Expr} {v : Value} : foldedSetIterable (.Call o xs [] pos) env v = pure v := rfl
theorem sE_ListComp {l : Expr} {gs : List Comprehension} {sc : Scope} : starEach (.ListComp l gs sc pos :: es) env = (false, eval (.ListComp l gs sc pos) env) :: starEach es env := rfl
theorem me_gen {o : Expr} {nm2 : Str} {apos pos2 : Pos} {ys : List Expr} (ho : ∀ whole, attributeBase o nm2 env whole = whole) (hl : (apos.endLine == pos2.line) = true) (hn : ys.length < 30) (hp : (starEach ys env).any (·.1) = false) :
    ∃ pl pos', eval (.Call (.Attribute o nm2 apos) ys [] pos2) env = (do
      let ov ← eval o env
      standAt apos.atName
      let (f, first) ← holding [ov] (getMethod ov nm2 pl)
      callWith pos' f first (backTo pos' (starEach ys env)) []) := by
  have e : eval (.Call (.Attribute o nm2 apos) ys [] pos2) env = (do
      let ov ← attributeBase o nm2 env (eval o env)
      standAt apos.atName
      methodCall o nm2 apos pos2 env ov ys.length (backTo pos2 (starEach ys env)) []) := rfl
  have hf : methodCallForm ys.length (backTo pos2 (starEach ys env)) [] = true := by
    have h1 : (backTo pos2 (starEach ys env)).all (!·.1) = true := by
      rw [List.all_eq_true]
      intro x hx
      have h2 := backTo_any pos2 (starEach ys env)
      rw [hp, List.any_eq_false] at h2
      simpa using h2 x hx
    unfold methodCallForm
    rw [h1]
    simpa using hn
  refine ⟨(do return (← importBound o env).getD true), pos2, ?_⟩
  rw [e, ho]
  unfold methodCall calleeOf methodCallPos
  rw [hf]
  simp only [if_true, Bool.not_true, Bool.false_or, hl, pure_bind]
theorem ab_Name {nm nm2 : Str} {whole : Sem Value} : attributeBase (.Name nm pos) nm2 env whole = whole := rfl
theorem ab_Attribute {o : Expr} {nm nm2 : Str} {whole : Sem Value} : attributeBase (.Attribute o nm pos) nm2 env whole = whole := rfl
end
section
variable {Z : Fix} {sc : Scope} {n : Nat}
theorem se_methG {C f : Addr} {a : Nat} {nm : Str} {o : Expr} {Wo : EW} {Wf : FW} {Ws : EsW} {es : List Expr} {apos pos : Pos} (ho : SE Z sc n o Wo) (hf : SFc Z n f Wf) (hs : SEsP Z sc n es Ws) (ha : Z.T.s a = nm) (hn : a < Z.T.n) (hm : methOk Z.K C nm f = true)
    (hab : ∀ env whole, attributeBase o nm env whole = whole) (hl : ((apos.endLine == pos.line) && decide (es.length < 30)) = true) : SE Z sc n (.Call (.Attribute o nm apos) es [] pos) (eMeth C a Wo Wf Ws) := by
  rw [Bool.and_eq_true, decide_eq_true_iff] at hl
  exact se_meth ho hf hs ha hn hm fun env => me_gen (hab env) hl.1 hl.2 (hs.plain env)
theorem se_appendG {o e : Expr} {nm : Str} {apos pos : Pos} {Wo W : EW} (hn : nm = Str.ofString "append") (ho : SE Z sc n o Wo) (h : SE Z sc n e W) (hst : ∀ env, starEach [e] env = (false, eval e env) :: starEach [] env)
    (hab : ∀ env whole, attributeBase o nm env whole = whole) (hl : (apos.endLine == pos.line) = true) : SE Z sc n (.Call (.Attribute o nm apos) [e] [] pos) (sApp Wo W) :=
  se_append hn ho h hst fun env => me_gen (hab env) hl (show 1 < 30 by decide) (by rw [hst]; rfl)
end

set_option maxRecDepth 100000
section
variable {u : Un}
theorem n_1 : (ZZ u).T.s 1 = Str.ofString "Ballots" := by kernel_rfl
theorem n_2 : (ZZ u).T.s 2 = Str.ofString "CAMP_ELECTION" := by kernel_rfl
theorem n_3 : (ZZ u).T.s 3 = Str.ofString "CAMP_PRE" := by kernel_rfl
theorem n_4 : (ZZ u).T.s 4 = Str.ofString "CAMP_TRANSFER" := by kernel_rfl
theorem n_5 : (ZZ u).T.s 5 = Str.ofString "CANDIDATE" := by kernel_rfl
theorem n_6 : (ZZ u).T.s 6 = Str.ofString "Config" := by kernel_rfl
theorem n_7 : (ZZ u).T.s 7 = Str.ofString "Elector" := by kernel_rfl
theorem n_9 : (ZZ u).T.s 9 = Str.ofString "FOLLOWER" := by kernel_rfl
theorem n_11 : (ZZ u).T.s 11 = Str.ofString "LEADER" := by kernel_rfl
theorem n_12 : (ZZ u).T.s 12 = Str.ofString "LEASE" := by kernel_rfl
theorem n_14 : (ZZ u).T.s 14 = Str.ofString "MSG_APP" := by kernel_rfl
theorem n_16 : (ZZ u).T.s 16 = Str.ofString "MSG_BEAT" := by kernel_rfl
theorem n_17 : (ZZ u).T.s 17 = Str.ofString "MSG_CHECK_QUORUM" := by kernel_rfl
theorem n_18 : (ZZ u).T.s 18 = Str.ofString "MSG_HEARTBEAT" := by kernel_rfl
theorem n_19 : (ZZ u).T.s 19 = Str.ofString "MSG_HUP" := by kernel_rfl
theorem n_20 : (ZZ u).T.s 20 = Str.ofString "MSG_PIECE" := by kernel_rfl
theorem n_21 : (ZZ u).T.s 21 = Str.ofString "MSG_PRE_VOTE" := by kernel_rfl
theorem n_22 : (ZZ u).T.s 22 = Str.ofString "MSG_PRE_VOTE_RESP" := by kernel_rfl
theorem n_23 : (ZZ u).T.s 23 = Str.ofString "MSG_PROP" := by kernel_rfl
theorem n_24 : (ZZ u).T.s 24 = Str.ofString "MSG_READ_INDEX" := by kernel_rfl
theorem n_25 : (ZZ u).T.s 25 = Str.ofString "MSG_SNAP" := by kernel_rfl
theorem n_26 : (ZZ u).T.s 26 = Str.ofString "MSG_SNAP_STATUS" := by kernel_rfl
theorem n_27 : (ZZ u).T.s 27 = Str.ofString "MSG_TIMEOUT_NOW" := by kernel_rfl
theorem n_28 : (ZZ u).T.s 28 = Str.ofString "MSG_TRANSFER" := by kernel_rfl
theorem n_29 : (ZZ u).T.s 29 = Str.ofString "MSG_UNREACHABLE" := by kernel_rfl
theorem n_30 : (ZZ u).T.s 30 = Str.ofString "MSG_VOTE" := by kernel_rfl
theorem n_31 : (ZZ u).T.s 31 = Str.ofString "MSG_VOTE_RESP" := by kernel_rfl
theorem n_32 : (ZZ u).T.s 32 = Str.ofString "MSG_WANT" := by kernel_rfl
theorem n_33 : (ZZ u).T.s 33 = Str.ofString "Message" := by kernel_rfl
theorem n_34 : (ZZ u).T.s 34 = Str.ofString "NONE" := by kernel_rfl
theorem n_35 : (ZZ u).T.s 35 = Str.ofString "NO_LIMIT" := by kernel_rfl
theorem n_36 : (ZZ u).T.s 36 = Str.ofString "PRE_CANDIDATE" := by kernel_rfl
theorem n_38 : (ZZ u).T.s 38 = Str.ofString "RaftConfig" := by kernel_rfl
theorem n_40 : (ZZ u).T.s 40 = Str.ofString "SAFE" := by kernel_rfl
theorem n_41 : (ZZ u).T.s 41 = Str.ofString "TRANSFER_CONTEXT" := by kernel_rfl
theorem n_42 : (ZZ u).T.s 42 = Str.ofString "VOTE_LOST" := by kernel_rfl
theorem n_43 : (ZZ u).T.s 43 = Str.ofString "VOTE_PENDING" := by kernel_rfl
theorem n_44 : (ZZ u).T.s 44 = Str.ofString "VOTE_WON" := by kernel_rfl
theorem n_46 : (ZZ u).T.s 46 = Str.ofString "_law_asked" := by kernel_rfl
theorem n_47 : (ZZ u).T.s 47 = Str.ofString "_law_draw" := by kernel_rfl
theorem n_48 : (ZZ u).T.s 48 = Str.ofString "_law_end" := by kernel_rfl
theorem n_49 : (ZZ u).T.s 49 = Str.ofString "_law_orders" := by kernel_rfl
theorem n_50 : (ZZ u).T.s 50 = Str.ofString "_law_says" := by kernel_rfl
theorem n_51 : (ZZ u).T.s 51 = Str.ofString "_law_wins" := by kernel_rfl
theorem n_52 : (ZZ u).T.s 52 = Str.ofString "_law_word" := by kernel_rfl
theorem n_54 : (ZZ u).T.s 54 = Str.ofString "a" := by kernel_rfl
theorem n_56 : (ZZ u).T.s 56 = Str.ofString "all" := by kernel_rfl
theorem n_57 : (ZZ u).T.s 57 = Str.ofString "all_voters" := by kernel_rfl
theorem n_59 : (ZZ u).T.s 59 = Str.ofString "answer_lower" := by kernel_rfl
theorem n_61 : (ZZ u).T.s 61 = Str.ofString "any" := by kernel_rfl
theorem n_63 : (ZZ u).T.s 63 = Str.ofString "applied" := by kernel_rfl
theorem n_64 : (ZZ u).T.s 64 = Str.ofString "asked" := by kernel_rfl
theorem n_65 : (ZZ u).T.s 65 = Str.ofString "auto_leave" := by kernel_rfl
theorem n_66 : (ZZ u).T.s 66 = Str.ofString "b" := by kernel_rfl
theorem n_67 : (ZZ u).T.s 67 = Str.ofString "bcast_append" := by kernel_rfl
theorem n_68 : (ZZ u).T.s 68 = Str.ofString "become_candidate" := by kernel_rfl
theorem n_69 : (ZZ u).T.s 69 = Str.ofString "become_follower" := by kernel_rfl
theorem n_70 : (ZZ u).T.s 70 = Str.ofString "become_leader" := by kernel_rfl
theorem n_71 : (ZZ u).T.s 71 = Str.ofString "become_pre_candidate" := by kernel_rfl
theorem n_72 : (ZZ u).T.s 72 = Str.ofString "begin" := by kernel_rfl
theorem n_73 : (ZZ u).T.s 73 = Str.ofString "c" := by kernel_rfl
theorem n_74 : (ZZ u).T.s 74 = Str.ofString "campaign" := by kernel_rfl
theorem n_77 : (ZZ u).T.s 77 = Str.ofString "check_all" := by kernel_rfl
theorem n_78 : (ZZ u).T.s 78 = Str.ofString "check_quorum" := by kernel_rfl
theorem n_79 : (ZZ u).T.s 79 = Str.ofString "come" := by kernel_rfl
theorem n_80 : (ZZ u).T.s 80 = Str.ofString "commit" := by kernel_rfl
theorem n_83 : (ZZ u).T.s 83 = Str.ofString "config" := by kernel_rfl
theorem n_84 : (ZZ u).T.s 84 = Str.ofString "context" := by kernel_rfl
theorem n_85 : (ZZ u).T.s 85 = Str.ofString "copy" := by kernel_rfl
theorem n_86 : (ZZ u).T.s 86 = Str.ofString "draw_timeout" := by kernel_rfl
theorem n_87 : (ZZ u).T.s 87 = Str.ofString "draws" := by kernel_rfl
theorem n_88 : (ZZ u).T.s 88 = Str.ofString "e" := by kernel_rfl
theorem n_89 : (ZZ u).T.s 89 = Str.ofString "early" := by kernel_rfl
theorem n_90 : (ZZ u).T.s 90 = Str.ofString "election_elapsed" := by kernel_rfl
theorem n_91 : (ZZ u).T.s 91 = Str.ofString "election_tick" := by kernel_rfl
theorem n_92 : (ZZ u).T.s 92 = Str.ofString "end" := by kernel_rfl
theorem n_93 : (ZZ u).T.s 93 = Str.ofString "entries" := by kernel_rfl
theorem n_95 : (ZZ u).T.s 95 = Str.ofString "extra" := by kernel_rfl
theorem n_96 : (ZZ u).T.s 96 = Str.ofString "far" := by kernel_rfl
theorem n_98 : (ZZ u).T.s 98 = Str.ofString "forget" := by kernel_rfl
theorem n_99 : (ZZ u).T.s 99 = Str.ofString "frm" := by kernel_rfl
theorem n_100 : (ZZ u).T.s 100 = Str.ofString "from_leader" := by kernel_rfl
theorem n_101 : (ZZ u).T.s 101 = Str.ofString "furnish" := by kernel_rfl
theorem n_103 : (ZZ u).T.s 103 = Str.ofString "goes" := by kernel_rfl
theorem n_104 : (ZZ u).T.s 104 = Str.ofString "granted" := by kernel_rfl
theorem n_105 : (ZZ u).T.s 105 = Str.ofString "half" := by kernel_rfl
theorem n_106 : (ZZ u).T.s 106 = Str.ofString "halves" := by kernel_rfl
theorem n_107 : (ZZ u).T.s 107 = Str.ofString "heartbeat_elapsed" := by kernel_rfl
theorem n_108 : (ZZ u).T.s 108 = Str.ofString "heartbeat_tick" := by kernel_rfl
theorem n_110 : (ZZ u).T.s 110 = Str.ofString "higher" := by kernel_rfl
theorem n_111 : (ZZ u).T.s 111 = Str.ofString "hup" := by kernel_rfl
theorem n_112 : (ZZ u).T.s 112 = Str.ofString "i" := by kernel_rfl
theorem n_113 : (ZZ u).T.s 113 = Str.ofString "ids" := by kernel_rfl
theorem n_115 : (ZZ u).T.s 115 = Str.ofString "index" := by kernel_rfl
theorem n_116 : (ZZ u).T.s 116 = Str.ofString "is_local" := by kernel_rfl
theorem n_117 : (ZZ u).T.s 117 = Str.ofString "j" := by kernel_rfl
theorem n_118 : (ZZ u).T.s 118 = Str.ofString "jitter" := by kernel_rfl
theorem n_121 : (ZZ u).T.s 121 = Str.ofString "joint_vote" := by kernel_rfl
theorem n_122 : (ZZ u).T.s 122 = Str.ofString "k" := by kernel_rfl
theorem n_123 : (ZZ u).T.s 123 = Str.ofString "kind" := by kernel_rfl
theorem n_124 : (ZZ u).T.s 124 = Str.ofString "last" := by kernel_rfl
theorem n_125 : (ZZ u).T.s 125 = Str.ofString "last_row" := by kernel_rfl
theorem n_126 : (ZZ u).T.s 126 = Str.ofString "last_term" := by kernel_rfl
theorem n_128 : (ZZ u).T.s 128 = Str.ofString "lead" := by kernel_rfl
theorem n_129 : (ZZ u).T.s 129 = Str.ofString "leader" := by kernel_rfl
theorem n_130 : (ZZ u).T.s 130 = Str.ofString "learners" := by kernel_rfl
theorem n_131 : (ZZ u).T.s 131 = Str.ofString "learners_next" := by kernel_rfl
theorem n_132 : (ZZ u).T.s 132 = Str.ofString "left" := by kernel_rfl
theorem n_133 : (ZZ u).T.s 133 = Str.ofString "len" := by kernel_rfl
theorem n_134 : (ZZ u).T.s 134 = Str.ofString "log_term" := by kernel_rfl
theorem n_135 : (ZZ u).T.s 135 = Str.ofString "m" := by kernel_rfl
theorem n_137 : (ZZ u).T.s 137 = Str.ofString "majority_vote" := by kernel_rfl
theorem n_138 : (ZZ u).T.s 138 = Str.ofString "mark" := by kernel_rfl
theorem n_139 : (ZZ u).T.s 139 = Str.ofString "max" := by kernel_rfl
theorem n_140 : (ZZ u).T.s 140 = Str.ofString "max_committed_size" := by kernel_rfl
theorem n_141 : (ZZ u).T.s 141 = Str.ofString "max_inflight" := by kernel_rfl
theorem n_142 : (ZZ u).T.s 142 = Str.ofString "max_inflight_octets" := by kernel_rfl
theorem n_143 : (ZZ u).T.s 143 = Str.ofString "max_size_per_msg" := by kernel_rfl
theorem n_144 : (ZZ u).T.s 144 = Str.ofString "max_uncommitted_size" := by kernel_rfl
theorem n_145 : (ZZ u).T.s 145 = Str.ofString "may_lack_term" := by kernel_rfl
theorem n_146 : (ZZ u).T.s 146 = Str.ofString "member" := by kernel_rfl
theorem n_147 : (ZZ u).T.s 147 = Str.ofString "members" := by kernel_rfl
theorem n_148 : (ZZ u).T.s 148 = Str.ofString "messages" := by kernel_rfl
theorem n_149 : (ZZ u).T.s 149 = Str.ofString "missing" := by kernel_rfl
theorem n_150 : (ZZ u).T.s 150 = Str.ofString "mode" := by kernel_rfl
theorem n_151 : (ZZ u).T.s 151 = Str.ofString "need" := by kernel_rfl
theorem n_152 : (ZZ u).T.s 152 = Str.ofString "nid" := by kernel_rfl
theorem n_153 : (ZZ u).T.s 153 = Str.ofString "no" := by kernel_rfl
theorem n_154 : (ZZ u).T.s 154 = Str.ofString "no_forwarding" := by kernel_rfl
theorem n_155 : (ZZ u).T.s 155 = Str.ofString "noes" := by kernel_rfl
theorem n_156 : (ZZ u).T.s 156 = Str.ofString "nums" := by kernel_rfl
theorem n_157 : (ZZ u).T.s 157 = Str.ofString "ok" := by kernel_rfl
theorem n_158 : (ZZ u).T.s 158 = Str.ofString "open_yet" := by kernel_rfl
theorem n_159 : (ZZ u).T.s 159 = Str.ofString "order" := by kernel_rfl
theorem n_160 : (ZZ u).T.s 160 = Str.ofString "other" := by kernel_rfl
theorem n_161 : (ZZ u).T.s 161 = Str.ofString "out" := by kernel_rfl
theorem n_162 : (ZZ u).T.s 162 = Str.ofString "outgoing" := by kernel_rfl
theorem n_163 : (ZZ u).T.s 163 = Str.ofString "own" := by kernel_rfl
theorem n_165 : (ZZ u).T.s 165 = Str.ofString "poll" := by kernel_rfl
theorem n_166 : (ZZ u).T.s 166 = Str.ofString "pre" := by kernel_rfl
theorem n_167 : (ZZ u).T.s 167 = Str.ofString "pre_vote" := by kernel_rfl
theorem n_168 : (ZZ u).T.s 168 = Str.ofString "promotable" := by kernel_rfl
theorem n_169 : (ZZ u).T.s 169 = Str.ofString "read_option" := by kernel_rfl
theorem n_170 : (ZZ u).T.s 170 = Str.ofString "record_vote" := by kernel_rfl
theorem n_171 : (ZZ u).T.s 171 = Str.ofString "reject" := by kernel_rfl
theorem n_172 : (ZZ u).T.s 172 = Str.ofString "reject_hint" := by kernel_rfl
theorem n_173 : (ZZ u).T.s 173 = Str.ofString "rejected" := by kernel_rfl
theorem n_174 : (ZZ u).T.s 174 = Str.ofString "request" := by kernel_rfl
theorem n_175 : (ZZ u).T.s 175 = Str.ofString "reset" := by kernel_rfl
theorem n_176 : (ZZ u).T.s 176 = Str.ofString "reset_votes" := by kernel_rfl
theorem n_177 : (ZZ u).T.s 177 = Str.ofString "rest" := by kernel_rfl
theorem n_178 : (ZZ u).T.s 178 = Str.ofString "result" := by kernel_rfl
theorem n_179 : (ZZ u).T.s 179 = Str.ofString "right" := by kernel_rfl
theorem n_180 : (ZZ u).T.s 180 = Str.ofString "rising" := by kernel_rfl
theorem n_183 : (ZZ u).T.s 183 = Str.ofString "self" := by kernel_rfl
theorem n_184 : (ZZ u).T.s 184 = Str.ofString "send" := by kernel_rfl
theorem n_185 : (ZZ u).T.s 185 = Str.ofString "settle_higher" := by kernel_rfl
theorem n_186 : (ZZ u).T.s 186 = Str.ofString "settle_term" := by kernel_rfl
theorem n_188 : (ZZ u).T.s 188 = Str.ofString "snapshot" := by kernel_rfl
theorem n_190 : (ZZ u).T.s 190 = Str.ofString "sorted" := by kernel_rfl
theorem n_191 : (ZZ u).T.s 191 = Str.ofString "stand" := by kernel_rfl
theorem n_192 : (ZZ u).T.s 192 = Str.ofString "state" := by kernel_rfl
theorem n_193 : (ZZ u).T.s 193 = Str.ofString "step" := by kernel_rfl
theorem n_194 : (ZZ u).T.s 194 = Str.ofString "step_candidate" := by kernel_rfl
theorem n_195 : (ZZ u).T.s 195 = Str.ofString "step_down_on_removal" := by kernel_rfl
theorem n_196 : (ZZ u).T.s 196 = Str.ofString "step_follower" := by kernel_rfl
theorem n_197 : (ZZ u).T.s 197 = Str.ofString "step_leader" := by kernel_rfl
theorem n_198 : (ZZ u).T.s 198 = Str.ofString "storage" := by kernel_rfl
theorem n_199 : (ZZ u).T.s 199 = Str.ofString "tally" := by kernel_rfl
theorem n_200 : (ZZ u).T.s 200 = Str.ofString "term" := by kernel_rfl
theorem n_204 : (ZZ u).T.s 204 = Str.ofString "timeout" := by kernel_rfl
theorem n_205 : (ZZ u).T.s 205 = Str.ofString "to" := by kernel_rfl
theorem n_206 : (ZZ u).T.s 206 = Str.ofString "tracker" := by kernel_rfl
theorem n_207 : (ZZ u).T.s 207 = Str.ofString "unapplied_conf" := by kernel_rfl
theorem n_209 : (ZZ u).T.s 209 = Str.ofString "vote" := by kernel_rfl
theorem n_211 : (ZZ u).T.s 211 = Str.ofString "voters" := by kernel_rfl
theorem n_212 : (ZZ u).T.s 212 = Str.ofString "votes" := by kernel_rfl
theorem n_213 : (ZZ u).T.s 213 = Str.ofString "want" := by kernel_rfl
theorem n_214 : (ZZ u).T.s 214 = Str.ofString "way" := by kernel_rfl
theorem n_215 : (ZZ u).T.s 215 = Str.ofString "ways" := by kernel_rfl
theorem n_216 : (ZZ u).T.s 216 = Str.ofString "who" := by kernel_rfl
theorem n_217 : (ZZ u).T.s 217 = Str.ofString "won" := by kernel_rfl
theorem n_218 : (ZZ u).T.s 218 = Str.ofString "words" := by kernel_rfl
theorem n_219 : (ZZ u).T.s 219 = Str.ofString "x" := by kernel_rfl
theorem n_220 : (ZZ u).T.s 220 = Str.ofString "y" := by kernel_rfl
theorem n_221 : (ZZ u).T.s 221 = Str.ofString "yes" := by kernel_rfl
theorem n_222 : (ZZ u).T.s 222 = Str.ofString "yeses" := by kernel_rfl
theorem n_223 : (ZZ u).T.s 223 = Str.ofString "z" := by kernel_rfl
theorem g_Ballots (P : Params) : nsIn (KK P) mainGlobals (Str.ofString "Ballots") = some (some (.ref 291)) := by kernel_rfl
theorem g_CAMP_ELECTION (P : Params) : nsIn (KK P) mainGlobals (Str.ofString "CAMP_ELECTION") = some (some (.int 2 633)) := by kernel_rfl
theorem g_CAMP_PRE (P : Params) : nsIn (KK P) mainGlobals (Str.ofString "CAMP_PRE") = some (some (.int 1 631)) := by kernel_rfl
theorem g_CAMP_TRANSFER (P : Params) : nsIn (KK P) mainGlobals (Str.ofString "CAMP_TRANSFER") = some (some (.int 3 635)) := by kernel_rfl
theorem g_CANDIDATE (P : Params) : nsIn (KK P) mainGlobals (Str.ofString "CANDIDATE") = some (some (.int 1 625)) := by kernel_rfl
theorem g_Config (P : Params) : nsIn (KK P) mainGlobals (Str.ofString "Config") = some (some (.ref 242)) := by kernel_rfl
theorem g_Elector (P : Params) : nsIn (KK P) mainGlobals (Str.ofString "Elector") = some (some (.ref 606)) := by kernel_rfl
theorem g_FOLLOWER (P : Params) : nsIn (KK P) mainGlobals (Str.ofString "FOLLOWER") = some (some (.int 0 623)) := by kernel_rfl
theorem g_LEADER (P : Params) : nsIn (KK P) mainGlobals (Str.ofString "LEADER") = some (some (.int 2 627)) := by kernel_rfl
theorem g_LEASE (P : Params) : nsIn (KK P) mainGlobals (Str.ofString "LEASE") = some (some (.int 1 557)) := by kernel_rfl
theorem g_MSG_APP (P : Params) : nsIn (KK P) mainGlobals (Str.ofString "MSG_APP") = some (some (.int 3 292)) := by kernel_rfl
theorem g_MSG_BEAT (P : Params) : nsIn (KK P) mainGlobals (Str.ofString "MSG_BEAT") = some (some (.int 1 288)) := by kernel_rfl
theorem g_MSG_CHECK_QUORUM (P : Params) : nsIn (KK P) mainGlobals (Str.ofString "MSG_CHECK_QUORUM") = some (some (.int 12 308)) := by kernel_rfl
theorem g_MSG_HEARTBEAT (P : Params) : nsIn (KK P) mainGlobals (Str.ofString "MSG_HEARTBEAT") = some (some (.int 8 302)) := by kernel_rfl
theorem g_MSG_HUP (P : Params) : nsIn (KK P) mainGlobals (Str.ofString "MSG_HUP") = some (some (.int 0 286)) := by kernel_rfl
theorem g_MSG_PIECE (P : Params) : nsIn (KK P) mainGlobals (Str.ofString "MSG_PIECE") = some (some (.int 20 322)) := by kernel_rfl
theorem g_MSG_PRE_VOTE (P : Params) : nsIn (KK P) mainGlobals (Str.ofString "MSG_PRE_VOTE") = some (some (.int 17 316)) := by kernel_rfl
theorem g_MSG_PRE_VOTE_RESP (P : Params) : nsIn (KK P) mainGlobals (Str.ofString "MSG_PRE_VOTE_RESP") = some (some (.int 18 318)) := by kernel_rfl
theorem g_MSG_PROP (P : Params) : nsIn (KK P) mainGlobals (Str.ofString "MSG_PROP") = some (some (.int 2 290)) := by kernel_rfl
theorem g_MSG_READ_INDEX (P : Params) : nsIn (KK P) mainGlobals (Str.ofString "MSG_READ_INDEX") = some (some (.int 15 314)) := by kernel_rfl
theorem g_MSG_SNAP (P : Params) : nsIn (KK P) mainGlobals (Str.ofString "MSG_SNAP") = some (some (.int 7 300)) := by kernel_rfl
theorem g_MSG_SNAP_STATUS (P : Params) : nsIn (KK P) mainGlobals (Str.ofString "MSG_SNAP_STATUS") = some (some (.int 11 306)) := by kernel_rfl
theorem g_MSG_TIMEOUT_NOW (P : Params) : nsIn (KK P) mainGlobals (Str.ofString "MSG_TIMEOUT_NOW") = some (some (.int 14 312)) := by kernel_rfl
theorem g_MSG_TRANSFER (P : Params) : nsIn (KK P) mainGlobals (Str.ofString "MSG_TRANSFER") = some (some (.int 13 310)) := by kernel_rfl
theorem g_MSG_UNREACHABLE (P : Params) : nsIn (KK P) mainGlobals (Str.ofString "MSG_UNREACHABLE") = some (some (.int 10 304)) := by kernel_rfl
theorem g_MSG_VOTE (P : Params) : nsIn (KK P) mainGlobals (Str.ofString "MSG_VOTE") = some (some (.int 5 296)) := by kernel_rfl
theorem g_MSG_VOTE_RESP (P : Params) : nsIn (KK P) mainGlobals (Str.ofString "MSG_VOTE_RESP") = some (some (.int 6 298)) := by kernel_rfl
theorem g_MSG_WANT (P : Params) : nsIn (KK P) mainGlobals (Str.ofString "MSG_WANT") = some (some (.int 19 320)) := by kernel_rfl
theorem g_Message (P : Params) : nsIn (KK P) mainGlobals (Str.ofString "Message") = some (some (.ref 132)) := by kernel_rfl
theorem g_NONE (P : Params) : nsIn (KK P) mainGlobals (Str.ofString "NONE") = some (some (.int 0 282)) := by kernel_rfl
theorem g_NO_LIMIT (P : Params) : nsIn (KK P) mainGlobals (Str.ofString "NO_LIMIT") = some (some (.int 18446744073709551615 284)) := by kernel_rfl
theorem g_PRE_CANDIDATE (P : Params) : nsIn (KK P) mainGlobals (Str.ofString "PRE_CANDIDATE") = some (some (.int 3 629)) := by kernel_rfl
theorem g_RaftConfig (P : Params) : nsIn (KK P) mainGlobals (Str.ofString "RaftConfig") = some (some (.ref 319)) := by kernel_rfl
theorem g_SAFE (P : Params) : nsIn (KK P) mainGlobals (Str.ofString "SAFE") = some (some (.int 0 555)) := by kernel_rfl
theorem g_TRANSFER_CONTEXT (P : Params) : nsIn (KK P) mainGlobals (Str.ofString "TRANSFER_CONTEXT") = some (some (.bytes (byt true) 637)) := by kernel_rfl
theorem g_VOTE_LOST (P : Params) : nsIn (KK P) mainGlobals (Str.ofString "VOTE_LOST") = some (some (.int 2 407)) := by kernel_rfl
theorem g_VOTE_PENDING (P : Params) : nsIn (KK P) mainGlobals (Str.ofString "VOTE_PENDING") = some (some (.int 1 405)) := by kernel_rfl
theorem g_VOTE_WON (P : Params) : nsIn (KK P) mainGlobals (Str.ofString "VOTE_WON") = some (some (.int 3 409)) := by kernel_rfl
theorem g__law_asked (P : Params) : nsIn (KK P) mainGlobals (Str.ofString "_law_asked") = some (some (.ref 653)) := by kernel_rfl
theorem g__law_draw (P : Params) : nsIn (KK P) mainGlobals (Str.ofString "_law_draw") = some (some (.ref 624)) := by kernel_rfl
theorem g__law_end (P : Params) : nsIn (KK P) mainGlobals (Str.ofString "_law_end") = some (some (.ref 648)) := by kernel_rfl
theorem g__law_orders (P : Params) : nsIn (KK P) mainGlobals (Str.ofString "_law_orders") = some (some (.ref 617)) := by kernel_rfl
theorem g__law_says (P : Params) : nsIn (KK P) mainGlobals (Str.ofString "_law_says") = some (some (.ref 631)) := by kernel_rfl
theorem g__law_wins (P : Params) : nsIn (KK P) mainGlobals (Str.ofString "_law_wins") = some (some (.ref 643)) := by kernel_rfl
theorem g__law_word (P : Params) : nsIn (KK P) mainGlobals (Str.ofString "_law_word") = some (some (.ref 638)) := by kernel_rfl
theorem g_is_local (P : Params) : nsIn (KK P) mainGlobals (Str.ofString "is_local") = some (some (.ref 89)) := by kernel_rfl
theorem g_joint_vote (P : Params) : nsIn (KK P) mainGlobals (Str.ofString "joint_vote") = some (some (.ref 162)) := by kernel_rfl
theorem g_majority_vote (P : Params) : nsIn (KK P) mainGlobals (Str.ofString "majority_vote") = some (some (.ref 148)) := by kernel_rfl
theorem g_may_lack_term (P : Params) : nsIn (KK P) mainGlobals (Str.ofString "may_lack_term") = some (some (.ref 330)) := by kernel_rfl
theorem g_rising (P : Params) : nsIn (KK P) mainGlobals (Str.ofString "rising") = some (some (.ref 103)) := by kernel_rfl
theorem g_all (P : Params) : nsIn (KK P) mainGlobals (Str.ofString "all") = some none := by kernel_rfl
theorem b_all : bootBuiltins (Str.ofString "all") = some (.builtin "all") := by kernel_rfl
theorem g_any (P : Params) : nsIn (KK P) mainGlobals (Str.ofString "any") = some none := by kernel_rfl
theorem b_any : bootBuiltins (Str.ofString "any") = some (.builtin "any") := by kernel_rfl
theorem g_len (P : Params) : nsIn (KK P) mainGlobals (Str.ofString "len") = some none := by kernel_rfl
theorem b_len : bootBuiltins (Str.ofString "len") = some (.builtin "len") := by kernel_rfl
theorem g_max (P : Params) : nsIn (KK P) mainGlobals (Str.ofString "max") = some none := by kernel_rfl
theorem b_max : bootBuiltins (Str.ofString "max") = some (.builtin "max") := by kernel_rfl
theorem g_sorted (P : Params) : nsIn (KK P) mainGlobals (Str.ofString "sorted") = some none := by kernel_rfl
theorem b_sorted : bootBuiltins (Str.ofString "sorted") = some (.builtin "sorted") := by kernel_rfl
theorem k__law_asked (P : Params) : keepIn (KK P) (.ref 653) = true := by kernel_rfl
theorem k__law_draw (P : Params) : keepIn (KK P) (.ref 624) = true := by kernel_rfl
theorem k__law_end (P : Params) : keepIn (KK P) (.ref 648) = true := by kernel_rfl
theorem k__law_orders (P : Params) : keepIn (KK P) (.ref 617) = true := by kernel_rfl
theorem k__law_says (P : Params) : keepIn (KK P) (.ref 631) = true := by kernel_rfl
theorem k__law_wins (P : Params) : keepIn (KK P) (.ref 643) = true := by kernel_rfl
theorem k__law_word (P : Params) : keepIn (KK P) (.ref 638) = true := by kernel_rfl
theorem k_is_local (P : Params) : keepIn (KK P) (.ref 89) = true := by kernel_rfl
theorem k_joint_vote (P : Params) : keepIn (KK P) (.ref 162) = true := by kernel_rfl
theorem k_majority_vote (P : Params) : keepIn (KK P) (.ref 148) = true := by kernel_rfl
theorem k_may_lack_term (P : Params) : keepIn (KK P) (.ref 330) = true := by kernel_rfl
theorem k_rising (P : Params) : keepIn (KK P) (.ref 103) = true := by kernel_rfl
theorem c_Ballots (P : Params) : clsOk (KK P) 291 260 = true := by kernel_rfl
theorem c_Config (P : Params) : clsOk (KK P) 242 176 = true := by kernel_rfl
theorem c_Elector (P : Params) : clsOk (KK P) 606 344 = true := by kernel_rfl
theorem c_Message (P : Params) : clsOk (KK P) 132 117 = true := by kernel_rfl
theorem c_RaftConfig (P : Params) : clsOk (KK P) 319 309 = true := by kernel_rfl
theorem m_Ballots_record_vote (P : Params) : methOk (KK P) 291 (Str.ofString "record_vote") 267 = true := by kernel_rfl
theorem m_Ballots_reset_votes (P : Params) : methOk (KK P) 291 (Str.ofString "reset_votes") 274 = true := by kernel_rfl
theorem m_Ballots_tally (P : Params) : methOk (KK P) 291 (Str.ofString "tally") 281 = true := by kernel_rfl
theorem m_Config_all_voters (P : Params) : methOk (KK P) 242 (Str.ofString "all_voters") 204 = true := by kernel_rfl
theorem m_Config_copy (P : Params) : methOk (KK P) 242 (Str.ofString "copy") 190 = true := by kernel_rfl
theorem m_Config_members (P : Params) : methOk (KK P) 242 (Str.ofString "members") 211 = true := by kernel_rfl
theorem m_Config_vote (P : Params) : methOk (KK P) 242 (Str.ofString "vote") 225 = true := by kernel_rfl
theorem m_Elector_answer_lower (P : Params) : methOk (KK P) 606 (Str.ofString "answer_lower") 554 = true := by kernel_rfl
theorem m_Elector_bcast_append (P : Params) : methOk (KK P) 606 (Str.ofString "bcast_append") 407 = true := by kernel_rfl
theorem m_Elector_become_candidate (P : Params) : methOk (KK P) 606 (Str.ofString "become_candidate") 491 = true := by kernel_rfl
theorem m_Elector_become_follower (P : Params) : methOk (KK P) 606 (Str.ofString "become_follower") 484 = true := by kernel_rfl
theorem m_Elector_become_leader (P : Params) : methOk (KK P) 606 (Str.ofString "become_leader") 505 = true := by kernel_rfl
theorem m_Elector_become_pre_candidate (P : Params) : methOk (KK P) 606 (Str.ofString "become_pre_candidate") 498 = true := by kernel_rfl
theorem m_Elector_begin (P : Params) : methOk (KK P) 606 (Str.ofString "begin") 358 = true := by kernel_rfl
theorem m_Elector_campaign (P : Params) : methOk (KK P) 606 (Str.ofString "campaign") 582 = true := by kernel_rfl
theorem m_Elector_draw_timeout (P : Params) : methOk (KK P) 606 (Str.ofString "draw_timeout") 470 = true := by kernel_rfl
theorem m_Elector_forget (P : Params) : methOk (KK P) 606 (Str.ofString "forget") 414 = true := by kernel_rfl
theorem m_Elector_furnish (P : Params) : methOk (KK P) 606 (Str.ofString "furnish") 351 = true := by kernel_rfl
theorem m_Elector_hup (P : Params) : methOk (KK P) 606 (Str.ofString "hup") 575 = true := by kernel_rfl
theorem m_Elector_last_row (P : Params) : methOk (KK P) 606 (Str.ofString "last_row") 372 = true := by kernel_rfl
theorem m_Elector_lead (P : Params) : methOk (KK P) 606 (Str.ofString "lead") 421 = true := by kernel_rfl
theorem m_Elector_poll (P : Params) : methOk (KK P) 606 (Str.ofString "poll") 589 = true := by kernel_rfl
theorem m_Elector_promotable (P : Params) : methOk (KK P) 606 (Str.ofString "promotable") 386 = true := by kernel_rfl
theorem m_Elector_reset (P : Params) : methOk (KK P) 606 (Str.ofString "reset") 477 = true := by kernel_rfl
theorem m_Elector_send (P : Params) : methOk (KK P) 606 (Str.ofString "send") 463 = true := by kernel_rfl
theorem m_Elector_settle_higher (P : Params) : methOk (KK P) 606 (Str.ofString "settle_higher") 547 = true := by kernel_rfl
theorem m_Elector_settle_term (P : Params) : methOk (KK P) 606 (Str.ofString "settle_term") 533 = true := by kernel_rfl
theorem m_Elector_stand (P : Params) : methOk (KK P) 606 (Str.ofString "stand") 365 = true := by kernel_rfl
theorem m_Elector_step (P : Params) : methOk (KK P) 606 (Str.ofString "step") 526 = true := by kernel_rfl
theorem m_Elector_step_candidate (P : Params) : methOk (KK P) 606 (Str.ofString "step_candidate") 603 = true := by kernel_rfl
theorem m_Elector_step_follower (P : Params) : methOk (KK P) 606 (Str.ofString "step_follower") 442 = true := by kernel_rfl
theorem m_Elector_step_leader (P : Params) : methOk (KK P) 606 (Str.ofString "step_leader") 428 = true := by kernel_rfl
theorem m_Elector_unapplied_conf (P : Params) : methOk (KK P) 606 (Str.ofString "unapplied_conf") 393 = true := by kernel_rfl
theorem m_Elector_won (P : Params) : methOk (KK P) 606 (Str.ofString "won") 596 = true := by kernel_rfl
theorem m_RaftConfig_check_all (P : Params) : methOk (KK P) 319 (Str.ofString "check_all") 316 = true := by kernel_rfl
end

set_option maxRecDepth 100000
section
variable {u : Un}
theorem d_is_local : DefOk (ZZ u) 89 [123] (stScope (topSt 29)) (stBody (topSt 29)) :=
  defOk (qual := "is_local") (pm := vs "raftkeep.messages" 280) (code := 88) (by kernel_rfl) (by kernel_rfl) (len1 fun _ => by kernel_rfl) (by decide) (by decide +kernel) (by kernel_rfl) (by kernel_rfl) (by kernel_rfl)
noncomputable def W_is_local : SW := (sSeq (sRet (eIn false (eLoc 123) (eTup (esCons (eV (.int 0)) (esCons (eV (.int 1)) (esCons (eV (.int 10)) (esCons (eV (.int 11)) (esCons (eV (.int 12)) esNil))))))))
  sNil)
noncomputable def F_is_local : FW := fun args σ Q => args.length = 1 ∧ W_is_local ([123].zip args) σ fun fl _ σ' => Q (retV fl) σ'
theorem s_is_local : SFc (ZZ u) 1 89 F_is_local := by
  refine s_def (W := W_is_local) d_is_local (by kernel_rfl) ?_
  refine ss_cons ?_ ?_
  refine ss_ret ?_
  refine se_in (neg := false) rfl ?_ ?_ rfl
  refine se_loc n_123
  refine se_tup ?_
  refine es_cons ?_ ?_ (fun _ => sE_Name)
  refine se_gint n_19 (by kernel_rfl) (g_MSG_HUP _)
  refine es_cons ?_ ?_ (fun _ => sE_Name)
  refine se_gint n_16 (by kernel_rfl) (g_MSG_BEAT _)
  refine es_cons ?_ ?_ (fun _ => sE_Name)
  refine se_gint n_29 (by kernel_rfl) (g_MSG_UNREACHABLE _)
  refine es_cons ?_ ?_ (fun _ => sE_Name)
  refine se_gint n_26 (by kernel_rfl) (g_MSG_SNAP_STATUS _)
  refine es_cons ?_ ?_ (fun _ => sE_Name)
  refine se_gint n_17 (by kernel_rfl) (g_MSG_CHECK_QUORUM _)
  refine es_nil
  refine ss_nil
theorem d_rising : DefOk (ZZ u) 103 [113] (stScope (topSt 31)) (stBody (topSt 31)) :=
  defOk (qual := "rising") (pm := vs "raftkeep.messages" 280) (code := 102) (by kernel_rfl) (by kernel_rfl) (len1 fun _ => by kernel_rfl) (by decide) (by decide +kernel) (by kernel_rfl) (by kernel_rfl) (by kernel_rfl)
noncomputable def W_rising : SW := (sSeq (sAsg 161 (eList esNil))
  (sSeq (sFor 152 (eSorted (eLoc 113)) (sSeq (sIf (tOr [(tNot (tVal (eLoc 161))), (tCmp .NotEq (eIdx (eLoc 161) (eV (.int (-1)))) (eLoc 152))]) (sSeq (sExp (sApp (eLoc 161) (eLoc 152)))
  sNil) sNil)
  sNil))
  (sSeq (sRet (eLoc 161))
  sNil)))
noncomputable def F_rising : FW := fun args σ Q => args.length = 1 ∧ W_rising ([113].zip args) σ fun fl _ σ' => Q (retV fl) σ'
theorem s_rising : SFc (ZZ u) 1 103 F_rising := by
  refine s_def (W := W_rising) d_rising (by kernel_rfl) ?_
  refine ss_cons ?_ ?_
  refine ss_asg ?_ n_161 (lt (by decide)) (by kernel_rfl) (fun _ _ => sw_List)
  refine se_list ?_
  refine es_nil
  refine ss_cons ?_ ?_
  refine ss_for ?_ ?_ n_152 (lt (by decide)) (by kernel_rfl) (fun _ _ => fo_Call)
  refine se_sorted ⟨n_190, by kernel_rfl, g_sorted _, b_sorted, by decide⟩ ?_ (fun _ => sE_Name)
  refine se_loc n_113
  refine ss_cons ?_ ?_
  refine ss_if ?_ ?_ ?_
  refine st_or ?_
  refine .cons ?_ ?_
  refine st_not ?_
  refine st_val ?_ (fun _ _ => tr_Name)
  refine se_loc n_161
  refine .cons ?_ ?_
  refine st_cmp ?_ ?_ rfl rfl
  refine se_idx ?_ ?_ (fun _ _ _ => su_UnaryOp)
  refine se_loc n_161
  refine se_neg
  refine se_loc n_152
  refine .nil
  refine ss_cons ?_ ?_
  refine ss_exp ?_ (fun _ => sw_Call)
  refine se_appendG rfl ?_ ?_ (fun _ => sE_Name) (fun _ _ => ab_Name) rfl
  refine se_loc n_161
  refine se_loc n_152
  refine ss_nil
  refine ss_nil
  refine ss_nil
  refine ss_cons ?_ ?_
  refine ss_ret ?_
  refine se_loc n_161
  refine ss_nil
theorem d_Message_init : DefOk (ZZ u) 117 [183, 123, 205, 99, 200] (stScope (methSt 32 0)) (stBody (methSt 32 0)) :=
  defOk (qual := "Message.__init__") (pm := vs "raftkeep.messages" 280) (code := 116) (by kernel_rfl) (by kernel_rfl) (len5 fun _ _ _ _ _ => by kernel_rfl) (by decide) (by decide +kernel) (by kernel_rfl) (by kernel_rfl) (by kernel_rfl)
noncomputable def W_Message_init : SW := (sSeq (sSet (eLoc 123) (eLoc 183) 123)
  (sSeq (sSet (eLoc 205) (eLoc 183) 205)
  (sSeq (sSet (eLoc 99) (eLoc 183) 99)
  (sSeq (sSet (eLoc 200) (eLoc 183) 200)
  (sSeq (sSet (eV (.int 0)) (eLoc 183) 134)
  (sSeq (sSet (eV (.int 0)) (eLoc 183) 115)
  (sSeq (sSet (eList esNil) (eLoc 183) 93)
  (sSeq (sSet (eV (.int 0)) (eLoc 183) 80)
  (sSeq (sSet (eV .none) (eLoc 183) 188)
  (sSeq (sSet (eV (.bool false)) (eLoc 183) 171)
  (sSeq (sSet (eV (.int 0)) (eLoc 183) 172)
  (sSeq (sSet (eV (.bytes false)) (eLoc 183) 84)
  sNil))))))))))))
noncomputable def F_Message_init : FW := fun args σ Q => args.length = 5 ∧ W_Message_init ([183, 123, 205, 99, 200].zip args) σ fun fl _ σ' => Q (retV fl) σ'
theorem s_Message_init : SFc (ZZ u) 1 117 F_Message_init := by
  refine s_def (W := W_Message_init) d_Message_init (by kernel_rfl) ?_
  refine ss_cons ?_ ?_
  refine ss_set ?_ ?_ n_123 (fun _ => sw_Name)
  refine se_loc n_123
  refine se_loc n_183
  refine ss_cons ?_ ?_
  refine ss_set ?_ ?_ n_205 (fun _ => sw_Name)
  refine se_loc n_205
  refine se_loc n_183
  refine ss_cons ?_ ?_
  refine ss_set ?_ ?_ n_99 (fun _ => sw_Name)
  refine se_loc n_99
  refine se_loc n_183
  refine ss_cons ?_ ?_
  refine ss_set ?_ ?_ n_200 (fun _ => sw_Name)
  refine se_loc n_200
  refine se_loc n_183
  refine ss_cons ?_ ?_
  refine ss_set ?_ ?_ n_134 (fun _ => sw_Constant)
  refine se_int
  refine se_loc n_183
  refine ss_cons ?_ ?_
  refine ss_set ?_ ?_ n_115 (fun _ => sw_Constant)
  refine se_int
  refine se_loc n_183
  refine ss_cons ?_ ?_
  refine ss_set ?_ ?_ n_93 (fun _ => sw_List)
  refine se_list ?_
  refine es_nil
  refine se_loc n_183
  refine ss_cons ?_ ?_
  refine ss_set ?_ ?_ n_80 (fun _ => sw_Constant)
  refine se_int
  refine se_loc n_183
  refine ss_cons ?_ ?_
  refine ss_set ?_ ?_ n_188 (fun _ => sw_Constant)
  refine se_none
  refine se_loc n_183
  refine ss_cons ?_ ?_
  refine ss_set ?_ ?_ n_171 (fun _ => sw_Constant)
  refine se_bool
  refine se_loc n_183
  refine ss_cons ?_ ?_
  refine ss_set ?_ ?_ n_172 (fun _ => sw_Constant)
  refine se_int
  refine se_loc n_183
  refine ss_cons ?_ ?_
  refine ss_set ?_ ?_ n_84 (fun _ => sw_Constant)
  refine se_bytes0
  refine se_loc n_183
  refine ss_nil
theorem d_majority_vote : DefOk (ZZ u) 148 [113, 212] (stScope (topSt 38)) (stBody (topSt 38)) :=
  defOk (qual := "majority_vote") (pm := vs "raftkeep.quorum" 403) (code := 147) (by kernel_rfl) (by kernel_rfl) (len2 fun _ _ => by kernel_rfl) (by decide) (by decide +kernel) (by kernel_rfl) (by kernel_rfl) (by kernel_rfl)
noncomputable def W_majority_vote : SW := (sSeq (sIf (tNot (tVal (eLoc 113))) (sSeq (sRet (eV (.int 3)))
  sNil) sNil)
  (sSeq (sAsg 104 (eV (.int 0)))
  (sSeq (sAsg 149 (eV (.int 0)))
  (sSeq (sFor 152 (eLoc 113) (sSeq (sIf (tIn true (eLoc 152) (eLoc 212)) (sSeq (sAugN 149 (eV (.int 1)))
  sNil) (sSeq (sIf (tVal (eIdx (eLoc 212) (eLoc 152))) (sSeq (sAugN 104 (eV (.int 1)))
  sNil) sNil)
  sNil))
  sNil))
  (sSeq (sAsg 151 (eBin .Add (eBin .FloorDiv (eLen (eLoc 113)) (eV (.int 2))) (eV (.int 1))))
  (sSeq (sIf (tCmp .GtE (eLoc 104) (eLoc 151)) (sSeq (sRet (eV (.int 3)))
  sNil) sNil)
  (sSeq (sIf (tCmp .GtE (eBin .Add (eLoc 104) (eLoc 149)) (eLoc 151)) (sSeq (sRet (eV (.int 1)))
  sNil) sNil)
  (sSeq (sRet (eV (.int 2)))
  sNil))))))))
noncomputable def F_majority_vote : FW := fun args σ Q => args.length = 2 ∧ W_majority_vote ([113, 212].zip args) σ fun fl _ σ' => Q (retV fl) σ'
theorem s_majority_vote : SFc (ZZ u) 1 148 F_majority_vote := by
  refine s_def (W := W_majority_vote) d_majority_vote (by kernel_rfl) ?_
  refine ss_cons ?_ ?_
  refine ss_if ?_ ?_ ?_
  refine st_not ?_
  refine st_val ?_ (fun _ _ => tr_Name)
  refine se_loc n_113
  refine ss_cons ?_ ?_
  refine ss_ret ?_
  refine se_gint n_44 (by kernel_rfl) (g_VOTE_WON _)
  refine ss_nil
  refine ss_nil
  refine ss_cons ?_ ?_
  refine ss_asg ?_ n_104 (lt (by decide)) (by kernel_rfl) (fun _ _ => sw_Constant)
  refine se_int
  refine ss_cons ?_ ?_
  refine ss_asg ?_ n_149 (lt (by decide)) (by kernel_rfl) (fun _ _ => sw_Constant)
  refine se_int
  refine ss_cons ?_ ?_
  refine ss_for ?_ ?_ n_152 (lt (by decide)) (by kernel_rfl) (fun _ _ => fo_Name)
  refine se_loc n_113
  refine ss_cons ?_ ?_
  refine ss_if ?_ ?_ ?_
  refine st_in (neg := true) rfl ?_ ?_ rfl
  refine se_loc n_152
  refine se_loc n_212
  refine ss_cons ?_ ?_
  refine ss_augN ?_ n_149 (lt (by decide)) (by kernel_rfl)
  refine se_int
  refine ss_nil
  refine ss_cons ?_ ?_
  refine ss_if ?_ ?_ ?_
  refine st_val ?_ (fun _ _ => tr_Subscript)
  refine se_idx ?_ ?_ (fun _ _ _ => su_Name)
  refine se_loc n_212
  refine se_loc n_152
  refine ss_cons ?_ ?_
  refine ss_augN ?_ n_104 (lt (by decide)) (by kernel_rfl)
  refine se_int
  refine ss_nil
  refine ss_nil
  refine ss_nil
  refine ss_nil
  refine ss_cons ?_ ?_
  refine ss_asg ?_ n_151 (lt (by decide)) (by kernel_rfl) (fun _ _ => sw_BinOp)
  refine se_bin ?_ ?_
  refine se_bin ?_ ?_
  refine se_len ⟨n_133, by kernel_rfl, g_len _, b_len, by decide⟩ ?_ (fun _ => sE_Name)
  refine se_loc n_113
  refine se_int
  refine se_int
  refine ss_cons ?_ ?_
  refine ss_if ?_ ?_ ?_
  refine st_cmp ?_ ?_ rfl rfl
  refine se_loc n_104
  refine se_loc n_151
  refine ss_cons ?_ ?_
  refine ss_ret ?_
  refine se_gint n_44 (by kernel_rfl) (g_VOTE_WON _)
  refine ss_nil
  refine ss_nil
  refine ss_cons ?_ ?_
  refine ss_if ?_ ?_ ?_
  refine st_cmp ?_ ?_ rfl rfl
  refine se_bin ?_ ?_
  refine se_loc n_104
  refine se_loc n_149
  refine se_loc n_151
  refine ss_cons ?_ ?_
  refine ss_ret ?_
  refine se_gint n_43 (by kernel_rfl) (g_VOTE_PENDING _)
  refine ss_nil
  refine ss_nil
  refine ss_cons ?_ ?_
  refine ss_ret ?_
  refine se_gint n_42 (by kernel_rfl) (g_VOTE_LOST _)
  refine ss_nil
theorem d_joint_vote : DefOk (ZZ u) 162 [54, 66, 212] (stScope (topSt 40)) (stBody (topSt 40)) :=
  defOk (qual := "joint_vote") (pm := vs "raftkeep.quorum" 403) (code := 161) (by kernel_rfl) (by kernel_rfl) (len3 fun _ _ _ => by kernel_rfl) (by decide) (by decide +kernel) (by kernel_rfl) (by kernel_rfl) (by kernel_rfl)
noncomputable def W_joint_vote : SW := (sSeq (sAsg 132 (eCall F_majority_vote (esCons (eLoc 54) (esCons (eLoc 212) esNil))))
  (sSeq (sAsg 179 (eCall F_majority_vote (esCons (eLoc 66) (esCons (eLoc 212) esNil))))
  (sSeq (sIf (tCmp .Eq (eLoc 132) (eLoc 179)) (sSeq (sRet (eLoc 132))
  sNil) sNil)
  (sSeq (sIf (tOr [(tCmp .Eq (eLoc 132) (eV (.int 2))), (tCmp .Eq (eLoc 179) (eV (.int 2)))]) (sSeq (sRet (eV (.int 2)))
  sNil) sNil)
  (sSeq (sRet (eV (.int 1)))
  sNil)))))
noncomputable def F_joint_vote : FW := fun args σ Q => args.length = 3 ∧ W_joint_vote ([54, 66, 212].zip args) σ fun fl _ σ' => Q (retV fl) σ'
theorem s_joint_vote : SFc (ZZ u) 2 162 F_joint_vote := by
  refine s_def (W := W_joint_vote) d_joint_vote (by kernel_rfl) ?_
  refine ss_cons ?_ ?_
  refine ss_asg ?_ n_132 (lt (by decide)) (by kernel_rfl) (fun _ _ => sw_Call)
  refine se_call (s_majority_vote.mono (by decide)) ?_ n_137 (by kernel_rfl) (g_majority_vote _) (k_majority_vote _)
  refine es_cons ?_ ?_ (fun _ => sE_Name)
  refine se_loc n_54
  refine es_cons ?_ ?_ (fun _ => sE_Name)
  refine se_loc n_212
  refine es_nil
  refine ss_cons ?_ ?_
  refine ss_asg ?_ n_179 (lt (by decide)) (by kernel_rfl) (fun _ _ => sw_Call)
  refine se_call (s_majority_vote.mono (by decide)) ?_ n_137 (by kernel_rfl) (g_majority_vote _) (k_majority_vote _)
  refine es_cons ?_ ?_ (fun _ => sE_Name)
  refine se_loc n_66
  refine es_cons ?_ ?_ (fun _ => sE_Name)
  refine se_loc n_212
  refine es_nil
  refine ss_cons ?_ ?_
  refine ss_if ?_ ?_ ?_
  refine st_cmp ?_ ?_ rfl rfl
  refine se_loc n_132
  refine se_loc n_179
  refine ss_cons ?_ ?_
  refine ss_ret ?_
  refine se_loc n_132
  refine ss_nil
  refine ss_nil
  refine ss_cons ?_ ?_
  refine ss_if ?_ ?_ ?_
  refine st_or ?_
  refine .cons ?_ ?_
  refine st_cmp ?_ ?_ rfl rfl
  refine se_loc n_132
  refine se_gint n_42 (by kernel_rfl) (g_VOTE_LOST _)
  refine .cons ?_ ?_
  refine st_cmp ?_ ?_ rfl rfl
  refine se_loc n_179
  refine se_gint n_42 (by kernel_rfl) (g_VOTE_LOST _)
  refine .nil
  refine ss_cons ?_ ?_
  refine ss_ret ?_
  refine se_gint n_42 (by kernel_rfl) (g_VOTE_LOST _)
  refine ss_nil
  refine ss_nil
  refine ss_cons ?_ ?_
  refine ss_ret ?_
  refine se_gint n_43 (by kernel_rfl) (g_VOTE_PENDING _)
  refine ss_nil
theorem d_Config_init : DefOk (ZZ u) 176 [183, 211, 162, 130, 131, 65] (stScope (methSt 41 0)) (stBody (methSt 41 0)) :=
  defOk (qual := "Config.__init__") (pm := vs "raftkeep.quorum" 403) (code := 175) (by kernel_rfl) (by kernel_rfl) (len6 fun _ _ _ _ _ _ => by kernel_rfl) (by decide) (by decide +kernel) (by kernel_rfl) (by kernel_rfl) (by kernel_rfl)
noncomputable def W_Config_init : SW := (sSeq (sSet (eCall F_rising (esCons (eLoc 211) esNil)) (eLoc 183) 211)
  (sSeq (sSet (eCall F_rising (esCons (eLoc 162) esNil)) (eLoc 183) 162)
  (sSeq (sSet (eCall F_rising (esCons (eLoc 130) esNil)) (eLoc 183) 130)
  (sSeq (sSet (eCall F_rising (esCons (eLoc 131) esNil)) (eLoc 183) 131)
  (sSeq (sSet (eLoc 65) (eLoc 183) 65)
  sNil)))))
noncomputable def F_Config_init : FW := fun args σ Q => args.length = 6 ∧ W_Config_init ([183, 211, 162, 130, 131, 65].zip args) σ fun fl _ σ' => Q (retV fl) σ'
theorem s_Config_init : SFc (ZZ u) 2 176 F_Config_init := by
  refine s_def (W := W_Config_init) d_Config_init (by kernel_rfl) ?_
  refine ss_cons ?_ ?_
  refine ss_set ?_ ?_ n_211 (fun _ => sw_Call)
  refine se_call (s_rising.mono (by decide)) ?_ n_180 (by kernel_rfl) (g_rising _) (k_rising _)
  refine es_cons ?_ ?_ (fun _ => sE_Name)
  refine se_loc n_211
  refine es_nil
  refine se_loc n_183
  refine ss_cons ?_ ?_
  refine ss_set ?_ ?_ n_162 (fun _ => sw_Call)
  refine se_call (s_rising.mono (by decide)) ?_ n_180 (by kernel_rfl) (g_rising _) (k_rising _)
  refine es_cons ?_ ?_ (fun _ => sE_Name)
  refine se_loc n_162
  refine es_nil
  refine se_loc n_183
  refine ss_cons ?_ ?_
  refine ss_set ?_ ?_ n_130 (fun _ => sw_Call)
  refine se_call (s_rising.mono (by decide)) ?_ n_180 (by kernel_rfl) (g_rising _) (k_rising _)
  refine es_cons ?_ ?_ (fun _ => sE_Name)
  refine se_loc n_130
  refine es_nil
  refine se_loc n_183
  refine ss_cons ?_ ?_
  refine ss_set ?_ ?_ n_131 (fun _ => sw_Call)
  refine se_call (s_rising.mono (by decide)) ?_ n_180 (by kernel_rfl) (g_rising _) (k_rising _)
  refine es_cons ?_ ?_ (fun _ => sE_Name)
  refine se_loc n_131
  refine es_nil
  refine se_loc n_183
  refine ss_cons ?_ ?_
  refine ss_set ?_ ?_ n_65 (fun _ => sw_Name)
  refine se_loc n_65
  refine se_loc n_183
  refine ss_nil
theorem d_Config_copy : DefOk (ZZ u) 190 [183] (stScope (methSt 41 2)) (stBody (methSt 41 2)) :=
  defOk (qual := "Config.copy") (pm := vs "raftkeep.quorum" 403) (code := 189) (by kernel_rfl) (by kernel_rfl) (len1 fun _ => by kernel_rfl) (by decide) (by decide +kernel) (by kernel_rfl) (by kernel_rfl) (by kernel_rfl)
noncomputable def W_Config_copy : SW := (sSeq (sRet (eNew 242 F_Config_init (esCons (eAttr (eLoc 183) 211) (esCons (eAttr (eLoc 183) 162) (esCons (eAttr (eLoc 183) 130) (esCons (eAttr (eLoc 183) 131) (esCons (eAttr (eLoc 183) 65) esNil)))))))
  sNil)
noncomputable def F_Config_copy : FW := fun args σ Q => args.length = 1 ∧ W_Config_copy ([183].zip args) σ fun fl _ σ' => Q (retV fl) σ'
theorem s_Config_copy : SFc (ZZ u) 4 190 F_Config_copy := by
  refine s_def (W := W_Config_copy) d_Config_copy (by kernel_rfl) ?_
  refine ss_cons ?_ ?_
  refine ss_ret ?_
  refine se_new (s_Config_init.mono (by decide)) ?_ n_6 (by kernel_rfl) (g_Config _) (c_Config _)
  refine es_cons ?_ ?_ (fun _ => sE_Attribute)
  refine se_attr ?_ n_211 (fun _ => at_Name)
  refine se_loc n_183
  refine es_cons ?_ ?_ (fun _ => sE_Attribute)
  refine se_attr ?_ n_162 (fun _ => at_Name)
  refine se_loc n_183
  refine es_cons ?_ ?_ (fun _ => sE_Attribute)
  refine se_attr ?_ n_130 (fun _ => at_Name)
  refine se_loc n_183
  refine es_cons ?_ ?_ (fun _ => sE_Attribute)
  refine se_attr ?_ n_131 (fun _ => at_Name)
  refine se_loc n_183
  refine es_cons ?_ ?_ (fun _ => sE_Attribute)
  refine se_attr ?_ n_65 (fun _ => at_Name)
  refine se_loc n_183
  refine es_nil
  refine ss_nil
theorem d_Config_all_voters : DefOk (ZZ u) 204 [183] (stScope (methSt 41 4)) (stBody (methSt 41 4)) :=
  defOk (qual := "Config.all_voters") (pm := vs "raftkeep.quorum" 403) (code := 203) (by kernel_rfl) (by kernel_rfl) (len1 fun _ => by kernel_rfl) (by decide) (by decide +kernel) (by kernel_rfl) (by kernel_rfl) (by kernel_rfl)
noncomputable def W_Config_all_voters : SW := (sSeq (sRet (eCall F_rising (esCons (eCat (eAttr (eLoc 183) 211) (eAttr (eLoc 183) 162)) esNil)))
  sNil)
noncomputable def F_Config_all_voters : FW := fun args σ Q => args.length = 1 ∧ W_Config_all_voters ([183].zip args) σ fun fl _ σ' => Q (retV fl) σ'
theorem s_Config_all_voters : SFc (ZZ u) 2 204 F_Config_all_voters := by
  refine s_def (W := W_Config_all_voters) d_Config_all_voters (by kernel_rfl) ?_
  refine ss_cons ?_ ?_
  refine ss_ret ?_
  refine se_call (s_rising.mono (by decide)) ?_ n_180 (by kernel_rfl) (g_rising _) (k_rising _)
  refine es_cons ?_ ?_ (fun _ => sE_BinOp)
  refine se_cat ?_ ?_
  refine se_attr ?_ n_211 (fun _ => at_Name)
  refine se_loc n_183
  refine se_attr ?_ n_162 (fun _ => at_Name)
  refine se_loc n_183
  refine es_nil
  refine ss_nil
theorem d_Config_members : DefOk (ZZ u) 211 [183] (stScope (methSt 41 5)) (stBody (methSt 41 5)) :=
  defOk (qual := "Config.members") (pm := vs "raftkeep.quorum" 403) (code := 210) (by kernel_rfl) (by kernel_rfl) (len1 fun _ => by kernel_rfl) (by decide) (by decide +kernel) (by kernel_rfl) (by kernel_rfl) (by kernel_rfl)
noncomputable def W_Config_members : SW := (sSeq (sRet (eCall F_rising (esCons (eCat (eCat (eAttr (eLoc 183) 211) (eAttr (eLoc 183) 162)) (eAttr (eLoc 183) 130)) esNil)))
  sNil)
noncomputable def F_Config_members : FW := fun args σ Q => args.length = 1 ∧ W_Config_members ([183].zip args) σ fun fl _ σ' => Q (retV fl) σ'
theorem s_Config_members : SFc (ZZ u) 2 211 F_Config_members := by
  refine s_def (W := W_Config_members) d_Config_members (by kernel_rfl) ?_
  refine ss_cons ?_ ?_
  refine ss_ret ?_
  refine se_call (s_rising.mono (by decide)) ?_ n_180 (by kernel_rfl) (g_rising _) (k_rising _)
  refine es_cons ?_ ?_ (fun _ => sE_BinOp)
  refine se_cat ?_ ?_
  refine se_cat ?_ ?_
  refine se_attr ?_ n_211 (fun _ => at_Name)
  refine se_loc n_183
  refine se_attr ?_ n_162 (fun _ => at_Name)
  refine se_loc n_183
  refine se_attr ?_ n_130 (fun _ => at_Name)
  refine se_loc n_183
  refine es_nil
  refine ss_nil
theorem d_Config_vote : DefOk (ZZ u) 225 [183, 212] (stScope (methSt 41 7)) (stBody (methSt 41 7)) :=
  defOk (qual := "Config.vote") (pm := vs "raftkeep.quorum" 403) (code := 224) (by kernel_rfl) (by kernel_rfl) (len2 fun _ _ => by kernel_rfl) (by decide) (by decide +kernel) (by kernel_rfl) (by kernel_rfl) (by kernel_rfl)
noncomputable def W_Config_vote : SW := (sSeq (sRet (eCall F_joint_vote (esCons (eAttr (eLoc 183) 211) (esCons (eAttr (eLoc 183) 162) (esCons (eLoc 212) esNil)))))
  sNil)
noncomputable def F_Config_vote : FW := fun args σ Q => args.length = 2 ∧ W_Config_vote ([183, 212].zip args) σ fun fl _ σ' => Q (retV fl) σ'
theorem s_Config_vote : SFc (ZZ u) 3 225 F_Config_vote := by
  refine s_def (W := W_Config_vote) d_Config_vote (by kernel_rfl) ?_
  refine ss_cons ?_ ?_
  refine ss_ret ?_
  refine se_call (s_joint_vote.mono (by decide)) ?_ n_121 (by kernel_rfl) (g_joint_vote _) (k_joint_vote _)
  refine es_cons ?_ ?_ (fun _ => sE_Attribute)
  refine se_attr ?_ n_211 (fun _ => at_Name)
  refine se_loc n_183
  refine es_cons ?_ ?_ (fun _ => sE_Attribute)
  refine se_attr ?_ n_162 (fun _ => at_Name)
  refine se_loc n_183
  refine es_cons ?_ ?_ (fun _ => sE_Name)
  refine se_loc n_212
  refine es_nil
  refine ss_nil
theorem d_Ballots_init : DefOk (ZZ u) 260 [183] (stScope (methSt 45 0)) (stBody (methSt 45 0)) :=
  defOk (qual := "Ballots.__init__") (pm := vs "raftkeep.tracker" 553) (code := 259) (by kernel_rfl) (by kernel_rfl) (len1 fun _ => by kernel_rfl) (by decide) (by decide +kernel) (by kernel_rfl) (by kernel_rfl) (by kernel_rfl)
noncomputable def W_Ballots_init : SW := (sSeq (sSet (eNew 242 F_Config_init (esCons (eList esNil) (esCons (eList esNil) (esCons (eList esNil) (esCons (eList esNil) (esCons (eV (.bool false)) esNil)))))) (eLoc 183) 83)
  (sSeq (sSet eDict0 (eLoc 183) 212)
  sNil))
noncomputable def F_Ballots_init : FW := fun args σ Q => args.length = 1 ∧ W_Ballots_init ([183].zip args) σ fun fl _ σ' => Q (retV fl) σ'
theorem s_Ballots_init : SFc (ZZ u) 4 260 F_Ballots_init := by
  refine s_def (W := W_Ballots_init) d_Ballots_init (by kernel_rfl) ?_
  refine ss_cons ?_ ?_
  refine ss_set ?_ ?_ n_83 (fun _ => sw_Call)
  refine se_new (s_Config_init.mono (by decide)) ?_ n_6 (by kernel_rfl) (g_Config _) (c_Config _)
  refine es_cons ?_ ?_ (fun _ => sE_List)
  refine se_list ?_
  refine es_nil
  refine es_cons ?_ ?_ (fun _ => sE_List)
  refine se_list ?_
  refine es_nil
  refine es_cons ?_ ?_ (fun _ => sE_List)
  refine se_list ?_
  refine es_nil
  refine es_cons ?_ ?_ (fun _ => sE_List)
  refine se_list ?_
  refine es_nil
  refine es_cons ?_ ?_ (fun _ => sE_Constant)
  refine se_bool
  refine es_nil
  refine se_loc n_183
  refine ss_cons ?_ ?_
  refine ss_set ?_ ?_ n_212 (fun _ => sw_Dict)
  refine se_dict0
  refine se_loc n_183
  refine ss_nil
theorem d_Ballots_record_vote : DefOk (ZZ u) 267 [183, 152, 157] (stScope (methSt 45 1)) (stBody (methSt 45 1)) :=
  defOk (qual := "Ballots.record_vote") (pm := vs "raftkeep.tracker" 553) (code := 266) (by kernel_rfl) (by kernel_rfl) (len3 fun _ _ _ => by kernel_rfl) (by decide) (by decide +kernel) (by kernel_rfl) (by kernel_rfl) (by kernel_rfl)
noncomputable def W_Ballots_record_vote : SW := (sSeq (sIf (tIn true (eLoc 152) (eAttr (eLoc 183) 212)) (sSeq (sSetItem (eLoc 157) (eAttr (eLoc 183) 212) (eLoc 152))
  sNil) sNil)
  sNil)
noncomputable def F_Ballots_record_vote : FW := fun args σ Q => args.length = 3 ∧ W_Ballots_record_vote ([183, 152, 157].zip args) σ fun fl _ σ' => Q (retV fl) σ'
theorem s_Ballots_record_vote : SFc (ZZ u) 1 267 F_Ballots_record_vote := by
  refine s_def (W := W_Ballots_record_vote) d_Ballots_record_vote (by kernel_rfl) ?_
  refine ss_cons ?_ ?_
  refine ss_if ?_ ?_ ?_
  refine st_in (neg := true) rfl ?_ ?_ rfl
  refine se_loc n_152
  refine se_attr ?_ n_212 (fun _ => at_Name)
  refine se_loc n_183
  refine ss_cons ?_ ?_
  refine ss_setitem ?_ ?_ ?_ (fun _ => sw_Name)
  refine se_loc n_157
  refine se_attr ?_ n_212 (fun _ => at_Name)
  refine se_loc n_183
  refine se_loc n_152
  refine ss_nil
  refine ss_nil
  refine ss_nil
theorem d_Ballots_reset_votes : DefOk (ZZ u) 274 [183] (stScope (methSt 45 2)) (stBody (methSt 45 2)) :=
  defOk (qual := "Ballots.reset_votes") (pm := vs "raftkeep.tracker" 553) (code := 273) (by kernel_rfl) (by kernel_rfl) (len1 fun _ => by kernel_rfl) (by decide) (by decide +kernel) (by kernel_rfl) (by kernel_rfl) (by kernel_rfl)
noncomputable def W_Ballots_reset_votes : SW := (sSeq (sSet eDict0 (eLoc 183) 212)
  sNil)
noncomputable def F_Ballots_reset_votes : FW := fun args σ Q => args.length = 1 ∧ W_Ballots_reset_votes ([183].zip args) σ fun fl _ σ' => Q (retV fl) σ'
theorem s_Ballots_reset_votes : SFc (ZZ u) 1 274 F_Ballots_reset_votes := by
  refine s_def (W := W_Ballots_reset_votes) d_Ballots_reset_votes (by kernel_rfl) ?_
  refine ss_cons ?_ ?_
  refine ss_set ?_ ?_ n_212 (fun _ => sw_Dict)
  refine se_dict0
  refine se_loc n_183
  refine ss_nil
theorem d_Ballots_tally : DefOk (ZZ u) 281 [183] (stScope (methSt 45 3)) (stBody (methSt 45 3)) :=
  defOk (qual := "Ballots.tally") (pm := vs "raftkeep.tracker" 553) (code := 280) (by kernel_rfl) (by kernel_rfl) (len1 fun _ => by kernel_rfl) (by decide) (by decide +kernel) (by kernel_rfl) (by kernel_rfl) (by kernel_rfl)
noncomputable def W_Ballots_tally : SW := (sSeq (sAsg 104 (eV (.int 0)))
  (sSeq (sAsg 173 (eV (.int 0)))
  (sSeq (sFor 152 (eMeth 242 57 (eAttr (eLoc 183) 83) F_Config_all_voters esNil) (sSeq (sIf (tIn true (eLoc 152) (eAttr (eLoc 183) 212)) (sSeq sCont
  sNil) sNil)
  (sSeq (sIf (tVal (eIdx (eAttr (eLoc 183) 212) (eLoc 152))) (sSeq (sAugN 104 (eV (.int 1)))
  sNil) (sSeq (sAugN 173 (eV (.int 1)))
  sNil))
  sNil)))
  (sSeq (sRet (eTup (esCons (eLoc 104) (esCons (eLoc 173) (esCons (eMeth 242 209 (eAttr (eLoc 183) 83) F_Config_vote (esCons (eAttr (eLoc 183) 212) esNil)) esNil)))))
  sNil))))
noncomputable def F_Ballots_tally : FW := fun args σ Q => args.length = 1 ∧ W_Ballots_tally ([183].zip args) σ fun fl _ σ' => Q (retV fl) σ'
theorem s_Ballots_tally : SFc (ZZ u) 4 281 F_Ballots_tally := by
  refine s_def (W := W_Ballots_tally) d_Ballots_tally (by kernel_rfl) ?_
  refine ss_cons ?_ ?_
  refine ss_asg ?_ n_104 (lt (by decide)) (by kernel_rfl) (fun _ _ => sw_Constant)
  refine se_int
  refine ss_cons ?_ ?_
  refine ss_asg ?_ n_173 (lt (by decide)) (by kernel_rfl) (fun _ _ => sw_Constant)
  refine se_int
  refine ss_cons ?_ ?_
  refine ss_for ?_ ?_ n_152 (lt (by decide)) (by kernel_rfl) (fun _ _ => fo_Call)
  refine se_methG ?_ (s_Config_all_voters.mono (by decide)) ?_ n_57 (lt (by decide)) (m_Config_all_voters _) (fun _ _ => ab_Attribute) rfl
  refine se_attr ?_ n_83 (fun _ => at_Name)
  refine se_loc n_183
  refine es_nil
  refine ss_cons ?_ ?_
  refine ss_if ?_ ?_ ?_
  refine st_in (neg := true) rfl ?_ ?_ rfl
  refine se_loc n_152
  refine se_attr ?_ n_212 (fun _ => at_Name)
  refine se_loc n_183
  refine ss_cons ?_ ?_
  refine ss_cont
  refine ss_nil
  refine ss_nil
  refine ss_cons ?_ ?_
  refine ss_if ?_ ?_ ?_
  refine st_val ?_ (fun _ _ => tr_Subscript)
  refine se_idx ?_ ?_ (fun _ _ _ => su_Name)
  refine se_attr ?_ n_212 (fun _ => at_Name)
  refine se_loc n_183
  refine se_loc n_152
  refine ss_cons ?_ ?_
  refine ss_augN ?_ n_104 (lt (by decide)) (by kernel_rfl)
  refine se_int
  refine ss_nil
  refine ss_cons ?_ ?_
  refine ss_augN ?_ n_173 (lt (by decide)) (by kernel_rfl)
  refine se_int
  refine ss_nil
  refine ss_nil
  refine ss_cons ?_ ?_
  refine ss_ret ?_
  refine se_tup ?_
  refine es_cons ?_ ?_ (fun _ => sE_Name)
  refine se_loc n_104
  refine es_cons ?_ ?_ (fun _ => sE_Name)
  refine se_loc n_173
  refine es_cons ?_ ?_ (fun _ => sE_Call)
  refine se_methG ?_ (s_Config_vote.mono (by decide)) ?_ n_209 (lt (by decide)) (m_Config_vote _) (fun _ _ => ab_Attribute) rfl
  refine se_attr ?_ n_83 (fun _ => at_Name)
  refine se_loc n_183
  refine es_cons ?_ ?_ (fun _ => sE_Attribute)
  refine se_attr ?_ n_212 (fun _ => at_Name)
  refine se_loc n_183
  refine es_nil
  refine es_nil
  refine ss_nil
theorem d_RaftConfig_init : DefOk (ZZ u) 309 [183, 152, 91, 108, 198] (stScope (methSt 55 0)) (stBody (methSt 55 0)) :=
  defOk (qual := "RaftConfig.__init__") (pm := vs "raftkeep.core" 621) (code := 308) (by kernel_rfl) (by kernel_rfl) (len5 fun _ _ _ _ _ => by kernel_rfl) (by decide) (by decide +kernel) (by kernel_rfl) (by kernel_rfl) (by kernel_rfl)
noncomputable def W_RaftConfig_init : SW := (sSeq (sSet (eLoc 152) (eLoc 183) 152)
  (sSeq (sSet (eLoc 91) (eLoc 183) 91)
  (sSeq (sSet (eLoc 108) (eLoc 183) 108)
  (sSeq (sSet (eLoc 198) (eLoc 183) 198)
  (sSeq (sSet (eTup (esCons (eV (.int 0)) esNil)) (eLoc 183) 118)
  (sSeq (sSet (eV (.int 0)) (eLoc 183) 63)
  (sSeq (sSet (eBin .LShift (eV (.int 1)) (eV (.int 20))) (eLoc 183) 143)
  (sSeq (sSet (eBin .LShift (eV (.int 1)) (eV (.int 20))) (eLoc 183) 140)
  (sSeq (sSet (eV (.int 18446744073709551615)) (eLoc 183) 144)
  (sSeq (sSet (eV (.int 256)) (eLoc 183) 141)
  (sSeq (sSet (eV (.int 18446744073709551615)) (eLoc 183) 142)
  (sSeq (sSet (eV (.bool false)) (eLoc 183) 78)
  (sSeq (sSet (eV (.bool false)) (eLoc 183) 167)
  (sSeq (sSet (eV (.int 0)) (eLoc 183) 169)
  (sSeq (sSet (eV (.bool false)) (eLoc 183) 154)
  (sSeq (sSet (eV (.bool false)) (eLoc 183) 195)
  sNil))))))))))))))))
noncomputable def F_RaftConfig_init : FW := fun args σ Q => args.length = 5 ∧ W_RaftConfig_init ([183, 152, 91, 108, 198].zip args) σ fun fl _ σ' => Q (retV fl) σ'
theorem s_RaftConfig_init : SFc (ZZ u) 1 309 F_RaftConfig_init := by
  refine s_def (W := W_RaftConfig_init) d_RaftConfig_init (by kernel_rfl) ?_
  refine ss_cons ?_ ?_
  refine ss_set ?_ ?_ n_152 (fun _ => sw_Name)
  refine se_loc n_152
  refine se_loc n_183
  refine ss_cons ?_ ?_
  refine ss_set ?_ ?_ n_91 (fun _ => sw_Name)
  refine se_loc n_91
  refine se_loc n_183
  refine ss_cons ?_ ?_
  refine ss_set ?_ ?_ n_108 (fun _ => sw_Name)
  refine se_loc n_108
  refine se_loc n_183
  refine ss_cons ?_ ?_
  refine ss_set ?_ ?_ n_198 (fun _ => sw_Name)
  refine se_loc n_198
  refine se_loc n_183
  refine ss_cons ?_ ?_
  refine ss_set ?_ ?_ n_118 (fun _ => sw_Tuple)
  refine se_tup ?_
  refine es_cons ?_ ?_ (fun _ => sE_Constant)
  refine se_int
  refine es_nil
  refine se_loc n_183
  refine ss_cons ?_ ?_
  refine ss_set ?_ ?_ n_63 (fun _ => sw_Constant)
  refine se_int
  refine se_loc n_183
  refine ss_cons ?_ ?_
  refine ss_set ?_ ?_ n_143 (fun _ => sw_BinOp)
  refine se_bin ?_ ?_
  refine se_int
  refine se_int
  refine se_loc n_183
  refine ss_cons ?_ ?_
  refine ss_set ?_ ?_ n_140 (fun _ => sw_BinOp)
  refine se_bin ?_ ?_
  refine se_int
  refine se_int
  refine se_loc n_183
  refine ss_cons ?_ ?_
  refine ss_set ?_ ?_ n_144 (fun _ => sw_Name)
  refine se_gint n_35 (by kernel_rfl) (g_NO_LIMIT _)
  refine se_loc n_183
  refine ss_cons ?_ ?_
  refine ss_set ?_ ?_ n_141 (fun _ => sw_Constant)
  refine se_int
  refine se_loc n_183
  refine ss_cons ?_ ?_
  refine ss_set ?_ ?_ n_142 (fun _ => sw_Name)
  refine se_gint n_35 (by kernel_rfl) (g_NO_LIMIT _)
  refine se_loc n_183
  refine ss_cons ?_ ?_
  refine ss_set ?_ ?_ n_78 (fun _ => sw_Constant)
  refine se_bool
  refine se_loc n_183
  refine ss_cons ?_ ?_
  refine ss_set ?_ ?_ n_167 (fun _ => sw_Constant)
  refine se_bool
  refine se_loc n_183
  refine ss_cons ?_ ?_
  refine ss_set ?_ ?_ n_169 (fun _ => sw_Name)
  refine se_gint n_40 (by kernel_rfl) (g_SAFE _)
  refine se_loc n_183
  refine ss_cons ?_ ?_
  refine ss_set ?_ ?_ n_154 (fun _ => sw_Constant)
  refine se_bool
  refine se_loc n_183
  refine ss_cons ?_ ?_
  refine ss_set ?_ ?_ n_195 (fun _ => sw_Constant)
  refine se_bool
  refine se_loc n_183
  refine ss_nil
theorem d_RaftConfig_check_all : DefOk (ZZ u) 316 [183] (stScope (methSt 55 1)) (stBody (methSt 55 1)) :=
  defOk (qual := "RaftConfig.check_all") (pm := vs "raftkeep.core" 621) (code := 315) (by kernel_rfl) (by kernel_rfl) (len1 fun _ => by kernel_rfl) (by decide) (by decide +kernel) (by kernel_rfl) (by kernel_rfl) (by kernel_rfl)
noncomputable def W_RaftConfig_check_all : SW := (sSeq (sIf (tCmp .Eq (eAttr (eLoc 183) 152) (eV (.int 0))) sFls sNil)
  (sSeq (sIf (tCmp .Lt (eAttr (eLoc 183) 108) (eV (.int 1))) sFls sNil)
  (sSeq (sIf (tCmp .LtE (eAttr (eLoc 183) 91) (eAttr (eLoc 183) 108)) sFls sNil)
  (sSeq (sIf (tIsN false fun m σ Q => (eAttr (eLoc 183) 198) m σ fun v σ' => (∃ i, v = .int i) ∧ Q v σ') sFls sNil)
  (sSeq (sIf (tCmp .Eq (eLen (eAttr (eLoc 183) 118)) (eV (.int 0))) sFls sNil)
  (sSeq (sIf (tCmp .Lt (eAttr (eLoc 183) 141) (eV (.int 1))) sFls sNil)
  (sSeq (sIf (tCmp .Eq (eAttr (eLoc 183) 142) (eV (.int 0))) sFls sNil)
  (sSeq (sIf (tCmp .Eq (eAttr (eLoc 183) 144) (eV (.int 0))) sFls sNil)
  (sSeq (sIf (tCmp .Eq (eAttr (eLoc 183) 140) (eV (.int 0))) sFls sNil)
  (sSeq (sIf (tCmp .Lt (eAttr (eLoc 183) 142) (eAttr (eLoc 183) 143)) sFls sNil)
  (sSeq (sIf (tAnd [(tCmp .NotEq (eAttr (eLoc 183) 169) (eV (.int 0))), (tCmp .NotEq (eAttr (eLoc 183) 169) (eV (.int 1)))]) sFls sNil)
  (sSeq (sIf (tAnd [(tCmp .Eq (eAttr (eLoc 183) 169) (eV (.int 1))), (tNot (tVal (eAttr (eLoc 183) 78)))]) sFls sNil)
  sNil))))))))))))
noncomputable def F_RaftConfig_check_all : FW := fun args σ Q => args.length = 1 ∧ W_RaftConfig_check_all ([183].zip args) σ fun fl _ σ' => Q (retV fl) σ'
theorem s_RaftConfig_check_all : SFc (ZZ u) 1 316 F_RaftConfig_check_all := by
  refine s_def (W := W_RaftConfig_check_all) d_RaftConfig_check_all (by kernel_rfl) ?_
  refine ss_cons ?_ ?_
  refine ss_if ?_ ?_ ?_
  refine st_cmp ?_ ?_ rfl rfl
  refine se_attr ?_ n_152 (fun _ => at_Name)
  refine se_loc n_183
  refine se_gint n_34 (by kernel_rfl) (g_NONE _)
  refine ss_flss
  refine ss_nil
  refine ss_cons ?_ ?_
  refine ss_if ?_ ?_ ?_
  refine st_cmp ?_ ?_ rfl rfl
  refine se_attr ?_ n_108 (fun _ => at_Name)
  refine se_loc n_183
  refine se_int
  refine ss_flss
  refine ss_nil
  refine ss_cons ?_ ?_
  refine ss_if ?_ ?_ ?_
  refine st_cmp ?_ ?_ rfl rfl
  refine se_attr ?_ n_91 (fun _ => at_Name)
  refine se_loc n_183
  refine se_attr ?_ n_108 (fun _ => at_Name)
  refine se_loc n_183
  refine ss_flss
  refine ss_nil
  refine ss_cons ?_ ?_
  refine ss_if ?_ ?_ ?_
  refine st_isNone ?_
  refine se_attr ?_ n_198 (fun _ => at_Name)
  refine se_loc n_183
  refine ss_flss
  refine ss_nil
  refine ss_cons ?_ ?_
  refine ss_if ?_ ?_ ?_
  refine st_cmp ?_ ?_ rfl rfl
  refine se_len ⟨n_133, by kernel_rfl, g_len _, b_len, by decide⟩ ?_ (fun _ => sE_Attribute)
  refine se_attr ?_ n_118 (fun _ => at_Name)
  refine se_loc n_183
  refine se_int
  refine ss_flss
  refine ss_nil
  refine ss_cons ?_ ?_
  refine ss_if ?_ ?_ ?_
  refine st_cmp ?_ ?_ rfl rfl
  refine se_attr ?_ n_141 (fun _ => at_Name)
  refine se_loc n_183
  refine se_int
  refine ss_flss
  refine ss_nil
  refine ss_cons ?_ ?_
  refine ss_if ?_ ?_ ?_
  refine st_cmp ?_ ?_ rfl rfl
  refine se_attr ?_ n_142 (fun _ => at_Name)
  refine se_loc n_183
  refine se_int
  refine ss_flss
  refine ss_nil
  refine ss_cons ?_ ?_
  refine ss_if ?_ ?_ ?_
  refine st_cmp ?_ ?_ rfl rfl
  refine se_attr ?_ n_144 (fun _ => at_Name)
  refine se_loc n_183
  refine se_int
  refine ss_flss
  refine ss_nil
  refine ss_cons ?_ ?_
  refine ss_if ?_ ?_ ?_
  refine st_cmp ?_ ?_ rfl rfl
  refine se_attr ?_ n_140 (fun _ => at_Name)
  refine se_loc n_183
  refine se_int
  refine ss_flss
  refine ss_nil
  refine ss_cons ?_ ?_
  refine ss_if ?_ ?_ ?_
  refine st_cmp ?_ ?_ rfl rfl
  refine se_attr ?_ n_142 (fun _ => at_Name)
  refine se_loc n_183
  refine se_attr ?_ n_143 (fun _ => at_Name)
  refine se_loc n_183
  refine ss_flss
  refine ss_nil
  refine ss_cons ?_ ?_
  refine ss_if ?_ ?_ ?_
  refine st_and ?_
  refine .cons ?_ ?_
  refine st_cmp ?_ ?_ rfl rfl
  refine se_attr ?_ n_169 (fun _ => at_Name)
  refine se_loc n_183
  refine se_gint n_40 (by kernel_rfl) (g_SAFE _)
  refine .cons ?_ ?_
  refine st_cmp ?_ ?_ rfl rfl
  refine se_attr ?_ n_169 (fun _ => at_Name)
  refine se_loc n_183
  refine se_gint n_12 (by kernel_rfl) (g_LEASE _)
  refine .nil
  refine ss_flss
  refine ss_nil
  refine ss_cons ?_ ?_
  refine ss_if ?_ ?_ ?_
  refine st_and ?_
  refine .cons ?_ ?_
  refine st_cmp ?_ ?_ rfl rfl
  refine se_attr ?_ n_169 (fun _ => at_Name)
  refine se_loc n_183
  refine se_gint n_12 (by kernel_rfl) (g_LEASE _)
  refine .cons ?_ ?_
  refine st_not ?_
  refine st_val ?_ (fun _ _ => tr_Attribute)
  refine se_attr ?_ n_78 (fun _ => at_Name)
  refine se_loc n_183
  refine .nil
  refine ss_flss
  refine ss_nil
  refine ss_nil
theorem d_may_lack_term : DefOk (ZZ u) 330 [123] (stScope (topSt 56)) (stBody (topSt 56)) :=
  defOk (qual := "may_lack_term") (pm := vs "raftkeep.core" 621) (code := 329) (by kernel_rfl) (by kernel_rfl) (len1 fun _ => by kernel_rfl) (by decide) (by decide +kernel) (by kernel_rfl) (by kernel_rfl) (by kernel_rfl)
noncomputable def W_may_lack_term : SW := (sSeq (sIf (tVal (eCall F_is_local (esCons (eLoc 123) esNil))) (sSeq (sRet (eV (.bool true)))
  sNil) sNil)
  (sSeq (sRet (eIn false (eLoc 123) (eTup (esCons (eV (.int 2)) (esCons (eV (.int 15)) (esCons (eV (.int 13)) esNil))))))
  sNil))
noncomputable def F_may_lack_term : FW := fun args σ Q => args.length = 1 ∧ W_may_lack_term ([123].zip args) σ fun fl _ σ' => Q (retV fl) σ'
theorem s_may_lack_term : SFc (ZZ u) 2 330 F_may_lack_term := by
  refine s_def (W := W_may_lack_term) d_may_lack_term (by kernel_rfl) ?_
  refine ss_cons ?_ ?_
  refine ss_if ?_ ?_ ?_
  refine st_val ?_ (fun _ _ => tr_Call)
  refine se_call (s_is_local.mono (by decide)) ?_ n_116 (by kernel_rfl) (g_is_local _) (k_is_local _)
  refine es_cons ?_ ?_ (fun _ => sE_Name)
  refine se_loc n_123
  refine es_nil
  refine ss_cons ?_ ?_
  refine ss_ret ?_
  refine se_bool
  refine ss_nil
  refine ss_nil
  refine ss_cons ?_ ?_
  refine ss_ret ?_
  refine se_in (neg := false) rfl ?_ ?_ rfl
  refine se_loc n_123
  refine se_tup ?_
  refine es_cons ?_ ?_ (fun _ => sE_Name)
  refine se_gint n_23 (by kernel_rfl) (g_MSG_PROP _)
  refine es_cons ?_ ?_ (fun _ => sE_Name)
  refine se_gint n_24 (by kernel_rfl) (g_MSG_READ_INDEX _)
  refine es_cons ?_ ?_ (fun _ => sE_Name)
  refine se_gint n_28 (by kernel_rfl) (g_MSG_TRANSFER _)
  refine es_nil
  refine ss_nil
theorem d_Elector_furnish : DefOk (ZZ u) 351 [183] (stScope (methSt 57 1)) (stBody (methSt 57 1)) :=
  defOk (qual := "Elector.furnish") (pm := vs "raftkeep.core" 621) (code := 350) (by kernel_rfl) (by kernel_rfl) (len1 fun _ => by kernel_rfl) (by decide) (by decide +kernel) (by kernel_rfl) (by kernel_rfl) (by kernel_rfl)
noncomputable def W_Elector_furnish : SW := (sSeq (sSet (eNew 291 F_Ballots_init esNil) (eLoc 183) 206)
  sNil)
noncomputable def F_Elector_furnish : FW := fun args σ Q => args.length = 1 ∧ W_Elector_furnish ([183].zip args) σ fun fl _ σ' => Q (retV fl) σ'
theorem s_Elector_furnish : SFc (ZZ u) 6 351 F_Elector_furnish := by
  refine s_def (W := W_Elector_furnish) d_Elector_furnish (by kernel_rfl) ?_
  refine ss_cons ?_ ?_
  refine ss_set ?_ ?_ n_206 (fun _ => sw_Call)
  refine se_new (s_Ballots_init.mono (by decide)) ?_ n_1 (by kernel_rfl) (g_Ballots _) (c_Ballots _)
  refine es_nil
  refine se_loc n_183
  refine ss_nil
theorem d_Elector_begin : DefOk (ZZ u) 358 [183] (stScope (methSt 57 2)) (stBody (methSt 57 2)) :=
  defOk (qual := "Elector.begin") (pm := vs "raftkeep.core" 621) (code := 357) (by kernel_rfl) (by kernel_rfl) (len1 fun _ => by kernel_rfl) (by decide) (by decide +kernel) (by kernel_rfl) (by kernel_rfl) (by kernel_rfl)
noncomputable def W_Elector_begin : SW := (sSeq sPass
  sNil)
noncomputable def F_Elector_begin : FW := fun args σ Q => args.length = 1 ∧ W_Elector_begin ([183].zip args) σ fun fl _ σ' => Q (retV fl) σ'
theorem s_Elector_begin : SFc (ZZ u) 1 358 F_Elector_begin := by
  refine s_def (W := W_Elector_begin) d_Elector_begin (by kernel_rfl) ?_
  refine ss_cons ?_ ?_
  refine ss_pass
  refine ss_nil
theorem d_Elector_stand : DefOk (ZZ u) 365 [183, 200, 209, 147, 124] (stScope (methSt 57 3)) (stBody (methSt 57 3)) :=
  defOk (qual := "Elector.stand") (pm := vs "raftkeep.core" 621) (code := 364) (by kernel_rfl) (by kernel_rfl) (len5 fun _ _ _ _ _ => by kernel_rfl) (by decide) (by decide +kernel) (by kernel_rfl) (by kernel_rfl) (by kernel_rfl)
noncomputable def W_Elector_stand : SW := (sSeq (sSet (eLoc 200) (eLoc 183) 200)
  (sSeq (sSet (eLoc 209) (eLoc 183) 209)
  (sSeq (sSet (eMeth 242 85 (eLoc 147) F_Config_copy esNil) (eAttr (eLoc 183) 206) 83)
  (sSeq (sSet (eLoc 124) (eLoc 183) 124)
  sNil))))
noncomputable def F_Elector_stand : FW := fun args σ Q => args.length = 5 ∧ W_Elector_stand ([183, 200, 209, 147, 124].zip args) σ fun fl _ σ' => Q (retV fl) σ'
theorem s_Elector_stand : SFc (ZZ u) 5 365 F_Elector_stand := by
  refine s_def (W := W_Elector_stand) d_Elector_stand (by kernel_rfl) ?_
  refine ss_cons ?_ ?_
  refine ss_set ?_ ?_ n_200 (fun _ => sw_Name)
  refine se_loc n_200
  refine se_loc n_183
  refine ss_cons ?_ ?_
  refine ss_set ?_ ?_ n_209 (fun _ => sw_Name)
  refine se_loc n_209
  refine se_loc n_183
  refine ss_cons ?_ ?_
  refine ss_set ?_ ?_ n_83 (fun _ => sw_Call)
  refine se_methG ?_ (s_Config_copy.mono (by decide)) ?_ n_85 (lt (by decide)) (m_Config_copy _) (fun _ _ => ab_Name) rfl
  refine se_loc n_147
  refine es_nil
  refine se_attr ?_ n_206 (fun _ => at_Name)
  refine se_loc n_183
  refine ss_cons ?_ ?_
  refine ss_set ?_ ?_ n_124 (fun _ => sw_Name)
  refine se_loc n_124
  refine se_loc n_183
  refine ss_nil
theorem d_Elector_last_row : DefOk (ZZ u) 372 [183] (stScope (methSt 57 4)) (stBody (methSt 57 4)) :=
  defOk (qual := "Elector.last_row") (pm := vs "raftkeep.core" 621) (code := 371) (by kernel_rfl) (by kernel_rfl) (len1 fun _ => by kernel_rfl) (by decide) (by decide +kernel) (by kernel_rfl) (by kernel_rfl) (by kernel_rfl)
noncomputable def W_Elector_last_row : SW := (sSeq (sRet (eAttr (eLoc 183) 124))
  sNil)
noncomputable def F_Elector_last_row : FW := fun args σ Q => args.length = 1 ∧ W_Elector_last_row ([183].zip args) σ fun fl _ σ' => Q (retV fl) σ'
theorem s_Elector_last_row : SFc (ZZ u) 1 372 F_Elector_last_row := by
  refine s_def (W := W_Elector_last_row) d_Elector_last_row (by kernel_rfl) ?_
  refine ss_cons ?_ ?_
  refine ss_ret ?_
  refine se_attr ?_ n_124 (fun _ => at_Name)
  refine se_loc n_183
  refine ss_nil
theorem d_Elector_promotable : DefOk (ZZ u) 386 [183] (stScope (methSt 57 6)) (stBody (methSt 57 6)) :=
  defOk (qual := "Elector.promotable") (pm := vs "raftkeep.core" 621) (code := 385) (by kernel_rfl) (by kernel_rfl) (len1 fun _ => by kernel_rfl) (by decide) (by decide +kernel) (by kernel_rfl) (by kernel_rfl) (by kernel_rfl)
noncomputable def W_Elector_promotable : SW := (sSeq (sRet (eIn false (eAttr (eLoc 183) 152) (eMeth 242 57 (eAttr (eAttr (eLoc 183) 206) 83) F_Config_all_voters esNil)))
  sNil)
noncomputable def F_Elector_promotable : FW := fun args σ Q => args.length = 1 ∧ W_Elector_promotable ([183].zip args) σ fun fl _ σ' => Q (retV fl) σ'
theorem s_Elector_promotable : SFc (ZZ u) 3 386 F_Elector_promotable := by
  refine s_def (W := W_Elector_promotable) d_Elector_promotable (by kernel_rfl) ?_
  refine ss_cons ?_ ?_
  refine ss_ret ?_
  refine se_in (neg := false) rfl ?_ ?_ rfl
  refine se_attr ?_ n_152 (fun _ => at_Name)
  refine se_loc n_183
  refine se_methG ?_ (s_Config_all_voters.mono (by decide)) ?_ n_57 (lt (by decide)) (m_Config_all_voters _) (fun _ _ => ab_Attribute) rfl
  refine se_attr ?_ n_83 (fun _ => at_Attribute)
  refine se_attr ?_ n_206 (fun _ => at_Name)
  refine se_loc n_183
  refine es_nil
  refine ss_nil
theorem d_Elector_unapplied_conf : DefOk (ZZ u) 393 [183] (stScope (methSt 57 7)) (stBody (methSt 57 7)) :=
  defOk (qual := "Elector.unapplied_conf") (pm := vs "raftkeep.core" 621) (code := 392) (by kernel_rfl) (by kernel_rfl) (len1 fun _ => by kernel_rfl) (by decide) (by decide +kernel) (by kernel_rfl) (by kernel_rfl) (by kernel_rfl)
noncomputable def W_Elector_unapplied_conf : SW := (sSeq (sRet (eV (.bool false)))
  sNil)
noncomputable def F_Elector_unapplied_conf : FW := fun args σ Q => args.length = 1 ∧ W_Elector_unapplied_conf ([183].zip args) σ fun fl _ σ' => Q (retV fl) σ'
theorem s_Elector_unapplied_conf : SFc (ZZ u) 1 393 F_Elector_unapplied_conf := by
  refine s_def (W := W_Elector_unapplied_conf) d_Elector_unapplied_conf (by kernel_rfl) ?_
  refine ss_cons ?_ ?_
  refine ss_ret ?_
  refine se_bool
  refine ss_nil
theorem d_Elector_bcast_append : DefOk (ZZ u) 407 [183] (stScope (methSt 57 9)) (stBody (methSt 57 9)) :=
  defOk (qual := "Elector.bcast_append") (pm := vs "raftkeep.core" 621) (code := 406) (by kernel_rfl) (by kernel_rfl) (len1 fun _ => by kernel_rfl) (by decide) (by decide +kernel) (by kernel_rfl) (by kernel_rfl) (by kernel_rfl)
noncomputable def W_Elector_bcast_append : SW := (sSeq sPass
  sNil)
noncomputable def F_Elector_bcast_append : FW := fun args σ Q => args.length = 1 ∧ W_Elector_bcast_append ([183].zip args) σ fun fl _ σ' => Q (retV fl) σ'
theorem s_Elector_bcast_append : SFc (ZZ u) 1 407 F_Elector_bcast_append := by
  refine s_def (W := W_Elector_bcast_append) d_Elector_bcast_append (by kernel_rfl) ?_
  refine ss_cons ?_ ?_
  refine ss_pass
  refine ss_nil
theorem d_Elector_forget : DefOk (ZZ u) 414 [183] (stScope (methSt 57 10)) (stBody (methSt 57 10)) :=
  defOk (qual := "Elector.forget") (pm := vs "raftkeep.core" 621) (code := 413) (by kernel_rfl) (by kernel_rfl) (len1 fun _ => by kernel_rfl) (by decide) (by decide +kernel) (by kernel_rfl) (by kernel_rfl) (by kernel_rfl)
noncomputable def W_Elector_forget : SW := (sSeq sPass
  sNil)
noncomputable def F_Elector_forget : FW := fun args σ Q => args.length = 1 ∧ W_Elector_forget ([183].zip args) σ fun fl _ σ' => Q (retV fl) σ'
theorem s_Elector_forget : SFc (ZZ u) 1 414 F_Elector_forget := by
  refine s_def (W := W_Elector_forget) d_Elector_forget (by kernel_rfl) ?_
  refine ss_cons ?_ ?_
  refine ss_pass
  refine ss_nil
theorem d_Elector_lead : DefOk (ZZ u) 421 [183] (stScope (methSt 57 11)) (stBody (methSt 57 11)) :=
  defOk (qual := "Elector.lead") (pm := vs "raftkeep.core" 621) (code := 420) (by kernel_rfl) (by kernel_rfl) (len1 fun _ => by kernel_rfl) (by decide) (by decide +kernel) (by kernel_rfl) (by kernel_rfl) (by kernel_rfl)
noncomputable def W_Elector_lead : SW := (sSeq sPass
  sNil)
noncomputable def F_Elector_lead : FW := fun args σ Q => args.length = 1 ∧ W_Elector_lead ([183].zip args) σ fun fl _ σ' => Q (retV fl) σ'
theorem s_Elector_lead : SFc (ZZ u) 1 421 F_Elector_lead := by
  refine s_def (W := W_Elector_lead) d_Elector_lead (by kernel_rfl) ?_
  refine ss_cons ?_ ?_
  refine ss_pass
  refine ss_nil
theorem d_Elector_draw_timeout : DefOk (ZZ u) 470 [183] (stScope (methSt 57 18)) (stBody (methSt 57 18)) :=
  defOk (qual := "Elector.draw_timeout") (pm := vs "raftkeep.core" 621) (code := 469) (by kernel_rfl) (by kernel_rfl) (len1 fun _ => by kernel_rfl) (by decide) (by decide +kernel) (by kernel_rfl) (by kernel_rfl) (by kernel_rfl)
noncomputable def W_Elector_draw_timeout : SW := (sSeq (sAsg 95 (eBin .Mod (eIdx (eAttr (eLoc 183) 118) (eBin .Mod (eAttr (eLoc 183) 87) (eLen (eAttr (eLoc 183) 118)))) (eAttr (eLoc 183) 91)))
  (sSeq (sAugA (eLoc 183) 87 (eV (.int 1)))
  (sSeq (sSet (eBin .Add (eAttr (eLoc 183) 91) (eLoc 95)) (eLoc 183) 204)
  sNil)))
noncomputable def F_Elector_draw_timeout : FW := fun args σ Q => args.length = 1 ∧ W_Elector_draw_timeout ([183].zip args) σ fun fl _ σ' => Q (retV fl) σ'
theorem s_Elector_draw_timeout : SFc (ZZ u) 1 470 F_Elector_draw_timeout := by
  refine s_def (W := W_Elector_draw_timeout) d_Elector_draw_timeout (by kernel_rfl) ?_
  refine ss_cons ?_ ?_
  refine ss_asg ?_ n_95 (lt (by decide)) (by kernel_rfl) (fun _ _ => sw_BinOp)
  refine se_bin ?_ ?_
  refine se_idx ?_ ?_ (fun _ _ _ => su_BinOp)
  refine se_attr ?_ n_118 (fun _ => at_Name)
  refine se_loc n_183
  refine se_bin ?_ ?_
  refine se_attr ?_ n_87 (fun _ => at_Name)
  refine se_loc n_183
  refine se_len ⟨n_133, by kernel_rfl, g_len _, b_len, by decide⟩ ?_ (fun _ => sE_Attribute)
  refine se_attr ?_ n_118 (fun _ => at_Name)
  refine se_loc n_183
  refine se_attr ?_ n_91 (fun _ => at_Name)
  refine se_loc n_183
  refine ss_cons ?_ ?_
  refine ss_augA ?_ ?_ n_87
  refine se_loc n_183
  refine se_int
  refine ss_cons ?_ ?_
  refine ss_set ?_ ?_ n_204 (fun _ => sw_BinOp)
  refine se_bin ?_ ?_
  refine se_attr ?_ n_91 (fun _ => at_Name)
  refine se_loc n_183
  refine se_loc n_95
  refine se_loc n_183
  refine ss_nil
theorem d_Elector_reset : DefOk (ZZ u) 477 [183, 200] (stScope (methSt 57 19)) (stBody (methSt 57 19)) :=
  defOk (qual := "Elector.reset") (pm := vs "raftkeep.core" 621) (code := 476) (by kernel_rfl) (by kernel_rfl) (len2 fun _ _ => by kernel_rfl) (by decide) (by decide +kernel) (by kernel_rfl) (by kernel_rfl) (by kernel_rfl)
noncomputable def W_Elector_reset : SW := (sSeq (sIf (tCmp .NotEq (eAttr (eLoc 183) 200) (eLoc 200)) (sSeq (sSet (eLoc 200) (eLoc 183) 200)
  (sSeq (sSet (eV (.int 0)) (eLoc 183) 209)
  sNil)) sNil)
  (sSeq (sSet (eV (.int 0)) (eLoc 183) 129)
  (sSeq (sSet (eV (.int 0)) (eLoc 183) 90)
  (sSeq (sSet (eV (.int 0)) (eLoc 183) 107)
  (sSeq (sExp (eMeth 606 86 (eLoc 183) F_Elector_draw_timeout esNil))
  (sSeq (sExp (eMeth 291 176 (eAttr (eLoc 183) 206) F_Ballots_reset_votes esNil))
  (sSeq (sExp (eMeth 606 98 (eLoc 183) F_Elector_forget esNil))
  sNil)))))))
noncomputable def F_Elector_reset : FW := fun args σ Q => args.length = 2 ∧ W_Elector_reset ([183, 200].zip args) σ fun fl _ σ' => Q (retV fl) σ'
theorem s_Elector_reset : SFc (ZZ u) 2 477 F_Elector_reset := by
  refine s_def (W := W_Elector_reset) d_Elector_reset (by kernel_rfl) ?_
  refine ss_cons ?_ ?_
  refine ss_if ?_ ?_ ?_
  refine st_cmp ?_ ?_ rfl rfl
  refine se_attr ?_ n_200 (fun _ => at_Name)
  refine se_loc n_183
  refine se_loc n_200
  refine ss_cons ?_ ?_
  refine ss_set ?_ ?_ n_200 (fun _ => sw_Name)
  refine se_loc n_200
  refine se_loc n_183
  refine ss_cons ?_ ?_
  refine ss_set ?_ ?_ n_209 (fun _ => sw_Name)
  refine se_gint n_34 (by kernel_rfl) (g_NONE _)
  refine se_loc n_183
  refine ss_nil
  refine ss_nil
  refine ss_cons ?_ ?_
  refine ss_set ?_ ?_ n_129 (fun _ => sw_Name)
  refine se_gint n_34 (by kernel_rfl) (g_NONE _)
  refine se_loc n_183
  refine ss_cons ?_ ?_
  refine ss_set ?_ ?_ n_90 (fun _ => sw_Constant)
  refine se_int
  refine se_loc n_183
  refine ss_cons ?_ ?_
  refine ss_set ?_ ?_ n_107 (fun _ => sw_Constant)
  refine se_int
  refine se_loc n_183
  refine ss_cons ?_ ?_
  refine ss_exp ?_ (fun _ => sw_Call)
  refine se_methG ?_ (s_Elector_draw_timeout.mono (by decide)) ?_ n_86 (lt (by decide)) (m_Elector_draw_timeout _) (fun _ _ => ab_Name) rfl
  refine se_loc n_183
  refine es_nil
  refine ss_cons ?_ ?_
  refine ss_exp ?_ (fun _ => sw_Call)
  refine se_methG ?_ (s_Ballots_reset_votes.mono (by decide)) ?_ n_176 (lt (by decide)) (m_Ballots_reset_votes _) (fun _ _ => ab_Attribute) rfl
  refine se_attr ?_ n_206 (fun _ => at_Name)
  refine se_loc n_183
  refine es_nil
  refine ss_cons ?_ ?_
  refine ss_exp ?_ (fun _ => sw_Call)
  refine se_methG ?_ (s_Elector_forget.mono (by decide)) ?_ n_98 (lt (by decide)) (m_Elector_forget _) (fun _ _ => ab_Name) rfl
  refine se_loc n_183
  refine es_nil
  refine ss_nil
theorem d_Elector_become_follower : DefOk (ZZ u) 484 [183, 200, 129] (stScope (methSt 57 20)) (stBody (methSt 57 20)) :=
  defOk (qual := "Elector.become_follower") (pm := vs "raftkeep.core" 621) (code := 483) (by kernel_rfl) (by kernel_rfl) (len3 fun _ _ _ => by kernel_rfl) (by decide) (by decide +kernel) (by kernel_rfl) (by kernel_rfl) (by kernel_rfl)
noncomputable def W_Elector_become_follower : SW := (sSeq (sExp (eMeth 606 175 (eLoc 183) F_Elector_reset (esCons (eLoc 200) esNil)))
  (sSeq (sSet (eLoc 129) (eLoc 183) 129)
  (sSeq (sSet (eV (.int 0)) (eLoc 183) 192)
  sNil)))
noncomputable def F_Elector_become_follower : FW := fun args σ Q => args.length = 3 ∧ W_Elector_become_follower ([183, 200, 129].zip args) σ fun fl _ σ' => Q (retV fl) σ'
theorem s_Elector_become_follower : SFc (ZZ u) 3 484 F_Elector_become_follower := by
  refine s_def (W := W_Elector_become_follower) d_Elector_become_follower (by kernel_rfl) ?_
  refine ss_cons ?_ ?_
  refine ss_exp ?_ (fun _ => sw_Call)
  refine se_methG ?_ (s_Elector_reset.mono (by decide)) ?_ n_175 (lt (by decide)) (m_Elector_reset _) (fun _ _ => ab_Name) rfl
  refine se_loc n_183
  refine es_cons ?_ ?_ (fun _ => sE_Name)
  refine se_loc n_200
  refine es_nil
  refine ss_cons ?_ ?_
  refine ss_set ?_ ?_ n_129 (fun _ => sw_Name)
  refine se_loc n_129
  refine se_loc n_183
  refine ss_cons ?_ ?_
  refine ss_set ?_ ?_ n_192 (fun _ => sw_Name)
  refine se_gint n_9 (by kernel_rfl) (g_FOLLOWER _)
  refine se_loc n_183
  refine ss_nil
theorem d_Elector_init : DefOk (ZZ u) 344 [183, 83] (stScope (methSt 57 0)) (stBody (methSt 57 0)) :=
  defOk (qual := "Elector.__init__") (pm := vs "raftkeep.core" 621) (code := 343) (by kernel_rfl) (by kernel_rfl) (len2 fun _ _ => by kernel_rfl) (by decide) (by decide +kernel) (by kernel_rfl) (by kernel_rfl) (by kernel_rfl)
noncomputable def W_Elector_init : SW := (sSeq (sExp (eMeth 319 77 (eLoc 83) F_RaftConfig_check_all esNil))
  (sSeq (sSet (eLoc 83) (eLoc 183) 83)
  (sSeq (sSet (eAttr (eLoc 83) 152) (eLoc 183) 152)
  (sSeq (sSet (eAttr (eLoc 83) 91) (eLoc 183) 91)
  (sSeq (sSet (eAttr (eLoc 83) 108) (eLoc 183) 108)
  (sSeq (sSet (eAttr (eLoc 83) 118) (eLoc 183) 118)
  (sSeq (sSet (eAttr (eLoc 83) 78) (eLoc 183) 78)
  (sSeq (sSet (eAttr (eLoc 83) 167) (eLoc 183) 167)
  (sSeq (sSet (eV (.int 0)) (eLoc 183) 200)
  (sSeq (sSet (eV (.int 0)) (eLoc 183) 209)
  (sSeq (sSet (eV (.int 0)) (eLoc 183) 192)
  (sSeq (sSet (eV (.int 0)) (eLoc 183) 129)
  (sSeq (sSet (eList esNil) (eLoc 183) 148)
  (sSeq (sSet (eV (.int 0)) (eLoc 183) 90)
  (sSeq (sSet (eV (.int 0)) (eLoc 183) 107)
  (sSeq (sSet (eAttr (eLoc 83) 91) (eLoc 183) 204)
  (sSeq (sSet (eV (.int 0)) (eLoc 183) 87)
  (sSeq (sSet (eTup (esCons (eV (.int 0)) (esCons (eV (.int 0)) esNil))) (eLoc 183) 124)
  (sSeq (sExp (eMeth 606 101 (eLoc 183) F_Elector_furnish esNil))
  (sSeq (sExp (eMeth 606 72 (eLoc 183) F_Elector_begin esNil))
  (sSeq (sExp (eMeth 606 69 (eLoc 183) F_Elector_become_follower (esCons (eAttr (eLoc 183) 200) (esCons (eV (.int 0)) esNil))))
  sNil)))))))))))))))))))))
noncomputable def F_Elector_init : FW := fun args σ Q => args.length = 2 ∧ W_Elector_init ([183, 83].zip args) σ fun fl _ σ' => Q (retV fl) σ'
theorem s_Elector_init : SFc (ZZ u) 7 344 F_Elector_init := by
  refine s_def (W := W_Elector_init) d_Elector_init (by kernel_rfl) ?_
  refine ss_cons ?_ ?_
  refine ss_exp ?_ (fun _ => sw_Call)
  refine se_methG ?_ (s_RaftConfig_check_all.mono (by decide)) ?_ n_77 (lt (by decide)) (m_RaftConfig_check_all _) (fun _ _ => ab_Name) rfl
  refine se_loc n_83
  refine es_nil
  refine ss_cons ?_ ?_
  refine ss_set ?_ ?_ n_83 (fun _ => sw_Name)
  refine se_loc n_83
  refine se_loc n_183
  refine ss_cons ?_ ?_
  refine ss_set ?_ ?_ n_152 (fun _ => sw_Attribute)
  refine se_attr ?_ n_152 (fun _ => at_Name)
  refine se_loc n_83
  refine se_loc n_183
  refine ss_cons ?_ ?_
  refine ss_set ?_ ?_ n_91 (fun _ => sw_Attribute)
  refine se_attr ?_ n_91 (fun _ => at_Name)
  refine se_loc n_83
  refine se_loc n_183
  refine ss_cons ?_ ?_
  refine ss_set ?_ ?_ n_108 (fun _ => sw_Attribute)
  refine se_attr ?_ n_108 (fun _ => at_Name)
  refine se_loc n_83
  refine se_loc n_183
  refine ss_cons ?_ ?_
  refine ss_set ?_ ?_ n_118 (fun _ => sw_Attribute)
  refine se_attr ?_ n_118 (fun _ => at_Name)
  refine se_loc n_83
  refine se_loc n_183
  refine ss_cons ?_ ?_
  refine ss_set ?_ ?_ n_78 (fun _ => sw_Attribute)
  refine se_attr ?_ n_78 (fun _ => at_Name)
  refine se_loc n_83
  refine se_loc n_183
  refine ss_cons ?_ ?_
  refine ss_set ?_ ?_ n_167 (fun _ => sw_Attribute)
  refine se_attr ?_ n_167 (fun _ => at_Name)
  refine se_loc n_83
  refine se_loc n_183
  refine ss_cons ?_ ?_
  refine ss_set ?_ ?_ n_200 (fun _ => sw_Constant)
  refine se_int
  refine se_loc n_183
  refine ss_cons ?_ ?_
  refine ss_set ?_ ?_ n_209 (fun _ => sw_Name)
  refine se_gint n_34 (by kernel_rfl) (g_NONE _)
  refine se_loc n_183
  refine ss_cons ?_ ?_
  refine ss_set ?_ ?_ n_192 (fun _ => sw_Name)
  refine se_gint n_9 (by kernel_rfl) (g_FOLLOWER _)
  refine se_loc n_183
  refine ss_cons ?_ ?_
  refine ss_set ?_ ?_ n_129 (fun _ => sw_Name)
  refine se_gint n_34 (by kernel_rfl) (g_NONE _)
  refine se_loc n_183
  refine ss_cons ?_ ?_
  refine ss_set ?_ ?_ n_148 (fun _ => sw_List)
  refine se_list ?_
  refine es_nil
  refine se_loc n_183
  refine ss_cons ?_ ?_
  refine ss_set ?_ ?_ n_90 (fun _ => sw_Constant)
  refine se_int
  refine se_loc n_183
  refine ss_cons ?_ ?_
  refine ss_set ?_ ?_ n_107 (fun _ => sw_Constant)
  refine se_int
  refine se_loc n_183
  refine ss_cons ?_ ?_
  refine ss_set ?_ ?_ n_204 (fun _ => sw_Attribute)
  refine se_attr ?_ n_91 (fun _ => at_Name)
  refine se_loc n_83
  refine se_loc n_183
  refine ss_cons ?_ ?_
  refine ss_set ?_ ?_ n_87 (fun _ => sw_Constant)
  refine se_int
  refine se_loc n_183
  refine ss_cons ?_ ?_
  refine ss_set ?_ ?_ n_124 (fun _ => sw_Tuple)
  refine se_tup ?_
  refine es_cons ?_ ?_ (fun _ => sE_Constant)
  refine se_int
  refine es_cons ?_ ?_ (fun _ => sE_Constant)
  refine se_int
  refine es_nil
  refine se_loc n_183
  refine ss_cons ?_ ?_
  refine ss_exp ?_ (fun _ => sw_Call)
  refine se_methG ?_ (s_Elector_furnish.mono (by decide)) ?_ n_101 (lt (by decide)) (m_Elector_furnish _) (fun _ _ => ab_Name) rfl
  refine se_loc n_183
  refine es_nil
  refine ss_cons ?_ ?_
  refine ss_exp ?_ (fun _ => sw_Call)
  refine se_methG ?_ (s_Elector_begin.mono (by decide)) ?_ n_72 (lt (by decide)) (m_Elector_begin _) (fun _ _ => ab_Name) rfl
  refine se_loc n_183
  refine es_nil
  refine ss_cons ?_ ?_
  refine ss_exp ?_ (fun _ => sw_Call)
  refine se_methG ?_ (s_Elector_become_follower.mono (by decide)) ?_ n_69 (lt (by decide)) (m_Elector_become_follower _) (fun _ _ => ab_Name) rfl
  refine se_loc n_183
  refine es_cons ?_ ?_ (fun _ => sE_Attribute)
  refine se_attr ?_ n_200 (fun _ => at_Name)
  refine se_loc n_183
  refine es_cons ?_ ?_ (fun _ => sE_Name)
  refine se_gint n_34 (by kernel_rfl) (g_NONE _)
  refine es_nil
  refine ss_nil
theorem d_Elector_step_leader : DefOk (ZZ u) 428 [183, 135] (stScope (methSt 57 12)) (stBody (methSt 57 12)) :=
  defOk (qual := "Elector.step_leader") (pm := vs "raftkeep.core" 621) (code := 427) (by kernel_rfl) (by kernel_rfl) (len2 fun _ _ => by kernel_rfl) (by decide) (by decide +kernel) (by kernel_rfl) (by kernel_rfl) (by kernel_rfl)
noncomputable def W_Elector_step_leader : SW := (sSeq sPass
  sNil)
noncomputable def F_Elector_step_leader : FW := fun args σ Q => args.length = 2 ∧ W_Elector_step_leader ([183, 135].zip args) σ fun fl _ σ' => Q (retV fl) σ'
theorem s_Elector_step_leader : SFc (ZZ u) 1 428 F_Elector_step_leader := by
  refine s_def (W := W_Elector_step_leader) d_Elector_step_leader (by kernel_rfl) ?_
  refine ss_cons ?_ ?_
  refine ss_pass
  refine ss_nil
theorem d_Elector_send : DefOk (ZZ u) 463 [183, 135] (stScope (methSt 57 17)) (stBody (methSt 57 17)) :=
  defOk (qual := "Elector.send") (pm := vs "raftkeep.core" 621) (code := 462) (by kernel_rfl) (by kernel_rfl) (len2 fun _ _ => by kernel_rfl) (by decide) (by decide +kernel) (by kernel_rfl) (by kernel_rfl) (by kernel_rfl)
noncomputable def W_Elector_send : SW := (sSeq (sIf (tCmp .Eq (eAttr (eLoc 135) 99) (eV (.int 0))) (sSeq (sSet (eAttr (eLoc 183) 152) (eLoc 135) 99)
  sNil) sNil)
  (sSeq (sIf (tIn false (eAttr (eLoc 135) 123) (eTup (esCons (eV (.int 5)) (esCons (eV (.int 6)) (esCons (eV (.int 17)) (esCons (eV (.int 18)) esNil)))))) (sSeq (sIf (tCmp .Eq (eAttr (eLoc 135) 200) (eV (.int 0))) sFls sNil)
  sNil) (sSeq (sIf (tCmp .NotEq (eAttr (eLoc 135) 200) (eV (.int 0))) sFls sNil)
  (sSeq (sIf (tAnd [(tCmp .NotEq (eAttr (eLoc 135) 123) (eV (.int 2))), (tCmp .NotEq (eAttr (eLoc 135) 123) (eV (.int 15)))]) (sSeq (sSet (eAttr (eLoc 183) 200) (eLoc 135) 200)
  sNil) sNil)
  sNil)))
  (sSeq (sExp (sApp (eAttr (eLoc 183) 148) (eLoc 135)))
  sNil)))
noncomputable def F_Elector_send : FW := fun args σ Q => args.length = 2 ∧ W_Elector_send ([183, 135].zip args) σ fun fl _ σ' => Q (retV fl) σ'
theorem s_Elector_send : SFc (ZZ u) 1 463 F_Elector_send := by
  refine s_def (W := W_Elector_send) d_Elector_send (by kernel_rfl) ?_
  refine ss_cons ?_ ?_
  refine ss_if ?_ ?_ ?_
  refine st_cmp ?_ ?_ rfl rfl
  refine se_attr ?_ n_99 (fun _ => at_Name)
  refine se_loc n_135
  refine se_gint n_34 (by kernel_rfl) (g_NONE _)
  refine ss_cons ?_ ?_
  refine ss_set ?_ ?_ n_99 (fun _ => sw_Attribute)
  refine se_attr ?_ n_152 (fun _ => at_Name)
  refine se_loc n_183
  refine se_loc n_135
  refine ss_nil
  refine ss_nil
  refine ss_cons ?_ ?_
  refine ss_if ?_ ?_ ?_
  refine st_in (neg := false) rfl ?_ ?_ rfl
  refine se_attr ?_ n_123 (fun _ => at_Name)
  refine se_loc n_135
  refine se_tup ?_
  refine es_cons ?_ ?_ (fun _ => sE_Name)
  refine se_gint n_30 (by kernel_rfl) (g_MSG_VOTE _)
  refine es_cons ?_ ?_ (fun _ => sE_Name)
  refine se_gint n_31 (by kernel_rfl) (g_MSG_VOTE_RESP _)
  refine es_cons ?_ ?_ (fun _ => sE_Name)
  refine se_gint n_21 (by kernel_rfl) (g_MSG_PRE_VOTE _)
  refine es_cons ?_ ?_ (fun _ => sE_Name)
  refine se_gint n_22 (by kernel_rfl) (g_MSG_PRE_VOTE_RESP _)
  refine es_nil
  refine ss_cons ?_ ?_
  refine ss_if ?_ ?_ ?_
  refine st_cmp ?_ ?_ rfl rfl
  refine se_attr ?_ n_200 (fun _ => at_Name)
  refine se_loc n_135
  refine se_int
  refine ss_flss
  refine ss_nil
  refine ss_nil
  refine ss_cons ?_ ?_
  refine ss_if ?_ ?_ ?_
  refine st_cmp ?_ ?_ rfl rfl
  refine se_attr ?_ n_200 (fun _ => at_Name)
  refine se_loc n_135
  refine se_int
  refine ss_flss
  refine ss_nil
  refine ss_cons ?_ ?_
  refine ss_if ?_ ?_ ?_
  refine st_and ?_
  refine .cons ?_ ?_
  refine st_cmp ?_ ?_ rfl rfl
  refine se_attr ?_ n_123 (fun _ => at_Name)
  refine se_loc n_135
  refine se_gint n_23 (by kernel_rfl) (g_MSG_PROP _)
  refine .cons ?_ ?_
  refine st_cmp ?_ ?_ rfl rfl
  refine se_attr ?_ n_123 (fun _ => at_Name)
  refine se_loc n_135
  refine se_gint n_24 (by kernel_rfl) (g_MSG_READ_INDEX _)
  refine .nil
  refine ss_cons ?_ ?_
  refine ss_set ?_ ?_ n_200 (fun _ => sw_Attribute)
  refine se_attr ?_ n_200 (fun _ => at_Name)
  refine se_loc n_183
  refine se_loc n_135
  refine ss_nil
  refine ss_nil
  refine ss_nil
  refine ss_cons ?_ ?_
  refine ss_exp ?_ (fun _ => sw_Call)
  refine se_appendG rfl ?_ ?_ (fun _ => sE_Name) (fun _ _ => ab_Attribute) rfl
  refine se_attr ?_ n_148 (fun _ => at_Name)
  refine se_loc n_183
  refine se_loc n_135
  refine ss_nil
theorem d_Elector_become_candidate : DefOk (ZZ u) 491 [183] (stScope (methSt 57 21)) (stBody (methSt 57 21)) :=
  defOk (qual := "Elector.become_candidate") (pm := vs "raftkeep.core" 621) (code := 490) (by kernel_rfl) (by kernel_rfl) (len1 fun _ => by kernel_rfl) (by decide) (by decide +kernel) (by kernel_rfl) (by kernel_rfl) (by kernel_rfl)
noncomputable def W_Elector_become_candidate : SW := (sSeq (sIf (tCmp .Eq (eAttr (eLoc 183) 192) (eV (.int 2))) sFls sNil)
  (sSeq (sExp (eMeth 606 175 (eLoc 183) F_Elector_reset (esCons (eBin .Add (eAttr (eLoc 183) 200) (eV (.int 1))) esNil)))
  (sSeq (sSet (eAttr (eLoc 183) 152) (eLoc 183) 209)
  (sSeq (sSet (eV (.int 1)) (eLoc 183) 192)
  sNil))))
noncomputable def F_Elector_become_candidate : FW := fun args σ Q => args.length = 1 ∧ W_Elector_become_candidate ([183].zip args) σ fun fl _ σ' => Q (retV fl) σ'
theorem s_Elector_become_candidate : SFc (ZZ u) 3 491 F_Elector_become_candidate := by
  refine s_def (W := W_Elector_become_candidate) d_Elector_become_candidate (by kernel_rfl) ?_
  refine ss_cons ?_ ?_
  refine ss_if ?_ ?_ ?_
  refine st_cmp ?_ ?_ rfl rfl
  refine se_attr ?_ n_192 (fun _ => at_Name)
  refine se_loc n_183
  refine se_gint n_11 (by kernel_rfl) (g_LEADER _)
  refine ss_flss
  refine ss_nil
  refine ss_cons ?_ ?_
  refine ss_exp ?_ (fun _ => sw_Call)
  refine se_methG ?_ (s_Elector_reset.mono (by decide)) ?_ n_175 (lt (by decide)) (m_Elector_reset _) (fun _ _ => ab_Name) rfl
  refine se_loc n_183
  refine es_cons ?_ ?_ (fun _ => sE_BinOp)
  refine se_bin ?_ ?_
  refine se_attr ?_ n_200 (fun _ => at_Name)
  refine se_loc n_183
  refine se_int
  refine es_nil
  refine ss_cons ?_ ?_
  refine ss_set ?_ ?_ n_209 (fun _ => sw_Attribute)
  refine se_attr ?_ n_152 (fun _ => at_Name)
  refine se_loc n_183
  refine se_loc n_183
  refine ss_cons ?_ ?_
  refine ss_set ?_ ?_ n_192 (fun _ => sw_Name)
  refine se_gint n_5 (by kernel_rfl) (g_CANDIDATE _)
  refine se_loc n_183
  refine ss_nil
theorem d_Elector_become_pre_candidate : DefOk (ZZ u) 498 [183] (stScope (methSt 57 22)) (stBody (methSt 57 22)) :=
  defOk (qual := "Elector.become_pre_candidate") (pm := vs "raftkeep.core" 621) (code := 497) (by kernel_rfl) (by kernel_rfl) (len1 fun _ => by kernel_rfl) (by decide) (by decide +kernel) (by kernel_rfl) (by kernel_rfl) (by kernel_rfl)
noncomputable def W_Elector_become_pre_candidate : SW := (sSeq (sIf (tCmp .Eq (eAttr (eLoc 183) 192) (eV (.int 2))) sFls sNil)
  (sSeq (sExp (eMeth 291 176 (eAttr (eLoc 183) 206) F_Ballots_reset_votes esNil))
  (sSeq (sSet (eV (.int 0)) (eLoc 183) 129)
  (sSeq (sSet (eV (.int 3)) (eLoc 183) 192)
  sNil))))
noncomputable def F_Elector_become_pre_candidate : FW := fun args σ Q => args.length = 1 ∧ W_Elector_become_pre_candidate ([183].zip args) σ fun fl _ σ' => Q (retV fl) σ'
theorem s_Elector_become_pre_candidate : SFc (ZZ u) 2 498 F_Elector_become_pre_candidate := by
  refine s_def (W := W_Elector_become_pre_candidate) d_Elector_become_pre_candidate (by kernel_rfl) ?_
  refine ss_cons ?_ ?_
  refine ss_if ?_ ?_ ?_
  refine st_cmp ?_ ?_ rfl rfl
  refine se_attr ?_ n_192 (fun _ => at_Name)
  refine se_loc n_183
  refine se_gint n_11 (by kernel_rfl) (g_LEADER _)
  refine ss_flss
  refine ss_nil
  refine ss_cons ?_ ?_
  refine ss_exp ?_ (fun _ => sw_Call)
  refine se_methG ?_ (s_Ballots_reset_votes.mono (by decide)) ?_ n_176 (lt (by decide)) (m_Ballots_reset_votes _) (fun _ _ => ab_Attribute) rfl
  refine se_attr ?_ n_206 (fun _ => at_Name)
  refine se_loc n_183
  refine es_nil
  refine ss_cons ?_ ?_
  refine ss_set ?_ ?_ n_129 (fun _ => sw_Name)
  refine se_gint n_34 (by kernel_rfl) (g_NONE _)
  refine se_loc n_183
  refine ss_cons ?_ ?_
  refine ss_set ?_ ?_ n_192 (fun _ => sw_Name)
  refine se_gint n_36 (by kernel_rfl) (g_PRE_CANDIDATE _)
  refine se_loc n_183
  refine ss_nil
theorem d_Elector_become_leader : DefOk (ZZ u) 505 [183] (stScope (methSt 57 23)) (stBody (methSt 57 23)) :=
  defOk (qual := "Elector.become_leader") (pm := vs "raftkeep.core" 621) (code := 504) (by kernel_rfl) (by kernel_rfl) (len1 fun _ => by kernel_rfl) (by decide) (by decide +kernel) (by kernel_rfl) (by kernel_rfl) (by kernel_rfl)
noncomputable def W_Elector_become_leader : SW := (sSeq (sIf (tCmp .Eq (eAttr (eLoc 183) 192) (eV (.int 0))) sFls sNil)
  (sSeq (sIf (tIn true (eAttr (eLoc 183) 152) (eMeth 242 147 (eAttr (eAttr (eLoc 183) 206) 83) F_Config_members esNil)) sFls sNil)
  (sSeq (sExp (eMeth 606 175 (eLoc 183) F_Elector_reset (esCons (eAttr (eLoc 183) 200) esNil)))
  (sSeq (sSet (eAttr (eLoc 183) 152) (eLoc 183) 129)
  (sSeq (sSet (eV (.int 2)) (eLoc 183) 192)
  (sSeq (sExp (eMeth 606 128 (eLoc 183) F_Elector_lead esNil))
  sNil))))))
noncomputable def F_Elector_become_leader : FW := fun args σ Q => args.length = 1 ∧ W_Elector_become_leader ([183].zip args) σ fun fl _ σ' => Q (retV fl) σ'
theorem s_Elector_become_leader : SFc (ZZ u) 3 505 F_Elector_become_leader := by
  refine s_def (W := W_Elector_become_leader) d_Elector_become_leader (by kernel_rfl) ?_
  refine ss_cons ?_ ?_
  refine ss_if ?_ ?_ ?_
  refine st_cmp ?_ ?_ rfl rfl
  refine se_attr ?_ n_192 (fun _ => at_Name)
  refine se_loc n_183
  refine se_gint n_9 (by kernel_rfl) (g_FOLLOWER _)
  refine ss_flss
  refine ss_nil
  refine ss_cons ?_ ?_
  refine ss_if ?_ ?_ ?_
  refine st_in (neg := true) rfl ?_ ?_ rfl
  refine se_attr ?_ n_152 (fun _ => at_Name)
  refine se_loc n_183
  refine se_methG ?_ (s_Config_members.mono (by decide)) ?_ n_147 (lt (by decide)) (m_Config_members _) (fun _ _ => ab_Attribute) rfl
  refine se_attr ?_ n_83 (fun _ => at_Attribute)
  refine se_attr ?_ n_206 (fun _ => at_Name)
  refine se_loc n_183
  refine es_nil
  refine ss_flss
  refine ss_nil
  refine ss_cons ?_ ?_
  refine ss_exp ?_ (fun _ => sw_Call)
  refine se_methG ?_ (s_Elector_reset.mono (by decide)) ?_ n_175 (lt (by decide)) (m_Elector_reset _) (fun _ _ => ab_Name) rfl
  refine se_loc n_183
  refine es_cons ?_ ?_ (fun _ => sE_Attribute)
  refine se_attr ?_ n_200 (fun _ => at_Name)
  refine se_loc n_183
  refine es_nil
  refine ss_cons ?_ ?_
  refine ss_set ?_ ?_ n_129 (fun _ => sw_Attribute)
  refine se_attr ?_ n_152 (fun _ => at_Name)
  refine se_loc n_183
  refine se_loc n_183
  refine ss_cons ?_ ?_
  refine ss_set ?_ ?_ n_192 (fun _ => sw_Name)
  refine se_gint n_11 (by kernel_rfl) (g_LEADER _)
  refine se_loc n_183
  refine ss_cons ?_ ?_
  refine ss_exp ?_ (fun _ => sw_Call)
  refine se_methG ?_ (s_Elector_lead.mono (by decide)) ?_ n_128 (lt (by decide)) (m_Elector_lead _) (fun _ _ => ab_Name) rfl
  refine se_loc n_183
  refine es_nil
  refine ss_nil
theorem d_Elector_poll : DefOk (ZZ u) 589 [183, 152, 123, 157] (stScope (methSt 57 35)) (stBody (methSt 57 35)) :=
  defOk (qual := "Elector.poll") (pm := vs "raftkeep.core" 621) (code := 588) (by kernel_rfl) (by kernel_rfl) (len4 fun _ _ _ _ => by kernel_rfl) (by decide) (by decide +kernel) (by kernel_rfl) (by kernel_rfl) (by kernel_rfl)
noncomputable def W_Elector_poll : SW := (sSeq (sIf (tAnd [(tCmp .Eq (eLoc 123) (eV (.int 17))), (tCmp .NotEq (eAttr (eLoc 183) 192) (eV (.int 3)))]) sFls sNil)
  (sSeq (sIf (tAnd [(tCmp .Eq (eLoc 123) (eV (.int 5))), (tCmp .NotEq (eAttr (eLoc 183) 192) (eV (.int 1)))]) sFls sNil)
  (sSeq (sExp (eMeth 291 170 (eAttr (eLoc 183) 206) F_Ballots_record_vote (esCons (eLoc 152) (esCons (eLoc 157) esNil))))
  (sSeq (sRet (eIdx (eMeth 291 199 (eAttr (eLoc 183) 206) F_Ballots_tally esNil) (eV (.int 2))))
  sNil))))
noncomputable def F_Elector_poll : FW := fun args σ Q => args.length = 4 ∧ W_Elector_poll ([183, 152, 123, 157].zip args) σ fun fl _ σ' => Q (retV fl) σ'
theorem s_Elector_poll : SFc (ZZ u) 5 589 F_Elector_poll := by
  refine s_def (W := W_Elector_poll) d_Elector_poll (by kernel_rfl) ?_
  refine ss_cons ?_ ?_
  refine ss_if ?_ ?_ ?_
  refine st_and ?_
  refine .cons ?_ ?_
  refine st_cmp ?_ ?_ rfl rfl
  refine se_loc n_123
  refine se_gint n_21 (by kernel_rfl) (g_MSG_PRE_VOTE _)
  refine .cons ?_ ?_
  refine st_cmp ?_ ?_ rfl rfl
  refine se_attr ?_ n_192 (fun _ => at_Name)
  refine se_loc n_183
  refine se_gint n_36 (by kernel_rfl) (g_PRE_CANDIDATE _)
  refine .nil
  refine ss_flss
  refine ss_nil
  refine ss_cons ?_ ?_
  refine ss_if ?_ ?_ ?_
  refine st_and ?_
  refine .cons ?_ ?_
  refine st_cmp ?_ ?_ rfl rfl
  refine se_loc n_123
  refine se_gint n_30 (by kernel_rfl) (g_MSG_VOTE _)
  refine .cons ?_ ?_
  refine st_cmp ?_ ?_ rfl rfl
  refine se_attr ?_ n_192 (fun _ => at_Name)
  refine se_loc n_183
  refine se_gint n_5 (by kernel_rfl) (g_CANDIDATE _)
  refine .nil
  refine ss_flss
  refine ss_nil
  refine ss_cons ?_ ?_
  refine ss_exp ?_ (fun _ => sw_Call)
  refine se_methG ?_ (s_Ballots_record_vote.mono (by decide)) ?_ n_170 (lt (by decide)) (m_Ballots_record_vote _) (fun _ _ => ab_Attribute) rfl
  refine se_attr ?_ n_206 (fun _ => at_Name)
  refine se_loc n_183
  refine es_cons ?_ ?_ (fun _ => sE_Name)
  refine se_loc n_152
  refine es_cons ?_ ?_ (fun _ => sE_Name)
  refine se_loc n_157
  refine es_nil
  refine ss_cons ?_ ?_
  refine ss_ret ?_
  refine se_idx ?_ ?_ (fun _ _ _ => su_Constant)
  refine se_methG ?_ (s_Ballots_tally.mono (by decide)) ?_ n_199 (lt (by decide)) (m_Ballots_tally _) (fun _ _ => ab_Attribute) rfl
  refine se_attr ?_ n_206 (fun _ => at_Name)
  refine se_loc n_183
  refine es_nil
  refine se_int
  refine ss_nil
theorem d_Elector_won : DefOk (ZZ u) 596 [183] (stScope (methSt 57 36)) (stBody (methSt 57 36)) :=
  defOk (qual := "Elector.won") (pm := vs "raftkeep.core" 621) (code := 595) (by kernel_rfl) (by kernel_rfl) (len1 fun _ => by kernel_rfl) (by decide) (by decide +kernel) (by kernel_rfl) (by kernel_rfl) (by kernel_rfl)
noncomputable def W_Elector_won0 : SW := (sSeq (sIf (tCmp .Eq (eAttr (eLoc 183) 192) (eV (.int 3))) (sSeq (sExp (eMeth 606 74 (eLoc 183) (fun _ _ _ => False) (esCons (eV (.int 2)) esNil)))
  (sSeq sRet0
  sNil)) sNil)
  (sSeq (sExp (eMeth 606 70 (eLoc 183) F_Elector_become_leader esNil))
  (sSeq (sExp (eMeth 606 67 (eLoc 183) F_Elector_bcast_append esNil))
  sNil)))
noncomputable def F_Elector_won0 : FW := fun args σ Q => args.length = 1 ∧ W_Elector_won0 ([183].zip args) σ fun fl _ σ' => Q (retV fl) σ'
theorem s_Elector_won0 : SFc (ZZ u) 4 596 F_Elector_won0 := by
  refine s_def (W := W_Elector_won0) d_Elector_won (by kernel_rfl) ?_
  refine ss_cons ?_ ?_
  refine ss_if ?_ ?_ ?_
  refine st_cmp ?_ ?_ rfl rfl
  refine se_attr ?_ n_192 (fun _ => at_Name)
  refine se_loc n_183
  refine se_gint n_36 (by kernel_rfl) (g_PRE_CANDIDATE _)
  refine ss_cons ?_ ?_
  refine ss_exp ?_ (fun _ => sw_Call)
  refine se_methG ?_ ((f_none (n := 0)).mono (by decide)) ?_ n_74 (lt (by decide)) (m_Elector_campaign _) (fun _ _ => ab_Name) rfl
  refine se_loc n_183
  refine es_cons ?_ ?_ (fun _ => sE_Name)
  refine se_gint n_2 (by kernel_rfl) (g_CAMP_ELECTION _)
  refine es_nil
  refine ss_cons ?_ ?_
  refine ss_ret0
  refine ss_nil
  refine ss_nil
  refine ss_cons ?_ ?_
  refine ss_exp ?_ (fun _ => sw_Call)
  refine se_methG ?_ (s_Elector_become_leader.mono (by decide)) ?_ n_70 (lt (by decide)) (m_Elector_become_leader _) (fun _ _ => ab_Name) rfl
  refine se_loc n_183
  refine es_nil
  refine ss_cons ?_ ?_
  refine ss_exp ?_ (fun _ => sw_Call)
  refine se_methG ?_ (s_Elector_bcast_append.mono (by decide)) ?_ n_67 (lt (by decide)) (m_Elector_bcast_append _) (fun _ _ => ab_Name) rfl
  refine se_loc n_183
  refine es_nil
  refine ss_nil
theorem d_Elector_campaign : DefOk (ZZ u) 582 [183, 123] (stScope (methSt 57 34)) (stBody (methSt 57 34)) :=
  defOk (qual := "Elector.campaign") (pm := vs "raftkeep.core" 621) (code := 581) (by kernel_rfl) (by kernel_rfl) (len2 fun _ _ => by kernel_rfl) (by decide) (by decide +kernel) (by kernel_rfl) (by kernel_rfl) (by kernel_rfl)
noncomputable def W_Elector_campaign1 : SW := (sSeq (sIf (tCmp .Eq (eLoc 123) (eV (.int 1))) (sSeq (sExp (eMeth 606 71 (eLoc 183) F_Elector_become_pre_candidate esNil))
  (sSeq (sAsg 64 (eV (.int 17)))
  (sSeq (sAsg 200 (eBin .Add (eAttr (eLoc 183) 200) (eV (.int 1))))
  sNil))) (sSeq (sExp (eMeth 606 68 (eLoc 183) F_Elector_become_candidate esNil))
  (sSeq (sAsg 64 (eV (.int 5)))
  (sSeq (sAsg 200 (eAttr (eLoc 183) 200))
  sNil))))
  (sSeq (sIf (tCmp .Eq (eMeth 606 165 (eLoc 183) F_Elector_poll (esCons (eAttr (eLoc 183) 152) (esCons (eLoc 64) (esCons (eV (.bool true)) esNil)))) (eV (.int 3))) (sSeq (sExp (eMeth 606 217 (eLoc 183) F_Elector_won0 esNil))
  (sSeq sRet0
  sNil)) sNil)
  (sSeq (sUnp2 124 126 (eMeth 606 125 (eLoc 183) F_Elector_last_row esNil))
  (sSeq (sFor 146 (eMeth 242 57 (eAttr (eAttr (eLoc 183) 206) 83) F_Config_all_voters esNil) (sSeq (sIf (tCmp .Eq (eLoc 146) (eAttr (eLoc 183) 152)) (sSeq sCont
  sNil) sNil)
  (sSeq (sAsg 174 (eNew 132 F_Message_init (esCons (eLoc 64) (esCons (eLoc 146) (esCons (eAttr (eLoc 183) 152) (esCons (eLoc 200) esNil))))))
  (sSeq (sSet (eLoc 124) (eLoc 174) 115)
  (sSeq (sSet (eLoc 126) (eLoc 174) 134)
  (sSeq (sIf (tCmp .Eq (eLoc 123) (eV (.int 3))) (sSeq (sSet (eV (.bytes true)) (eLoc 174) 84)
  sNil) sNil)
  (sSeq (sExp (eMeth 606 184 (eLoc 183) F_Elector_send (esCons (eLoc 174) esNil)))
  sNil)))))))
  sNil))))
noncomputable def F_Elector_campaign1 : FW := fun args σ Q => args.length = 2 ∧ W_Elector_campaign1 ([183, 123].zip args) σ fun fl _ σ' => Q (retV fl) σ'
theorem s_Elector_campaign1 : SFc (ZZ u) 6 582 F_Elector_campaign1 := by
  refine s_def (W := W_Elector_campaign1) d_Elector_campaign (by kernel_rfl) ?_
  refine ss_cons ?_ ?_
  refine ss_if ?_ ?_ ?_
  refine st_cmp ?_ ?_ rfl rfl
  refine se_loc n_123
  refine se_gint n_3 (by kernel_rfl) (g_CAMP_PRE _)
  refine ss_cons ?_ ?_
  refine ss_exp ?_ (fun _ => sw_Call)
  refine se_methG ?_ (s_Elector_become_pre_candidate.mono (by decide)) ?_ n_71 (lt (by decide)) (m_Elector_become_pre_candidate _) (fun _ _ => ab_Name) rfl
  refine se_loc n_183
  refine es_nil
  refine ss_cons ?_ ?_
  refine ss_asg ?_ n_64 (lt (by decide)) (by kernel_rfl) (fun _ _ => sw_Name)
  refine se_gint n_21 (by kernel_rfl) (g_MSG_PRE_VOTE _)
  refine ss_cons ?_ ?_
  refine ss_asg ?_ n_200 (lt (by decide)) (by kernel_rfl) (fun _ _ => sw_BinOp)
  refine se_bin ?_ ?_
  refine se_attr ?_ n_200 (fun _ => at_Name)
  refine se_loc n_183
  refine se_int
  refine ss_nil
  refine ss_cons ?_ ?_
  refine ss_exp ?_ (fun _ => sw_Call)
  refine se_methG ?_ (s_Elector_become_candidate.mono (by decide)) ?_ n_68 (lt (by decide)) (m_Elector_become_candidate _) (fun _ _ => ab_Name) rfl
  refine se_loc n_183
  refine es_nil
  refine ss_cons ?_ ?_
  refine ss_asg ?_ n_64 (lt (by decide)) (by kernel_rfl) (fun _ _ => sw_Name)
  refine se_gint n_30 (by kernel_rfl) (g_MSG_VOTE _)
  refine ss_cons ?_ ?_
  refine ss_asg ?_ n_200 (lt (by decide)) (by kernel_rfl) (fun _ _ => sw_Attribute)
  refine se_attr ?_ n_200 (fun _ => at_Name)
  refine se_loc n_183
  refine ss_nil
  refine ss_cons ?_ ?_
  refine ss_if ?_ ?_ ?_
  refine st_cmp ?_ ?_ rfl rfl
  refine se_methG ?_ (s_Elector_poll.mono (by decide)) ?_ n_165 (lt (by decide)) (m_Elector_poll _) (fun _ _ => ab_Name) rfl
  refine se_loc n_183
  refine es_cons ?_ ?_ (fun _ => sE_Attribute)
  refine se_attr ?_ n_152 (fun _ => at_Name)
  refine se_loc n_183
  refine es_cons ?_ ?_ (fun _ => sE_Name)
  refine se_loc n_64
  refine es_cons ?_ ?_ (fun _ => sE_Constant)
  refine se_bool
  refine es_nil
  refine se_gint n_44 (by kernel_rfl) (g_VOTE_WON _)
  refine ss_cons ?_ ?_
  refine ss_exp ?_ (fun _ => sw_Call)
  refine se_methG ?_ (s_Elector_won0.mono (by decide)) ?_ n_217 (lt (by decide)) (m_Elector_won _) (fun _ _ => ab_Name) rfl
  refine se_loc n_183
  refine es_nil
  refine ss_cons ?_ ?_
  refine ss_ret0
  refine ss_nil
  refine ss_nil
  refine ss_cons ?_ ?_
  refine ss_unp2 ?_ n_124 n_126 (lt (by decide)) (lt (by decide)) (by kernel_rfl) (by kernel_rfl) (fun _ => rfl) (fun _ _ => rfl)
  refine se_methG ?_ (s_Elector_last_row.mono (by decide)) ?_ n_125 (lt (by decide)) (m_Elector_last_row _) (fun _ _ => ab_Name) rfl
  refine se_loc n_183
  refine es_nil
  refine ss_cons ?_ ?_
  refine ss_for ?_ ?_ n_146 (lt (by decide)) (by kernel_rfl) (fun _ _ => fo_Call)
  refine se_methG ?_ (s_Config_all_voters.mono (by decide)) ?_ n_57 (lt (by decide)) (m_Config_all_voters _) (fun _ _ => ab_Attribute) rfl
  refine se_attr ?_ n_83 (fun _ => at_Attribute)
  refine se_attr ?_ n_206 (fun _ => at_Name)
  refine se_loc n_183
  refine es_nil
  refine ss_cons ?_ ?_
  refine ss_if ?_ ?_ ?_
  refine st_cmp ?_ ?_ rfl rfl
  refine se_loc n_146
  refine se_attr ?_ n_152 (fun _ => at_Name)
  refine se_loc n_183
  refine ss_cons ?_ ?_
  refine ss_cont
  refine ss_nil
  refine ss_nil
  refine ss_cons ?_ ?_
  refine ss_asg ?_ n_174 (lt (by decide)) (by kernel_rfl) (fun _ _ => sw_Call)
  refine se_new (s_Message_init.mono (by decide)) ?_ n_33 (by kernel_rfl) (g_Message _) (c_Message _)
  refine es_cons ?_ ?_ (fun _ => sE_Name)
  refine se_loc n_64
  refine es_cons ?_ ?_ (fun _ => sE_Name)
  refine se_loc n_146
  refine es_cons ?_ ?_ (fun _ => sE_Attribute)
  refine se_attr ?_ n_152 (fun _ => at_Name)
  refine se_loc n_183
  refine es_cons ?_ ?_ (fun _ => sE_Name)
  refine se_loc n_200
  refine es_nil
  refine ss_cons ?_ ?_
  refine ss_set ?_ ?_ n_115 (fun _ => sw_Name)
  refine se_loc n_124
  refine se_loc n_174
  refine ss_cons ?_ ?_
  refine ss_set ?_ ?_ n_134 (fun _ => sw_Name)
  refine se_loc n_126
  refine se_loc n_174
  refine ss_cons ?_ ?_
  refine ss_if ?_ ?_ ?_
  refine st_cmp ?_ ?_ rfl rfl
  refine se_loc n_123
  refine se_gint n_4 (by kernel_rfl) (g_CAMP_TRANSFER _)
  refine ss_cons ?_ ?_
  refine ss_set ?_ ?_ n_84 (fun _ => sw_Name)
  refine se_gbytes (k := true) n_41 (by kernel_rfl) (g_TRANSFER_CONTEXT _)
  refine se_loc n_174
  refine ss_nil
  refine ss_nil
  refine ss_cons ?_ ?_
  refine ss_exp ?_ (fun _ => sw_Call)
  refine se_methG ?_ (s_Elector_send.mono (by decide)) ?_ n_184 (lt (by decide)) (m_Elector_send _) (fun _ _ => ab_Name) rfl
  refine se_loc n_183
  refine es_cons ?_ ?_ (fun _ => sE_Name)
  refine se_loc n_174
  refine es_nil
  refine ss_nil
  refine ss_nil
noncomputable def W_Elector_won1 : SW := (sSeq (sIf (tCmp .Eq (eAttr (eLoc 183) 192) (eV (.int 3))) (sSeq (sExp (eMeth 606 74 (eLoc 183) F_Elector_campaign1 (esCons (eV (.int 2)) esNil)))
  (sSeq sRet0
  sNil)) sNil)
  (sSeq (sExp (eMeth 606 70 (eLoc 183) F_Elector_become_leader esNil))
  (sSeq (sExp (eMeth 606 67 (eLoc 183) F_Elector_bcast_append esNil))
  sNil)))
noncomputable def F_Elector_won1 : FW := fun args σ Q => args.length = 1 ∧ W_Elector_won1 ([183].zip args) σ fun fl _ σ' => Q (retV fl) σ'
theorem s_Elector_won1 : SFc (ZZ u) 7 596 F_Elector_won1 := by
  refine s_def (W := W_Elector_won1) d_Elector_won (by kernel_rfl) ?_
  refine ss_cons ?_ ?_
  refine ss_if ?_ ?_ ?_
  refine st_cmp ?_ ?_ rfl rfl
  refine se_attr ?_ n_192 (fun _ => at_Name)
  refine se_loc n_183
  refine se_gint n_36 (by kernel_rfl) (g_PRE_CANDIDATE _)
  refine ss_cons ?_ ?_
  refine ss_exp ?_ (fun _ => sw_Call)
  refine se_methG ?_ (s_Elector_campaign1.mono (by decide)) ?_ n_74 (lt (by decide)) (m_Elector_campaign _) (fun _ _ => ab_Name) rfl
  refine se_loc n_183
  refine es_cons ?_ ?_ (fun _ => sE_Name)
  refine se_gint n_2 (by kernel_rfl) (g_CAMP_ELECTION _)
  refine es_nil
  refine ss_cons ?_ ?_
  refine ss_ret0
  refine ss_nil
  refine ss_nil
  refine ss_cons ?_ ?_
  refine ss_exp ?_ (fun _ => sw_Call)
  refine se_methG ?_ (s_Elector_become_leader.mono (by decide)) ?_ n_70 (lt (by decide)) (m_Elector_become_leader _) (fun _ _ => ab_Name) rfl
  refine se_loc n_183
  refine es_nil
  refine ss_cons ?_ ?_
  refine ss_exp ?_ (fun _ => sw_Call)
  refine se_methG ?_ (s_Elector_bcast_append.mono (by decide)) ?_ n_67 (lt (by decide)) (m_Elector_bcast_append _) (fun _ _ => ab_Name) rfl
  refine se_loc n_183
  refine es_nil
  refine ss_nil
noncomputable def W_Elector_campaign : SW := (sSeq (sIf (tCmp .Eq (eLoc 123) (eV (.int 1))) (sSeq (sExp (eMeth 606 71 (eLoc 183) F_Elector_become_pre_candidate esNil))
  (sSeq (sAsg 64 (eV (.int 17)))
  (sSeq (sAsg 200 (eBin .Add (eAttr (eLoc 183) 200) (eV (.int 1))))
  sNil))) (sSeq (sExp (eMeth 606 68 (eLoc 183) F_Elector_become_candidate esNil))
  (sSeq (sAsg 64 (eV (.int 5)))
  (sSeq (sAsg 200 (eAttr (eLoc 183) 200))
  sNil))))
  (sSeq (sIf (tCmp .Eq (eMeth 606 165 (eLoc 183) F_Elector_poll (esCons (eAttr (eLoc 183) 152) (esCons (eLoc 64) (esCons (eV (.bool true)) esNil)))) (eV (.int 3))) (sSeq (sExp (eMeth 606 217 (eLoc 183) F_Elector_won1 esNil))
  (sSeq sRet0
  sNil)) sNil)
  (sSeq (sUnp2 124 126 (eMeth 606 125 (eLoc 183) F_Elector_last_row esNil))
  (sSeq (sFor 146 (eMeth 242 57 (eAttr (eAttr (eLoc 183) 206) 83) F_Config_all_voters esNil) (sSeq (sIf (tCmp .Eq (eLoc 146) (eAttr (eLoc 183) 152)) (sSeq sCont
  sNil) sNil)
  (sSeq (sAsg 174 (eNew 132 F_Message_init (esCons (eLoc 64) (esCons (eLoc 146) (esCons (eAttr (eLoc 183) 152) (esCons (eLoc 200) esNil))))))
  (sSeq (sSet (eLoc 124) (eLoc 174) 115)
  (sSeq (sSet (eLoc 126) (eLoc 174) 134)
  (sSeq (sIf (tCmp .Eq (eLoc 123) (eV (.int 3))) (sSeq (sSet (eV (.bytes true)) (eLoc 174) 84)
  sNil) sNil)
  (sSeq (sExp (eMeth 606 184 (eLoc 183) F_Elector_send (esCons (eLoc 174) esNil)))
  sNil)))))))
  sNil))))
noncomputable def F_Elector_campaign : FW := fun args σ Q => args.length = 2 ∧ W_Elector_campaign ([183, 123].zip args) σ fun fl _ σ' => Q (retV fl) σ'
theorem s_Elector_campaign : SFc (ZZ u) 8 582 F_Elector_campaign := by
  refine s_def (W := W_Elector_campaign) d_Elector_campaign (by kernel_rfl) ?_
  refine ss_cons ?_ ?_
  refine ss_if ?_ ?_ ?_
  refine st_cmp ?_ ?_ rfl rfl
  refine se_loc n_123
  refine se_gint n_3 (by kernel_rfl) (g_CAMP_PRE _)
  refine ss_cons ?_ ?_
  refine ss_exp ?_ (fun _ => sw_Call)
  refine se_methG ?_ (s_Elector_become_pre_candidate.mono (by decide)) ?_ n_71 (lt (by decide)) (m_Elector_become_pre_candidate _) (fun _ _ => ab_Name) rfl
  refine se_loc n_183
  refine es_nil
  refine ss_cons ?_ ?_
  refine ss_asg ?_ n_64 (lt (by decide)) (by kernel_rfl) (fun _ _ => sw_Name)
  refine se_gint n_21 (by kernel_rfl) (g_MSG_PRE_VOTE _)
  refine ss_cons ?_ ?_
  refine ss_asg ?_ n_200 (lt (by decide)) (by kernel_rfl) (fun _ _ => sw_BinOp)
  refine se_bin ?_ ?_
  refine se_attr ?_ n_200 (fun _ => at_Name)
  refine se_loc n_183
  refine se_int
  refine ss_nil
  refine ss_cons ?_ ?_
  refine ss_exp ?_ (fun _ => sw_Call)
  refine se_methG ?_ (s_Elector_become_candidate.mono (by decide)) ?_ n_68 (lt (by decide)) (m_Elector_become_candidate _) (fun _ _ => ab_Name) rfl
  refine se_loc n_183
  refine es_nil
  refine ss_cons ?_ ?_
  refine ss_asg ?_ n_64 (lt (by decide)) (by kernel_rfl) (fun _ _ => sw_Name)
  refine se_gint n_30 (by kernel_rfl) (g_MSG_VOTE _)
  refine ss_cons ?_ ?_
  refine ss_asg ?_ n_200 (lt (by decide)) (by kernel_rfl) (fun _ _ => sw_Attribute)
  refine se_attr ?_ n_200 (fun _ => at_Name)
  refine se_loc n_183
  refine ss_nil
  refine ss_cons ?_ ?_
  refine ss_if ?_ ?_ ?_
  refine st_cmp ?_ ?_ rfl rfl
  refine se_methG ?_ (s_Elector_poll.mono (by decide)) ?_ n_165 (lt (by decide)) (m_Elector_poll _) (fun _ _ => ab_Name) rfl
  refine se_loc n_183
  refine es_cons ?_ ?_ (fun _ => sE_Attribute)
  refine se_attr ?_ n_152 (fun _ => at_Name)
  refine se_loc n_183
  refine es_cons ?_ ?_ (fun _ => sE_Name)
  refine se_loc n_64
  refine es_cons ?_ ?_ (fun _ => sE_Constant)
  refine se_bool
  refine es_nil
  refine se_gint n_44 (by kernel_rfl) (g_VOTE_WON _)
  refine ss_cons ?_ ?_
  refine ss_exp ?_ (fun _ => sw_Call)
  refine se_methG ?_ (s_Elector_won1.mono (by decide)) ?_ n_217 (lt (by decide)) (m_Elector_won _) (fun _ _ => ab_Name) rfl
  refine se_loc n_183
  refine es_nil
  refine ss_cons ?_ ?_
  refine ss_ret0
  refine ss_nil
  refine ss_nil
  refine ss_cons ?_ ?_
  refine ss_unp2 ?_ n_124 n_126 (lt (by decide)) (lt (by decide)) (by kernel_rfl) (by kernel_rfl) (fun _ => rfl) (fun _ _ => rfl)
  refine se_methG ?_ (s_Elector_last_row.mono (by decide)) ?_ n_125 (lt (by decide)) (m_Elector_last_row _) (fun _ _ => ab_Name) rfl
  refine se_loc n_183
  refine es_nil
  refine ss_cons ?_ ?_
  refine ss_for ?_ ?_ n_146 (lt (by decide)) (by kernel_rfl) (fun _ _ => fo_Call)
  refine se_methG ?_ (s_Config_all_voters.mono (by decide)) ?_ n_57 (lt (by decide)) (m_Config_all_voters _) (fun _ _ => ab_Attribute) rfl
  refine se_attr ?_ n_83 (fun _ => at_Attribute)
  refine se_attr ?_ n_206 (fun _ => at_Name)
  refine se_loc n_183
  refine es_nil
  refine ss_cons ?_ ?_
  refine ss_if ?_ ?_ ?_
  refine st_cmp ?_ ?_ rfl rfl
  refine se_loc n_146
  refine se_attr ?_ n_152 (fun _ => at_Name)
  refine se_loc n_183
  refine ss_cons ?_ ?_
  refine ss_cont
  refine ss_nil
  refine ss_nil
  refine ss_cons ?_ ?_
  refine ss_asg ?_ n_174 (lt (by decide)) (by kernel_rfl) (fun _ _ => sw_Call)
  refine se_new (s_Message_init.mono (by decide)) ?_ n_33 (by kernel_rfl) (g_Message _) (c_Message _)
  refine es_cons ?_ ?_ (fun _ => sE_Name)
  refine se_loc n_64
  refine es_cons ?_ ?_ (fun _ => sE_Name)
  refine se_loc n_146
  refine es_cons ?_ ?_ (fun _ => sE_Attribute)
  refine se_attr ?_ n_152 (fun _ => at_Name)
  refine se_loc n_183
  refine es_cons ?_ ?_ (fun _ => sE_Name)
  refine se_loc n_200
  refine es_nil
  refine ss_cons ?_ ?_
  refine ss_set ?_ ?_ n_115 (fun _ => sw_Name)
  refine se_loc n_124
  refine se_loc n_174
  refine ss_cons ?_ ?_
  refine ss_set ?_ ?_ n_134 (fun _ => sw_Name)
  refine se_loc n_126
  refine se_loc n_174
  refine ss_cons ?_ ?_
  refine ss_if ?_ ?_ ?_
  refine st_cmp ?_ ?_ rfl rfl
  refine se_loc n_123
  refine se_gint n_4 (by kernel_rfl) (g_CAMP_TRANSFER _)
  refine ss_cons ?_ ?_
  refine ss_set ?_ ?_ n_84 (fun _ => sw_Name)
  refine se_gbytes (k := true) n_41 (by kernel_rfl) (g_TRANSFER_CONTEXT _)
  refine se_loc n_174
  refine ss_nil
  refine ss_nil
  refine ss_cons ?_ ?_
  refine ss_exp ?_ (fun _ => sw_Call)
  refine se_methG ?_ (s_Elector_send.mono (by decide)) ?_ n_184 (lt (by decide)) (m_Elector_send _) (fun _ _ => ab_Name) rfl
  refine se_loc n_183
  refine es_cons ?_ ?_ (fun _ => sE_Name)
  refine se_loc n_174
  refine es_nil
  refine ss_nil
  refine ss_nil
noncomputable def W_Elector_won : SW := (sSeq (sIf (tCmp .Eq (eAttr (eLoc 183) 192) (eV (.int 3))) (sSeq (sExp (eMeth 606 74 (eLoc 183) F_Elector_campaign1 (esCons (eV (.int 2)) esNil)))
  (sSeq sRet0
  sNil)) sNil)
  (sSeq (sExp (eMeth 606 70 (eLoc 183) F_Elector_become_leader esNil))
  (sSeq (sExp (eMeth 606 67 (eLoc 183) F_Elector_bcast_append esNil))
  sNil)))
noncomputable def F_Elector_won : FW := fun args σ Q => args.length = 1 ∧ W_Elector_won ([183].zip args) σ fun fl _ σ' => Q (retV fl) σ'
theorem s_Elector_won : SFc (ZZ u) 7 596 F_Elector_won := by
  refine s_def (W := W_Elector_won) d_Elector_won (by kernel_rfl) ?_
  refine ss_cons ?_ ?_
  refine ss_if ?_ ?_ ?_
  refine st_cmp ?_ ?_ rfl rfl
  refine se_attr ?_ n_192 (fun _ => at_Name)
  refine se_loc n_183
  refine se_gint n_36 (by kernel_rfl) (g_PRE_CANDIDATE _)
  refine ss_cons ?_ ?_
  refine ss_exp ?_ (fun _ => sw_Call)
  refine se_methG ?_ (s_Elector_campaign1.mono (by decide)) ?_ n_74 (lt (by decide)) (m_Elector_campaign _) (fun _ _ => ab_Name) rfl
  refine se_loc n_183
  refine es_cons ?_ ?_ (fun _ => sE_Name)
  refine se_gint n_2 (by kernel_rfl) (g_CAMP_ELECTION _)
  refine es_nil
  refine ss_cons ?_ ?_
  refine ss_ret0
  refine ss_nil
  refine ss_nil
  refine ss_cons ?_ ?_
  refine ss_exp ?_ (fun _ => sw_Call)
  refine se_methG ?_ (s_Elector_become_leader.mono (by decide)) ?_ n_70 (lt (by decide)) (m_Elector_become_leader _) (fun _ _ => ab_Name) rfl
  refine se_loc n_183
  refine es_nil
  refine ss_cons ?_ ?_
  refine ss_exp ?_ (fun _ => sw_Call)
  refine se_methG ?_ (s_Elector_bcast_append.mono (by decide)) ?_ n_67 (lt (by decide)) (m_Elector_bcast_append _) (fun _ _ => ab_Name) rfl
  refine se_loc n_183
  refine es_nil
  refine ss_nil
theorem d_Elector_hup : DefOk (ZZ u) 575 [183, 123] (stScope (methSt 57 33)) (stBody (methSt 57 33)) :=
  defOk (qual := "Elector.hup") (pm := vs "raftkeep.core" 621) (code := 574) (by kernel_rfl) (by kernel_rfl) (len2 fun _ _ => by kernel_rfl) (by decide) (by decide +kernel) (by kernel_rfl) (by kernel_rfl) (by kernel_rfl)
noncomputable def W_Elector_hup : SW := (sSeq (sIf (tOr [(tCmp .Eq (eAttr (eLoc 183) 192) (eV (.int 2))), (tNot (tVal (eMeth 606 168 (eLoc 183) F_Elector_promotable esNil)))]) (sSeq sRet0
  sNil) sNil)
  (sSeq (sIf (tVal (eMeth 606 207 (eLoc 183) F_Elector_unapplied_conf esNil)) (sSeq sRet0
  sNil) sNil)
  (sSeq (sExp (eMeth 606 74 (eLoc 183) F_Elector_campaign (esCons (eLoc 123) esNil)))
  sNil)))
noncomputable def F_Elector_hup : FW := fun args σ Q => args.length = 2 ∧ W_Elector_hup ([183, 123].zip args) σ fun fl _ σ' => Q (retV fl) σ'
theorem s_Elector_hup : SFc (ZZ u) 9 575 F_Elector_hup := by
  refine s_def (W := W_Elector_hup) d_Elector_hup (by kernel_rfl) ?_
  refine ss_cons ?_ ?_
  refine ss_if ?_ ?_ ?_
  refine st_or ?_
  refine .cons ?_ ?_
  refine st_cmp ?_ ?_ rfl rfl
  refine se_attr ?_ n_192 (fun _ => at_Name)
  refine se_loc n_183
  refine se_gint n_11 (by kernel_rfl) (g_LEADER _)
  refine .cons ?_ ?_
  refine st_not ?_
  refine st_val ?_ (fun _ _ => tr_Call)
  refine se_methG ?_ (s_Elector_promotable.mono (by decide)) ?_ n_168 (lt (by decide)) (m_Elector_promotable _) (fun _ _ => ab_Name) rfl
  refine se_loc n_183
  refine es_nil
  refine .nil
  refine ss_cons ?_ ?_
  refine ss_ret0
  refine ss_nil
  refine ss_nil
  refine ss_cons ?_ ?_
  refine ss_if ?_ ?_ ?_
  refine st_val ?_ (fun _ _ => tr_Call)
  refine se_methG ?_ (s_Elector_unapplied_conf.mono (by decide)) ?_ n_207 (lt (by decide)) (m_Elector_unapplied_conf _) (fun _ _ => ab_Name) rfl
  refine se_loc n_183
  refine es_nil
  refine ss_cons ?_ ?_
  refine ss_ret0
  refine ss_nil
  refine ss_nil
  refine ss_cons ?_ ?_
  refine ss_exp ?_ (fun _ => sw_Call)
  refine se_methG ?_ (s_Elector_campaign.mono (by decide)) ?_ n_74 (lt (by decide)) (m_Elector_campaign _) (fun _ _ => ab_Name) rfl
  refine se_loc n_183
  refine es_cons ?_ ?_ (fun _ => sE_Name)
  refine se_loc n_123
  refine es_nil
  refine ss_nil
theorem d_Elector_step_follower : DefOk (ZZ u) 442 [183, 135] (stScope (methSt 57 14)) (stBody (methSt 57 14)) :=
  defOk (qual := "Elector.step_follower") (pm := vs "raftkeep.core" 621) (code := 441) (by kernel_rfl) (by kernel_rfl) (len2 fun _ _ => by kernel_rfl) (by decide) (by decide +kernel) (by kernel_rfl) (by kernel_rfl) (by kernel_rfl)
noncomputable def W_Elector_step_follower : SW := (sSeq (sIf (tOr [(tCmp .Eq (eAttr (eLoc 135) 123) (eV (.int 3))), (tCmp .Eq (eAttr (eLoc 135) 123) (eV (.int 8))), (tCmp .Eq (eAttr (eLoc 135) 123) (eV (.int 7)))]) sFls (sSeq (sIf (tCmp .Eq (eAttr (eLoc 135) 123) (eV (.int 14))) (sSeq (sExp (eMeth 606 111 (eLoc 183) F_Elector_hup (esCons (eV (.int 3)) esNil)))
  sNil) sNil)
  sNil))
  sNil)
noncomputable def F_Elector_step_follower : FW := fun args σ Q => args.length = 2 ∧ W_Elector_step_follower ([183, 135].zip args) σ fun fl _ σ' => Q (retV fl) σ'
theorem s_Elector_step_follower : SFc (ZZ u) 10 442 F_Elector_step_follower := by
  refine s_def (W := W_Elector_step_follower) d_Elector_step_follower (by kernel_rfl) ?_
  refine ss_cons ?_ ?_
  refine ss_if ?_ ?_ ?_
  refine st_or ?_
  refine .cons ?_ ?_
  refine st_cmp ?_ ?_ rfl rfl
  refine se_attr ?_ n_123 (fun _ => at_Name)
  refine se_loc n_135
  refine se_gint n_14 (by kernel_rfl) (g_MSG_APP _)
  refine .cons ?_ ?_
  refine st_cmp ?_ ?_ rfl rfl
  refine se_attr ?_ n_123 (fun _ => at_Name)
  refine se_loc n_135
  refine se_gint n_18 (by kernel_rfl) (g_MSG_HEARTBEAT _)
  refine .cons ?_ ?_
  refine st_cmp ?_ ?_ rfl rfl
  refine se_attr ?_ n_123 (fun _ => at_Name)
  refine se_loc n_135
  refine se_gint n_25 (by kernel_rfl) (g_MSG_SNAP _)
  refine .nil
  refine ss_flss
  refine ss_cons ?_ ?_
  refine ss_if ?_ ?_ ?_
  refine st_cmp ?_ ?_ rfl rfl
  refine se_attr ?_ n_123 (fun _ => at_Name)
  refine se_loc n_135
  refine se_gint n_27 (by kernel_rfl) (g_MSG_TIMEOUT_NOW _)
  refine ss_cons ?_ ?_
  refine ss_exp ?_ (fun _ => sw_Call)
  refine se_methG ?_ (s_Elector_hup.mono (by decide)) ?_ n_111 (lt (by decide)) (m_Elector_hup _) (fun _ _ => ab_Name) rfl
  refine se_loc n_183
  refine es_cons ?_ ?_ (fun _ => sE_Name)
  refine se_gint n_4 (by kernel_rfl) (g_CAMP_TRANSFER _)
  refine es_nil
  refine ss_nil
  refine ss_nil
  refine ss_nil
  refine ss_nil
theorem d_Elector_settle_higher : DefOk (ZZ u) 547 [183, 135] (stScope (methSt 57 29)) (stBody (methSt 57 29)) :=
  defOk (qual := "Elector.settle_higher") (pm := vs "raftkeep.core" 621) (code := 546) (by kernel_rfl) (by kernel_rfl) (len2 fun _ _ => by kernel_rfl) (by decide) (by decide +kernel) (by kernel_rfl) (by kernel_rfl) (by kernel_rfl)
noncomputable def W_Elector_settle_higher : SW := (sSeq (sIf (tOr [(tCmp .Eq (eAttr (eLoc 135) 123) (eV (.int 5))), (tCmp .Eq (eAttr (eLoc 135) 123) (eV (.int 17)))]) sFls sNil)
  (sSeq (sIf (tCmp .Eq (eAttr (eLoc 135) 123) (eV (.int 17))) (sSeq (sRet (eV (.bool true)))
  sNil) sNil)
  (sSeq (sIf (tAnd [(tCmp .Eq (eAttr (eLoc 135) 123) (eV (.int 18))), (tNot (tVal (eAttr (eLoc 135) 171)))]) (sSeq (sRet (eV (.bool true)))
  sNil) sNil)
  (sSeq (sIf (tOr [(tCmp .Eq (eAttr (eLoc 135) 123) (eV (.int 3))), (tCmp .Eq (eAttr (eLoc 135) 123) (eV (.int 8))), (tCmp .Eq (eAttr (eLoc 135) 123) (eV (.int 7)))]) sFls (sSeq (sExp (eMeth 606 69 (eLoc 183) F_Elector_become_follower (esCons (eAttr (eLoc 135) 200) (esCons (eV (.int 0)) esNil))))
  sNil))
  (sSeq (sRet (eV (.bool true)))
  sNil)))))
noncomputable def F_Elector_settle_higher : FW := fun args σ Q => args.length = 2 ∧ W_Elector_settle_higher ([183, 135].zip args) σ fun fl _ σ' => Q (retV fl) σ'
theorem s_Elector_settle_higher : SFc (ZZ u) 4 547 F_Elector_settle_higher := by
  refine s_def (W := W_Elector_settle_higher) d_Elector_settle_higher (by kernel_rfl) ?_
  refine ss_cons ?_ ?_
  refine ss_if ?_ ?_ ?_
  refine st_or ?_
  refine .cons ?_ ?_
  refine st_cmp ?_ ?_ rfl rfl
  refine se_attr ?_ n_123 (fun _ => at_Name)
  refine se_loc n_135
  refine se_gint n_30 (by kernel_rfl) (g_MSG_VOTE _)
  refine .cons ?_ ?_
  refine st_cmp ?_ ?_ rfl rfl
  refine se_attr ?_ n_123 (fun _ => at_Name)
  refine se_loc n_135
  refine se_gint n_21 (by kernel_rfl) (g_MSG_PRE_VOTE _)
  refine .nil
  refine ss_flss
  refine ss_nil
  refine ss_cons ?_ ?_
  refine ss_if ?_ ?_ ?_
  refine st_cmp ?_ ?_ rfl rfl
  refine se_attr ?_ n_123 (fun _ => at_Name)
  refine se_loc n_135
  refine se_gint n_21 (by kernel_rfl) (g_MSG_PRE_VOTE _)
  refine ss_cons ?_ ?_
  refine ss_ret ?_
  refine se_bool
  refine ss_nil
  refine ss_nil
  refine ss_cons ?_ ?_
  refine ss_if ?_ ?_ ?_
  refine st_and ?_
  refine .cons ?_ ?_
  refine st_cmp ?_ ?_ rfl rfl
  refine se_attr ?_ n_123 (fun _ => at_Name)
  refine se_loc n_135
  refine se_gint n_22 (by kernel_rfl) (g_MSG_PRE_VOTE_RESP _)
  refine .cons ?_ ?_
  refine st_not ?_
  refine st_val ?_ (fun _ _ => tr_Attribute)
  refine se_attr ?_ n_171 (fun _ => at_Name)
  refine se_loc n_135
  refine .nil
  refine ss_cons ?_ ?_
  refine ss_ret ?_
  refine se_bool
  refine ss_nil
  refine ss_nil
  refine ss_cons ?_ ?_
  refine ss_if ?_ ?_ ?_
  refine st_or ?_
  refine .cons ?_ ?_
  refine st_cmp ?_ ?_ rfl rfl
  refine se_attr ?_ n_123 (fun _ => at_Name)
  refine se_loc n_135
  refine se_gint n_14 (by kernel_rfl) (g_MSG_APP _)
  refine .cons ?_ ?_
  refine st_cmp ?_ ?_ rfl rfl
  refine se_attr ?_ n_123 (fun _ => at_Name)
  refine se_loc n_135
  refine se_gint n_18 (by kernel_rfl) (g_MSG_HEARTBEAT _)
  refine .cons ?_ ?_
  refine st_cmp ?_ ?_ rfl rfl
  refine se_attr ?_ n_123 (fun _ => at_Name)
  refine se_loc n_135
  refine se_gint n_25 (by kernel_rfl) (g_MSG_SNAP _)
  refine .nil
  refine ss_flss
  refine ss_cons ?_ ?_
  refine ss_exp ?_ (fun _ => sw_Call)
  refine se_methG ?_ (s_Elector_become_follower.mono (by decide)) ?_ n_69 (lt (by decide)) (m_Elector_become_follower _) (fun _ _ => ab_Name) rfl
  refine se_loc n_183
  refine es_cons ?_ ?_ (fun _ => sE_Attribute)
  refine se_attr ?_ n_200 (fun _ => at_Name)
  refine se_loc n_135
  refine es_cons ?_ ?_ (fun _ => sE_Name)
  refine se_gint n_34 (by kernel_rfl) (g_NONE _)
  refine es_nil
  refine ss_nil
  refine ss_cons ?_ ?_
  refine ss_ret ?_
  refine se_bool
  refine ss_nil
theorem d_Elector_answer_lower : DefOk (ZZ u) 554 [183, 135] (stScope (methSt 57 30)) (stBody (methSt 57 30)) :=
  defOk (qual := "Elector.answer_lower") (pm := vs "raftkeep.core" 621) (code := 553) (by kernel_rfl) (by kernel_rfl) (len2 fun _ _ => by kernel_rfl) (by decide) (by decide +kernel) (by kernel_rfl) (by kernel_rfl) (by kernel_rfl)
noncomputable def W_Elector_answer_lower : SW := (sSeq (sAsg 100 (eOr2 (eCmp .Eq (eAttr (eLoc 135) 123) (eV (.int 3))) (eCmp .Eq (eAttr (eLoc 135) 123) (eV (.int 8)))))
  (sSeq (sIf (tAnd [(tVal (eLoc 100)), (tOr [(tVal (eAttr (eLoc 183) 78)), (tVal (eAttr (eLoc 183) 167))])]) sFls (sSeq (sIf (tCmp .Eq (eAttr (eLoc 135) 123) (eV (.int 17))) sFls sNil)
  sNil))
  sNil))
noncomputable def F_Elector_answer_lower : FW := fun args σ Q => args.length = 2 ∧ W_Elector_answer_lower ([183, 135].zip args) σ fun fl _ σ' => Q (retV fl) σ'
theorem s_Elector_answer_lower : SFc (ZZ u) 1 554 F_Elector_answer_lower := by
  refine s_def (W := W_Elector_answer_lower) d_Elector_answer_lower (by kernel_rfl) ?_
  refine ss_cons ?_ ?_
  refine ss_asg ?_ n_100 (lt (by decide)) (by kernel_rfl) (fun _ _ => sw_BoolOp)
  refine se_or2 ?_ ?_
  refine se_cmp ?_ ?_ rfl rfl
  refine se_attr ?_ n_123 (fun _ => at_Name)
  refine se_loc n_135
  refine se_gint n_14 (by kernel_rfl) (g_MSG_APP _)
  refine se_cmp ?_ ?_ rfl rfl
  refine se_attr ?_ n_123 (fun _ => at_Name)
  refine se_loc n_135
  refine se_gint n_18 (by kernel_rfl) (g_MSG_HEARTBEAT _)
  refine ss_cons ?_ ?_
  refine ss_if ?_ ?_ ?_
  refine st_and ?_
  refine .cons ?_ ?_
  refine st_val ?_ (fun _ _ => tr_Name)
  refine se_loc n_100
  refine .cons ?_ ?_
  refine st_or ?_
  refine .cons ?_ ?_
  refine st_val ?_ (fun _ _ => tr_Attribute)
  refine se_attr ?_ n_78 (fun _ => at_Name)
  refine se_loc n_183
  refine .cons ?_ ?_
  refine st_val ?_ (fun _ _ => tr_Attribute)
  refine se_attr ?_ n_167 (fun _ => at_Name)
  refine se_loc n_183
  refine .nil
  refine .nil
  refine ss_flss
  refine ss_cons ?_ ?_
  refine ss_if ?_ ?_ ?_
  refine st_cmp ?_ ?_ rfl rfl
  refine se_attr ?_ n_123 (fun _ => at_Name)
  refine se_loc n_135
  refine se_gint n_21 (by kernel_rfl) (g_MSG_PRE_VOTE _)
  refine ss_flss
  refine ss_nil
  refine ss_nil
  refine ss_nil
theorem d_Elector_settle_term : DefOk (ZZ u) 533 [183, 135] (stScope (methSt 57 27)) (stBody (methSt 57 27)) :=
  defOk (qual := "Elector.settle_term") (pm := vs "raftkeep.core" 621) (code := 532) (by kernel_rfl) (by kernel_rfl) (len2 fun _ _ => by kernel_rfl) (by decide) (by decide +kernel) (by kernel_rfl) (by kernel_rfl) (by kernel_rfl)
noncomputable def W_Elector_settle_term : SW := (sSeq (sIf (tCmp .Eq (eAttr (eLoc 135) 200) (eV (.int 0))) (sSeq (sRet (eCall F_may_lack_term (esCons (eAttr (eLoc 135) 123) esNil)))
  sNil) sNil)
  (sSeq (sIf (tCmp .Gt (eAttr (eLoc 135) 200) (eAttr (eLoc 183) 200)) (sSeq (sRet (eMeth 606 185 (eLoc 183) F_Elector_settle_higher (esCons (eLoc 135) esNil)))
  sNil) sNil)
  (sSeq (sIf (tCmp .Lt (eAttr (eLoc 135) 200) (eAttr (eLoc 183) 200)) (sSeq (sExp (eMeth 606 59 (eLoc 183) F_Elector_answer_lower (esCons (eLoc 135) esNil)))
  (sSeq (sRet (eV (.bool false)))
  sNil)) sNil)
  (sSeq (sRet (eV (.bool true)))
  sNil))))
noncomputable def F_Elector_settle_term : FW := fun args σ Q => args.length = 2 ∧ W_Elector_settle_term ([183, 135].zip args) σ fun fl _ σ' => Q (retV fl) σ'
theorem s_Elector_settle_term : SFc (ZZ u) 5 533 F_Elector_settle_term := by
  refine s_def (W := W_Elector_settle_term) d_Elector_settle_term (by kernel_rfl) ?_
  refine ss_cons ?_ ?_
  refine ss_if ?_ ?_ ?_
  refine st_cmp ?_ ?_ rfl rfl
  refine se_attr ?_ n_200 (fun _ => at_Name)
  refine se_loc n_135
  refine se_int
  refine ss_cons ?_ ?_
  refine ss_ret ?_
  refine se_call (s_may_lack_term.mono (by decide)) ?_ n_145 (by kernel_rfl) (g_may_lack_term _) (k_may_lack_term _)
  refine es_cons ?_ ?_ (fun _ => sE_Attribute)
  refine se_attr ?_ n_123 (fun _ => at_Name)
  refine se_loc n_135
  refine es_nil
  refine ss_nil
  refine ss_nil
  refine ss_cons ?_ ?_
  refine ss_if ?_ ?_ ?_
  refine st_cmp ?_ ?_ rfl rfl
  refine se_attr ?_ n_200 (fun _ => at_Name)
  refine se_loc n_135
  refine se_attr ?_ n_200 (fun _ => at_Name)
  refine se_loc n_183
  refine ss_cons ?_ ?_
  refine ss_ret ?_
  refine se_methG ?_ (s_Elector_settle_higher.mono (by decide)) ?_ n_185 (lt (by decide)) (m_Elector_settle_higher _) (fun _ _ => ab_Name) rfl
  refine se_loc n_183
  refine es_cons ?_ ?_ (fun _ => sE_Name)
  refine se_loc n_135
  refine es_nil
  refine ss_nil
  refine ss_nil
  refine ss_cons ?_ ?_
  refine ss_if ?_ ?_ ?_
  refine st_cmp ?_ ?_ rfl rfl
  refine se_attr ?_ n_200 (fun _ => at_Name)
  refine se_loc n_135
  refine se_attr ?_ n_200 (fun _ => at_Name)
  refine se_loc n_183
  refine ss_cons ?_ ?_
  refine ss_exp ?_ (fun _ => sw_Call)
  refine se_methG ?_ (s_Elector_answer_lower.mono (by decide)) ?_ n_59 (lt (by decide)) (m_Elector_answer_lower _) (fun _ _ => ab_Name) rfl
  refine se_loc n_183
  refine es_cons ?_ ?_ (fun _ => sE_Name)
  refine se_loc n_135
  refine es_nil
  refine ss_cons ?_ ?_
  refine ss_ret ?_
  refine se_bool
  refine ss_nil
  refine ss_nil
  refine ss_cons ?_ ?_
  refine ss_ret ?_
  refine se_bool
  refine ss_nil
theorem d_Elector_step_candidate : DefOk (ZZ u) 603 [183, 135] (stScope (methSt 57 37)) (stBody (methSt 57 37)) :=
  defOk (qual := "Elector.step_candidate") (pm := vs "raftkeep.core" 621) (code := 602) (by kernel_rfl) (by kernel_rfl) (len2 fun _ _ => by kernel_rfl) (by decide) (by decide +kernel) (by kernel_rfl) (by kernel_rfl) (by kernel_rfl)
noncomputable def W_Elector_step_candidate : SW := (sSeq (sIf (tCmp .Eq (eAttr (eLoc 135) 123) (eV (.int 2))) sFls sNil)
  (sSeq (sIf (tOr [(tCmp .Eq (eAttr (eLoc 135) 123) (eV (.int 3))), (tCmp .Eq (eAttr (eLoc 135) 123) (eV (.int 8))), (tCmp .Eq (eAttr (eLoc 135) 123) (eV (.int 7)))]) sFls sNil)
  (sSeq (sIf (tCmp .Eq (eAttr (eLoc 183) 192) (eV (.int 3))) (sSeq (sIf (tCmp .NotEq (eAttr (eLoc 135) 123) (eV (.int 18))) (sSeq sRet0
  sNil) sNil)
  (sSeq (sAsg 178 (eMeth 606 165 (eLoc 183) F_Elector_poll (esCons (eAttr (eLoc 135) 99) (esCons (eV (.int 17)) (esCons (eNot (eAttr (eLoc 135) 171)) esNil)))))
  sNil)) (sSeq (sIf (tCmp .NotEq (eAttr (eLoc 135) 123) (eV (.int 6))) (sSeq sRet0
  sNil) sNil)
  (sSeq (sAsg 178 (eMeth 606 165 (eLoc 183) F_Elector_poll (esCons (eAttr (eLoc 135) 99) (esCons (eV (.int 5)) (esCons (eNot (eAttr (eLoc 135) 171)) esNil)))))
  sNil)))
  (sSeq (sIf (tCmp .Eq (eLoc 178) (eV (.int 3))) (sSeq (sExp (eMeth 606 217 (eLoc 183) F_Elector_won esNil))
  sNil) (sSeq (sIf (tCmp .Eq (eLoc 178) (eV (.int 2))) (sSeq (sExp (eMeth 606 69 (eLoc 183) F_Elector_become_follower (esCons (eAttr (eLoc 183) 200) (esCons (eV (.int 0)) esNil))))
  sNil) sNil)
  sNil))
  sNil))))
noncomputable def F_Elector_step_candidate : FW := fun args σ Q => args.length = 2 ∧ W_Elector_step_candidate ([183, 135].zip args) σ fun fl _ σ' => Q (retV fl) σ'
theorem s_Elector_step_candidate : SFc (ZZ u) 8 603 F_Elector_step_candidate := by
  refine s_def (W := W_Elector_step_candidate) d_Elector_step_candidate (by kernel_rfl) ?_
  refine ss_cons ?_ ?_
  refine ss_if ?_ ?_ ?_
  refine st_cmp ?_ ?_ rfl rfl
  refine se_attr ?_ n_123 (fun _ => at_Name)
  refine se_loc n_135
  refine se_gint n_23 (by kernel_rfl) (g_MSG_PROP _)
  refine ss_flss
  refine ss_nil
  refine ss_cons ?_ ?_
  refine ss_if ?_ ?_ ?_
  refine st_or ?_
  refine .cons ?_ ?_
  refine st_cmp ?_ ?_ rfl rfl
  refine se_attr ?_ n_123 (fun _ => at_Name)
  refine se_loc n_135
  refine se_gint n_14 (by kernel_rfl) (g_MSG_APP _)
  refine .cons ?_ ?_
  refine st_cmp ?_ ?_ rfl rfl
  refine se_attr ?_ n_123 (fun _ => at_Name)
  refine se_loc n_135
  refine se_gint n_18 (by kernel_rfl) (g_MSG_HEARTBEAT _)
  refine .cons ?_ ?_
  refine st_cmp ?_ ?_ rfl rfl
  refine se_attr ?_ n_123 (fun _ => at_Name)
  refine se_loc n_135
  refine se_gint n_25 (by kernel_rfl) (g_MSG_SNAP _)
  refine .nil
  refine ss_flss
  refine ss_nil
  refine ss_cons ?_ ?_
  refine ss_if ?_ ?_ ?_
  refine st_cmp ?_ ?_ rfl rfl
  refine se_attr ?_ n_192 (fun _ => at_Name)
  refine se_loc n_183
  refine se_gint n_36 (by kernel_rfl) (g_PRE_CANDIDATE _)
  refine ss_cons ?_ ?_
  refine ss_if ?_ ?_ ?_
  refine st_cmp ?_ ?_ rfl rfl
  refine se_attr ?_ n_123 (fun _ => at_Name)
  refine se_loc n_135
  refine se_gint n_22 (by kernel_rfl) (g_MSG_PRE_VOTE_RESP _)
  refine ss_cons ?_ ?_
  refine ss_ret0
  refine ss_nil
  refine ss_nil
  refine ss_cons ?_ ?_
  refine ss_asg ?_ n_178 (lt (by decide)) (by kernel_rfl) (fun _ _ => sw_Call)
  refine se_methG ?_ (s_Elector_poll.mono (by decide)) ?_ n_165 (lt (by decide)) (m_Elector_poll _) (fun _ _ => ab_Name) rfl
  refine se_loc n_183
  refine es_cons ?_ ?_ (fun _ => sE_Attribute)
  refine se_attr ?_ n_99 (fun _ => at_Name)
  refine se_loc n_135
  refine es_cons ?_ ?_ (fun _ => sE_Name)
  refine se_gint n_21 (by kernel_rfl) (g_MSG_PRE_VOTE _)
  refine es_cons ?_ ?_ (fun _ => sE_UnaryOp)
  refine se_not ?_
  refine se_attr ?_ n_171 (fun _ => at_Name)
  refine se_loc n_135
  refine es_nil
  refine ss_nil
  refine ss_cons ?_ ?_
  refine ss_if ?_ ?_ ?_
  refine st_cmp ?_ ?_ rfl rfl
  refine se_attr ?_ n_123 (fun _ => at_Name)
  refine se_loc n_135
  refine se_gint n_31 (by kernel_rfl) (g_MSG_VOTE_RESP _)
  refine ss_cons ?_ ?_
  refine ss_ret0
  refine ss_nil
  refine ss_nil
  refine ss_cons ?_ ?_
  refine ss_asg ?_ n_178 (lt (by decide)) (by kernel_rfl) (fun _ _ => sw_Call)
  refine se_methG ?_ (s_Elector_poll.mono (by decide)) ?_ n_165 (lt (by decide)) (m_Elector_poll _) (fun _ _ => ab_Name) rfl
  refine se_loc n_183
  refine es_cons ?_ ?_ (fun _ => sE_Attribute)
  refine se_attr ?_ n_99 (fun _ => at_Name)
  refine se_loc n_135
  refine es_cons ?_ ?_ (fun _ => sE_Name)
  refine se_gint n_30 (by kernel_rfl) (g_MSG_VOTE _)
  refine es_cons ?_ ?_ (fun _ => sE_UnaryOp)
  refine se_not ?_
  refine se_attr ?_ n_171 (fun _ => at_Name)
  refine se_loc n_135
  refine es_nil
  refine ss_nil
  refine ss_cons ?_ ?_
  refine ss_if ?_ ?_ ?_
  refine st_cmp ?_ ?_ rfl rfl
  refine se_loc n_178
  refine se_gint n_44 (by kernel_rfl) (g_VOTE_WON _)
  refine ss_cons ?_ ?_
  refine ss_exp ?_ (fun _ => sw_Call)
  refine se_methG ?_ (s_Elector_won.mono (by decide)) ?_ n_217 (lt (by decide)) (m_Elector_won _) (fun _ _ => ab_Name) rfl
  refine se_loc n_183
  refine es_nil
  refine ss_nil
  refine ss_cons ?_ ?_
  refine ss_if ?_ ?_ ?_
  refine st_cmp ?_ ?_ rfl rfl
  refine se_loc n_178
  refine se_gint n_42 (by kernel_rfl) (g_VOTE_LOST _)
  refine ss_cons ?_ ?_
  refine ss_exp ?_ (fun _ => sw_Call)
  refine se_methG ?_ (s_Elector_become_follower.mono (by decide)) ?_ n_69 (lt (by decide)) (m_Elector_become_follower _) (fun _ _ => ab_Name) rfl
  refine se_loc n_183
  refine es_cons ?_ ?_ (fun _ => sE_Attribute)
  refine se_attr ?_ n_200 (fun _ => at_Name)
  refine se_loc n_183
  refine es_cons ?_ ?_ (fun _ => sE_Name)
  refine se_gint n_34 (by kernel_rfl) (g_NONE _)
  refine es_nil
  refine ss_nil
  refine ss_nil
  refine ss_nil
  refine ss_nil
theorem d_Elector_step : DefOk (ZZ u) 526 [183, 135] (stScope (methSt 57 26)) (stBody (methSt 57 26)) :=
  defOk (qual := "Elector.step") (pm := vs "raftkeep.core" 621) (code := 525) (by kernel_rfl) (by kernel_rfl) (len2 fun _ _ => by kernel_rfl) (by decide) (by decide +kernel) (by kernel_rfl) (by kernel_rfl) (by kernel_rfl)
noncomputable def W_Elector_step : SW := (sSeq (sIf (tOr [(tCmp .Eq (eAttr (eLoc 135) 123) (eV (.int 19))), (tCmp .Eq (eAttr (eLoc 135) 123) (eV (.int 20)))]) sFls sNil)
  (sSeq (sIf (tNot (tVal (eMeth 606 186 (eLoc 183) F_Elector_settle_term (esCons (eLoc 135) esNil)))) (sSeq sRet0
  sNil) sNil)
  (sSeq (sIf (tCmp .Eq (eAttr (eLoc 135) 123) (eV (.int 0))) (sSeq (sIf (tVal (eAttr (eLoc 183) 167)) (sSeq (sExp (eMeth 606 111 (eLoc 183) F_Elector_hup (esCons (eV (.int 1)) esNil)))
  sNil) (sSeq (sExp (eMeth 606 111 (eLoc 183) F_Elector_hup (esCons (eV (.int 2)) esNil)))
  sNil))
  sNil) (sSeq (sIf (tOr [(tCmp .Eq (eAttr (eLoc 135) 123) (eV (.int 5))), (tCmp .Eq (eAttr (eLoc 135) 123) (eV (.int 17)))]) sFls (sSeq (sIf (tCmp .Eq (eAttr (eLoc 183) 192) (eV (.int 2))) (sSeq (sExp (eMeth 606 197 (eLoc 183) F_Elector_step_leader (esCons (eLoc 135) esNil)))
  sNil) (sSeq (sIf (tCmp .Eq (eAttr (eLoc 183) 192) (eV (.int 0))) (sSeq (sExp (eMeth 606 196 (eLoc 183) F_Elector_step_follower (esCons (eLoc 135) esNil)))
  sNil) (sSeq (sExp (eMeth 606 194 (eLoc 183) F_Elector_step_candidate (esCons (eLoc 135) esNil)))
  sNil))
  sNil))
  sNil))
  sNil))
  sNil)))
noncomputable def F_Elector_step : FW := fun args σ Q => args.length = 2 ∧ W_Elector_step ([183, 135].zip args) σ fun fl _ σ' => Q (retV fl) σ'
theorem s_Elector_step : SFc (ZZ u) 11 526 F_Elector_step := by
  refine s_def (W := W_Elector_step) d_Elector_step (by kernel_rfl) ?_
  refine ss_cons ?_ ?_
  refine ss_if ?_ ?_ ?_
  refine st_or ?_
  refine .cons ?_ ?_
  refine st_cmp ?_ ?_ rfl rfl
  refine se_attr ?_ n_123 (fun _ => at_Name)
  refine se_loc n_135
  refine se_gint n_32 (by kernel_rfl) (g_MSG_WANT _)
  refine .cons ?_ ?_
  refine st_cmp ?_ ?_ rfl rfl
  refine se_attr ?_ n_123 (fun _ => at_Name)
  refine se_loc n_135
  refine se_gint n_20 (by kernel_rfl) (g_MSG_PIECE _)
  refine .nil
  refine ss_flss
  refine ss_nil
  refine ss_cons ?_ ?_
  refine ss_if ?_ ?_ ?_
  refine st_not ?_
  refine st_val ?_ (fun _ _ => tr_Call)
  refine se_methG ?_ (s_Elector_settle_term.mono (by decide)) ?_ n_186 (lt (by decide)) (m_Elector_settle_term _) (fun _ _ => ab_Name) rfl
  refine se_loc n_183
  refine es_cons ?_ ?_ (fun _ => sE_Name)
  refine se_loc n_135
  refine es_nil
  refine ss_cons ?_ ?_
  refine ss_ret0
  refine ss_nil
  refine ss_nil
  refine ss_cons ?_ ?_
  refine ss_if ?_ ?_ ?_
  refine st_cmp ?_ ?_ rfl rfl
  refine se_attr ?_ n_123 (fun _ => at_Name)
  refine se_loc n_135
  refine se_gint n_19 (by kernel_rfl) (g_MSG_HUP _)
  refine ss_cons ?_ ?_
  refine ss_if ?_ ?_ ?_
  refine st_val ?_ (fun _ _ => tr_Attribute)
  refine se_attr ?_ n_167 (fun _ => at_Name)
  refine se_loc n_183
  refine ss_cons ?_ ?_
  refine ss_exp ?_ (fun _ => sw_Call)
  refine se_methG ?_ (s_Elector_hup.mono (by decide)) ?_ n_111 (lt (by decide)) (m_Elector_hup _) (fun _ _ => ab_Name) rfl
  refine se_loc n_183
  refine es_cons ?_ ?_ (fun _ => sE_Name)
  refine se_gint n_3 (by kernel_rfl) (g_CAMP_PRE _)
  refine es_nil
  refine ss_nil
  refine ss_cons ?_ ?_
  refine ss_exp ?_ (fun _ => sw_Call)
  refine se_methG ?_ (s_Elector_hup.mono (by decide)) ?_ n_111 (lt (by decide)) (m_Elector_hup _) (fun _ _ => ab_Name) rfl
  refine se_loc n_183
  refine es_cons ?_ ?_ (fun _ => sE_Name)
  refine se_gint n_2 (by kernel_rfl) (g_CAMP_ELECTION _)
  refine es_nil
  refine ss_nil
  refine ss_nil
  refine ss_cons ?_ ?_
  refine ss_if ?_ ?_ ?_
  refine st_or ?_
  refine .cons ?_ ?_
  refine st_cmp ?_ ?_ rfl rfl
  refine se_attr ?_ n_123 (fun _ => at_Name)
  refine se_loc n_135
  refine se_gint n_30 (by kernel_rfl) (g_MSG_VOTE _)
  refine .cons ?_ ?_
  refine st_cmp ?_ ?_ rfl rfl
  refine se_attr ?_ n_123 (fun _ => at_Name)
  refine se_loc n_135
  refine se_gint n_21 (by kernel_rfl) (g_MSG_PRE_VOTE _)
  refine .nil
  refine ss_flss
  refine ss_cons ?_ ?_
  refine ss_if ?_ ?_ ?_
  refine st_cmp ?_ ?_ rfl rfl
  refine se_attr ?_ n_192 (fun _ => at_Name)
  refine se_loc n_183
  refine se_gint n_11 (by kernel_rfl) (g_LEADER _)
  refine ss_cons ?_ ?_
  refine ss_exp ?_ (fun _ => sw_Call)
  refine se_methG ?_ (s_Elector_step_leader.mono (by decide)) ?_ n_197 (lt (by decide)) (m_Elector_step_leader _) (fun _ _ => ab_Name) rfl
  refine se_loc n_183
  refine es_cons ?_ ?_ (fun _ => sE_Name)
  refine se_loc n_135
  refine es_nil
  refine ss_nil
  refine ss_cons ?_ ?_
  refine ss_if ?_ ?_ ?_
  refine st_cmp ?_ ?_ rfl rfl
  refine se_attr ?_ n_192 (fun _ => at_Name)
  refine se_loc n_183
  refine se_gint n_9 (by kernel_rfl) (g_FOLLOWER _)
  refine ss_cons ?_ ?_
  refine ss_exp ?_ (fun _ => sw_Call)
  refine se_methG ?_ (s_Elector_step_follower.mono (by decide)) ?_ n_196 (lt (by decide)) (m_Elector_step_follower _) (fun _ _ => ab_Name) rfl
  refine se_loc n_183
  refine es_cons ?_ ?_ (fun _ => sE_Name)
  refine se_loc n_135
  refine es_nil
  refine ss_nil
  refine ss_cons ?_ ?_
  refine ss_exp ?_ (fun _ => sw_Call)
  refine se_methG ?_ (s_Elector_step_candidate.mono (by decide)) ?_ n_194 (lt (by decide)) (m_Elector_step_candidate _) (fun _ _ => ab_Name) rfl
  refine se_loc n_183
  refine es_cons ?_ ?_ (fun _ => sE_Name)
  refine se_loc n_135
  refine es_nil
  refine ss_nil
  refine ss_nil
  refine ss_nil
  refine ss_nil
  refine ss_nil
theorem d_law_orders : DefOk (ZZ u) 617 [] (stScope (topSt 59)) (stBody (topSt 59)) :=
  defOk (qual := "_law_orders") (pm := vs "law_nz0373_01" 1044) (code := 616) (by kernel_rfl) (by kernel_rfl) (len0 (by kernel_rfl)) (by decide) (by decide +kernel) (by kernel_rfl) (by kernel_rfl) (by kernel_rfl)
noncomputable def W_law_orders : SW := (sSeq (sRet (eList (esCons (eTup (esCons (eV (.int 0)) (esCons (eV (.int 1)) (esCons (eV (.int 2)) esNil)))) (esCons (eTup (esCons (eV (.int 0)) (esCons (eV (.int 2)) (esCons (eV (.int 1)) esNil)))) (esCons (eTup (esCons (eV (.int 1)) (esCons (eV (.int 0)) (esCons (eV (.int 2)) esNil)))) (esCons (eTup (esCons (eV (.int 1)) (esCons (eV (.int 2)) (esCons (eV (.int 0)) esNil)))) (esCons (eTup (esCons (eV (.int 2)) (esCons (eV (.int 0)) (esCons (eV (.int 1)) esNil)))) (esCons (eTup (esCons (eV (.int 2)) (esCons (eV (.int 1)) (esCons (eV (.int 0)) esNil)))) esNil))))))))
  sNil)
noncomputable def F_law_orders : FW := fun args σ Q => args.length = 0 ∧ W_law_orders ([].zip args) σ fun fl _ σ' => Q (retV fl) σ'
theorem s_law_orders : SFc (ZZ u) 1 617 F_law_orders := by
  refine s_def (W := W_law_orders) d_law_orders (by kernel_rfl) ?_
  refine ss_cons ?_ ?_
  refine ss_ret ?_
  refine se_list ?_
  refine es_cons ?_ ?_ (fun _ => sE_Tuple)
  refine se_tup ?_
  refine es_cons ?_ ?_ (fun _ => sE_Constant)
  refine se_int
  refine es_cons ?_ ?_ (fun _ => sE_Constant)
  refine se_int
  refine es_cons ?_ ?_ (fun _ => sE_Constant)
  refine se_int
  refine es_nil
  refine es_cons ?_ ?_ (fun _ => sE_Tuple)
  refine se_tup ?_
  refine es_cons ?_ ?_ (fun _ => sE_Constant)
  refine se_int
  refine es_cons ?_ ?_ (fun _ => sE_Constant)
  refine se_int
  refine es_cons ?_ ?_ (fun _ => sE_Constant)
  refine se_int
  refine es_nil
  refine es_cons ?_ ?_ (fun _ => sE_Tuple)
  refine se_tup ?_
  refine es_cons ?_ ?_ (fun _ => sE_Constant)
  refine se_int
  refine es_cons ?_ ?_ (fun _ => sE_Constant)
  refine se_int
  refine es_cons ?_ ?_ (fun _ => sE_Constant)
  refine se_int
  refine es_nil
  refine es_cons ?_ ?_ (fun _ => sE_Tuple)
  refine se_tup ?_
  refine es_cons ?_ ?_ (fun _ => sE_Constant)
  refine se_int
  refine es_cons ?_ ?_ (fun _ => sE_Constant)
  refine se_int
  refine es_cons ?_ ?_ (fun _ => sE_Constant)
  refine se_int
  refine es_nil
  refine es_cons ?_ ?_ (fun _ => sE_Tuple)
  refine se_tup ?_
  refine es_cons ?_ ?_ (fun _ => sE_Constant)
  refine se_int
  refine es_cons ?_ ?_ (fun _ => sE_Constant)
  refine se_int
  refine es_cons ?_ ?_ (fun _ => sE_Constant)
  refine se_int
  refine es_nil
  refine es_cons ?_ ?_ (fun _ => sE_Tuple)
  refine se_tup ?_
  refine es_cons ?_ ?_ (fun _ => sE_Constant)
  refine se_int
  refine es_cons ?_ ?_ (fun _ => sE_Constant)
  refine se_int
  refine es_cons ?_ ?_ (fun _ => sE_Constant)
  refine se_int
  refine es_nil
  refine es_nil
  refine ss_nil
theorem d_law_draw : DefOk (ZZ u) 624 [156, 112] (stScope (topSt 60)) (stBody (topSt 60)) :=
  defOk (qual := "_law_draw") (pm := vs "law_nz0373_01" 1044) (code := 623) (by kernel_rfl) (by kernel_rfl) (len2 fun _ _ => by kernel_rfl) (by decide) (by decide +kernel) (by kernel_rfl) (by kernel_rfl) (by kernel_rfl)
noncomputable def W_law_draw : SW := (sSeq (sRet (eBin .Add (eIdx (eLoc 156) (eBin .Mod (eLoc 112) (eLen (eLoc 156)))) (eBin .Mult (eV (.int 7919)) (eBin .FloorDiv (eLoc 112) (eLen (eLoc 156))))))
  sNil)
noncomputable def F_law_draw : FW := fun args σ Q => args.length = 2 ∧ W_law_draw ([156, 112].zip args) σ fun fl _ σ' => Q (retV fl) σ'
theorem s_law_draw : SFc (ZZ u) 1 624 F_law_draw := by
  refine s_def (W := W_law_draw) d_law_draw (by kernel_rfl) ?_
  refine ss_cons ?_ ?_
  refine ss_ret ?_
  refine se_bin ?_ ?_
  refine se_idx ?_ ?_ (fun _ _ _ => su_BinOp)
  refine se_loc n_156
  refine se_bin ?_ ?_
  refine se_loc n_112
  refine se_len ⟨n_133, by kernel_rfl, g_len _, b_len, by decide⟩ ?_ (fun _ => sE_Name)
  refine se_loc n_156
  refine se_bin ?_ ?_
  refine se_int
  refine se_bin ?_ ?_
  refine se_loc n_112
  refine se_len ⟨n_133, by kernel_rfl, g_len _, b_len, by decide⟩ ?_ (fun _ => sE_Name)
  refine se_loc n_156
  refine ss_nil
theorem d_law_says : DefOk (ZZ u) 631 [123, 99, 200, 153] (stScope (topSt 61)) (stBody (topSt 61)) :=
  defOk (qual := "_law_says") (pm := vs "law_nz0373_01" 1044) (code := 630) (by kernel_rfl) (by kernel_rfl) (len4 fun _ _ _ _ => by kernel_rfl) (by decide) (by decide +kernel) (by kernel_rfl) (by kernel_rfl) (by kernel_rfl)
noncomputable def W_law_says : SW := (sSeq (sAsg 135 (eNew 132 F_Message_init (esCons (eLoc 123) (esCons (eV (.int 1)) (esCons (eLoc 99) (esCons (eLoc 200) esNil))))))
  (sSeq (sSet (eLoc 153) (eLoc 135) 171)
  (sSeq (sRet (eLoc 135))
  sNil)))
noncomputable def F_law_says : FW := fun args σ Q => args.length = 4 ∧ W_law_says ([123, 99, 200, 153].zip args) σ fun fl _ σ' => Q (retV fl) σ'
theorem s_law_says : SFc (ZZ u) 3 631 F_law_says := by
  refine s_def (W := W_law_says) d_law_says (by kernel_rfl) ?_
  refine ss_cons ?_ ?_
  refine ss_asg ?_ n_135 (lt (by decide)) (by kernel_rfl) (fun _ _ => sw_Call)
  refine se_new (s_Message_init.mono (by decide)) ?_ n_33 (by kernel_rfl) (g_Message _) (c_Message _)
  refine es_cons ?_ ?_ (fun _ => sE_Name)
  refine se_loc n_123
  refine es_cons ?_ ?_ (fun _ => sE_Constant)
  refine se_int
  refine es_cons ?_ ?_ (fun _ => sE_Name)
  refine se_loc n_99
  refine es_cons ?_ ?_ (fun _ => sE_Name)
  refine se_loc n_200
  refine es_nil
  refine ss_cons ?_ ?_
  refine ss_set ?_ ?_ n_171 (fun _ => sw_Name)
  refine se_loc n_153
  refine se_loc n_135
  refine ss_cons ?_ ?_
  refine ss_ret ?_
  refine se_loc n_135
  refine ss_nil
theorem d_law_word : DefOk (ZZ u) 638 [214, 96, 166, 117, 200] (stScope (topSt 62)) (stBody (topSt 62)) :=
  defOk (qual := "_law_word") (pm := vs "law_nz0373_01" 1044) (code := 637) (by kernel_rfl) (by kernel_rfl) (len5 fun _ _ _ _ _ => by kernel_rfl) (by decide) (by decide +kernel) (by kernel_rfl) (by kernel_rfl) (by kernel_rfl)
noncomputable def W_law_word : SW := (sSeq (sAsg 123 (eV (.int 6)))
  (sSeq (sAsg 160 (eV (.int 18)))
  (sSeq (sAsg 163 (eBin .Add (eLoc 200) (eV (.int 1))))
  (sSeq (sIf (tVal (eLoc 166)) (sSeq (sAsg 123 (eV (.int 18)))
  (sSeq (sAsg 160 (eV (.int 6)))
  (sSeq (sAsg 163 (eLoc 200))
  sNil))) sNil)
  (sSeq (sAsg 221 (eCall F_law_says (esCons (eLoc 123) (esCons (eLoc 117) (esCons (eBin .Add (eLoc 200) (eV (.int 1))) (esCons (eV (.bool false)) esNil))))))
  (sSeq (sAsg 153 (eCall F_law_says (esCons (eLoc 123) (esCons (eLoc 117) (esCons (eLoc 163) (esCons (eV (.bool true)) esNil))))))
  (sSeq (sIf (tCmp .Eq (eLoc 214) (eV (.int 1))) (sSeq (sRet (eList (esCons (eLoc 153) esNil)))
  sNil) sNil)
  (sSeq (sIf (tCmp .Eq (eLoc 214) (eV (.int 2))) (sSeq (sRet (eList (esCons (eLoc 221) (esCons (eLoc 221) esNil))))
  sNil) sNil)
  (sSeq (sIf (tCmp .Eq (eLoc 214) (eV (.int 3))) (sSeq (sRet (eList (esCons (eLoc 221) (esCons (eLoc 153) esNil))))
  sNil) sNil)
  (sSeq (sIf (tCmp .Eq (eLoc 214) (eV (.int 4))) (sSeq (sRet (eList (esCons (eCall F_law_says (esCons (eLoc 123) (esCons (eLoc 117) (esCons (eBin .Sub (eLoc 163) (eV (.int 1))) (esCons (eCmp .Eq (eBin .Mod (eLoc 96) (eV (.int 2))) (eV (.int 1))) esNil))))) esNil)))
  sNil) sNil)
  (sSeq (sIf (tCmp .Eq (eLoc 214) (eV (.int 5))) (sSeq (sRet (eList (esCons (eCall F_law_says (esCons (eLoc 123) (esCons (eLoc 117) (esCons (eBin .Add (eBin .Add (eLoc 200) (eV (.int 2))) (eLoc 96)) (esCons (eV (.bool true)) esNil))))) esNil)))
  sNil) sNil)
  (sSeq (sIf (tCmp .Eq (eLoc 214) (eV (.int 6))) (sSeq (sRet (eList (esCons (eCall F_law_says (esCons (eLoc 160) (esCons (eLoc 117) (esCons (eLoc 163) (esCons (eV (.bool false)) esNil))))) esNil)))
  sNil) sNil)
  (sSeq (sRet (eList (esCons (eLoc 221) esNil)))
  sNil)))))))))))))
noncomputable def F_law_word : FW := fun args σ Q => args.length = 5 ∧ W_law_word ([214, 96, 166, 117, 200].zip args) σ fun fl _ σ' => Q (retV fl) σ'
theorem s_law_word : SFc (ZZ u) 4 638 F_law_word := by
  refine s_def (W := W_law_word) d_law_word (by kernel_rfl) ?_
  refine ss_cons ?_ ?_
  refine ss_asg ?_ n_123 (lt (by decide)) (by kernel_rfl) (fun _ _ => sw_Name)
  refine se_gint n_31 (by kernel_rfl) (g_MSG_VOTE_RESP _)
  refine ss_cons ?_ ?_
  refine ss_asg ?_ n_160 (lt (by decide)) (by kernel_rfl) (fun _ _ => sw_Name)
  refine se_gint n_22 (by kernel_rfl) (g_MSG_PRE_VOTE_RESP _)
  refine ss_cons ?_ ?_
  refine ss_asg ?_ n_163 (lt (by decide)) (by kernel_rfl) (fun _ _ => sw_BinOp)
  refine se_bin ?_ ?_
  refine se_loc n_200
  refine se_int
  refine ss_cons ?_ ?_
  refine ss_if ?_ ?_ ?_
  refine st_val ?_ (fun _ _ => tr_Name)
  refine se_loc n_166
  refine ss_cons ?_ ?_
  refine ss_asg ?_ n_123 (lt (by decide)) (by kernel_rfl) (fun _ _ => sw_Name)
  refine se_gint n_22 (by kernel_rfl) (g_MSG_PRE_VOTE_RESP _)
  refine ss_cons ?_ ?_
  refine ss_asg ?_ n_160 (lt (by decide)) (by kernel_rfl) (fun _ _ => sw_Name)
  refine se_gint n_31 (by kernel_rfl) (g_MSG_VOTE_RESP _)
  refine ss_cons ?_ ?_
  refine ss_asg ?_ n_163 (lt (by decide)) (by kernel_rfl) (fun _ _ => sw_Name)
  refine se_loc n_200
  refine ss_nil
  refine ss_nil
  refine ss_cons ?_ ?_
  refine ss_asg ?_ n_221 (lt (by decide)) (by kernel_rfl) (fun _ _ => sw_Call)
  refine se_call (s_law_says.mono (by decide)) ?_ n_50 (by kernel_rfl) (g__law_says _) (k__law_says _)
  refine es_cons ?_ ?_ (fun _ => sE_Name)
  refine se_loc n_123
  refine es_cons ?_ ?_ (fun _ => sE_Name)
  refine se_loc n_117
  refine es_cons ?_ ?_ (fun _ => sE_BinOp)
  refine se_bin ?_ ?_
  refine se_loc n_200
  refine se_int
  refine es_cons ?_ ?_ (fun _ => sE_Constant)
  refine se_bool
  refine es_nil
  refine ss_cons ?_ ?_
  refine ss_asg ?_ n_153 (lt (by decide)) (by kernel_rfl) (fun _ _ => sw_Call)
  refine se_call (s_law_says.mono (by decide)) ?_ n_50 (by kernel_rfl) (g__law_says _) (k__law_says _)
  refine es_cons ?_ ?_ (fun _ => sE_Name)
  refine se_loc n_123
  refine es_cons ?_ ?_ (fun _ => sE_Name)
  refine se_loc n_117
  refine es_cons ?_ ?_ (fun _ => sE_Name)
  refine se_loc n_163
  refine es_cons ?_ ?_ (fun _ => sE_Constant)
  refine se_bool
  refine es_nil
  refine ss_cons ?_ ?_
  refine ss_if ?_ ?_ ?_
  refine st_cmp ?_ ?_ rfl rfl
  refine se_loc n_214
  refine se_int
  refine ss_cons ?_ ?_
  refine ss_ret ?_
  refine se_list ?_
  refine es_cons ?_ ?_ (fun _ => sE_Name)
  refine se_loc n_153
  refine es_nil
  refine ss_nil
  refine ss_nil
  refine ss_cons ?_ ?_
  refine ss_if ?_ ?_ ?_
  refine st_cmp ?_ ?_ rfl rfl
  refine se_loc n_214
  refine se_int
  refine ss_cons ?_ ?_
  refine ss_ret ?_
  refine se_list ?_
  refine es_cons ?_ ?_ (fun _ => sE_Name)
  refine se_loc n_221
  refine es_cons ?_ ?_ (fun _ => sE_Name)
  refine se_loc n_221
  refine es_nil
  refine ss_nil
  refine ss_nil
  refine ss_cons ?_ ?_
  refine ss_if ?_ ?_ ?_
  refine st_cmp ?_ ?_ rfl rfl
  refine se_loc n_214
  refine se_int
  refine ss_cons ?_ ?_
  refine ss_ret ?_
  refine se_list ?_
  refine es_cons ?_ ?_ (fun _ => sE_Name)
  refine se_loc n_221
  refine es_cons ?_ ?_ (fun _ => sE_Name)
  refine se_loc n_153
  refine es_nil
  refine ss_nil
  refine ss_nil
  refine ss_cons ?_ ?_
  refine ss_if ?_ ?_ ?_
  refine st_cmp ?_ ?_ rfl rfl
  refine se_loc n_214
  refine se_int
  refine ss_cons ?_ ?_
  refine ss_ret ?_
  refine se_list ?_
  refine es_cons ?_ ?_ (fun _ => sE_Call)
  refine se_call (s_law_says.mono (by decide)) ?_ n_50 (by kernel_rfl) (g__law_says _) (k__law_says _)
  refine es_cons ?_ ?_ (fun _ => sE_Name)
  refine se_loc n_123
  refine es_cons ?_ ?_ (fun _ => sE_Name)
  refine se_loc n_117
  refine es_cons ?_ ?_ (fun _ => sE_BinOp)
  refine se_bin ?_ ?_
  refine se_loc n_163
  refine se_int
  refine es_cons ?_ ?_ (fun _ => sE_Compare)
  refine se_cmp ?_ ?_ rfl rfl
  refine se_bin ?_ ?_
  refine se_loc n_96
  refine se_int
  refine se_int
  refine es_nil
  refine es_nil
  refine ss_nil
  refine ss_nil
  refine ss_cons ?_ ?_
  refine ss_if ?_ ?_ ?_
  refine st_cmp ?_ ?_ rfl rfl
  refine se_loc n_214
  refine se_int
  refine ss_cons ?_ ?_
  refine ss_ret ?_
  refine se_list ?_
  refine es_cons ?_ ?_ (fun _ => sE_Call)
  refine se_call (s_law_says.mono (by decide)) ?_ n_50 (by kernel_rfl) (g__law_says _) (k__law_says _)
  refine es_cons ?_ ?_ (fun _ => sE_Name)
  refine se_loc n_123
  refine es_cons ?_ ?_ (fun _ => sE_Name)
  refine se_loc n_117
  refine es_cons ?_ ?_ (fun _ => sE_BinOp)
  refine se_bin ?_ ?_
  refine se_bin ?_ ?_
  refine se_loc n_200
  refine se_int
  refine se_loc n_96
  refine es_cons ?_ ?_ (fun _ => sE_Constant)
  refine se_bool
  refine es_nil
  refine es_nil
  refine ss_nil
  refine ss_nil
  refine ss_cons ?_ ?_
  refine ss_if ?_ ?_ ?_
  refine st_cmp ?_ ?_ rfl rfl
  refine se_loc n_214
  refine se_int
  refine ss_cons ?_ ?_
  refine ss_ret ?_
  refine se_list ?_
  refine es_cons ?_ ?_ (fun _ => sE_Call)
  refine se_call (s_law_says.mono (by decide)) ?_ n_50 (by kernel_rfl) (g__law_says _) (k__law_says _)
  refine es_cons ?_ ?_ (fun _ => sE_Name)
  refine se_loc n_160
  refine es_cons ?_ ?_ (fun _ => sE_Name)
  refine se_loc n_117
  refine es_cons ?_ ?_ (fun _ => sE_Name)
  refine se_loc n_163
  refine es_cons ?_ ?_ (fun _ => sE_Constant)
  refine se_bool
  refine es_nil
  refine es_nil
  refine ss_nil
  refine ss_nil
  refine ss_cons ?_ ?_
  refine ss_ret ?_
  refine se_list ?_
  refine es_cons ?_ ?_ (fun _ => sE_Name)
  refine se_loc n_221
  refine es_nil
  refine ss_nil
theorem d_law_wins : DefOk (ZZ u) 643 [106, 216] (stScope (topSt 63)) (stBody (topSt 63)) :=
  defOk (qual := "_law_wins") (pm := vs "law_nz0373_01" 1044) (code := 642) (by kernel_rfl) (by kernel_rfl) (len2 fun _ _ => by kernel_rfl) (by decide) (by decide +kernel) (by kernel_rfl) (by kernel_rfl) (by kernel_rfl)
noncomputable def W_law_wins : SW := (sSeq (sRet (eAll (eComp 105 [216] (eLoc 106) tTrue (eCmp .Gt (eBin .Mult (eV (.int 2)) (eLen (eComp 117 [216] (eLoc 105) (tIn false (eLoc 117) (eLoc 216)) (eLoc 117)))) (eLen (eLoc 105))))))
  sNil)
noncomputable def F_law_wins : FW := fun args σ Q => args.length = 2 ∧ W_law_wins ([106, 216].zip args) σ fun fl _ σ' => Q (retV fl) σ'
theorem s_law_wins : SFc (ZZ u) 1 643 F_law_wins := by
  refine s_defC (W := W_law_wins) d_law_wins (by kernel_rfl) (by decide +kernel) ?_
  refine ss_cons ?_ ?_
  refine ss_ret ?_
  refine se_all ⟨n_56, by kernel_rfl, g_all _, b_all, by decide⟩ ?_ (fun _ => sE_ListComp)
  refine se_comp (cap := [216]) ?_ ?_ ?_ n_105 (lt (by decide)) (by kernel_rfl) (fun _ _ => fo_Name)
  refine se_loc n_106
  refine stests_nil
  refine se_cmp ?_ ?_ rfl rfl
  refine se_bin ?_ ?_
  refine se_int
  refine se_len ⟨n_133, by kernel_rfl, g_len _, b_len, by decide⟩ ?_ (fun _ => sE_ListComp)
  refine se_comp (cap := [216]) ?_ ?_ ?_ n_117 (lt (by decide)) (by kernel_rfl) (fun _ _ => fo_Name)
  refine se_loc n_105
  refine stests_one ?_
  refine st_in (neg := false) rfl ?_ ?_ rfl
  refine se_loc n_117
  refine se_loc n_216
  refine se_loc n_117
  refine se_len ⟨n_133, by kernel_rfl, g_len _, b_len, by decide⟩ ?_ (fun _ => sE_Name)
  refine se_loc n_105
  refine ss_nil
theorem d_law_end : DefOk (ZZ u) 648 [106, 166, 200, 209, 221, 153, 110] (stScope (topSt 64)) (stBody (topSt 64)) :=
  defOk (qual := "_law_end") (pm := vs "law_nz0373_01" 1044) (code := 647) (by kernel_rfl) (by kernel_rfl) (len7 fun _ _ _ _ _ _ _ => by kernel_rfl) (by decide) (by decide +kernel) (by kernel_rfl) (by kernel_rfl) (by kernel_rfl)
noncomputable def W_law_end : SW := (sSeq (sIf (tCmp .Gt (eLen (eLoc 110)) (eV (.int 0))) (sSeq (sRet (eTup (esCons (eMax (eLoc 110)) (esCons (eV (.int 0)) (esCons (eV (.int 0)) (esCons (eV (.int 0)) esNil))))))
  sNil) sNil)
  (sSeq (sIf (tVal (eCall F_law_wins (esCons (eLoc 106) (esCons (eLoc 221) esNil)))) (sSeq (sIf (tAnd [(tVal (eLoc 166)), (tNot (tVal (eCall F_law_wins (esCons (eLoc 106) (esCons (eList (esCons (eV (.int 1)) esNil)) esNil)))))]) (sSeq (sRet (eTup (esCons (eBin .Add (eLoc 200) (eV (.int 1))) (esCons (eV (.int 1)) (esCons (eV (.int 1)) (esCons (eV (.int 0)) esNil))))))
  sNil) sNil)
  (sSeq (sRet (eTup (esCons (eBin .Add (eLoc 200) (eV (.int 1))) (esCons (eV (.int 1)) (esCons (eV (.int 2)) (esCons (eV (.int 1)) esNil))))))
  sNil)) sNil)
  (sSeq (sIf (tVal (eLoc 166)) (sSeq (sAsg 163 (eTup (esCons (eLoc 200) (esCons (eLoc 209) esNil))))
  (sSeq (sAsg 192 (eV (.int 3)))
  sNil)) (sSeq (sAsg 163 (eTup (esCons (eBin .Add (eLoc 200) (eV (.int 1))) (esCons (eV (.int 1)) esNil))))
  (sSeq (sAsg 192 (eV (.int 1)))
  sNil)))
  (sSeq (sIf (tNot (tVal (eCall F_law_wins (esCons (eLoc 106) (esCons (eComp 117 [153] (eTup (esCons (eV (.int 1)) (esCons (eV (.int 2)) (esCons (eV (.int 3)) (esCons (eV (.int 4)) esNil))))) (tIn true (eLoc 117) (eLoc 153)) (eLoc 117)) esNil))))) (sSeq (sAsg 192 (eV (.int 0)))
  sNil) sNil)
  (sSeq (sRet (eCatT (eLoc 163) (eTup (esCons (eLoc 192) (esCons (eV (.int 0)) esNil)))))
  sNil)))))
noncomputable def F_law_end : FW := fun args σ Q => args.length = 7 ∧ W_law_end ([106, 166, 200, 209, 221, 153, 110].zip args) σ fun fl _ σ' => Q (retV fl) σ'
theorem s_law_end : SFc (ZZ u) 2 648 F_law_end := by
  refine s_defC (W := W_law_end) d_law_end (by kernel_rfl) (by decide +kernel) ?_
  refine ss_cons ?_ ?_
  refine ss_if ?_ ?_ ?_
  refine st_cmp ?_ ?_ rfl rfl
  refine se_len ⟨n_133, by kernel_rfl, g_len _, b_len, by decide⟩ ?_ (fun _ => sE_Name)
  refine se_loc n_110
  refine se_int
  refine ss_cons ?_ ?_
  refine ss_ret ?_
  refine se_tup ?_
  refine es_cons ?_ ?_ (fun _ => sE_Call)
  refine se_max ⟨n_139, by kernel_rfl, g_max _, b_max, by decide⟩ ?_ (fun _ => sE_Name)
  refine se_loc n_110
  refine es_cons ?_ ?_ (fun _ => sE_Constant)
  refine se_int
  refine es_cons ?_ ?_ (fun _ => sE_Name)
  refine se_gint n_9 (by kernel_rfl) (g_FOLLOWER _)
  refine es_cons ?_ ?_ (fun _ => sE_Constant)
  refine se_int
  refine es_nil
  refine ss_nil
  refine ss_nil
  refine ss_cons ?_ ?_
  refine ss_if ?_ ?_ ?_
  refine st_val ?_ (fun _ _ => tr_Call)
  refine se_call (s_law_wins.mono (by decide)) ?_ n_51 (by kernel_rfl) (g__law_wins _) (k__law_wins _)
  refine es_cons ?_ ?_ (fun _ => sE_Name)
  refine se_loc n_106
  refine es_cons ?_ ?_ (fun _ => sE_Name)
  refine se_loc n_221
  refine es_nil
  refine ss_cons ?_ ?_
  refine ss_if ?_ ?_ ?_
  refine st_and ?_
  refine .cons ?_ ?_
  refine st_val ?_ (fun _ _ => tr_Name)
  refine se_loc n_166
  refine .cons ?_ ?_
  refine st_not ?_
  refine st_val ?_ (fun _ _ => tr_Call)
  refine se_call (s_law_wins.mono (by decide)) ?_ n_51 (by kernel_rfl) (g__law_wins _) (k__law_wins _)
  refine es_cons ?_ ?_ (fun _ => sE_Name)
  refine se_loc n_106
  refine es_cons ?_ ?_ (fun _ => sE_List)
  refine se_list ?_
  refine es_cons ?_ ?_ (fun _ => sE_Constant)
  refine se_int
  refine es_nil
  refine es_nil
  refine .nil
  refine ss_cons ?_ ?_
  refine ss_ret ?_
  refine se_tup ?_
  refine es_cons ?_ ?_ (fun _ => sE_BinOp)
  refine se_bin ?_ ?_
  refine se_loc n_200
  refine se_int
  refine es_cons ?_ ?_ (fun _ => sE_Constant)
  refine se_int
  refine es_cons ?_ ?_ (fun _ => sE_Name)
  refine se_gint n_5 (by kernel_rfl) (g_CANDIDATE _)
  refine es_cons ?_ ?_ (fun _ => sE_Constant)
  refine se_int
  refine es_nil
  refine ss_nil
  refine ss_nil
  refine ss_cons ?_ ?_
  refine ss_ret ?_
  refine se_tup ?_
  refine es_cons ?_ ?_ (fun _ => sE_BinOp)
  refine se_bin ?_ ?_
  refine se_loc n_200
  refine se_int
  refine es_cons ?_ ?_ (fun _ => sE_Constant)
  refine se_int
  refine es_cons ?_ ?_ (fun _ => sE_Name)
  refine se_gint n_11 (by kernel_rfl) (g_LEADER _)
  refine es_cons ?_ ?_ (fun _ => sE_Constant)
  refine se_int
  refine es_nil
  refine ss_nil
  refine ss_nil
  refine ss_cons ?_ ?_
  refine ss_if ?_ ?_ ?_
  refine st_val ?_ (fun _ _ => tr_Name)
  refine se_loc n_166
  refine ss_cons ?_ ?_
  refine ss_asg ?_ n_163 (lt (by decide)) (by kernel_rfl) (fun _ _ => sw_Tuple)
  refine se_tup ?_
  refine es_cons ?_ ?_ (fun _ => sE_Name)
  refine se_loc n_200
  refine es_cons ?_ ?_ (fun _ => sE_Name)
  refine se_loc n_209
  refine es_nil
  refine ss_cons ?_ ?_
  refine ss_asg ?_ n_192 (lt (by decide)) (by kernel_rfl) (fun _ _ => sw_Name)
  refine se_gint n_36 (by kernel_rfl) (g_PRE_CANDIDATE _)
  refine ss_nil
  refine ss_cons ?_ ?_
  refine ss_asg ?_ n_163 (lt (by decide)) (by kernel_rfl) (fun _ _ => sw_Tuple)
  refine se_tup ?_
  refine es_cons ?_ ?_ (fun _ => sE_BinOp)
  refine se_bin ?_ ?_
  refine se_loc n_200
  refine se_int
  refine es_cons ?_ ?_ (fun _ => sE_Constant)
  refine se_int
  refine es_nil
  refine ss_cons ?_ ?_
  refine ss_asg ?_ n_192 (lt (by decide)) (by kernel_rfl) (fun _ _ => sw_Name)
  refine se_gint n_5 (by kernel_rfl) (g_CANDIDATE _)
  refine ss_nil
  refine ss_cons ?_ ?_
  refine ss_if ?_ ?_ ?_
  refine st_not ?_
  refine st_val ?_ (fun _ _ => tr_Call)
  refine se_call (s_law_wins.mono (by decide)) ?_ n_51 (by kernel_rfl) (g__law_wins _) (k__law_wins _)
  refine es_cons ?_ ?_ (fun _ => sE_Name)
  refine se_loc n_106
  refine es_cons ?_ ?_ (fun _ => sE_ListComp)
  refine se_comp (cap := [153]) ?_ ?_ ?_ n_117 (lt (by decide)) (by kernel_rfl) (fun _ _ => fo_Tuple)
  refine se_tup ?_
  refine es_cons ?_ ?_ (fun _ => sE_Constant)
  refine se_int
  refine es_cons ?_ ?_ (fun _ => sE_Constant)
  refine se_int
  refine es_cons ?_ ?_ (fun _ => sE_Constant)
  refine se_int
  refine es_cons ?_ ?_ (fun _ => sE_Constant)
  refine se_int
  refine es_nil
  refine stests_one ?_
  refine st_in (neg := true) rfl ?_ ?_ rfl
  refine se_loc n_117
  refine se_loc n_153
  refine se_loc n_117
  refine es_nil
  refine ss_cons ?_ ?_
  refine ss_asg ?_ n_192 (lt (by decide)) (by kernel_rfl) (fun _ _ => sw_Name)
  refine se_gint n_9 (by kernel_rfl) (g_FOLLOWER _)
  refine ss_nil
  refine ss_nil
  refine ss_cons ?_ ?_
  refine ss_ret ?_
  refine se_catT ?_ ?_
  refine se_loc n_163
  refine se_tup ?_
  refine es_cons ?_ ?_ (fun _ => sE_Name)
  refine se_loc n_192
  refine es_cons ?_ ?_ (fun _ => sE_Constant)
  refine se_int
  refine es_nil
  refine ss_nil
theorem d_law_asked : DefOk (ZZ u) 653 [106, 123, 200, 124, 138] (stScope (topSt 65)) (stBody (topSt 65)) :=
  defOk (qual := "_law_asked") (pm := vs "law_nz0373_01" 1044) (code := 652) (by kernel_rfl) (by kernel_rfl) (len5 fun _ _ _ _ _ => by kernel_rfl) (by decide) (by decide +kernel) (by kernel_rfl) (by kernel_rfl) (by kernel_rfl)
noncomputable def W_law_asked : SW := (sSeq (sIf (tVal (eCall F_law_wins (esCons (eLoc 106) (esCons (eList (esCons (eV (.int 1)) esNil)) esNil)))) (sSeq (sRet (eList esNil))
  sNil) sNil)
  (sSeq (sRet (eComp 117 [106, 123, 124, 138, 200] (eTup (esCons (eV (.int 2)) (esCons (eV (.int 3)) (esCons (eV (.int 4)) esNil)))) (tVal (eAny (eComp 105 [117] (eLoc 106) tTrue (eIn false (eLoc 117) (eLoc 105))))) (eTup (esCons (eLoc 123) (esCons (eLoc 117) (esCons (eV (.int 1)) (esCons (eBin .Add (eLoc 200) (eV (.int 1))) (esCons (eIdx (eLoc 124) (eV (.int 0))) (esCons (eIdx (eLoc 124) (eV (.int 1))) (esCons (eLoc 138) esNil))))))))))
  sNil))
noncomputable def F_law_asked : FW := fun args σ Q => args.length = 5 ∧ W_law_asked ([106, 123, 200, 124, 138].zip args) σ fun fl _ σ' => Q (retV fl) σ'
theorem s_law_asked : SFc (ZZ u) 2 653 F_law_asked := by
  refine s_defC (W := W_law_asked) d_law_asked (by kernel_rfl) (by decide +kernel) ?_
  refine ss_cons ?_ ?_
  refine ss_if ?_ ?_ ?_
  refine st_val ?_ (fun _ _ => tr_Call)
  refine se_call (s_law_wins.mono (by decide)) ?_ n_51 (by kernel_rfl) (g__law_wins _) (k__law_wins _)
  refine es_cons ?_ ?_ (fun _ => sE_Name)
  refine se_loc n_106
  refine es_cons ?_ ?_ (fun _ => sE_List)
  refine se_list ?_
  refine es_cons ?_ ?_ (fun _ => sE_Constant)
  refine se_int
  refine es_nil
  refine es_nil
  refine ss_cons ?_ ?_
  refine ss_ret ?_
  refine se_list ?_
  refine es_nil
  refine ss_nil
  refine ss_nil
  refine ss_cons ?_ ?_
  refine ss_ret ?_
  refine se_comp (cap := [106, 123, 124, 138, 200]) ?_ ?_ ?_ n_117 (lt (by decide)) (by kernel_rfl) (fun _ _ => fo_Tuple)
  refine se_tup ?_
  refine es_cons ?_ ?_ (fun _ => sE_Constant)
  refine se_int
  refine es_cons ?_ ?_ (fun _ => sE_Constant)
  refine se_int
  refine es_cons ?_ ?_ (fun _ => sE_Constant)
  refine se_int
  refine es_nil
  refine stests_one ?_
  refine st_val ?_ (fun _ _ => tr_Call)
  refine se_any ⟨n_61, by kernel_rfl, g_any _, b_any, by decide⟩ ?_ (fun _ => sE_ListComp)
  refine se_comp (cap := [117]) ?_ ?_ ?_ n_105 (lt (by decide)) (by kernel_rfl) (fun _ _ => fo_Name)
  refine se_loc n_106
  refine stests_nil
  refine se_in (neg := false) rfl ?_ ?_ rfl
  refine se_loc n_117
  refine se_loc n_105
  refine se_tup ?_
  refine es_cons ?_ ?_ (fun _ => sE_Name)
  refine se_loc n_123
  refine es_cons ?_ ?_ (fun _ => sE_Name)
  refine se_loc n_117
  refine es_cons ?_ ?_ (fun _ => sE_Constant)
  refine se_int
  refine es_cons ?_ ?_ (fun _ => sE_BinOp)
  refine se_bin ?_ ?_
  refine se_loc n_200
  refine se_int
  refine es_cons ?_ ?_ (fun _ => sE_Subscript)
  refine se_idx ?_ ?_ (fun _ _ _ => su_Constant)
  refine se_loc n_124
  refine se_int
  refine es_cons ?_ ?_ (fun _ => sE_Subscript)
  refine se_idx ?_ ?_ (fun _ _ _ => su_Constant)
  refine se_loc n_124
  refine se_int
  refine es_cons ?_ ?_ (fun _ => sE_Name)
  refine se_loc n_138
  refine es_nil
  refine ss_nil
end

set_option maxRecDepth 100000
section
variable {u : Un}
noncomputable def W_law : SW := (sSeq (sIf (tCmp .Eq (eLen (eLoc 156)) (eV (.int 0))) (sSeq (sAsg 156 (eList (esCons (eV (.int 2)) esNil)))
  sNil) sNil)
  (sSeq (sAsg 219 (eIdx (eLoc 156) (eV (.int 0))))
  (sSeq (sAsg 150 (eBin .Mod (eLoc 219) (eV (.int 4))))
  (sSeq (sAsg 166 (eCmp .Eq (eLoc 150) (eV (.int 1))))
  (sSeq (sAsg 200 (eBin .Add (eV (.int 1)) (eBin .Mod (eBin .FloorDiv (eLoc 219) (eV (.int 4))) (eV (.int 3)))))
  (sSeq (sAsg 209 (eBin .Mult (eV (.int 3)) (eBin .Mod (eBin .FloorDiv (eLoc 219) (eV (.int 12))) (eV (.int 2)))))
  (sSeq (sAsg 124 (eTup (esCons (eBin .Add (eV (.int 2)) (eBin .Mod (eBin .FloorDiv (eLoc 219) (eV (.int 24))) (eV (.int 3)))) (esCons (eV (.int 1)) esNil))))
  (sSeq (sAsg 220 (eCall F_law_draw (esCons (eLoc 156) (esCons (eV (.int 1)) esNil))))
  (sSeq (sAsg 79 (eCat (eList (esCons (eV (.int 1)) esNil)) (eComp 117 [220] (eTup (esCons (eV (.int 2)) (esCons (eV (.int 3)) (esCons (eV (.int 4)) esNil)))) (tCmp .Eq (eBin .Mod (eBin .FloorDiv (eLoc 220) (eBin .Pow (eV (.int 2)) (eBin .Sub (eLoc 117) (eV (.int 1))))) (eV (.int 2))) (eV (.int 0))) (eLoc 117))))
  (sSeq (sAsg 103 (eList esNil))
  (sSeq (sAsg 106 (eList (esCons (eLoc 79) esNil)))
  (sSeq (sIf (tCmp .Eq (eBin .Mod (eLoc 220) (eV (.int 2))) (eV (.int 1))) (sSeq (sAsg 79 (eComp 117 [] (eLoc 79) (tCmp .Lt (eLoc 117) (eV (.int 4))) (eLoc 117)))
  (sSeq (sAsg 103 (eComp 117 [220] (eTup (esCons (eV (.int 1)) (esCons (eV (.int 2)) (esCons (eV (.int 3)) esNil)))) (tCmp .Eq (eBin .Mod (eBin .FloorDiv (eBin .Add (eV (.int 1)) (eBin .Mod (eBin .FloorDiv (eLoc 220) (eV (.int 8))) (eV (.int 7)))) (eBin .Pow (eV (.int 2)) (eBin .Sub (eLoc 117) (eV (.int 1))))) (eV (.int 2))) (eV (.int 1))) (eLoc 117)))
  (sSeq (sIf (tCmp .Eq (eBin .Mod (eBin .FloorDiv (eLoc 220) (eV (.int 56))) (eV (.int 2))) (eV (.int 1))) (sSeq (sUnp2 79 103 (eTup (esCons (eLoc 103) (esCons (eLoc 79) esNil))))
  sNil) sNil)
  (sSeq (sAsg 106 (eList (esCons (eLoc 79) (esCons (eLoc 103) esNil))))
  sNil)))) sNil)
  (sSeq (sAsg 177 (eComp 117 [79, 103] (eTup (esCons (eV (.int 2)) (esCons (eV (.int 3)) (esCons (eV (.int 4)) esNil)))) (tAnd [(tIn true (eLoc 117) (eLoc 79)), (tIn true (eLoc 117) (eLoc 103))]) (eLoc 117)))
  (sSeq (sAsg 218 (eList esNil))
  (sSeq (sAsg 221 (eList (esCons (eV (.int 1)) esNil)))
  (sSeq (sAsg 153 (eList esNil))
  (sSeq (sAsg 110 (eList esNil))
  (sSeq (sAsg 215 (eList esNil))
  (sSeq (sFor 117 (eTup (esCons (eV (.int 2)) (esCons (eV (.int 3)) (esCons (eV (.int 4)) esNil)))) (sSeq (sAsg 223 (eCall F_law_draw (esCons (eLoc 156) (esCons (eLoc 117) esNil))))
  (sSeq (sExp (sApp (eLoc 215) (eBin .Mod (eLoc 223) (eV (.int 7)))))
  (sSeq (sExp (sApp (eLoc 218) (eCall F_law_word (esCons (eBin .Mod (eLoc 223) (eV (.int 7))) (esCons (eBin .Mod (eBin .FloorDiv (eLoc 223) (eV (.int 7))) (eV (.int 3))) (esCons (eLoc 166) (esCons (eLoc 117) (esCons (eLoc 200) esNil))))))))
  (sSeq (sIf (tIn false (eBin .Mod (eLoc 223) (eV (.int 7))) (eTup (esCons (eV (.int 0)) (esCons (eV (.int 2)) (esCons (eV (.int 3)) esNil))))) (sSeq (sExp (sApp (eLoc 221) (eLoc 117)))
  sNil) sNil)
  (sSeq (sIf (tCmp .Eq (eBin .Mod (eLoc 223) (eV (.int 7))) (eV (.int 1))) (sSeq (sExp (sApp (eLoc 153) (eLoc 117)))
  sNil) sNil)
  (sSeq (sIf (tCmp .Eq (eBin .Mod (eLoc 223) (eV (.int 7))) (eV (.int 5))) (sSeq (sExp (sApp (eLoc 110) (eBin .Add (eBin .Add (eLoc 200) (eV (.int 2))) (eBin .Mod (eBin .FloorDiv (eLoc 223) (eV (.int 7))) (eV (.int 3))))))
  sNil) sNil)
  sNil)))))))
  (sSeq (sAsg 73 (eNew 319 F_RaftConfig_init (esCons (eV (.int 1)) (esCons (eV (.int 2)) (esCons (eV (.int 1)) (esCons (eV (.int 0)) esNil))))))
  (sSeq (sSet (eOr2 (eCmp .Eq (eLoc 150) (eV (.int 1))) (eCmp .Eq (eLoc 150) (eV (.int 2)))) (eLoc 73) 167)
  (sSeq (sAsg 88 (eNew 606 F_Elector_init (esCons (eLoc 73) esNil)))
  (sSeq (sAsg 147 (eNew 242 F_Config_init (esCons (eLoc 79) (esCons (eLoc 103) (esCons (eLoc 177) (esCons (eList esNil) (esCons (eV (.bool false)) esNil)))))))
  (sSeq (sAsg 92 (eCall F_law_end (esCons (eLoc 106) (esCons (eLoc 166) (esCons (eLoc 200) (esCons (eLoc 209) (esCons (eLoc 221) (esCons (eLoc 153) (esCons (eLoc 110) esNil)))))))))
  (sSeq (sAsg 123 (eV (.int 5)))
  (sSeq (sAsg 138 (eV (.bytes false)))
  (sSeq (sIf (tVal (eLoc 166)) (sSeq (sAsg 123 (eV (.int 17)))
  sNil) sNil)
  (sSeq (sIf (tCmp .Gt (eLoc 150) (eV (.int 1))) (sSeq (sAsg 138 (eV (.bytes true)))
  sNil) sNil)
  (sSeq (sFor 159 (eCall F_law_orders esNil) (sSeq (sExp (eMeth 606 69 (eLoc 88) F_Elector_become_follower (esCons (eLoc 200) (esCons (eV (.int 0)) esNil))))
  (sSeq (sExp (eMeth 606 191 (eLoc 88) F_Elector_stand (esCons (eLoc 200) (esCons (eLoc 209) (esCons (eLoc 147) (esCons (eLoc 124) esNil))))))
  (sSeq (sSet (eList esNil) (eLoc 88) 148)
  (sSeq (sIf (tAnd [(tVal (eLoc 166)), (tEqT false (eLoc 159) (eTup (esCons (eV (.int 0)) (esCons (eV (.int 1)) (esCons (eV (.int 2)) esNil))))), (tNot (tVal (eCall F_law_wins (esCons (eLoc 106) (esCons (eList (esCons (eV (.int 1)) esNil)) esNil)))))]) (sSeq (sExp (eMeth 606 193 (eLoc 88) F_Elector_step (esCons (eNew 132 F_Message_init (esCons (eV (.int 0)) (esCons (eV (.int 1)) (esCons (eV (.int 1)) (esCons (eV (.int 0)) esNil))))) esNil)))
  (sSeq (sExp (eMeth 606 193 (eLoc 88) F_Elector_step (esCons (eCall F_law_says (esCons (eV (.int 18)) (esCons (eV (.int 2)) (esCons (eLoc 200) (esCons (eV (.bool true)) esNil))))) esNil)))
  (sSeq (sSet (eList esNil) (eLoc 88) 148)
  sNil))) sNil)
  (sSeq (sIf (tCmp .Gt (eLoc 150) (eV (.int 1))) (sSeq (sExp (eMeth 606 193 (eLoc 88) F_Elector_step (esCons (eNew 132 F_Message_init (esCons (eV (.int 14)) (esCons (eV (.int 1)) (esCons (eV (.int 2)) (esCons (eLoc 200) esNil))))) esNil)))
  sNil) (sSeq (sExp (eMeth 606 193 (eLoc 88) F_Elector_step (esCons (eNew 132 F_Message_init (esCons (eV (.int 0)) (esCons (eV (.int 1)) (esCons (eV (.int 1)) (esCons (eV (.int 0)) esNil))))) esNil)))
  sNil))
  (sSeq (sAsg 89 (eList (esCons (eV (.int 1)) esNil)))
  (sSeq (sAsg 158 (eV (.bool true)))
  (sSeq (sFor 122 (eLoc 159) (sSeq (sFor 135 (eIdx (eLoc 218) (eLoc 122)) (sSeq (sExp (eMeth 606 193 (eLoc 88) F_Elector_step (esCons (eLoc 135) esNil)))
  sNil))
  (sSeq (sIf (tCmp .Eq (eIdx (eLoc 215) (eLoc 122)) (eV (.int 5))) (sSeq (sAsg 158 (eV (.bool false)))
  sNil) sNil)
  (sSeq (sIf (tAnd [(tVal (eLoc 158)), (tIn false (eBin .Add (eLoc 122) (eV (.int 2))) (eLoc 221))]) (sSeq (sExp (sApp (eLoc 89) (eBin .Add (eLoc 122) (eV (.int 2)))))
  sNil) sNil)
  sNil))))
  (sSeq (sIf (tEqT true (eTup (esCons (eAttr (eLoc 88) 200) (esCons (eAttr (eLoc 88) 209) (esCons (eAttr (eLoc 88) 192) (esCons (eAttr (eLoc 88) 129) esNil))))) (eLoc 92)) (sSeq (sRet (eV (.bool false)))
  sNil) sNil)
  (sSeq (sAsg 213 (eCall F_law_asked (esCons (eLoc 106) (esCons (eLoc 123) (esCons (eLoc 200) (esCons (eLoc 124) (esCons (eLoc 138) esNil)))))))
  (sSeq (sIf (tAnd [(tVal (eLoc 166)), (tVal (eCall F_law_wins (esCons (eLoc 106) (esCons (eLoc 89) esNil))))]) (sSeq (sAsg 213 (eCat (eLoc 213) (eCall F_law_asked (esCons (eLoc 106) (esCons (eV (.int 5)) (esCons (eLoc 200) (esCons (eLoc 124) (esCons (eLoc 138) esNil))))))))
  sNil) sNil)
  (sSeq (sIf (tNeL (eComp 135 [] (eAttr (eLoc 88) 148) tTrue (eTup (esCons (eAttr (eLoc 135) 123) (esCons (eAttr (eLoc 135) 205) (esCons (eAttr (eLoc 135) 99) (esCons (eAttr (eLoc 135) 200) (esCons (eAttr (eLoc 135) 115) (esCons (eAttr (eLoc 135) 134) (esCons (eAttr (eLoc 135) 84) esNil))))))))) (eLoc 213)) (sSeq (sRet (eV (.bool false)))
  sNil) sNil)
  (sSeq (sIf (tOr [(tCmp .Eq (eIdx (eLoc 92) (eV (.int 2))) (eV (.int 3))), (tAnd [(tCmp .Eq (eIdx (eLoc 92) (eV (.int 2))) (eV (.int 1))), (tNot (tVal (eLoc 166)))])]) (sSeq (sAsg 222 (eLen (eComp 117 [177] (eLoc 221) (tIn true (eLoc 117) (eLoc 177)) (eLoc 117))))
  (sSeq (sAsg 155 (eLen (eComp 117 [177] (eLoc 153) (tIn true (eLoc 117) (eLoc 177)) (eLoc 117))))
  (sSeq (sIf (tEqT true (eMeth 291 199 (eAttr (eLoc 88) 206) F_Ballots_tally esNil) (eTup (esCons (eLoc 222) (esCons (eLoc 155) (esCons (eV (.int 1)) esNil))))) (sSeq (sRet (eV (.bool false)))
  sNil) sNil)
  sNil))) sNil)
  sNil))))))))))))))
  (sSeq (sRet (eV (.bool true)))
  sNil))))))))))))))))))))))))))))))
theorem s_law : SSs (ZZ u) (stScope (topSt 66)) 11 (stBody (topSt 66)).tail W_law := by
  refine ss_cons ?_ ?_
  refine ss_if ?_ ?_ ?_
  refine st_cmp ?_ ?_ rfl rfl
  refine se_len ⟨n_133, by kernel_rfl, g_len _, b_len, by decide⟩ ?_ (fun _ => sE_Name)
  refine se_loc n_156
  refine se_int
  refine ss_cons ?_ ?_
  refine ss_asg ?_ n_156 (lt (by decide)) (by kernel_rfl) (fun _ _ => sw_List)
  refine se_list ?_
  refine es_cons ?_ ?_ (fun _ => sE_Constant)
  refine se_int
  refine es_nil
  refine ss_nil
  refine ss_nil
  refine ss_cons ?_ ?_
  refine ss_asg ?_ n_219 (lt (by decide)) (by kernel_rfl) (fun _ _ => sw_Subscript)
  refine se_idx ?_ ?_ (fun _ _ _ => su_Constant)
  refine se_loc n_156
  refine se_int
  refine ss_cons ?_ ?_
  refine ss_asg ?_ n_150 (lt (by decide)) (by kernel_rfl) (fun _ _ => sw_BinOp)
  refine se_bin ?_ ?_
  refine se_loc n_219
  refine se_int
  refine ss_cons ?_ ?_
  refine ss_asg ?_ n_166 (lt (by decide)) (by kernel_rfl) (fun _ _ => sw_Compare)
  refine se_cmp ?_ ?_ rfl rfl
  refine se_loc n_150
  refine se_int
  refine ss_cons ?_ ?_
  refine ss_asg ?_ n_200 (lt (by decide)) (by kernel_rfl) (fun _ _ => sw_BinOp)
  refine se_bin ?_ ?_
  refine se_int
  refine se_bin ?_ ?_
  refine se_bin ?_ ?_
  refine se_loc n_219
  refine se_int
  refine se_int
  refine ss_cons ?_ ?_
  refine ss_asg ?_ n_209 (lt (by decide)) (by kernel_rfl) (fun _ _ => sw_BinOp)
  refine se_bin ?_ ?_
  refine se_int
  refine se_bin ?_ ?_
  refine se_bin ?_ ?_
  refine se_loc n_219
  refine se_int
  refine se_int
  refine ss_cons ?_ ?_
  refine ss_asg ?_ n_124 (lt (by decide)) (by kernel_rfl) (fun _ _ => sw_Tuple)
  refine se_tup ?_
  refine es_cons ?_ ?_ (fun _ => sE_BinOp)
  refine se_bin ?_ ?_
  refine se_int
  refine se_bin ?_ ?_
  refine se_bin ?_ ?_
  refine se_loc n_219
  refine se_int
  refine se_int
  refine es_cons ?_ ?_ (fun _ => sE_Constant)
  refine se_int
  refine es_nil
  refine ss_cons ?_ ?_
  refine ss_asg ?_ n_220 (lt (by decide)) (by kernel_rfl) (fun _ _ => sw_Call)
  refine se_call (s_law_draw.mono (by decide)) ?_ n_47 (by kernel_rfl) (g__law_draw _) (k__law_draw _)
  refine es_cons ?_ ?_ (fun _ => sE_Name)
  refine se_loc n_156
  refine es_cons ?_ ?_ (fun _ => sE_Constant)
  refine se_int
  refine es_nil
  refine ss_cons ?_ ?_
  refine ss_asg ?_ n_79 (lt (by decide)) (by kernel_rfl) (fun _ _ => sw_BinOp)
  refine se_cat ?_ ?_
  refine se_list ?_
  refine es_cons ?_ ?_ (fun _ => sE_Constant)
  refine se_int
  refine es_nil
  refine se_comp (cap := [220]) ?_ ?_ ?_ n_117 (lt (by decide)) (by kernel_rfl) (fun _ _ => fo_Tuple)
  refine se_tup ?_
  refine es_cons ?_ ?_ (fun _ => sE_Constant)
  refine se_int
  refine es_cons ?_ ?_ (fun _ => sE_Constant)
  refine se_int
  refine es_cons ?_ ?_ (fun _ => sE_Constant)
  refine se_int
  refine es_nil
  refine stests_one ?_
  refine st_cmp ?_ ?_ rfl rfl
  refine se_bin ?_ ?_
  refine se_bin ?_ ?_
  refine se_loc n_220
  refine se_bin ?_ ?_
  refine se_int
  refine se_bin ?_ ?_
  refine se_loc n_117
  refine se_int
  refine se_int
  refine se_int
  refine se_loc n_117
  refine ss_cons ?_ ?_
  refine ss_asg ?_ n_103 (lt (by decide)) (by kernel_rfl) (fun _ _ => sw_List)
  refine se_list ?_
  refine es_nil
  refine ss_cons ?_ ?_
  refine ss_asg ?_ n_106 (lt (by decide)) (by kernel_rfl) (fun _ _ => sw_List)
  refine se_list ?_
  refine es_cons ?_ ?_ (fun _ => sE_Name)
  refine se_loc n_79
  refine es_nil
  refine ss_cons ?_ ?_
  refine ss_if ?_ ?_ ?_
  refine st_cmp ?_ ?_ rfl rfl
  refine se_bin ?_ ?_
  refine se_loc n_220
  refine se_int
  refine se_int
  refine ss_cons ?_ ?_
  refine ss_asg ?_ n_79 (lt (by decide)) (by kernel_rfl) (fun env h => by obtain ⟨sc, l, g, cs, q, f, cd, fr, bl⟩ := env; cases h; kernel_rfl)
  refine se_comp (cap := []) ?_ ?_ ?_ n_117 (lt (by decide)) (by kernel_rfl) (fun _ _ => fo_Name)
  refine se_loc n_79
  refine stests_one ?_
  refine st_cmp ?_ ?_ rfl rfl
  refine se_loc n_117
  refine se_int
  refine se_loc n_117
  refine ss_cons ?_ ?_
  refine ss_asg ?_ n_103 (lt (by decide)) (by kernel_rfl) (fun env h => by obtain ⟨sc, l, g, cs, q, f, cd, fr, bl⟩ := env; cases h; kernel_rfl)
  refine se_comp (cap := [220]) ?_ ?_ ?_ n_117 (lt (by decide)) (by kernel_rfl) (fun _ _ => fo_Tuple)
  refine se_tup ?_
  refine es_cons ?_ ?_ (fun _ => sE_Constant)
  refine se_int
  refine es_cons ?_ ?_ (fun _ => sE_Constant)
  refine se_int
  refine es_cons ?_ ?_ (fun _ => sE_Constant)
  refine se_int
  refine es_nil
  refine stests_one ?_
  refine st_cmp ?_ ?_ rfl rfl
  refine se_bin ?_ ?_
  refine se_bin ?_ ?_
  refine se_bin ?_ ?_
  refine se_int
  refine se_bin ?_ ?_
  refine se_bin ?_ ?_
  refine se_loc n_220
  refine se_int
  refine se_int
  refine se_bin ?_ ?_
  refine se_int
  refine se_bin ?_ ?_
  refine se_loc n_117
  refine se_int
  refine se_int
  refine se_int
  refine se_loc n_117
  refine ss_cons ?_ ?_
  refine ss_if ?_ ?_ ?_
  refine st_cmp ?_ ?_ rfl rfl
  refine se_bin ?_ ?_
  refine se_bin ?_ ?_
  refine se_loc n_220
  refine se_int
  refine se_int
  refine se_int
  refine ss_cons ?_ ?_
  refine ss_unp2 ?_ n_79 n_103 (lt (by decide)) (lt (by decide)) (by kernel_rfl) (by kernel_rfl) (fun _ => rfl) (fun env h => by obtain ⟨sc, l, g, cs, q, f, cd, fr, bl⟩ := env; cases h; kernel_rfl)
  refine se_tup ?_
  refine es_cons ?_ ?_ (fun _ => sE_Name)
  refine se_loc n_103
  refine es_cons ?_ ?_ (fun _ => sE_Name)
  refine se_loc n_79
  refine es_nil
  refine ss_nil
  refine ss_nil
  refine ss_cons ?_ ?_
  refine ss_asg ?_ n_106 (lt (by decide)) (by kernel_rfl) (fun _ _ => sw_List)
  refine se_list ?_
  refine es_cons ?_ ?_ (fun _ => sE_Name)
  refine se_loc n_79
  refine es_cons ?_ ?_ (fun _ => sE_Name)
  refine se_loc n_103
  refine es_nil
  refine ss_nil
  refine ss_nil
  refine ss_cons ?_ ?_
  refine ss_asg ?_ n_177 (lt (by decide)) (by kernel_rfl) (fun env h => by obtain ⟨sc, l, g, cs, q, f, cd, fr, bl⟩ := env; cases h; kernel_rfl)
  refine se_comp (cap := [79, 103]) ?_ ?_ ?_ n_117 (lt (by decide)) (by kernel_rfl) (fun _ _ => fo_Tuple)
  refine se_tup ?_
  refine es_cons ?_ ?_ (fun _ => sE_Constant)
  refine se_int
  refine es_cons ?_ ?_ (fun _ => sE_Constant)
  refine se_int
  refine es_cons ?_ ?_ (fun _ => sE_Constant)
  refine se_int
  refine es_nil
  refine stests_one ?_
  refine st_and ?_
  refine .cons ?_ ?_
  refine st_in (neg := true) rfl ?_ ?_ rfl
  refine se_loc n_117
  refine se_loc n_79
  refine .cons ?_ ?_
  refine st_in (neg := true) rfl ?_ ?_ rfl
  refine se_loc n_117
  refine se_loc n_103
  refine .nil
  refine se_loc n_117
  refine ss_cons ?_ ?_
  refine ss_asg ?_ n_218 (lt (by decide)) (by kernel_rfl) (fun _ _ => sw_List)
  refine se_list ?_
  refine es_nil
  refine ss_cons ?_ ?_
  refine ss_asg ?_ n_221 (lt (by decide)) (by kernel_rfl) (fun _ _ => sw_List)
  refine se_list ?_
  refine es_cons ?_ ?_ (fun _ => sE_Constant)
  refine se_int
  refine es_nil
  refine ss_cons ?_ ?_
  refine ss_asg ?_ n_153 (lt (by decide)) (by kernel_rfl) (fun _ _ => sw_List)
  refine se_list ?_
  refine es_nil
  refine ss_cons ?_ ?_
  refine ss_asg ?_ n_110 (lt (by decide)) (by kernel_rfl) (fun _ _ => sw_List)
  refine se_list ?_
  refine es_nil
  refine ss_cons ?_ ?_
  refine ss_asg ?_ n_215 (lt (by decide)) (by kernel_rfl) (fun _ _ => sw_List)
  refine se_list ?_
  refine es_nil
  refine ss_cons ?_ ?_
  refine ss_for ?_ ?_ n_117 (lt (by decide)) (by kernel_rfl) (fun _ _ => fo_Tuple)
  refine se_tup ?_
  refine es_cons ?_ ?_ (fun _ => sE_Constant)
  refine se_int
  refine es_cons ?_ ?_ (fun _ => sE_Constant)
  refine se_int
  refine es_cons ?_ ?_ (fun _ => sE_Constant)
  refine se_int
  refine es_nil
  refine ss_cons ?_ ?_
  refine ss_asg ?_ n_223 (lt (by decide)) (by kernel_rfl) (fun _ _ => sw_Call)
  refine se_call (s_law_draw.mono (by decide)) ?_ n_47 (by kernel_rfl) (g__law_draw _) (k__law_draw _)
  refine es_cons ?_ ?_ (fun _ => sE_Name)
  refine se_loc n_156
  refine es_cons ?_ ?_ (fun _ => sE_Name)
  refine se_loc n_117
  refine es_nil
  refine ss_cons ?_ ?_
  refine ss_exp ?_ (fun _ => sw_Call)
  refine se_appendG rfl ?_ ?_ (fun _ => sE_BinOp) (fun _ _ => ab_Name) rfl
  refine se_loc n_215
  refine se_bin ?_ ?_
  refine se_loc n_223
  refine se_int
  refine ss_cons ?_ ?_
  refine ss_exp ?_ (fun _ => sw_Call)
  refine se_appendG rfl ?_ ?_ (fun _ => sE_Call) (fun _ _ => ab_Name) rfl
  refine se_loc n_218
  refine se_call (s_law_word.mono (by decide)) ?_ n_52 (by kernel_rfl) (g__law_word _) (k__law_word _)
  refine es_cons ?_ ?_ (fun _ => sE_BinOp)
  refine se_bin ?_ ?_
  refine se_loc n_223
  refine se_int
  refine es_cons ?_ ?_ (fun _ => sE_BinOp)
  refine se_bin ?_ ?_
  refine se_bin ?_ ?_
  refine se_loc n_223
  refine se_int
  refine se_int
  refine es_cons ?_ ?_ (fun _ => sE_Name)
  refine se_loc n_166
  refine es_cons ?_ ?_ (fun _ => sE_Name)
  refine se_loc n_117
  refine es_cons ?_ ?_ (fun _ => sE_Name)
  refine se_loc n_200
  refine es_nil
  refine ss_cons ?_ ?_
  refine ss_if ?_ ?_ ?_
  refine st_in (neg := false) rfl ?_ ?_ rfl
  refine se_bin ?_ ?_
  refine se_loc n_223
  refine se_int
  refine se_tup ?_
  refine es_cons ?_ ?_ (fun _ => sE_Constant)
  refine se_int
  refine es_cons ?_ ?_ (fun _ => sE_Constant)
  refine se_int
  refine es_cons ?_ ?_ (fun _ => sE_Constant)
  refine se_int
  refine es_nil
  refine ss_cons ?_ ?_
  refine ss_exp ?_ (fun _ => sw_Call)
  refine se_appendG rfl ?_ ?_ (fun _ => sE_Name) (fun _ _ => ab_Name) rfl
  refine se_loc n_221
  refine se_loc n_117
  refine ss_nil
  refine ss_nil
  refine ss_cons ?_ ?_
  refine ss_if ?_ ?_ ?_
  refine st_cmp ?_ ?_ rfl rfl
  refine se_bin ?_ ?_
  refine se_loc n_223
  refine se_int
  refine se_int
  refine ss_cons ?_ ?_
  refine ss_exp ?_ (fun _ => sw_Call)
  refine se_appendG rfl ?_ ?_ (fun _ => sE_Name) (fun _ _ => ab_Name) rfl
  refine se_loc n_153
  refine se_loc n_117
  refine ss_nil
  refine ss_nil
  refine ss_cons ?_ ?_
  refine ss_if ?_ ?_ ?_
  refine st_cmp ?_ ?_ rfl rfl
  refine se_bin ?_ ?_
  refine se_loc n_223
  refine se_int
  refine se_int
  refine ss_cons ?_ ?_
  refine ss_exp ?_ (fun _ => sw_Call)
  refine se_appendG rfl ?_ ?_ (fun _ => sE_BinOp) (fun _ _ => ab_Name) rfl
  refine se_loc n_110
  refine se_bin ?_ ?_
  refine se_bin ?_ ?_
  refine se_loc n_200
  refine se_int
  refine se_bin ?_ ?_
  refine se_bin ?_ ?_
  refine se_loc n_223
  refine se_int
  refine se_int
  refine ss_nil
  refine ss_nil
  refine ss_nil
  refine ss_cons ?_ ?_
  refine ss_asg ?_ n_73 (lt (by decide)) (by kernel_rfl) (fun _ _ => sw_Call)
  refine se_new (s_RaftConfig_init.mono (by decide)) ?_ n_38 (by kernel_rfl) (g_RaftConfig _) (c_RaftConfig _)
  refine es_cons ?_ ?_ (fun _ => sE_Constant)
  refine se_int
  refine es_cons ?_ ?_ (fun _ => sE_Constant)
  refine se_int
  refine es_cons ?_ ?_ (fun _ => sE_Constant)
  refine se_int
  refine es_cons ?_ ?_ (fun _ => sE_Constant)
  refine se_int
  refine es_nil
  refine ss_cons ?_ ?_
  refine ss_set ?_ ?_ n_167 (fun _ => sw_BoolOp)
  refine se_or2 ?_ ?_
  refine se_cmp ?_ ?_ rfl rfl
  refine se_loc n_150
  refine se_int
  refine se_cmp ?_ ?_ rfl rfl
  refine se_loc n_150
  refine se_int
  refine se_loc n_73
  refine ss_cons ?_ ?_
  refine ss_asg ?_ n_88 (lt (by decide)) (by kernel_rfl) (fun _ _ => sw_Call)
  refine se_new (s_Elector_init.mono (by decide)) ?_ n_7 (by kernel_rfl) (g_Elector _) (c_Elector _)
  refine es_cons ?_ ?_ (fun _ => sE_Name)
  refine se_loc n_73
  refine es_nil
  refine ss_cons ?_ ?_
  refine ss_asg ?_ n_147 (lt (by decide)) (by kernel_rfl) (fun _ _ => sw_Call)
  refine se_new (s_Config_init.mono (by decide)) ?_ n_6 (by kernel_rfl) (g_Config _) (c_Config _)
  refine es_cons ?_ ?_ (fun _ => sE_Name)
  refine se_loc n_79
  refine es_cons ?_ ?_ (fun _ => sE_Name)
  refine se_loc n_103
  refine es_cons ?_ ?_ (fun _ => sE_Name)
  refine se_loc n_177
  refine es_cons ?_ ?_ (fun _ => sE_List)
  refine se_list ?_
  refine es_nil
  refine es_cons ?_ ?_ (fun _ => sE_Constant)
  refine se_bool
  refine es_nil
  refine ss_cons ?_ ?_
  refine ss_asg ?_ n_92 (lt (by decide)) (by kernel_rfl) (fun _ _ => sw_Call)
  refine se_call (s_law_end.mono (by decide)) ?_ n_48 (by kernel_rfl) (g__law_end _) (k__law_end _)
  refine es_cons ?_ ?_ (fun _ => sE_Name)
  refine se_loc n_106
  refine es_cons ?_ ?_ (fun _ => sE_Name)
  refine se_loc n_166
  refine es_cons ?_ ?_ (fun _ => sE_Name)
  refine se_loc n_200
  refine es_cons ?_ ?_ (fun _ => sE_Name)
  refine se_loc n_209
  refine es_cons ?_ ?_ (fun _ => sE_Name)
  refine se_loc n_221
  refine es_cons ?_ ?_ (fun _ => sE_Name)
  refine se_loc n_153
  refine es_cons ?_ ?_ (fun _ => sE_Name)
  refine se_loc n_110
  refine es_nil
  refine ss_cons ?_ ?_
  refine ss_asg ?_ n_123 (lt (by decide)) (by kernel_rfl) (fun _ _ => sw_Name)
  refine se_gint n_30 (by kernel_rfl) (g_MSG_VOTE _)
  refine ss_cons ?_ ?_
  refine ss_asg ?_ n_138 (lt (by decide)) (by kernel_rfl) (fun _ _ => sw_Constant)
  refine se_bytes0
  refine ss_cons ?_ ?_
  refine ss_if ?_ ?_ ?_
  refine st_val ?_ (fun _ _ => tr_Name)
  refine se_loc n_166
  refine ss_cons ?_ ?_
  refine ss_asg ?_ n_123 (lt (by decide)) (by kernel_rfl) (fun _ _ => sw_Name)
  refine se_gint n_21 (by kernel_rfl) (g_MSG_PRE_VOTE _)
  refine ss_nil
  refine ss_nil
  refine ss_cons ?_ ?_
  refine ss_if ?_ ?_ ?_
  refine st_cmp ?_ ?_ rfl rfl
  refine se_loc n_150
  refine se_int
  refine ss_cons ?_ ?_
  refine ss_asg ?_ n_138 (lt (by decide)) (by kernel_rfl) (fun _ _ => sw_Name)
  refine se_gbytes (k := true) n_41 (by kernel_rfl) (g_TRANSFER_CONTEXT _)
  refine ss_nil
  refine ss_nil
  refine ss_cons ?_ ?_
  refine ss_for ?_ ?_ n_159 (lt (by decide)) (by kernel_rfl) (fun _ _ => fo_Call)
  refine se_call (s_law_orders.mono (by decide)) ?_ n_49 (by kernel_rfl) (g__law_orders _) (k__law_orders _)
  refine es_nil
  refine ss_cons ?_ ?_
  refine ss_exp ?_ (fun _ => sw_Call)
  refine se_methG ?_ (s_Elector_become_follower.mono (by decide)) ?_ n_69 (lt (by decide)) (m_Elector_become_follower _) (fun _ _ => ab_Name) rfl
  refine se_loc n_88
  refine es_cons ?_ ?_ (fun _ => sE_Name)
  refine se_loc n_200
  refine es_cons ?_ ?_ (fun _ => sE_Constant)
  refine se_int
  refine es_nil
  refine ss_cons ?_ ?_
  refine ss_exp ?_ (fun _ => sw_Call)
  refine se_methG ?_ (s_Elector_stand.mono (by decide)) ?_ n_191 (lt (by decide)) (m_Elector_stand _) (fun _ _ => ab_Name) rfl
  refine se_loc n_88
  refine es_cons ?_ ?_ (fun _ => sE_Name)
  refine se_loc n_200
  refine es_cons ?_ ?_ (fun _ => sE_Name)
  refine se_loc n_209
  refine es_cons ?_ ?_ (fun _ => sE_Name)
  refine se_loc n_147
  refine es_cons ?_ ?_ (fun _ => sE_Name)
  refine se_loc n_124
  refine es_nil
  refine ss_cons ?_ ?_
  refine ss_set ?_ ?_ n_148 (fun _ => sw_List)
  refine se_list ?_
  refine es_nil
  refine se_loc n_88
  refine ss_cons ?_ ?_
  refine ss_if ?_ ?_ ?_
  refine st_and ?_
  refine .cons ?_ ?_
  refine st_val ?_ (fun _ _ => tr_Name)
  refine se_loc n_166
  refine .cons ?_ ?_
  refine st_eqT (neg := false) rfl ?_ ?_ rfl
  refine se_loc n_159
  refine se_tup ?_
  refine es_cons ?_ ?_ (fun _ => sE_Constant)
  refine se_int
  refine es_cons ?_ ?_ (fun _ => sE_Constant)
  refine se_int
  refine es_cons ?_ ?_ (fun _ => sE_Constant)
  refine se_int
  refine es_nil
  refine .cons ?_ ?_
  refine st_not ?_
  refine st_val ?_ (fun _ _ => tr_Call)
  refine se_call (s_law_wins.mono (by decide)) ?_ n_51 (by kernel_rfl) (g__law_wins _) (k__law_wins _)
  refine es_cons ?_ ?_ (fun _ => sE_Name)
  refine se_loc n_106
  refine es_cons ?_ ?_ (fun _ => sE_List)
  refine se_list ?_
  refine es_cons ?_ ?_ (fun _ => sE_Constant)
  refine se_int
  refine es_nil
  refine es_nil
  refine .nil
  refine ss_cons ?_ ?_
  refine ss_exp ?_ (fun _ => sw_Call)
  refine se_methG ?_ (s_Elector_step.mono (by decide)) ?_ n_193 (lt (by decide)) (m_Elector_step _) (fun _ _ => ab_Name) rfl
  refine se_loc n_88
  refine es_cons ?_ ?_ (fun _ => sE_Call)
  refine se_new (s_Message_init.mono (by decide)) ?_ n_33 (by kernel_rfl) (g_Message _) (c_Message _)
  refine es_cons ?_ ?_ (fun _ => sE_Name)
  refine se_gint n_19 (by kernel_rfl) (g_MSG_HUP _)
  refine es_cons ?_ ?_ (fun _ => sE_Constant)
  refine se_int
  refine es_cons ?_ ?_ (fun _ => sE_Constant)
  refine se_int
  refine es_cons ?_ ?_ (fun _ => sE_Constant)
  refine se_int
  refine es_nil
  refine es_nil
  refine ss_cons ?_ ?_
  refine ss_exp ?_ (fun _ => sw_Call)
  refine se_methG ?_ (s_Elector_step.mono (by decide)) ?_ n_193 (lt (by decide)) (m_Elector_step _) (fun _ _ => ab_Name) rfl
  refine se_loc n_88
  refine es_cons ?_ ?_ (fun _ => sE_Call)
  refine se_call (s_law_says.mono (by decide)) ?_ n_50 (by kernel_rfl) (g__law_says _) (k__law_says _)
  refine es_cons ?_ ?_ (fun _ => sE_Name)
  refine se_gint n_22 (by kernel_rfl) (g_MSG_PRE_VOTE_RESP _)
  refine es_cons ?_ ?_ (fun _ => sE_Constant)
  refine se_int
  refine es_cons ?_ ?_ (fun _ => sE_Name)
  refine se_loc n_200
  refine es_cons ?_ ?_ (fun _ => sE_Constant)
  refine se_bool
  refine es_nil
  refine es_nil
  refine ss_cons ?_ ?_
  refine ss_set ?_ ?_ n_148 (fun _ => sw_List)
  refine se_list ?_
  refine es_nil
  refine se_loc n_88
  refine ss_nil
  refine ss_nil
  refine ss_cons ?_ ?_
  refine ss_if ?_ ?_ ?_
  refine st_cmp ?_ ?_ rfl rfl
  refine se_loc n_150
  refine se_int
  refine ss_cons ?_ ?_
  refine ss_exp ?_ (fun _ => sw_Call)
  refine se_methG ?_ (s_Elector_step.mono (by decide)) ?_ n_193 (lt (by decide)) (m_Elector_step _) (fun _ _ => ab_Name) rfl
  refine se_loc n_88
  refine es_cons ?_ ?_ (fun _ => sE_Call)
  refine se_new (s_Message_init.mono (by decide)) ?_ n_33 (by kernel_rfl) (g_Message _) (c_Message _)
  refine es_cons ?_ ?_ (fun _ => sE_Name)
  refine se_gint n_27 (by kernel_rfl) (g_MSG_TIMEOUT_NOW _)
  refine es_cons ?_ ?_ (fun _ => sE_Constant)
  refine se_int
  refine es_cons ?_ ?_ (fun _ => sE_Constant)
  refine se_int
  refine es_cons ?_ ?_ (fun _ => sE_Name)
  refine se_loc n_200
  refine es_nil
  refine es_nil
  refine ss_nil
  refine ss_cons ?_ ?_
  refine ss_exp ?_ (fun _ => sw_Call)
  refine se_methG ?_ (s_Elector_step.mono (by decide)) ?_ n_193 (lt (by decide)) (m_Elector_step _) (fun _ _ => ab_Name) rfl
  refine se_loc n_88
  refine es_cons ?_ ?_ (fun _ => sE_Call)
  refine se_new (s_Message_init.mono (by decide)) ?_ n_33 (by kernel_rfl) (g_Message _) (c_Message _)
  refine es_cons ?_ ?_ (fun _ => sE_Name)
  refine se_gint n_19 (by kernel_rfl) (g_MSG_HUP _)
  refine es_cons ?_ ?_ (fun _ => sE_Constant)
  refine se_int
  refine es_cons ?_ ?_ (fun _ => sE_Constant)
  refine se_int
  refine es_cons ?_ ?_ (fun _ => sE_Constant)
  refine se_int
  refine es_nil
  refine es_nil
  refine ss_nil
  refine ss_cons ?_ ?_
  refine ss_asg ?_ n_89 (lt (by decide)) (by kernel_rfl) (fun _ _ => sw_List)
  refine se_list ?_
  refine es_cons ?_ ?_ (fun _ => sE_Constant)
  refine se_int
  refine es_nil
  refine ss_cons ?_ ?_
  refine ss_asg ?_ n_158 (lt (by decide)) (by kernel_rfl) (fun _ _ => sw_Constant)
  refine se_bool
  refine ss_cons ?_ ?_
  refine ss_for ?_ ?_ n_122 (lt (by decide)) (by kernel_rfl) (fun _ _ => fo_Name)
  refine se_loc n_159
  refine ss_cons ?_ ?_
  refine ss_for ?_ ?_ n_135 (lt (by decide)) (by kernel_rfl) (fun _ _ => fo_Subscript)
  refine se_idx ?_ ?_ (fun _ _ _ => su_Name)
  refine se_loc n_218
  refine se_loc n_122
  refine ss_cons ?_ ?_
  refine ss_exp ?_ (fun _ => sw_Call)
  refine se_methG ?_ (s_Elector_step.mono (by decide)) ?_ n_193 (lt (by decide)) (m_Elector_step _) (fun _ _ => ab_Name) rfl
  refine se_loc n_88
  refine es_cons ?_ ?_ (fun _ => sE_Name)
  refine se_loc n_135
  refine es_nil
  refine ss_nil
  refine ss_cons ?_ ?_
  refine ss_if ?_ ?_ ?_
  refine st_cmp ?_ ?_ rfl rfl
  refine se_idx ?_ ?_ (fun _ _ _ => su_Name)
  refine se_loc n_215
  refine se_loc n_122
  refine se_int
  refine ss_cons ?_ ?_
  refine ss_asg ?_ n_158 (lt (by decide)) (by kernel_rfl) (fun _ _ => sw_Constant)
  refine se_bool
  refine ss_nil
  refine ss_nil
  refine ss_cons ?_ ?_
  refine ss_if ?_ ?_ ?_
  refine st_and ?_
  refine .cons ?_ ?_
  refine st_val ?_ (fun _ _ => tr_Name)
  refine se_loc n_158
  refine .cons ?_ ?_
  refine st_in (neg := false) rfl ?_ ?_ rfl
  refine se_bin ?_ ?_
  refine se_loc n_122
  refine se_int
  refine se_loc n_221
  refine .nil
  refine ss_cons ?_ ?_
  refine ss_exp ?_ (fun _ => sw_Call)
  refine se_appendG rfl ?_ ?_ (fun _ => sE_BinOp) (fun _ _ => ab_Name) rfl
  refine se_loc n_89
  refine se_bin ?_ ?_
  refine se_loc n_122
  refine se_int
  refine ss_nil
  refine ss_nil
  refine ss_nil
  refine ss_cons ?_ ?_
  refine ss_if ?_ ?_ ?_
  refine st_eqT (neg := true) rfl ?_ ?_ rfl
  refine se_tup ?_
  refine es_cons ?_ ?_ (fun _ => sE_Attribute)
  refine se_attr ?_ n_200 (fun _ => at_Name)
  refine se_loc n_88
  refine es_cons ?_ ?_ (fun _ => sE_Attribute)
  refine se_attr ?_ n_209 (fun _ => at_Name)
  refine se_loc n_88
  refine es_cons ?_ ?_ (fun _ => sE_Attribute)
  refine se_attr ?_ n_192 (fun _ => at_Name)
  refine se_loc n_88
  refine es_cons ?_ ?_ (fun _ => sE_Attribute)
  refine se_attr ?_ n_129 (fun _ => at_Name)
  refine se_loc n_88
  refine es_nil
  refine se_loc n_92
  refine ss_cons ?_ ?_
  refine ss_ret ?_
  refine se_bool
  refine ss_nil
  refine ss_nil
  refine ss_cons ?_ ?_
  refine ss_asg ?_ n_213 (lt (by decide)) (by kernel_rfl) (fun _ _ => sw_Call)
  refine se_call (s_law_asked.mono (by decide)) ?_ n_46 (by kernel_rfl) (g__law_asked _) (k__law_asked _)
  refine es_cons ?_ ?_ (fun _ => sE_Name)
  refine se_loc n_106
  refine es_cons ?_ ?_ (fun _ => sE_Name)
  refine se_loc n_123
  refine es_cons ?_ ?_ (fun _ => sE_Name)
  refine se_loc n_200
  refine es_cons ?_ ?_ (fun _ => sE_Name)
  refine se_loc n_124
  refine es_cons ?_ ?_ (fun _ => sE_Name)
  refine se_loc n_138
  refine es_nil
  refine ss_cons ?_ ?_
  refine ss_if ?_ ?_ ?_
  refine st_and ?_
  refine .cons ?_ ?_
  refine st_val ?_ (fun _ _ => tr_Name)
  refine se_loc n_166
  refine .cons ?_ ?_
  refine st_val ?_ (fun _ _ => tr_Call)
  refine se_call (s_law_wins.mono (by decide)) ?_ n_51 (by kernel_rfl) (g__law_wins _) (k__law_wins _)
  refine es_cons ?_ ?_ (fun _ => sE_Name)
  refine se_loc n_106
  refine es_cons ?_ ?_ (fun _ => sE_Name)
  refine se_loc n_89
  refine es_nil
  refine .nil
  refine ss_cons ?_ ?_
  refine ss_asg ?_ n_213 (lt (by decide)) (by kernel_rfl) (fun _ _ => sw_BinOp)
  refine se_cat ?_ ?_
  refine se_loc n_213
  refine se_call (s_law_asked.mono (by decide)) ?_ n_46 (by kernel_rfl) (g__law_asked _) (k__law_asked _)
  refine es_cons ?_ ?_ (fun _ => sE_Name)
  refine se_loc n_106
  refine es_cons ?_ ?_ (fun _ => sE_Name)
  refine se_gint n_30 (by kernel_rfl) (g_MSG_VOTE _)
  refine es_cons ?_ ?_ (fun _ => sE_Name)
  refine se_loc n_200
  refine es_cons ?_ ?_ (fun _ => sE_Name)
  refine se_loc n_124
  refine es_cons ?_ ?_ (fun _ => sE_Name)
  refine se_loc n_138
  refine es_nil
  refine ss_nil
  refine ss_nil
  refine ss_cons ?_ ?_
  refine ss_if ?_ ?_ ?_
  refine st_neL ?_ ?_ rfl
  refine se_comp (cap := []) ?_ ?_ ?_ n_135 (lt (by decide)) (by kernel_rfl) (fun _ _ => fo_Attribute)
  refine se_attr ?_ n_148 (fun _ => at_Name)
  refine se_loc n_88
  refine stests_nil
  refine se_tup ?_
  refine es_cons ?_ ?_ (fun _ => sE_Attribute)
  refine se_attr ?_ n_123 (fun _ => at_Name)
  refine se_loc n_135
  refine es_cons ?_ ?_ (fun _ => sE_Attribute)
  refine se_attr ?_ n_205 (fun _ => at_Name)
  refine se_loc n_135
  refine es_cons ?_ ?_ (fun _ => sE_Attribute)
  refine se_attr ?_ n_99 (fun _ => at_Name)
  refine se_loc n_135
  refine es_cons ?_ ?_ (fun _ => sE_Attribute)
  refine se_attr ?_ n_200 (fun _ => at_Name)
  refine se_loc n_135
  refine es_cons ?_ ?_ (fun _ => sE_Attribute)
  refine se_attr ?_ n_115 (fun _ => at_Name)
  refine se_loc n_135
  refine es_cons ?_ ?_ (fun _ => sE_Attribute)
  refine se_attr ?_ n_134 (fun _ => at_Name)
  refine se_loc n_135
  refine es_cons ?_ ?_ (fun _ => sE_Attribute)
  refine se_attr ?_ n_84 (fun _ => at_Name)
  refine se_loc n_135
  refine es_nil
  refine se_loc n_213
  refine ss_cons ?_ ?_
  refine ss_ret ?_
  refine se_bool
  refine ss_nil
  refine ss_nil
  refine ss_cons ?_ ?_
  refine ss_if ?_ ?_ ?_
  refine st_or ?_
  refine .cons ?_ ?_
  refine st_cmp ?_ ?_ rfl rfl
  refine se_idx ?_ ?_ (fun _ _ _ => su_Constant)
  refine se_loc n_92
  refine se_int
  refine se_gint n_36 (by kernel_rfl) (g_PRE_CANDIDATE _)
  refine .cons ?_ ?_
  refine st_and ?_
  refine .cons ?_ ?_
  refine st_cmp ?_ ?_ rfl rfl
  refine se_idx ?_ ?_ (fun _ _ _ => su_Constant)
  refine se_loc n_92
  refine se_int
  refine se_gint n_5 (by kernel_rfl) (g_CANDIDATE _)
  refine .cons ?_ ?_
  refine st_not ?_
  refine st_val ?_ (fun _ _ => tr_Name)
  refine se_loc n_166
  refine .nil
  refine .nil
  refine ss_cons ?_ ?_
  refine ss_asg ?_ n_222 (lt (by decide)) (by kernel_rfl) (fun _ _ => sw_Call)
  refine se_len ⟨n_133, by kernel_rfl, g_len _, b_len, by decide⟩ ?_ (fun _ => sE_ListComp)
  refine se_comp (cap := [177]) ?_ ?_ ?_ n_117 (lt (by decide)) (by kernel_rfl) (fun _ _ => fo_Name)
  refine se_loc n_221
  refine stests_one ?_
  refine st_in (neg := true) rfl ?_ ?_ rfl
  refine se_loc n_117
  refine se_loc n_177
  refine se_loc n_117
  refine ss_cons ?_ ?_
  refine ss_asg ?_ n_155 (lt (by decide)) (by kernel_rfl) (fun _ _ => sw_Call)
  refine se_len ⟨n_133, by kernel_rfl, g_len _, b_len, by decide⟩ ?_ (fun _ => sE_ListComp)
  refine se_comp (cap := [177]) ?_ ?_ ?_ n_117 (lt (by decide)) (by kernel_rfl) (fun _ _ => fo_Name)
  refine se_loc n_153
  refine stests_one ?_
  refine st_in (neg := true) rfl ?_ ?_ rfl
  refine se_loc n_117
  refine se_loc n_177
  refine se_loc n_117
  refine ss_cons ?_ ?_
  refine ss_if ?_ ?_ ?_
  refine st_eqT (neg := true) rfl ?_ ?_ rfl
  refine se_methG ?_ (s_Ballots_tally.mono (by decide)) ?_ n_199 (lt (by decide)) (m_Ballots_tally _) (fun _ _ => ab_Attribute) rfl
  refine se_attr ?_ n_206 (fun _ => at_Name)
  refine se_loc n_88
  refine es_nil
  refine se_tup ?_
  refine es_cons ?_ ?_ (fun _ => sE_Name)
  refine se_loc n_222
  refine es_cons ?_ ?_ (fun _ => sE_Name)
  refine se_loc n_155
  refine es_cons ?_ ?_ (fun _ => sE_Name)
  refine se_gint n_43 (by kernel_rfl) (g_VOTE_PENDING _)
  refine es_nil
  refine ss_cons ?_ ?_
  refine ss_ret ?_
  refine se_bool
  refine ss_nil
  refine ss_nil
  refine ss_nil
  refine ss_nil
  refine ss_nil
  refine ss_cons ?_ ?_
  refine ss_ret ?_
  refine se_bool
  refine ss_nil
end

-- the readings taken apart, one rule for each
section
variable {m : Loc} {σ : Hp} {x a : Nat} {v : V} {Q : V → Hp → Prop} {Qs : Fl → Loc → Hp → Prop} {Qt : Bool → Hp → Prop} {W W₁ W₂ Wo Wi We : EW} {S₁ S₂ Sb : SW} {T T₁ : TW} {Ts : List TW} {Es : EsW} {Fw : FW}
noncomputable def kSeq (S₂ : SW) (Q : Fl → Loc → Hp → Prop) : Fl → Loc → Hp → Prop := fun fl m' σ' => match fl with
  | .next => S₂ m' σ' Q
  | .brk => Q .brk m' σ'
  | .cont => Q .cont m' σ'
  | .ret v => Q (.ret v) m' σ'
theorem r_seq (h : S₁ m σ (kSeq S₂ Qs)) : sSeq S₁ S₂ m σ Qs := h
theorem r_next (h : S₂ m σ Qs) : kSeq S₂ Qs .next m σ := h
theorem r_kret (h : Qs (.ret v) m σ) : kSeq S₂ Qs (.ret v) m σ := h
theorem r_kcont (h : Qs .cont m σ) : kSeq S₂ Qs .cont m σ := h
theorem r_nil (h : Qs .next m σ) : sNil m σ Qs := h
theorem r_pass (h : Qs .next m σ) : sPass m σ Qs := h
theorem r_cont (h : Qs .cont m σ) : sCont m σ Qs := h
theorem r_ret (h : W m σ fun v σ' => Qs (.ret v) m σ') : sRet W m σ Qs := h
theorem r_ret0 (h : Qs (.ret .none) m σ) : sRet0 m σ Qs := h
theorem r_exp (h : W m σ fun _ σ' => Qs .next m σ') : sExp W m σ Qs := h
theorem r_asg (h : W m σ fun v σ' => Qs .next (put m x v) σ') : sAsg x W m σ Qs := h
noncomputable def kIf (S₁ S₂ : SW) (m : Loc) (Q : Fl → Loc → Hp → Prop) : Bool → Hp → Prop := fun b σ' => (b = true → S₁ m σ' Q) ∧ (b = false → S₂ m σ' Q)
theorem r_if (h : T m σ (kIf S₁ S₂ m Qs)) : sIf T S₁ S₂ m σ Qs := h
theorem r_ift {b : Bool} (h : S₁ m σ Qs) (hb : b = true) : kIf S₁ S₂ m Qs b σ := ⟨fun _ => h, fun e => by rw [hb] at e; cases e⟩
theorem r_iff {b : Bool} (h : S₂ m σ Qs) (hb : b = false) : kIf S₁ S₂ m Qs b σ := ⟨fun e => (by rw [hb] at e; cases e), fun _ => h⟩
theorem r_ifc {b : Bool} (h₁ : b = true → S₁ m σ Qs) (h₂ : b = false → S₂ m σ Qs) : kIf S₁ S₂ m Qs b σ := ⟨h₁, h₂⟩
theorem r_set (h : W m σ fun v σ₁ => Wo m σ₁ fun o σ₂ => setA σ₂ o a v fun σ₃ => Qs .next m σ₃) : sSet W Wo a m σ Qs := h
theorem r_loc (h : lk m x = some v) (k : Q v σ) : eLoc x m σ Q := ⟨v, h, k⟩
theorem r_V (k : Q v σ) : eV v m σ Q := k
theorem r_attr (h : W m σ fun v σ' => gAttr σ' v a fun u => Q u σ') : eAttr W a m σ Q := h
theorem r_get {i C : Nat} {as : List (Nat × V)} {u : V} {Qv : V → Prop} (hi : σ[i]? = some (.inst C as)) (hu : lk as a = some u) (k : Qv u) : gAttr σ (.obj i) a Qv := ⟨i, C, as, u, rfl, hi, hu, k⟩
theorem r_put {i C : Nat} {as : List (Nat × V)} {Qh : Hp → Prop} (hi : σ[i]? = some (.inst C as)) (ho : okA C a = true) (hl : as.length < 40) (k : Qh (σ.set i (.inst C (put as a v)))) : setA σ (.obj i) a v Qh := ⟨i, C, as, rfl, hi, ho, hl, k⟩
theorem r_call (h : Es m σ fun vs σ' => Fw vs σ' Q) : eCall Fw Es m σ Q := h
noncomputable def kMeth (C a : Nat) (Fw : FW) (Es : EsW) (m : Loc) (Q : V → Hp → Prop) : V → Hp → Prop := fun o σ₁ => ∃ i as, o = .obj i ∧ σ₁[i]? = some (.inst C as) ∧ lk as a = Option.none ∧ Es m σ₁ fun vs σ₂ => Fw (.obj i :: vs) σ₂ Q
theorem r_meth {C : Nat} (h : Wo m σ (kMeth C a Fw Es m Q)) : eMeth C a Wo Fw Es m σ Q := h
theorem r_km {C i : Nat} {as : List (Nat × V)} (hi : σ[i]? = some (.inst C as)) (hl : lk as a = Option.none) (k : Es m σ fun vs σ₂ => Fw (.obj i :: vs) σ₂ Q) : kMeth C a Fw Es m Q (.obj i) σ := ⟨i, as, rfl, hi, hl, k⟩
theorem r_new {C : Nat} (h : Es m σ fun vs σ₁ => Fw (.obj σ₁.length :: vs) (σ₁ ++ [.inst C []]) fun v σ₂ => v = .none ∧ Q (.obj σ₁.length) σ₂) : eNew C Fw Es m σ Q := h
theorem r_esn {Qe : List V → Hp → Prop} (h : Qe [] σ) : esNil m σ Qe := h
theorem r_esc {Qe : List V → Hp → Prop} (h : W m σ fun v σ' => Es m σ' fun vs σ'' => Qe (v :: vs) σ'') : esCons W Es m σ Qe := h
noncomputable def kCmp (op : CmpOp) (Q : Bool → Hp → Prop) (a b : V) (σ : Hp) : Prop := ∃ i j, a = .int i ∧ b = .int j ∧ Q (cmpB op i j) σ
theorem r_tcmp {op : CmpOp} (h : W₁ m σ fun a σ₁ => W₂ m σ₁ fun b σ₂ => kCmp op Qt a b σ₂) : tCmp op W₁ W₂ m σ Qt := h
theorem r_ecmp {op : CmpOp} (h : W₁ m σ fun a σ₁ => W₂ m σ₁ fun b σ₂ => kCmp op (fun b => Q (.bool b)) a b σ₂) : eCmp op W₁ W₂ m σ Q := h
theorem r_kcmp {op : CmpOp} {i j : Int} (k : Qt (cmpB op i j) σ) : kCmp op Qt (.int i) (.int j) σ := ⟨i, j, rfl, rfl, k⟩
noncomputable def kBin (op : Operator) (Q : V → Hp → Prop) (a b : V) (σ : Hp) : Prop := ∃ i j, a = .int i ∧ b = .int j ∧ binV op i j fun r => Q (.int r) σ
theorem r_bin {op : Operator} (h : W₁ m σ fun a σ₁ => W₂ m σ₁ fun b σ₂ => kBin op Q a b σ₂) : eBin op W₁ W₂ m σ Q := h
theorem r_add {i j : Int} (k : Q (.int (i + j)) σ) : kBin .Add Q (.int i) (.int j) σ := ⟨i, j, rfl, rfl, k⟩
theorem r_sub {i j : Int} (k : Q (.int (i - j)) σ) : kBin .Sub Q (.int i) (.int j) σ := ⟨i, j, rfl, rfl, k⟩
theorem r_mul {i j : Int} (h : i.natAbs < 2 ^ 32 ∧ j.natAbs < 2 ^ 32) (k : Q (.int (i * j)) σ) : kBin .Mult Q (.int i) (.int j) σ := ⟨i, j, rfl, rfl, h, k⟩
theorem r_mod {i j : Int} (h : j ≠ 0) (k : Q (.int (i.fmod j)) σ) : kBin .Mod Q (.int i) (.int j) σ := ⟨i, j, rfl, rfl, h, k⟩
theorem r_div {i j : Int} (h : j ≠ 0 ∧ j.natAbs < 1073741824) (k : Q (.int (i.fdiv j)) σ) : kBin .FloorDiv Q (.int i) (.int j) σ := ⟨i, j, rfl, rfl, h, k⟩
theorem r_shl {i j : Int} (h : 0 ≤ j ∧ j < 64 ∧ i.natAbs < 8) (k : Q (.int (i * 2 ^ j.toNat)) σ) : kBin .LShift Q (.int i) (.int j) σ := ⟨i, j, rfl, rfl, h, k⟩
theorem r_tval (h : W m σ fun v σ' => truthV σ' v fun b => Qt b σ') : tVal W m σ Qt := h
theorem r_tbool {b : Bool} {Qb : Bool → Prop} (k : Qb b) : truthV σ (.bool b) Qb := k
theorem r_tlist {i : Nat} {vs : List V} {Qb : Bool → Prop} (hi : σ[i]? = some (.list vs)) (k : Qb (!vs.isEmpty)) : truthV σ (.obj i) Qb := by
  show (match σ[i]? with | some (.list vs) => Qb (!vs.isEmpty) | _ => False)
  rw [hi]; exact k
theorem r_tnot (h : T m σ fun b σ' => Qt (!b) σ') : tNot T m σ Qt := h
theorem r_enot (h : W m σ fun v σ' => truthV σ' v fun b => Q (.bool (!b)) σ') : eNot W m σ Q := h
noncomputable def kAnd (Ts : List TW) (m : Loc) (Q : Bool → Hp → Prop) : Bool → Hp → Prop := fun b σ' => (b = true → tAnd Ts m σ' Q) ∧ (b = false → Q false σ')
noncomputable def kOr (Ts : List TW) (m : Loc) (Q : Bool → Hp → Prop) : Bool → Hp → Prop := fun b σ' => (b = true → Q true σ') ∧ (b = false → tOr Ts m σ' Q)
theorem r_and (h : T m σ (kAnd Ts m Qt)) : tAnd (T :: Ts) m σ Qt := h
theorem r_or (h : T m σ (kOr Ts m Qt)) : tOr (T :: Ts) m σ Qt := h
theorem r_and0 (h : Qt true σ) : tAnd [] m σ Qt := h
theorem r_or0 (h : Qt false σ) : tOr [] m σ Qt := h
theorem r_andt {b : Bool} (h : tAnd Ts m σ Qt) (hb : b = true) : kAnd Ts m Qt b σ := ⟨fun _ => h, fun e => by rw [hb] at e; cases e⟩
theorem r_andf {b : Bool} (h : Qt false σ) (hb : b = false) : kAnd Ts m Qt b σ := ⟨fun e => (by rw [hb] at e; cases e), fun _ => h⟩
theorem r_ort {b : Bool} (h : Qt true σ) (hb : b = true) : kOr Ts m Qt b σ := ⟨fun _ => h, fun e => by rw [hb] at e; cases e⟩
theorem r_orf {b : Bool} (h : tOr Ts m σ Qt) (hb : b = false) : kOr Ts m Qt b σ := ⟨fun e => (by rw [hb] at e; cases e), fun _ => h⟩
noncomputable def kOr2 (W₂ : EW) (m : Loc) (Q : V → Hp → Prop) : V → Hp → Prop := fun v σ' => ∃ b, v = .bool b ∧ (b = true → Q (.bool true) σ') ∧ (b = false → W₂ m σ' Q)
theorem r_or2 (h : W₁ m σ (kOr2 W₂ m Q)) : eOr2 W₁ W₂ m σ Q := h
theorem r_or2t {b : Bool} (h : Q (.bool true) σ) (hb : b = true) : kOr2 W₂ m Q (.bool b) σ := ⟨b, rfl, fun _ => h, fun e => by rw [hb] at e; cases e⟩
theorem r_or2f {b : Bool} (h : W₂ m σ Q) (hb : b = false) : kOr2 W₂ m Q (.bool b) σ := ⟨b, rfl, fun e => (by rw [hb] at e; cases e), fun _ => h⟩
noncomputable def kNew (f : List V → O) (Q : V → Hp → Prop) : List V → Hp → Prop := fun vs σ => vs.length ≤ 4096 ∧ Q (.obj σ.length) (σ ++ [f vs])
theorem r_tup (h : Es m σ (kNew .tup Q)) : eTup Es m σ Q := h
theorem r_list (h : Es m σ (kNew .list Q)) : eList Es m σ Q := h
theorem r_knew {f : List V → O} {vs : List V} (hl : vs.length.ble 4096 = true) (h : Q (.obj σ.length) (σ ++ [f vs])) : kNew f Q vs σ := ⟨Nat.le_of_ble_eq_true hl, h⟩
theorem r_dict0 (h : Q (.obj σ.length) (σ ++ [.dict []])) : eDict0 m σ Q := h
theorem r_tin {neg : Bool} (h : W₁ m σ fun a σ₁ => W₂ m σ₁ fun b σ₂ => inV σ₂ a b fun t => Qt (t != neg) σ₂) : tIn neg W₁ W₂ m σ Qt := h
theorem r_ein {neg : Bool} (h : W₁ m σ fun a σ₁ => W₂ m σ₁ fun b σ₂ => inV σ₂ a b fun t => Q (.bool (t != neg)) σ₂) : eIn neg W₁ W₂ m σ Q := h
theorem r_intup {j : Nat} {k : Int} {vs : List V} {ns : List Int} {Qb : Bool → Prop} (hi : σ[j]? = some (.tup vs)) (hn : intsOf vs = some ns) (h : Qb (ns.any (· == k))) : inV σ (.int k) (.obj j) Qb := by
  unfold inV; dsimp only; rw [hi]; dsimp only; rw [hn]; exact h
theorem r_inlist {j : Nat} {k : Int} {vs : List V} {ns : List Int} {Qb : Bool → Prop} (hi : σ[j]? = some (.list vs)) (hn : intsOf vs = some ns) (h : Qb (ns.any (· == k))) : inV σ (.int k) (.obj j) Qb := by
  unfold inV; dsimp only; rw [hi]; dsimp only; rw [hn]; exact h
theorem r_indict {j : Nat} {k : Int} {kvs : List (Int × V)} {Qb : Bool → Prop} (hi : σ[j]? = some (.dict kvs)) (h : Qb (kvs.any fun a => decide (a.1 = k))) : inV σ (.int k) (.obj j) Qb := by
  unfold inV; dsimp only; rw [hi]; exact h
theorem r_len (h : W m σ fun v σ' => lenV σ' v fun k => Q (.int k) σ') : eLen W m σ Q := h
theorem r_lenlist {i : Nat} {vs : List V} {Qi : Int → Prop} (hi : σ[i]? = some (.list vs)) (h : Qi vs.length) : lenV σ (.obj i) Qi := by
  unfold lenV; dsimp only; rw [hi]; exact h
theorem r_lentup {i : Nat} {vs : List V} {Qi : Int → Prop} (hi : σ[i]? = some (.tup vs)) (h : Qi vs.length) : lenV σ (.obj i) Qi := by
  unfold lenV; dsimp only; rw [hi]; exact h
theorem r_idx (h : Wo m σ fun o σ₁ => Wi m σ₁ fun i σ₂ => idxV σ₂ o i fun v => Q v σ₂) : eIdx Wo Wi m σ Q := h
theorem r_idxlist {j q : Nat} {k : Int} {vs : List V} {Qv : V → Prop} (hj : σ[j]? = some (.list vs)) (hq : seqIndex? k vs.length = some q) (hv : vs[q]? = some v) (h : Qv v) : idxV σ (.obj j) (.int k) Qv := by
  unfold idxV; dsimp only; rw [hj]; exact ⟨q, v, hq, hv, h⟩
theorem r_idxtup {j q : Nat} {k : Int} {vs : List V} {Qv : V → Prop} (hj : σ[j]? = some (.tup vs)) (hq : seqIndex? k vs.length = some q) (hv : vs[q]? = some v) (h : Qv v) : idxV σ (.obj j) (.int k) Qv := by
  unfold idxV; dsimp only; rw [hj]; exact ⟨q, v, hq, hv, h⟩
theorem r_idxdict {j : Nat} {k : Int} {kvs : List (Int × V)} {Qv : V → Prop} (hj : σ[j]? = some (.dict kvs)) (hv : (kvs.find? fun a => a.1 = k).map (·.2) = some v) (h : Qv v) : idxV σ (.obj j) (.int k) Qv := by
  unfold idxV; dsimp only; rw [hj]; exact ⟨v, hv, h⟩
theorem r_augN {u : V} (hu : lk m x = some u) (h : W m σ fun v σ' => addV u v fun r => Qs .next (put m x r) σ') : sAugN x W m σ Qs := ⟨u, hu, h⟩
theorem r_addV {i j : Int} {Qv : V → Prop} (h : Qv (.int (i + j))) : addV (.int i) (.int j) Qv := ⟨i, j, rfl, rfl, h⟩
theorem r_augA (h : Wo m σ fun o σ₁ => gAttr σ₁ o a fun u => W m σ₁ fun v σ₂ => addV u v fun r => setA σ₂ o a r fun σ₃ => Qs .next m σ₃) : sAugA Wo a W m σ Qs := h
theorem r_app (h : Wo m σ fun o σ₁ => (∃ i vs, o = .obj i ∧ σ₁[i]? = some (.list vs)) ∧ W m σ₁ fun v σ₂ => ∃ i vs, o = .obj i ∧ σ₂[i]? = some (.list vs) ∧ vs.length < 4096 ∧ Q .none (σ₂.set i (.list (vs ++ [v])))) : sApp Wo W m σ Q := h
theorem r_setitem (h : W m σ fun v σ₁ => Wo m σ₁ fun o σ₂ => Wi m σ₂ fun i σ₃ => ∃ j kvs k b, o = .obj j ∧ i = .int k ∧ v = .bool b ∧ σ₃[j]? = some (.dict kvs) ∧ kvs.length < 4096 ∧ Qs .next m (σ₃.set j (.dict (putD kvs k v)))) : sSetItem W Wo Wi m σ Qs := h
theorem r_for (h : We m σ fun v σ₁ => ∃ i o vs, v = .obj i ∧ σ₁[i]? = some o ∧ (o = .list vs ∨ o = .tup vs) ∧ forW i o x Sb vs m (σ₁.set i .gone) Qs) : sFor x We Sb m σ Qs := h
theorem r_unp2 {y : Nat} (h : W m σ fun v σ₁ => ∃ i u w, v = .obj i ∧ σ₁[i]? = some (.tup [u, w]) ∧ Qs .next (put (put m x u) y w) σ₁) : sUnp2 x y W m σ Qs := h
-- heaps
theorem g_last {o : O} : (σ ++ [o])[σ.length]? = some o := by simp
theorem g_app {i : Nat} {o : O} {r : Hp} (h : σ[i]? = some o) : (σ ++ r)[i]? = some o := by
  rw [List.getElem?_append_left (List.getElem?_eq_some_iff.mp h).1]; exact h
theorem g_set {i : Nat} {o o' : O} (h : σ[i]? = some o) : (σ.set i o')[i]? = some o' := List.getElem?_set_self (List.getElem?_eq_some_iff.mp h).1
theorem g_ne {i j : Nat} {o o' : O} (h : σ[j]? = some o) (hn : i ≠ j) : (σ.set i o')[j]? = some o := by rw [List.getElem?_set_ne hn]; exact h
end

set_option genInjectivity false in
structure Par where
  (e b c lv lo ll ln jt la : Nat)
  pv : Bool
  (come goes rest : List Int)
  (li lt : Int)
noncomputable def elA (cf jt : Nat) (pv : Bool) (t v s l : Int) (ms : Nat) (ee hh to dr : Int) (la b : Nat) : List (Nat × V) :=
  [(83, .obj cf), (152, .int 1), (91, .int 2), (108, .int 1), (118, .obj jt), (78, .bool false), (167, .bool pv), (200, .int t), (209, .int v), (192, .int s), (129, .int l), (148, .obj ms), (90, .int ee), (107, .int hh), (204, .int to), (87, .int dr), (124, .obj la), (206, .obj b)]
noncomputable def balA (c d : Nat) : List (Nat × V) := [(83, .obj c), (212, .obj d)]
structure EB (p : Par) (σ : Hp) (t v s l : Int) (ms d : Nat) : Prop where
  he : ∃ cf ee hh to dr, σ[p.e]? = some (.inst 606 (elA cf p.jt p.pv t v s l ms ee hh to dr p.la p.b))
  hb : σ[p.b]? = some (.inst 291 (balA p.c d))
  hj : σ[p.jt]? = some (.tup [.int 0])
structure Fe (p : Par) (σ σ' : Hp) : Prop where
  keep : ∀ j o, σ[j]? = some o → j ≠ p.e → j ≠ p.b → σ'[j]? = some o
  len : σ.length ≤ σ'.length
theorem Fe.refl {p : Par} {σ : Hp} : Fe p σ σ := ⟨fun _ _ h _ _ => h, Nat.le_refl _⟩
theorem Fe.trans {p : Par} {σ σ' σ'' : Hp} (a : Fe p σ σ') (b : Fe p σ' σ'') : Fe p σ σ'' := ⟨fun j o h h1 h2 => b.keep j o (a.keep j o h h1 h2) h1 h2, Nat.le_trans a.len b.len⟩
theorem Fe.push {p : Par} {σ r : Hp} : Fe p σ (σ ++ r) := ⟨fun _ _ h _ _ => g_app h, by simp⟩
theorem Fe.setE {p : Par} {σ : Hp} {o : O} : Fe p σ (σ.set p.e o) := ⟨fun j o h h1 _ => g_ne h (Ne.symm h1), by simp⟩
theorem Fe.setB {p : Par} {σ : Hp} {o : O} : Fe p σ (σ.set p.b o) := ⟨fun j o h _ h2 => g_ne h (Ne.symm h2), by simp⟩
section
variable {p : Par} {σ σ₀ : Hp} {t v s l x : Int} {ms d : Nat} {Qv : V → Prop} {Qh : Hp → Prop} {m : Loc} {Q : V → Hp → Prop} {Fw : FW} {Es : EsW} {a : Nat}
theorem EB.ne (h : EB p σ t v s l ms d) : p.e ≠ p.b := fun e => by
  obtain ⟨_, _, _, _, _, h1⟩ := h.he
  have h2 := h.hb
  rw [← e, h1] at h2
  simp at h2
theorem EB.ej (h : EB p σ t v s l ms d) : p.jt ≠ p.e := fun e => by
  obtain ⟨_, _, _, _, _, h1⟩ := h.he
  have h2 := h.hj
  rw [e, h1] at h2
  simp at h2
theorem EB.bj (h : EB p σ t v s l ms d) : p.jt ≠ p.b := fun e => by
  have h1 := h.hb
  have h2 := h.hj
  rw [e, h1] at h2
  simp at h2
theorem EB.ned {j : Nat} {kvs : List (Int × V)} (h : EB p σ t v s l ms d) (hd : σ[j]? = some (.dict kvs)) : j ≠ p.e := fun e => by
  obtain ⟨_, _, _, _, _, h1⟩ := h.he
  rw [e, h1] at hd
  simp at hd
theorem EB.push {r : Hp} (h : EB p σ t v s l ms d) : EB p (σ ++ r) t v s l ms d := by
  obtain ⟨cf, ee, hh, to, dr, h1⟩ := h.he
  exact ⟨⟨cf, ee, hh, to, dr, g_app h1⟩, g_app h.hb, g_app h.hj⟩
theorem EB.km (h : EB p σ t v s l ms d) (hl : ∀ cf ee hh to dr, lk (elA cf p.jt p.pv t v s l ms ee hh to dr p.la p.b) a = Option.none) (k : Es m σ fun vs σ₂ => Fw (.obj p.e :: vs) σ₂ Q) : kMeth 606 a Fw Es m Q (.obj p.e) σ := by
  obtain ⟨cf, ee, hh, to, dr, h1⟩ := h.he
  exact r_km h1 (hl ..) k
theorem EB.kb (h : EB p σ t v s l ms d) (hl : lk (balA p.c d) a = Option.none) (k : Es m σ fun vs σ₂ => Fw (.obj p.b :: vs) σ₂ Q) : kMeth 291 a Fw Es m Q (.obj p.b) σ := r_km h.hb hl k
theorem EB.g_bc (h : EB p σ t v s l ms d) (k : Qv (.obj p.c)) : gAttr σ (.obj p.b) 83 Qv := r_get h.hb rfl k
theorem EB.g_bv (h : EB p σ t v s l ms d) (k : Qv (.obj d)) : gAttr σ (.obj p.b) 212 Qv := r_get h.hb rfl k
theorem EB.setE {o : O} (h : EB p σ t v s l ms d) {t' v' s' l' : Int} {ms' : Nat} (ho : ∃ cf ee hh to dr, o = .inst 606 (elA cf p.jt p.pv t' v' s' l' ms' ee hh to dr p.la p.b)) : EB p (σ.set p.e o) t' v' s' l' ms' d := by
  obtain ⟨cf, ee, hh, to, dr, rfl⟩ := ho
  obtain ⟨_, _, _, _, _, h1⟩ := h.he
  exact ⟨⟨cf, ee, hh, to, dr, g_set h1⟩, g_ne h.hb h.ne, g_ne h.hj (Ne.symm h.ej)⟩
theorem EB.s_votes {d' : Nat} (h : EB p σ t v s l ms d) (f : Fe p σ₀ σ) (k : ∀ σ', EB p σ' t v s l ms d' → Fe p σ₀ σ' → (∀ j o, σ[j]? = some o → j ≠ p.b → σ'[j]? = some o) → Qh σ') : setA σ (.obj p.b) 212 (.obj d') Qh := by
  refine r_put h.hb (by decide +kernel) (Nat.lt_of_lt_of_le (Nat.lt_succ_self _) (Nat.le_of_ble_eq_true rfl)) (k _ ?_ (f.trans .setB) fun j o hj hn => g_ne hj (Ne.symm hn))
  obtain ⟨cf, ee, hh, to, dr, h1⟩ := h.he
  exact ⟨⟨cf, ee, hh, to, dr, g_ne h1 (Ne.symm h.ne)⟩, g_set h.hb, g_ne h.hj (Ne.symm h.bj)⟩
theorem EB.g_nid (h : EB p σ t v s l ms d) (k : Qv (.int 1)) : gAttr σ (.obj p.e) 152 Qv := by
  obtain ⟨cf, ee, hh, to, dr, h1⟩ := h.he
  exact r_get h1 rfl k
theorem EB.g_tick (h : EB p σ t v s l ms d) (k : Qv (.int 2)) : gAttr σ (.obj p.e) 91 Qv := by
  obtain ⟨cf, ee, hh, to, dr, h1⟩ := h.he
  exact r_get h1 rfl k
theorem EB.g_jit (h : EB p σ t v s l ms d) (k : Qv (.obj p.jt)) : gAttr σ (.obj p.e) 118 Qv := by
  obtain ⟨cf, ee, hh, to, dr, h1⟩ := h.he
  exact r_get h1 rfl k
theorem EB.g_pv (h : EB p σ t v s l ms d) (k : Qv (.bool p.pv)) : gAttr σ (.obj p.e) 167 Qv := by
  obtain ⟨cf, ee, hh, to, dr, h1⟩ := h.he
  exact r_get h1 rfl k
theorem EB.g_term (h : EB p σ t v s l ms d) (k : Qv (.int t)) : gAttr σ (.obj p.e) 200 Qv := by
  obtain ⟨cf, ee, hh, to, dr, h1⟩ := h.he
  exact r_get h1 rfl k
theorem EB.g_vote (h : EB p σ t v s l ms d) (k : Qv (.int v)) : gAttr σ (.obj p.e) 209 Qv := by
  obtain ⟨cf, ee, hh, to, dr, h1⟩ := h.he
  exact r_get h1 rfl k
theorem EB.g_state (h : EB p σ t v s l ms d) (k : Qv (.int s)) : gAttr σ (.obj p.e) 192 Qv := by
  obtain ⟨cf, ee, hh, to, dr, h1⟩ := h.he
  exact r_get h1 rfl k
theorem EB.g_leader (h : EB p σ t v s l ms d) (k : Qv (.int l)) : gAttr σ (.obj p.e) 129 Qv := by
  obtain ⟨cf, ee, hh, to, dr, h1⟩ := h.he
  exact r_get h1 rfl k
theorem EB.g_ms (h : EB p σ t v s l ms d) (k : Qv (.obj ms)) : gAttr σ (.obj p.e) 148 Qv := by
  obtain ⟨cf, ee, hh, to, dr, h1⟩ := h.he
  exact r_get h1 rfl k
theorem EB.g_last (h : EB p σ t v s l ms d) (k : Qv (.obj p.la)) : gAttr σ (.obj p.e) 124 Qv := by
  obtain ⟨cf, ee, hh, to, dr, h1⟩ := h.he
  exact r_get h1 rfl k
theorem EB.g_tr (h : EB p σ t v s l ms d) (k : Qv (.obj p.b)) : gAttr σ (.obj p.e) 206 Qv := by
  obtain ⟨cf, ee, hh, to, dr, h1⟩ := h.he
  exact r_get h1 rfl k
theorem EB.g_draws (h : EB p σ t v s l ms d) (k : ∀ i, Qv (.int i)) : gAttr σ (.obj p.e) 87 Qv := by
  obtain ⟨cf, ee, hh, to, dr, h1⟩ := h.he
  exact r_get h1 rfl (k dr)
theorem EB.s_term (h : EB p σ t v s l ms d) (f : Fe p σ₀ σ) (k : ∀ σ', EB p σ' x v s l ms d → Fe p σ₀ σ' → (∀ j o, σ[j]? = some o → j ≠ p.e → σ'[j]? = some o) → Qh σ') : setA σ (.obj p.e) 200 (.int x) Qh := by
  obtain ⟨cf, ee, hh, to, dr, h1⟩ := h.he
  exact r_put h1 (by decide +kernel) (Nat.lt_of_lt_of_le (Nat.lt_succ_self _) (Nat.le_of_ble_eq_true rfl)) (k _ (h.setE ⟨cf, ee, hh, to, dr, rfl⟩) (f.trans .setE) fun j o hj hn => g_ne hj (Ne.symm hn))
theorem EB.s_vote (h : EB p σ t v s l ms d) (f : Fe p σ₀ σ) (k : ∀ σ', EB p σ' t x s l ms d → Fe p σ₀ σ' → (∀ j o, σ[j]? = some o → j ≠ p.e → σ'[j]? = some o) → Qh σ') : setA σ (.obj p.e) 209 (.int x) Qh := by
  obtain ⟨cf, ee, hh, to, dr, h1⟩ := h.he
  exact r_put h1 (by decide +kernel) (Nat.lt_of_lt_of_le (Nat.lt_succ_self _) (Nat.le_of_ble_eq_true rfl)) (k _ (h.setE ⟨cf, ee, hh, to, dr, rfl⟩) (f.trans .setE) fun j o hj hn => g_ne hj (Ne.symm hn))
theorem EB.s_state (h : EB p σ t v s l ms d) (f : Fe p σ₀ σ) (k : ∀ σ', EB p σ' t v x l ms d → Fe p σ₀ σ' → (∀ j o, σ[j]? = some o → j ≠ p.e → σ'[j]? = some o) → Qh σ') : setA σ (.obj p.e) 192 (.int x) Qh := by
  obtain ⟨cf, ee, hh, to, dr, h1⟩ := h.he
  exact r_put h1 (by decide +kernel) (Nat.lt_of_lt_of_le (Nat.lt_succ_self _) (Nat.le_of_ble_eq_true rfl)) (k _ (h.setE ⟨cf, ee, hh, to, dr, rfl⟩) (f.trans .setE) fun j o hj hn => g_ne hj (Ne.symm hn))
theorem EB.s_leader (h : EB p σ t v s l ms d) (f : Fe p σ₀ σ) (k : ∀ σ', EB p σ' t v s x ms d → Fe p σ₀ σ' → (∀ j o, σ[j]? = some o → j ≠ p.e → σ'[j]? = some o) → Qh σ') : setA σ (.obj p.e) 129 (.int x) Qh := by
  obtain ⟨cf, ee, hh, to, dr, h1⟩ := h.he
  exact r_put h1 (by decide +kernel) (Nat.lt_of_lt_of_le (Nat.lt_succ_self _) (Nat.le_of_ble_eq_true rfl)) (k _ (h.setE ⟨cf, ee, hh, to, dr, rfl⟩) (f.trans .setE) fun j o hj hn => g_ne hj (Ne.symm hn))
theorem EB.s_ee (h : EB p σ t v s l ms d) (f : Fe p σ₀ σ) (k : ∀ σ', EB p σ' t v s l ms d → Fe p σ₀ σ' → (∀ j o, σ[j]? = some o → j ≠ p.e → σ'[j]? = some o) → Qh σ') : setA σ (.obj p.e) 90 (.int x) Qh := by
  obtain ⟨cf, ee, hh, to, dr, h1⟩ := h.he
  exact r_put h1 (by decide +kernel) (Nat.lt_of_lt_of_le (Nat.lt_succ_self _) (Nat.le_of_ble_eq_true rfl)) (k _ (h.setE ⟨cf, x, hh, to, dr, rfl⟩) (f.trans .setE) fun j o hj hn => g_ne hj (Ne.symm hn))
theorem EB.s_hh (h : EB p σ t v s l ms d) (f : Fe p σ₀ σ) (k : ∀ σ', EB p σ' t v s l ms d → Fe p σ₀ σ' → (∀ j o, σ[j]? = some o → j ≠ p.e → σ'[j]? = some o) → Qh σ') : setA σ (.obj p.e) 107 (.int x) Qh := by
  obtain ⟨cf, ee, hh, to, dr, h1⟩ := h.he
  exact r_put h1 (by decide +kernel) (Nat.lt_of_lt_of_le (Nat.lt_succ_self _) (Nat.le_of_ble_eq_true rfl)) (k _ (h.setE ⟨cf, ee, x, to, dr, rfl⟩) (f.trans .setE) fun j o hj hn => g_ne hj (Ne.symm hn))
theorem EB.s_to (h : EB p σ t v s l ms d) (f : Fe p σ₀ σ) (k : ∀ σ', EB p σ' t v s l ms d → Fe p σ₀ σ' → (∀ j o, σ[j]? = some o → j ≠ p.e → σ'[j]? = some o) → Qh σ') : setA σ (.obj p.e) 204 (.int x) Qh := by
  obtain ⟨cf, ee, hh, to, dr, h1⟩ := h.he
  exact r_put h1 (by decide +kernel) (Nat.lt_of_lt_of_le (Nat.lt_succ_self _) (Nat.le_of_ble_eq_true rfl)) (k _ (h.setE ⟨cf, ee, hh, x, dr, rfl⟩) (f.trans .setE) fun j o hj hn => g_ne hj (Ne.symm hn))
theorem EB.s_draws (h : EB p σ t v s l ms d) (f : Fe p σ₀ σ) (k : ∀ σ', EB p σ' t v s l ms d → Fe p σ₀ σ' → (∀ j o, σ[j]? = some o → j ≠ p.e → σ'[j]? = some o) → Qh σ') : setA σ (.obj p.e) 87 (.int x) Qh := by
  obtain ⟨cf, ee, hh, to, dr, h1⟩ := h.he
  exact r_put h1 (by decide +kernel) (Nat.lt_of_lt_of_le (Nat.lt_succ_self _) (Nat.le_of_ble_eq_true rfl)) (k _ (h.setE ⟨cf, ee, hh, to, x, rfl⟩) (f.trans .setE) fun j o hj hn => g_ne hj (Ne.symm hn))
theorem EB.dict0 (h : EB p σ t v s l ms d) (f : Fe p σ₀ σ) (k : ∀ σ' d', EB p σ' t v s l ms d → Fe p σ₀ σ' → σ'[d']? = some (.dict []) → σ₀.length ≤ d' → Q (.obj d') σ') : eDict0 m σ Q :=
  k _ _ h.push (f.trans .push) Mine.g_last f.len
theorem EB.s_ms {ms' : Nat} (h : EB p σ t v s l ms d) (f : Fe p σ₀ σ) (k : ∀ σ', EB p σ' t v s l ms' d → Fe p σ₀ σ' → (∀ j o, σ[j]? = some o → j ≠ p.e → σ'[j]? = some o) → Qh σ') : setA σ (.obj p.e) 148 (.obj ms') Qh := by
  obtain ⟨cf, ee, hh, to, dr, h1⟩ := h.he
  exact r_put h1 (by decide +kernel) (Nat.lt_of_lt_of_le (Nat.lt_succ_self _) (Nat.le_of_ble_eq_true rfl)) (k _ (h.setE ⟨cf, ee, hh, to, dr, rfl⟩) (f.trans .setE) fun j o hj hn => g_ne hj (Ne.symm hn))
end

local macro_rules | `(tactic| walk_at "mst") => `(tactic| with_reducible first
  | refine r_seq ?_ | refine r_next ?_ | refine r_kret ?_ | refine r_kcont ?_ | refine r_nil ?_ | refine r_pass ?_ | refine r_cont ?_ | refine r_ret ?_ | refine r_ret0 ?_ | refine r_exp ?_ | refine r_asg ?_ | refine r_if ?_
  | refine r_set ?_ | refine r_loc (by with_unfolding_all rfl) ?_ | refine r_V ?_ | refine r_attr ?_ | refine r_call ?_ | refine r_meth ?_ | refine r_new ?_ | refine r_esn ?_ | refine r_esc ?_ | refine r_tcmp ?_ | refine r_ecmp ?_ | refine r_kcmp ?_
  | refine r_bin ?_ | refine r_add ?_ | refine r_sub ?_ | refine r_tval ?_ | refine r_tbool ?_ | refine r_tint ?_ | refine r_tnot ?_ | refine r_enot ?_ | refine r_and ?_ | refine r_or ?_ | refine r_and0 ?_ | refine r_or0 ?_ | refine r_or2 ?_
  | refine r_tup ?_ | refine r_list ?_ | refine r_tin ?_ | refine r_ein ?_ | refine r_len ?_ | refine r_idx ?_ | refine r_augN (by with_unfolding_all rfl) ?_ | refine r_addV ?_ | refine r_augA ?_ | refine r_app ?_ | refine r_setitem ?_ | refine r_for ?_ | refine r_unp2 ?_
  | refine r_ift ?_ (by rfl) | refine r_iff ?_ (by rfl) | refine r_andt ?_ (by rfl) | refine r_andf ?_ (by rfl) | refine r_ort ?_ (by rfl) | refine r_orf ?_ (by rfl) | refine r_or2t ?_ (by rfl) | refine r_or2f ?_ (by rfl)
  | refine r_get (by assumption) (by with_unfolding_all rfl) ?_ | refine r_km (by assumption) (by with_unfolding_all rfl) ?_)

local macro_rules | `(tactic| walk_at "meb") => `(tactic| with_reducible first
  | refine EB.g_term (by assumption) ?_ | refine EB.g_vote (by assumption) ?_ | refine EB.g_state (by assumption) ?_ | refine EB.g_leader (by assumption) ?_ | refine EB.g_nid (by assumption) ?_ | refine EB.g_tick (by assumption) ?_
  | refine EB.g_jit (by assumption) ?_ | refine EB.g_cq (by assumption) ?_ | refine EB.g_pv (by assumption) ?_ | refine EB.g_ms (by assumption) ?_ | refine EB.g_last (by assumption) ?_ | refine EB.g_tr (by assumption) ?_
  | (refine EB.g_draws (by assumption) ?_; intro dr) | refine EB.g_bc (by assumption) ?_ | refine EB.g_bv (by assumption) ?_
  | refine EB.km (by assumption) (by intros; with_unfolding_all rfl) ?_ | refine EB.kb (by assumption) (by with_unfolding_all rfl) ?_
  | (refine EB.s_term (by assumption) (by assumption) ?_; intro _ _ _ _) | (refine EB.s_vote (by assumption) (by assumption) ?_; intro _ _ _ _) | (refine EB.s_state (by assumption) (by assumption) ?_; intro _ _ _ _) | (refine EB.s_leader (by assumption) (by assumption) ?_; intro _ _ _ _)
  | (refine EB.s_ee (by assumption) (by assumption) ?_; intro _ _ _ _) | (refine EB.s_hh (by assumption) (by assumption) ?_; intro _ _ _ _) | (refine EB.s_to (by assumption) (by assumption) ?_; intro _ _ _ _) | (refine EB.s_draws (by assumption) (by assumption) ?_; intro _ _ _ _)
  | refine r_le (by with_unfolding_all rfl) ?_)
section
variable {p : Par} {σ : Hp} {t v s l x y : Int} {ms d : Nat} {Q : V → Hp → Prop}
theorem c_draw (h : EB p σ t v s l ms d) (k : ∀ σ', EB p σ' t v s l ms d → Fe p σ σ' → (∀ j o, σ[j]? = some o → j ≠ p.e → σ'[j]? = some o) → Q .none σ') : F_Elector_draw_timeout [.obj p.e] σ Q := by
  refine ⟨rfl, ?_⟩
  delta W_Elector_draw_timeout
  have f : Fe p σ σ := .refl
  repeat (first | walk_at "mst" | walk_at "meb")
  refine r_lentup h.hj ?_
  refine r_mod (by decide) ?_
  rename_i dr
  have e : dr.fmod (([V.int 0] : List V).length : Int) = 0 := Int.fmod_one dr
  rw [e]
  refine r_idxtup h.hj rfl rfl ?_
  repeat (first | walk_at "mst" | walk_at "meb")
  refine r_mod (by decide) ?_
  repeat (first | walk_at "mst" | walk_at "meb")
  rename_i σ1 h1 f1 g1 σ2 h2 f2 g2
  exact k _ h2 f2 fun j o hj hn => g2 j o (g1 j o hj hn) hn
theorem c_forget {w : V} (k : Q .none σ) : F_Elector_forget [w] σ Q := by
  refine ⟨rfl, ?_⟩
  delta W_Elector_forget
  repeat (first | walk_at "mst" | walk_at "meb")
  exact k
theorem c_lead {w : V} (k : Q .none σ) : F_Elector_lead [w] σ Q := by
  refine ⟨rfl, ?_⟩
  delta W_Elector_lead
  repeat (first | walk_at "mst" | walk_at "meb")
  exact k
theorem c_begin {w : V} (k : Q .none σ) : F_Elector_begin [w] σ Q := by
  refine ⟨rfl, ?_⟩
  delta W_Elector_begin
  repeat (first | walk_at "mst" | walk_at "meb")
  exact k
theorem c_bcast {w : V} (k : Q .none σ) : F_Elector_bcast_append [w] σ Q := by
  refine ⟨rfl, ?_⟩
  delta W_Elector_bcast_append
  repeat (first | walk_at "mst" | walk_at "meb")
  exact k
theorem c_stepleader {w u : V} (k : Q .none σ) : F_Elector_step_leader [w, u] σ Q := by
  refine ⟨rfl, ?_⟩
  delta W_Elector_step_leader
  repeat (first | walk_at "mst" | walk_at "meb")
  exact k
theorem c_unapplied {w : V} (k : Q (.bool false) σ) : F_Elector_unapplied_conf [w] σ Q := by
  refine ⟨rfl, ?_⟩
  delta W_Elector_unapplied_conf
  repeat (first | walk_at "mst" | walk_at "meb")
  exact k
theorem c_resetv (h : EB p σ t v s l ms d) (k : ∀ σ' d', EB p σ' t v s l ms d' → Fe p σ σ' → σ'[d']? = some (.dict []) → σ.length ≤ d' → Q .none σ') : F_Ballots_reset_votes [.obj p.b] σ Q := by
  refine ⟨rfl, ?_⟩
  delta W_Ballots_reset_votes
  have f : Fe p σ σ := .refl
  repeat (first | walk_at "mst" | walk_at "meb")
  refine h.dict0 f fun σ1 d1 h1 f1 hd ld => ?_
  repeat (first | walk_at "mst" | walk_at "meb")
  refine h1.s_votes f1 fun σ2 h2 f2 g2 => ?_
  repeat (first | walk_at "mst" | walk_at "meb")
  exact k _ _ h2 f2 (g2 _ _ hd fun e => by have := h1.hb; rw [← e, hd] at this; cases this) ld
theorem c_reset (h : EB p σ t v s l ms d) (k : ∀ σ' d', EB p σ' x (if t = x then v else 0) s 0 ms d' → Fe p σ σ' → σ'[d']? = some (.dict []) → σ.length ≤ d' → Q .none σ') : F_Elector_reset [.obj p.e, .int x] σ Q := by
  refine ⟨rfl, ?_⟩
  delta W_Elector_reset
  have f : Fe p σ σ := .refl
  repeat (first | walk_at "mst" | walk_at "meb")
  refine r_ifc (fun hc => ?_) (fun hc => ?_)
  all_goals
    repeat (first | walk_at "mst" | walk_at "meb")
    refine c_draw (by assumption) fun σ2 h2 f2 _ => ?_
    have f3 := Fe.trans (by assumption) f2
    repeat (first | walk_at "mst" | walk_at "meb")
    refine c_resetv h2 fun σ3 d3 h3 f4 hd ld => ?_
    repeat (first | walk_at "mst" | walk_at "meb")
    refine c_forget ?_
    repeat (first | walk_at "mst" | walk_at "meb")
    refine k _ d3 ?_ (f3.trans f4) hd (Nat.le_trans f3.len ld)
  · rw [if_neg (by simpa [cmpB] using hc)]; exact h3
  · have e : t = x := by simpa [cmpB] using hc
    rw [if_pos e, ← e]; exact h3
theorem c_bf (h : EB p σ t v s l ms d) (k : ∀ σ' d', EB p σ' x (if t = x then v else 0) 0 y ms d' → Fe p σ σ' → σ'[d']? = some (.dict []) → σ.length ≤ d' → Q .none σ') : F_Elector_become_follower [.obj p.e, .int x, .int y] σ Q := by
  refine ⟨rfl, ?_⟩
  delta W_Elector_become_follower
  repeat (first | walk_at "mst" | walk_at "meb")
  refine c_reset h fun σ2 d2 h2 f2 hd ld => ?_
  repeat (first | walk_at "mst" | walk_at "meb")
  rename_i σ3 h3 f3 g3 σ4 h4 f4 g4
  exact k _ d2 h4 f4 (g4 _ _ (g3 _ _ hd (h2.ned hd)) (h3.ned (g3 _ _ hd (h2.ned hd)))) ld
theorem c_bc (h : EB p σ t v s l ms d) (hs : s ≠ 2) (k : ∀ σ' d', EB p σ' (t + 1) 1 1 0 ms d' → Fe p σ σ' → σ'[d']? = some (.dict []) → σ.length ≤ d' → Q .none σ') : F_Elector_become_candidate [.obj p.e] σ Q := by
  refine ⟨rfl, ?_⟩
  delta W_Elector_become_candidate
  repeat (first | walk_at "mst" | walk_at "meb")
  refine r_iff ?_ (by simpa [cmpB] using hs)
  repeat (first | walk_at "mst" | walk_at "meb")
  refine c_reset h fun σ2 d2 h2 f2 hd ld => ?_
  repeat (first | walk_at "mst" | walk_at "meb")
  rename_i σ3 h3 f3 g3 σ4 h4 f4 g4
  exact k _ d2 h4 f4 (g4 _ _ (g3 _ _ hd (h2.ned hd)) (h3.ned (g3 _ _ hd (h2.ned hd)))) ld
theorem c_bp (h : EB p σ t v s l ms d) (hs : s ≠ 2) (k : ∀ σ' d', EB p σ' t v 3 0 ms d' → Fe p σ σ' → σ'[d']? = some (.dict []) → σ.length ≤ d' → Q .none σ') : F_Elector_become_pre_candidate [.obj p.e] σ Q := by
  refine ⟨rfl, ?_⟩
  delta W_Elector_become_pre_candidate
  repeat (first | walk_at "mst" | walk_at "meb")
  refine r_iff ?_ (by simpa [cmpB] using hs)
  repeat (first | walk_at "mst" | walk_at "meb")
  refine c_resetv h fun σ2 d2 h2 f2 hd ld => ?_
  repeat (first | walk_at "mst" | walk_at "meb")
  rename_i σ3 h3 f3 g3 σ4 h4 f4 g4
  exact k _ d2 h4 f4 (g4 _ _ (g3 _ _ hd (h2.ned hd)) (h3.ned (g3 _ _ hd (h2.ned hd)))) ld
end


-- loops
theorem forW_ind {i : Nat} {o : O} {x : Nat} {Wb : SW} {Q : Fl → Loc → Hp → Prop} (I : List V → Loc → Hp → Prop)
    (step : ∀ v r m σ K, I (v :: r) m σ → (∀ m' σ', I r m' σ' → K .next m' σ') → (∀ m' σ', I r m' σ' → K .cont m' σ') → Wb (put m x v) σ K) (fin : ∀ m σ, I [] m σ → σ[i]? = some .gone ∧ Q .next m (σ.set i o)) : ∀ vs m σ, I vs m σ → forW i o x Wb vs m σ Q
  | [], m, σ, h => fin m σ h
  | v :: r, m, σ, h => step v r m σ _ h (fun m' σ' hI => forW_ind I step fin r m' σ' hI) (fun m' σ' hI => forW_ind I step fin r m' σ' hI)

-- rising
noncomputable def dd : List Int → List Int → List Int
  | acc, [] => acc
  | acc, v :: r => if acc.getLast? = some v then dd acc r else dd (acc ++ [v]) r
theorem dd_spec : ∀ (r acc : List Int), acc.Pairwise (· < ·) → r.Pairwise (· ≤ ·) → (∀ a ∈ acc, ∀ b ∈ r, a ≤ b) → (dd acc r).Pairwise (· < ·) ∧ (∀ x, x ∈ dd acc r ↔ x ∈ acc ∨ x ∈ r) ∧ (dd acc r).length ≤ acc.length + r.length
  | [], acc, h1, _, _ => ⟨h1, fun x => by simp [dd], by simp [dd]⟩
  | v :: r, acc, h1, h2, h3 => by
    rw [List.pairwise_cons] at h2
    unfold dd
    by_cases hv : acc.getLast? = some v
    · rw [if_pos hv]
      obtain ⟨a, b, c⟩ := dd_spec r acc h1 h2.2 fun a ha b hb => h3 a ha b (List.mem_cons_of_mem _ hb)
      refine ⟨a, fun x => ?_, by simp only [List.length_cons]; omega⟩
      rw [b, List.mem_cons]
      have hm : v ∈ acc := List.mem_of_getLast? hv
      constructor
      · rintro (h | h)
        · exact .inl h
        · exact .inr (.inr h)
      · rintro (h | h | h)
        · exact .inl h
        · exact .inl (h ▸ hm)
        · exact .inr h
    · rw [if_neg hv]
      have hlt : ∀ a ∈ acc, a < v := fun a ha => by
        have hle := h3 a ha v List.mem_cons_self
        rcases Int.lt_or_eq_of_le hle with h | h
        · exact h
        · exfalso
          -- a = v is in acc: then it is its last
          subst h
          have hne : acc ≠ [] := List.ne_nil_of_mem ha
          have hl := List.getLast_mem hne
          have h4 := h3 _ hl a List.mem_cons_self
          apply hv
          rw [List.getLast?_eq_some_getLast hne]
          congr 1
          by_cases hq : acc.getLast hne = a
          · exact hq
          · exfalso
            obtain ⟨l, hl2⟩ : ∃ l, acc = l ++ [acc.getLast hne] := ⟨acc.dropLast, (List.dropLast_concat_getLast hne).symm⟩
            rw [hl2] at ha h1
            rcases List.mem_append.mp ha with h5 | h5
            · have := (List.pairwise_append.mp h1).2.2 a h5 _ List.mem_cons_self
              omega
            · simp at h5; exact hq h5.symm
      obtain ⟨a, b, c⟩ := dd_spec r (acc ++ [v]) (List.pairwise_append.mpr ⟨h1, List.pairwise_singleton _ _, fun a ha b hb => by rw [List.mem_singleton.mp hb]; exact hlt a ha⟩) h2.2 fun a ha b hb => by
        rcases List.mem_append.mp ha with h | h
        · exact h3 a h b (List.mem_cons_of_mem _ hb)
        · rw [List.mem_singleton.mp h]; exact h2.1 b hb
      refine ⟨a, fun x => ?_, by simp only [List.length_append, List.length_cons, List.length_nil] at c ⊢; omega⟩
      rw [b, List.mem_append, List.mem_singleton, List.mem_cons, or_assoc]
theorem get2 {σ : Hp} {o o' : O} : (σ ++ [o, o'])[σ.length]? = some o ∧ (σ ++ [o, o'])[σ.length + 1]? = some o' := by simp
theorem set2 {σ : Hp} {o o' q : O} : (σ ++ [o, o']).set σ.length q = σ ++ [q, o'] ∧ (σ ++ [o, o']).set (σ.length + 1) q = σ ++ [o, q] := by simp
theorem c_rising {i : Nat} {ns : List Int} {σ : Hp} {Q : V → Hp → Prop} (hi : σ[i]? = some (.list (ns.map V.int))) (hl : ns.length < 64)
    (k : ∀ (R : List Int) (q : O), R.Pairwise (· < ·) → (∀ x, x ∈ R ↔ x ∈ ns) → R.length ≤ ns.length → Q (.obj σ.length) (σ ++ [.list (R.map V.int), q])) : F_rising [.obj i] σ Q := by
  refine ⟨rfl, ?_⟩
  delta W_rising
  repeat (first | walk_at "mst" | walk_at "meb")
  refine r_knew rfl ?_
  repeat (first | walk_at "mst" | walk_at "meb")
  show eSorted _ _ _ _
  refine r_loc (by with_unfolding_all rfl) ⟨i, ns, rfl, g_app hi, hl, fun ns' hp hs => ?_⟩
  have e0 : (σ ++ [O.list []]).length = σ.length + 1 := by simp
  have e1 : σ ++ [O.list []] ++ [O.list (ns'.map V.int)] = σ ++ [O.list [], O.list (ns'.map V.int)] := by simp
  rw [e0, e1]
  refine ⟨_, _, _, rfl, get2.2, .inl rfl, ?_⟩
  rw [set2.2]
  obtain ⟨d1, d2, d3⟩ := dd_spec ns' [] .nil hs (fun a ha => absurd ha List.not_mem_nil)
  refine forW_ind (fun vs m σ' => ∃ (r acc : List Int), vs = r.map V.int ∧ lk m 161 = some (.obj σ.length) ∧ σ' = σ ++ [.list (acc.map V.int), .gone] ∧ dd acc r = dd [] ns' ∧ acc.length + r.length ≤ ns'.length) ?_ ?_ _ _ _ ⟨ns', [], rfl, rfl, rfl, rfl, by simp⟩
  · rintro v r m σ' K ⟨r', acc, hr, hm, rfl, hd, hle⟩ k1 _
    cases r' with
    | nil => cases hr
    | cons n r' =>
      obtain ⟨rfl, rfl⟩ := List.cons.inj hr
      have hm' : lk (put m 152 (.int n)) 161 = some (.obj σ.length) := lk_ne rfl hm
      have hn' : lk (put m 152 (.int n)) 152 = some (.int n) := lk_eq
      have e3 : σ ++ [O.list (acc.map V.int), .gone] = σ ++ [O.list (acc.map V.int), .gone] := rfl
      have hd : (if acc.getLast? = some n then dd acc r' else dd (acc ++ [n]) r') = dd [] ns' := hd
      have app : acc.getLast? ≠ some n → (sSeq (sExp (sApp (eLoc 161) (eLoc 152))) sNil) (put m 152 (V.int n)) (σ ++ [O.list (acc.map V.int), O.gone]) (kSeq sNil K) := fun hne => by
        repeat (first | with_reducible refine r_loc hm' ?_ | refine r_loc hn' ?_ | walk_at "mst")
        refine ⟨⟨_, _, rfl, get2.1⟩, ?_⟩
        repeat (first | with_reducible refine r_loc hm' ?_ | refine r_loc hn' ?_ | walk_at "mst")
        have hp' := hp.length_eq
        simp only [List.length_cons] at hle
        refine ⟨_, _, rfl, get2.1, by rw [List.length_map]; omega, ?_⟩
        repeat (first | walk_at "mst")
        rw [set2.1]
        refine k1 _ _ ⟨r', acc ++ [n], rfl, hm', by simp, ?_, by simp only [List.length_append, List.length_cons, List.length_nil]; omega⟩
        rw [← hd, if_neg hne]
      repeat (first | with_reducible refine r_loc hm' ?_ | refine r_loc hn' ?_ | walk_at "mst")
      refine r_tlist get2.1 ?_
      repeat (first | with_reducible refine r_loc hm' ?_ | refine r_loc hn' ?_ | walk_at "mst")
      cases hac : acc with
      | nil =>
        rw [hac] at app
        refine r_ort ?_ rfl
        refine r_ift ?_ rfl
        exact app (by simp)
      | cons a0 t0 =>
        refine r_orf ?_ rfl
        repeat (first | with_reducible refine r_loc hm' ?_ | refine r_loc hn' ?_ | walk_at "mst")
        have hlast : ∃ z, acc.getLast? = some z := ⟨acc.getLast (by rw [hac]; simp), List.getLast?_eq_some_getLast _⟩
        obtain ⟨z, hz⟩ := hlast
        rw [← hac]
        have hlen : 0 < acc.length := by rw [hac]; simp
        refine r_idxlist (q := acc.length - 1) (v := .int z) get2.1 ?_ ?_ ?_
        · rw [List.length_map]
          unfold seqIndex?
          simp; omega
        · rw [List.getElem?_map]
          rw [List.getLast?_eq_getElem?] at hz
          rw [hz]; rfl
        repeat (first | with_reducible refine r_loc hm' ?_ | refine r_loc hn' ?_ | walk_at "mst")
        refine ⟨fun hc => ?_, fun hc => ?_⟩
        · refine r_ift (app ?_) rfl
          rw [hz]
          have hzn : ¬ z = n := by simpa [cmpB] using hc
          simpa using hzn
        · have hzn : z = n := by simpa [cmpB] using hc
          repeat (first | walk_at "mst")
          refine k1 _ _ ⟨r', acc, rfl, hm', rfl, ?_, by simp only [List.length_cons] at hle; omega⟩
          rw [← hd, if_pos (by rw [hz, hzn])]
  · rintro m σ' ⟨r, acc, hr, hm, rfl, hd, hle⟩
    have hr0 : r = [] := by cases r with | nil => rfl | cons _ _ => cases hr
    subst hr0
    refine ⟨get2.2, ?_⟩
    rw [set2.2]
    repeat (first | with_reducible refine r_loc hm ?_ | walk_at "mst")
    have : acc = dd [] ns' := hd
    rw [this]
    exact k _ _ d1 (fun x => by rw [d2]; simp [hp.mem_iff]) (by rw [← hp.length_eq]; simpa using d3)


-- votes
abbrev Vt := List (Int × Bool)
noncomputable def Vt.d (w : Vt) : List (Int × V) := w.map fun a => (a.1, .bool a.2)
noncomputable def look : Vt → Int → Option Bool
  | [], _ => Option.none
  | a :: r, k => if a.1 = k then some a.2 else look r k
theorem look_any : ∀ (w : Vt) (k : Int), (w.d.any fun a => decide (a.1 = k)) = (look w k).isSome
  | [], _ => rfl
  | a :: r, k => by
    show (decide (a.1 = k) || (Vt.d r).any fun a => decide (a.1 = k)) = (if a.1 = k then some a.2 else look r k).isSome
    rw [look_any r k]
    by_cases h : a.1 = k <;> simp [h]
theorem look_find : ∀ {w : Vt} {k : Int} {b : Bool}, look w k = some b → (w.d.find? fun a => a.1 = k).map (·.2) = some (.bool b)
  | a :: r, k, b, h => by
    show Option.map _ (List.find? _ ((a.1, V.bool a.2) :: Vt.d r)) = _
    unfold look at h
    by_cases hk : a.1 = k
    · rw [if_pos hk] at h
      cases h
      rw [List.find?_cons_of_pos (by simpa using hk)]
      rfl
    · rw [if_neg hk] at h
      rw [List.find?_cons_of_neg (by simpa using hk)]
      exact look_find h
noncomputable def cnt (w : Vt) (o : Option Bool) : List Int → Int
  | [] => 0
  | n :: r => (if look w n = o then 1 else 0) + cnt w o r
noncomputable def mv (ids : List Int) (w : Vt) : Int :=
  if ids = [] then 3 else if (ids.length : Int).fdiv 2 + 1 ≤ cnt w (some true) ids then 3 else if (ids.length : Int).fdiv 2 + 1 ≤ cnt w (some true) ids + cnt w Option.none ids then 1 else 2
noncomputable def jv (a b : List Int) (w : Vt) : Int := if mv a w = mv b w then mv a w else if mv a w = 2 ∨ mv b w = 2 then 2 else 1
theorem set_back {σ : Hp} {i : Nat} {o o' : O} (h : σ[i]? = some o) : (σ.set i o').set i o = σ := by
  rw [List.set_set]
  apply List.ext_getElem?
  intro j
  by_cases hj : i = j
  · subst hj; rw [g_set h, h]
  · rw [List.getElem?_set_ne hj]
theorem get_ne {σ : Hp} {i j : Nat} {o o' : O} (h : σ[i]? = some o) (h' : σ[j]? = some o') (hn : o ≠ o') : i ≠ j := fun e => by rw [e, h'] at h; exact hn (Option.some.inj h).symm
theorem c_mv {i d : Nat} {ids : List Int} {w : Vt} {σ : Hp} {Q : V → Hp → Prop} (hi : σ[i]? = some (.list (ids.map V.int))) (hd : σ[d]? = some (.dict w.d)) (k : Q (.int (mv ids w)) σ) : F_majority_vote [.obj i, .obj d] σ Q := by
  refine ⟨rfl, ?_⟩
  delta W_majority_vote
  have hne : i ≠ d := get_ne hi hd (fun h => by cases h)
  repeat (first | walk_at "mst")
  refine r_tlist hi ?_
  repeat (first | walk_at "mst")
  cases hids : ids with
  | nil =>
    refine r_ift ?_ rfl
    repeat (first | walk_at "mst")
    rw [hids] at k; exact k
  | cons n0 r0 =>
    refine r_iff ?_ rfl
    have hnn : ids ≠ [] := by rw [hids]; simp
    repeat (first | walk_at "mst")
    refine ⟨i, _, _, rfl, hi, .inl rfl, ?_⟩
    refine forW_ind (fun vs m σ' => ∃ (r : List Int) (g z : Int), vs = r.map V.int ∧ lk m 113 = some (.obj i) ∧ lk m 212 = some (.obj d) ∧ lk m 104 = some (.int g) ∧ lk m 149 = some (.int z) ∧ σ' = σ.set i .gone ∧ g + cnt w (some true) r = cnt w (some true) ids ∧ z + cnt w Option.none r = cnt w Option.none ids)
      ?_ ?_ _ _ _ ⟨ids, 0, 0, rfl, rfl, rfl, rfl, rfl, rfl, by simp, by simp⟩
    · rintro v r m σ' K ⟨r', g, z, hr, m1, m2, m3, m4, rfl, hg, hz⟩ k1 _
      cases r' with
      | nil => cases hr
      | cons n r' =>
        obtain ⟨rfl, rfl⟩ := List.cons.inj hr
        have q0 : lk (put m 152 (.int n)) 152 = some (.int n) := lk_eq
        have q1 : lk (put m 152 (.int n)) 113 = some (.obj i) := lk_ne rfl m1
        have q2 : lk (put m 152 (.int n)) 212 = some (.obj d) := lk_ne rfl m2
        have q3 : lk (put m 152 (.int n)) 104 = some (.int g) := lk_ne rfl m3
        have q4 : lk (put m 152 (.int n)) 149 = some (.int z) := lk_ne rfl m4
        have hd' : (σ.set i .gone)[d]? = some (.dict w.d) := g_ne hd hne
        repeat (first | with_reducible refine r_loc q0 ?_ | with_reducible refine r_loc q2 ?_ | walk_at "mst")
        refine r_indict hd' ?_
        rw [look_any]
        simp only [cnt] at hg hz
        cases hl : look w n with
        | none =>
          rw [hl] at hg hz
          refine r_ift ?_ rfl
          repeat (first | with_reducible refine r_augN q4 ?_ | walk_at "mst")
          refine k1 _ _ ⟨r', g, z + 1, rfl, ?_, ?_, ?_, ?_, rfl, ?_, ?_⟩
          · exact lk_ne rfl q1
          · exact lk_ne rfl q2
          · exact lk_ne rfl q3
          · exact lk_eq
          · simpa using hg
          · rw [if_pos rfl] at hz; omega
        | some b =>
          rw [hl] at hg hz
          refine r_iff ?_ rfl
          repeat (first | with_reducible refine r_loc q0 ?_ | with_reducible refine r_loc q2 ?_ | walk_at "mst")
          refine r_idxdict hd' (look_find hl) ?_
          repeat (first | walk_at "mst")
          cases b with
          | true =>
            refine r_ift ?_ rfl
            repeat (first | with_reducible refine r_augN q3 ?_ | walk_at "mst")
            refine k1 _ _ ⟨r', g + 1, z, rfl, ?_, ?_, ?_, ?_, rfl, ?_, ?_⟩
            · exact lk_ne rfl q1
            · exact lk_ne rfl q2
            · exact lk_eq
            · exact lk_ne rfl q4
            · rw [if_pos rfl] at hg; omega
            · simpa using hz
          | false =>
            refine r_iff ?_ rfl
            repeat (first | walk_at "mst")
            exact k1 _ _ ⟨r', g, z, rfl, q1, q2, q3, q4, rfl, by simpa using hg, by simpa using hz⟩
    · rintro m σ' ⟨r, g, z, hr, m1, m2, m3, m4, rfl, hg, hz⟩
      have hr0 : r = [] := by cases r with | nil => rfl | cons _ _ => cases hr
      subst hr0
      refine ⟨g_set hi, ?_⟩
      rw [set_back hi]
      have hg' : g = cnt w (some true) ids := by simpa [cnt] using hg
      have hz' : z = cnt w Option.none ids := by simpa [cnt] using hz
      repeat (first | with_reducible refine r_loc m1 ?_ | walk_at "mst")
      refine r_lenlist hi ?_
      repeat (first | with_reducible refine r_loc m1 ?_ | walk_at "mst")
      refine r_div ⟨by decide, by decide⟩ ?_
      rw [List.length_map]
      have m3' : ∀ v, lk (put m 151 v) 104 = some (.int g) := fun v => lk_ne rfl m3
      have m4' : ∀ v, lk (put m 151 v) 149 = some (.int z) := fun v => lk_ne rfl m4
      have m5' : ∀ v, lk (put m 151 v) 151 = some v := fun v => lk_eq
      repeat (first | with_reducible refine r_loc (m3' _) ?_ | with_reducible refine r_loc (m4' _) ?_ | with_reducible refine r_loc (m5' _) ?_ | walk_at "mst")
      unfold mv at k
      rw [if_neg hnn, ← hg', ← hz'] at k
      refine r_ifc (fun hc => ?_) (fun hc => ?_)
      · have hc' : (ids.length : Int).fdiv 2 + 1 ≤ g := by simpa [cmpB] using hc
        rw [if_pos hc'] at k
        repeat (first | walk_at "mst")
        exact k
      · have hc' : ¬ (ids.length : Int).fdiv 2 + 1 ≤ g := by simpa [cmpB] using hc
        rw [if_neg hc'] at k
        repeat (first | with_reducible refine r_loc (m3' _) ?_ | with_reducible refine r_loc (m4' _) ?_ | with_reducible refine r_loc (m5' _) ?_ | walk_at "mst")
        refine r_ifc (fun hc => ?_) (fun hc => ?_)
        · have hc2 : (ids.length : Int).fdiv 2 + 1 ≤ g + z := by simpa [cmpB] using hc
          rw [if_pos hc2] at k
          repeat (first | walk_at "mst")
          exact k
        · have hc2 : ¬ (ids.length : Int).fdiv 2 + 1 ≤ g + z := by simpa [cmpB] using hc
          rw [if_neg hc2] at k
          repeat (first | walk_at "mst")
          exact k
theorem c_jv {i j d : Nat} {a b : List Int} {w : Vt} {σ : Hp} {Q : V → Hp → Prop} (hi : σ[i]? = some (.list (a.map V.int))) (hj : σ[j]? = some (.list (b.map V.int))) (hd : σ[d]? = some (.dict w.d)) (k : Q (.int (jv a b w)) σ) :
    F_joint_vote [.obj i, .obj j, .obj d] σ Q := by
  refine ⟨rfl, ?_⟩
  delta W_joint_vote
  unfold jv at k
  repeat (first | walk_at "mst")
  refine c_mv hi hd ?_
  repeat (first | walk_at "mst")
  refine c_mv hj hd ?_
  repeat (first | walk_at "mst")
  refine r_ifc (fun hc => ?_) (fun hc => ?_)
  · rw [if_pos (by simpa [cmpB] using hc)] at k
    repeat (first | walk_at "mst")
    exact k
  · rw [if_neg (by simpa [cmpB] using hc)] at k
    repeat (first | walk_at "mst")
    by_cases h1 : mv a w = 2
    · rw [if_pos (.inl h1)] at k
      refine r_ort ?_ (by simp [cmpB, h1])
      repeat (first | walk_at "mst")
      exact k
    · refine r_orf ?_ (by simp [cmpB, h1])
      repeat (first | walk_at "mst")
      by_cases h2 : mv b w = 2
      · rw [if_pos (.inr h2)] at k
        refine r_ort ?_ (by simp [cmpB, h2])
        repeat (first | walk_at "mst")
        exact k
      · rw [if_neg (by simp [h1, h2])] at k
        refine r_orf ?_ (by simp [cmpB, h2])
        repeat (first | walk_at "mst")
        exact k


-- an object that is being made
structure Kp (i : Nat) (σ σ' : Hp) : Prop where
  keep : ∀ j o, σ[j]? = some o → j ≠ i → σ'[j]? = some o
  len : σ.length ≤ σ'.length
theorem Kp.refl {i : Nat} {σ : Hp} : Kp i σ σ := ⟨fun _ _ h _ => h, Nat.le_refl _⟩
section
variable {i C a : Nat} {σ σ₀ : Hp} {as : List (Nat × V)} {v : V} {Qh : Hp → Prop} {Q : V → Hp → Prop}
theorem Kp.push {r : Hp} (f : Kp i σ₀ σ) : Kp i σ₀ (σ ++ r) := ⟨fun j o h hn => g_app (f.keep j o h hn), Nat.le_trans f.len (by simp)⟩
theorem r_putk (hi : σ[i]? = some (.inst C as)) (f : Kp i σ₀ σ) (ho : okA C a = true) (hl : as.length.ble 39 = true) (k : ∀ σ', σ'[i]? = some (.inst C (put as a v)) → Kp i σ₀ σ' → (∀ j o, σ[j]? = some o → j ≠ i → σ'[j]? = some o) → Qh σ') : setA σ (.obj i) a v Qh :=
  r_put hi ho (Nat.lt_succ_of_le (Nat.le_of_ble_eq_true hl)) (k _ (g_set hi) ⟨fun j o h hn => g_ne (f.keep j o h hn) (Ne.symm hn), Nat.le_trans f.len (by simp)⟩ fun j o h hn => g_ne h (Ne.symm hn))
theorem r_newk {fo : List V → O} {vs : List V} (hi : σ[i]? = some (.inst C as)) (f : Kp i σ₀ σ) (hl : vs.length.ble 4096 = true) (k : ∀ (σ' : Hp) (j : Nat), σ'[i]? = some (.inst C as) → Kp i σ₀ σ' → σ'[j]? = some (fo vs) → σ₀.length ≤ j → (∀ (j : Nat) (o : O), σ[j]? = some o → σ'[j]? = some o) → Q (.obj j) σ') : kNew fo Q vs σ :=
  ⟨Nat.le_of_ble_eq_true hl, k _ _ (g_app hi) f.push g_last f.len fun _ _ h => g_app h⟩
end
local macro_rules | `(tactic| walk_at "mkp") => `(tactic| with_reducible first
  | (refine r_putk (by assumption) (by assumption) (by decide +kernel) (by with_unfolding_all rfl) ?_; intro _ _ _ _)
  | (refine r_newk (by assumption) (by assumption) (by with_unfolding_all rfl) ?_; intro _ _ _ _ _ _ _))

structure Msg where
  (kind to frm term lterm index : Int)
  (rej ctx : Bool)
noncomputable def msgO (m : Msg) (en : Nat) : O := .inst 132 [(123, .int m.kind), (205, .int m.to), (99, .int m.frm), (200, .int m.term), (134, .int m.lterm), (115, .int m.index), (93, .obj en), (80, .int 0), (188, .none), (171, .bool m.rej), (172, .int 0), (84, .bytes m.ctx)]
theorem c_msg {i : Nat} {kd to frm t : Int} {σ : Hp} {Q : V → Hp → Prop} (hi : σ[i]? = some (.inst 132 [])) (k : ∀ σ' en, σ'[i]? = some (msgO ⟨kd, to, frm, t, 0, 0, false, false⟩ en) → Kp i σ σ' → Q .none σ') : F_Message_init [.obj i, .int kd, .int to, .int frm, .int t] σ Q := by
  refine ⟨rfl, ?_⟩
  delta W_Message_init
  have f : Kp i σ σ := .refl
  repeat (first | walk_at "mst" | walk_at "mkp")
  exact k _ _ (by assumption) (by assumption)

noncomputable def cfgA (v o l n : Nat) : List (Nat × V) := [(211, .obj v), (162, .obj o), (130, .obj l), (131, .obj n), (65, .bool false)]
theorem sorted_unique : ∀ {A B : List Int}, A.Pairwise (· < ·) → B.Pairwise (· < ·) → (∀ x, x ∈ A ↔ x ∈ B) → A = B
  | [], [], _, _, _ => rfl
  | [], b :: B, _, _, h => absurd ((h b).mpr List.mem_cons_self) List.not_mem_nil
  | a :: A, [], _, _, h => absurd ((h a).mp List.mem_cons_self) List.not_mem_nil
  | a :: A, b :: B, ha, hb, h => by
    rw [List.pairwise_cons] at ha hb
    have e : a = b := by
      rcases List.mem_cons.mp ((h a).mp List.mem_cons_self) with h1 | h1
      · exact h1
      · rcases List.mem_cons.mp ((h b).mpr List.mem_cons_self) with h2 | h2
        · exact h2.symm
        · have := hb.1 a h1
          have := ha.1 b h2
          omega
    subst e
    congr 1
    refine sorted_unique ha.2 hb.2 fun x => ⟨fun hx => ?_, fun hx => ?_⟩
    · rcases List.mem_cons.mp ((h x).mp (List.mem_cons_of_mem _ hx)) with h1 | h1
      · have := ha.1 x hx; omega
      · exact h1
    · rcases List.mem_cons.mp ((h x).mpr (List.mem_cons_of_mem _ hx)) with h1 | h1
      · have := hb.1 x hx; omega
      · exact h1
theorem c_rising' {i : Nat} {ns : List Int} {σ : Hp} {Q : V → Hp → Prop} (hi : σ[i]? = some (.list (ns.map V.int))) (hl : ns.length < 64) (hs : ns.Pairwise (· < ·)) (k : ∀ r, (σ ++ r)[σ.length]? = some (.list (ns.map V.int)) → Q (.obj σ.length) (σ ++ r)) : F_rising [.obj i] σ Q :=
  c_rising hi hl fun R q h1 h2 _ => by
    have := sorted_unique h1 hs h2
    subst this
    exact k _ get2.1
/-- a list object of ints, rising -/
structure Li (σ : Hp) (i : Nat) (A : List Int) : Prop where
  at' : σ[i]? = some (.list (A.map V.int))
  lt : A.length < 64
  so : A.Pairwise (· < ·)
theorem Li.app {σ r : Hp} {i : Nat} {A : List Int} (h : Li σ i A) : Li (σ ++ r) i A := ⟨g_app h.at', h.lt, h.so⟩
theorem Li.ne {σ : Hp} {i j C : Nat} {A : List Int} {as : List (Nat × V)} (h : Li σ i A) (hj : σ[j]? = some (.inst C as)) : i ≠ j := get_ne h.at' hj fun e => by cases e
theorem Li.keep {σ σ' : Hp} {i j C : Nat} {A : List Int} {as : List (Nat × V)} (h : Li σ i A) (hj : σ[j]? = some (.inst C as)) (g : ∀ x o, σ[x]? = some o → x ≠ j → σ'[x]? = some o) : Li σ' i A := ⟨g _ _ h.at' (h.ne hj), h.lt, h.so⟩
theorem c_cfg {i a b c d : Nat} {A B C D : List Int} {σ : Hp} {Q : V → Hp → Prop} (hi : σ[i]? = some (.inst 242 [])) (ha : Li σ a A) (hb : Li σ b B) (hc : Li σ c C) (hd : Li σ d D)
    (k : ∀ σ' v o l n, σ'[i]? = some (.inst 242 (cfgA v o l n)) → Li σ' v A → Li σ' o B → Li σ' l C → Li σ' n D → Kp i σ σ' → (σ.length ≤ v ∧ σ.length ≤ o ∧ σ.length ≤ l ∧ σ.length ≤ n) → Q .none σ') :
    F_Config_init [.obj i, .obj a, .obj b, .obj c, .obj d, .bool false] σ Q := by
  refine ⟨rfl, ?_⟩
  delta W_Config_init
  have f : Kp i σ σ := .refl
  repeat (first | walk_at "mst" | walk_at "mkp")
  refine c_rising' ha.at' ha.lt ha.so fun r1 h1 => ?_
  have i1 := g_app (r := r1) hi
  have f1 := f.push (r := r1)
  have L1 : Li (σ ++ r1) σ.length A := ⟨h1, ha.lt, ha.so⟩
  repeat (first | walk_at "mst" | walk_at "mkp")
  rename_i σ2 i2 f2 g2
  have L2 := L1.keep i1 g2
  have b2 := hb.app.keep i1 g2
  refine c_rising' b2.at' b2.lt b2.so fun r3 h3 => ?_
  have i3 := g_app (r := r3) i2
  have f3 := f2.push (r := r3)
  have L3 : Li (σ2 ++ r3) σ2.length B := ⟨h3, b2.lt, b2.so⟩
  repeat (first | walk_at "mst" | walk_at "mkp")
  rename_i σ4 i4 f4 g4
  have L4 := L3.keep i3 g4
  have c4 := (hc.app.keep i1 g2).app.keep i3 g4
  refine c_rising' c4.at' c4.lt c4.so fun r5 h5 => ?_
  have i5 := g_app (r := r5) i4
  have f5 := f4.push (r := r5)
  have L5 : Li (σ4 ++ r5) σ4.length C := ⟨h5, c4.lt, c4.so⟩
  repeat (first | walk_at "mst" | walk_at "mkp")
  rename_i σ6 i6 f6 g6
  have L6 := L5.keep i5 g6
  have d6 := ((hd.app.keep i1 g2).app.keep i3 g4).app.keep i5 g6
  refine c_rising' d6.at' d6.lt d6.so fun r7 h7 => ?_
  have i7 := g_app (r := r7) i6
  have f7 := f6.push (r := r7)
  have L7 : Li (σ6 ++ r7) σ6.length D := ⟨h7, d6.lt, d6.so⟩
  repeat (first | walk_at "mst" | walk_at "mkp")
  rename_i σ8 i8 f8 g8 σ9 i9 f9 g9
  refine k σ9 _ _ _ _ i9 ?_ ?_ ?_ ?_ f9 ⟨Nat.le_refl _, f2.len, f4.len, f6.len⟩
  · exact ((((L2.app.keep i3 g4).app.keep i5 g6).app.keep i7 g8).keep i8 g9)
  · exact (((L4.app.keep i5 g6).app.keep i7 g8).keep i8 g9)
  · exact ((L6.app.keep i7 g8).keep i8 g9)
  · exact ((L7.keep i7 g8).keep i8 g9)

local macro_rules | `(tactic| walk_at "mst") => `(tactic| with_reducible first
  | refine r_seq ?_ | refine r_next ?_ | refine r_kret ?_ | refine r_kcont ?_ | refine r_nil ?_ | refine r_pass ?_ | refine r_cont ?_ | refine r_ret ?_ | refine r_ret0 ?_ | refine r_exp ?_ | refine r_asg ?_ | refine r_if ?_
  | refine r_set ?_ | refine r_loc (by with_unfolding_all rfl) ?_ | refine r_V ?_ | refine r_attr ?_ | refine r_call ?_ | refine r_meth ?_ | refine r_new ?_ | refine r_esn ?_ | refine r_esc ?_ | refine r_tcmp ?_ | refine r_ecmp ?_ | refine r_kcmp ?_
  | refine r_bin ?_ | refine r_add ?_ | refine r_sub ?_ | refine r_tval ?_ | refine r_tbool ?_ | refine r_tint ?_ | refine r_tnot ?_ | refine r_enot ?_ | refine r_and ?_ | refine r_or ?_ | refine r_and0 ?_ | refine r_or0 ?_ | refine r_or2 ?_
  | refine r_tup ?_ | refine r_list ?_ | refine r_tin ?_ | refine r_cat ?_ | refine r_ein ?_ | refine r_len ?_ | refine r_idx ?_ | refine r_augN (by with_unfolding_all rfl) ?_ | refine r_addV ?_ | refine r_augA ?_ | refine r_app ?_ | refine r_setitem ?_ | refine r_for ?_ | refine r_unp2 ?_
  | refine r_ift ?_ (by rfl) | refine r_iff ?_ (by rfl) | refine r_andt ?_ (by rfl) | refine r_andf ?_ (by rfl) | refine r_ort ?_ (by rfl) | refine r_orf ?_ (by rfl) | refine r_or2t ?_ (by rfl) | refine r_or2f ?_ (by rfl)
  | refine r_get (by assumption) (by with_unfolding_all rfl) ?_ | refine r_km (by assumption) (by with_unfolding_all rfl) ?_)

/-- what the elector is, in plain data -/
structure Es where
  (t v s l : Int)
  ms : List Msg
  w : Vt
noncomputable def O.tag : O → Nat
  | .inst C _ => C + 10
  | .list _ => 1
  | .tup _ => 2
  | .dict _ => 3
  | .gone => 0
theorem tag_ne {σ : Hp} {i j : Nat} {o o' : O} (h : σ[i]? = some o) (h' : σ[j]? = some o') (hn : o.tag ≠ o'.tag) : i ≠ j := get_ne h h' fun e => hn (by rw [e])
/-- a list of messages -/
noncomputable def Ml (σ : Hp) (i : Nat) (L : List Msg) : Prop := ∃ ids : List Nat, σ[i]? = some (.list (ids.map V.obj)) ∧ All2 (fun j m => ∃ en, σ[j]? = some (msgO m en)) ids L
structure PW (p : Par) : Prop where
  c : ∀ x ∈ p.come, 1 ≤ x ∧ x ≤ 4
  g : ∀ x ∈ p.goes, 1 ≤ x ∧ x ≤ 4
  lc : p.come.length ≤ 4
  lg : p.goes.length ≤ 4
  lr : p.rest.length ≤ 4
  one : (1 : Int) ∈ p.come ∨ (1 : Int) ∈ p.goes
structure St (p : Par) (σ : Hp) (x : Es) (ms d : Nat) : Prop where
  pw : PW p
  eb : EB p σ x.t x.v x.s x.l ms d
  hd : σ[d]? = some (.dict x.w.d)
  hm : Ml σ ms x.ms
  hc : σ[p.c]? = some (.inst 242 (cfgA p.lv p.lo p.ll p.ln))
  a : Li σ p.lv p.come
  b : Li σ p.lo p.goes
  r : Li σ p.ll p.rest
  la : σ[p.la]? = some (.tup [.int p.li, .int p.lt])
  nm : ms ≠ p.lv ∧ ms ≠ p.lo ∧ ms ≠ p.ll
structure Fd (p : Par) (ms d : Nat) (σ : Hp) (d' : Nat) (σ' : Hp) : Prop where
  keep : ∀ (j : Nat) (o : O), σ[j]? = some o → j ≠ p.e → j ≠ p.b → j ≠ ms → j ≠ d → σ'[j]? = some o
  len : σ.length ≤ σ'.length
  nd : d' = d ∨ σ.length ≤ d'
theorem Fd.refl {p : Par} {ms d : Nat} {σ : Hp} : Fd p ms d σ d σ := ⟨fun _ _ h _ _ _ _ => h, Nat.le_refl _, .inl rfl⟩
theorem lt_of_get {σ : Hp} {j : Nat} {o : O} (h : σ[j]? = some o) : j < σ.length := (List.getElem?_eq_some_iff.mp h).1
theorem Fd.trans {p : Par} {ms d d' d'' : Nat} {σ σ' σ'' : Hp} (f : Fd p ms d σ d' σ') (g : Fd p ms d' σ' d'' σ'') : Fd p ms d σ d'' σ'' := by
  refine ⟨fun j o h h1 h2 h3 h4 => g.keep j o (f.keep j o h h1 h2 h3 h4) h1 h2 h3 fun e => ?_, Nat.le_trans f.len g.len, ?_⟩
  · rcases f.nd with q | q
    · exact h4 (e.trans q)
    · have := lt_of_get h; omega
  · rcases g.nd with q | q
    · rcases f.nd with q' | q'
      · exact .inl (q.trans q')
      · exact .inr (q ▸ q')
    · exact .inr (Nat.le_trans f.len q)
theorem Fd.of {p : Par} {ms d d' : Nat} {σ σ' : Hp} (f : Fe p σ σ') (h : d' = d ∨ σ.length ≤ d') : Fd p ms d σ d' σ' := ⟨fun j o h h1 h2 _ _ => f.keep j o h h1 h2, f.len, h⟩
theorem Fd.push {p : Par} {ms d : Nat} {σ r : Hp} : Fd p ms d σ d (σ ++ r) := ⟨fun _ _ h _ _ _ _ => g_app h, by simp, .inl rfl⟩
theorem Fd.setd {p : Par} {ms d : Nat} {σ : Hp} {o : O} : Fd p ms d σ d (σ.set d o) := ⟨fun j o h _ _ _ h4 => g_ne h (Ne.symm h4), by simp, .inl rfl⟩
theorem Fd.setm {p : Par} {ms d : Nat} {σ : Hp} {o : O} : Fd p ms d σ d (σ.set ms o) := ⟨fun j o h _ _ h3 _ => g_ne h (Ne.symm h3), by simp, .inl rfl⟩
theorem Fd.setf {p : Par} {ms d d' i : Nat} {σ σ' : Hp} {o : O} (f : Fd p ms d σ d' σ') (hi : σ.length ≤ i) : Fd p ms d σ d' (σ'.set i o) :=
  ⟨fun j o h h1 h2 h3 h4 => g_ne (f.keep j o h h1 h2 h3 h4) (by have := lt_of_get h; omega), by simpa using f.len, f.nd⟩
section
variable {p : Par} {σ σ' σ₀ : Hp} {x : Es} {t v s l : Int} {ms d d' : Nat} {Q : V → Hp → Prop} {L : List Msg}
theorem Ml.mono (h : Ml σ ms L) (h1 : ∀ o : O, σ[ms]? = some o → σ'[ms]? = some o) (g : ∀ (j : Nat) (m : Msg) (en : Nat), σ[j]? = some (msgO m en) → σ'[j]? = some (msgO m en)) : Ml σ' ms L := by
  obtain ⟨ids, a, b⟩ := h
  exact ⟨ids, h1 _ a, b.mono fun j m ⟨en, e⟩ => ⟨en, g _ _ _ e⟩⟩
theorem Ml.list (h : Ml σ ms L) : ∃ vs, σ[ms]? = some (.list vs) := by obtain ⟨ids, a, _⟩ := h; exact ⟨_, a⟩
theorem St.ke (h : St p σ x ms d) : ∃ cf ee hh to dr, σ[p.e]? = some (.inst 606 (elA cf p.jt p.pv x.t x.v x.s x.l ms ee hh to dr p.la p.b)) := h.eb.he
theorem St.ne_e (h : St p σ x ms d) {j : Nat} {o : O} (hj : σ[j]? = some o) (ho : o.tag ≠ 616) : j ≠ p.e := by
  obtain ⟨_, _, _, _, _, e⟩ := h.ke
  exact tag_ne hj e ho
theorem St.ne_b (h : St p σ x ms d) {j : Nat} {o : O} (hj : σ[j]? = some o) (ho : o.tag ≠ 301) : j ≠ p.b := tag_ne hj h.eb.hb ho
theorem St.ne_d (h : St p σ x ms d) {j : Nat} {o : O} (hj : σ[j]? = some o) (ho : o.tag ≠ 3) : j ≠ d := tag_ne hj h.hd ho
/-- the parts stay, by their kinds -/
theorem St.mk' (h : St p σ x ms d) {y : Es} (e : EB p σ' y.t y.v y.s y.l ms d') (hd : σ'[d']? = some (.dict y.w.d)) (hm : Ml σ' ms y.ms)
    (g : ∀ (j : Nat) (o : O), σ[j]? = some o → o.tag = 252 ∨ o.tag = 2 ∨ (o.tag = 1 ∧ j ≠ ms) → σ'[j]? = some o) : St p σ' y ms d' :=
  ⟨h.pw, e, hd, hm, g _ _ h.hc (.inl rfl), ⟨g _ _ h.a.at' (.inr (.inr ⟨rfl, Ne.symm h.nm.1⟩)), h.a.lt, h.a.so⟩, ⟨g _ _ h.b.at' (.inr (.inr ⟨rfl, Ne.symm h.nm.2.1⟩)), h.b.lt, h.b.so⟩, ⟨g _ _ h.r.at' (.inr (.inr ⟨rfl, Ne.symm h.nm.2.2⟩)), h.r.lt, h.r.so⟩, g _ _ h.la (.inr (.inl rfl)), h.nm⟩
/-- the same, the votes new -/
theorem St.ofn (h : St p σ x ms d) (e : EB p σ' t v s l ms d') (f : Fe p σ σ') (hd : σ'[d']? = some (.dict [])) : St p σ' ⟨t, v, s, l, x.ms, []⟩ ms d' := by
  have g : ∀ (j : Nat) (o : O), σ[j]? = some o → o.tag ≠ 616 → o.tag ≠ 301 → σ'[j]? = some o := fun j o hj h1 h2 => f.keep j o hj (h.ne_e hj h1) (h.ne_b hj h2)
  refine h.mk' e hd (h.hm.mono (fun o ho => ?_) fun j m en hj => g _ _ hj (by walk_at "mt") (by walk_at "mt")) fun j o hj ht => g j o hj (by omega) (by omega)
  obtain ⟨vs, hv⟩ := h.hm.list
  rw [hv] at ho; cases ho
  exact g _ _ hv (by walk_at "mt") (by walk_at "mt")
theorem EB.keep (h : EB p σ t v s l ms d) (g : ∀ (j : Nat) (o : O), σ[j]? = some o → o.tag ≠ 0 → σ'[j]? = some o) : EB p σ' t v s l ms d := by
  obtain ⟨cf, ee, hh, to, dr, e⟩ := h.he
  exact ⟨⟨cf, ee, hh, to, dr, g _ _ e (by walk_at "mt")⟩, g _ _ h.hb (by walk_at "mt"), g _ _ h.hj (by walk_at "mt")⟩
theorem Ml.keep (h : Ml σ ms L) (g : ∀ (j : Nat) (o : O), σ[j]? = some o → o.tag ≠ 0 → σ'[j]? = some o) : Ml σ' ms L := by
  obtain ⟨vs, hv⟩ := h.list
  exact h.mono (fun o ho => by rw [hv] at ho; cases ho; exact g _ _ hv (by walk_at "mt")) fun j m en hj => g _ _ hj (by walk_at "mt")
theorem St.keep (h : St p σ x ms d) (g : ∀ (j : Nat) (o : O), σ[j]? = some o → o.tag ≠ 0 → σ'[j]? = some o) : St p σ' x ms d :=
  h.mk' (h.eb.keep g) (g _ _ h.hd (by walk_at "mt")) (h.hm.keep g) fun j o hj ht => g j o hj (by omega)
theorem St.push {r : Hp} (h : St p σ x ms d) : St p (σ ++ r) x ms d := h.keep fun _ _ h _ => g_app h
theorem St.setg {i : Nat} {o : O} (h : St p σ x ms d) (hi : σ[i]? = some .gone) : St p (σ.set i o) x ms d :=
  h.keep fun _ _ hj hq => g_ne hj (tag_ne hi hj fun e => hq e.symm)
/-- an object that is no part of the state is changed -/
theorem St.seti {i : Nat} {o o' : O} (h : St p σ x ms d) (hi : σ[i]? = some o) (ho : o.tag = 1 ∨ o.tag = 2) (hn : i ≠ ms ∧ i ≠ p.lv ∧ i ≠ p.lo ∧ i ≠ p.ll ∧ i ≠ p.jt ∧ i ≠ p.la) : St p (σ.set i o') x ms d := by
  obtain ⟨cf, ee, hh, to, dr, e⟩ := h.ke
  have ht : o.tag ≠ 616 ∧ o.tag ≠ 301 ∧ o.tag ≠ 3 ∧ o.tag ≠ 252 ∧ o.tag ≠ 142 := by omega
  refine ⟨h.pw, ⟨⟨cf, ee, hh, to, dr, g_ne e (tag_ne hi e ht.1)⟩, g_ne h.eb.hb (tag_ne hi h.eb.hb ht.2.1), g_ne h.eb.hj hn.2.2.2.2.1⟩, g_ne h.hd (tag_ne hi h.hd ht.2.2.1), ?_, g_ne h.hc (tag_ne hi h.hc ht.2.2.2.1), ⟨g_ne h.a.at' hn.2.1, h.a.lt, h.a.so⟩, ⟨g_ne h.b.at' hn.2.2.1, h.b.lt, h.b.so⟩, ⟨g_ne h.r.at' hn.2.2.2.1, h.r.lt, h.r.so⟩, g_ne h.la hn.2.2.2.2.2, h.nm⟩
  exact h.hm.mono (fun q hq => g_ne hq hn.1) fun j m en hj => g_ne hj (tag_ne hi hj ht.2.2.2.2)

-- the voters
noncomputable def allv (A B : List Int) : List Int := [1, 2, 3, 4].filter fun x => decide (x ∈ A ∨ x ∈ B)
theorem allv_pw (A B : List Int) : (allv A B).Pairwise (· < ·) := List.Pairwise.filter _ (by decide)
theorem allv_mem {A B : List Int} (ha : ∀ x ∈ A, 1 ≤ x ∧ x ≤ 4) (hb : ∀ x ∈ B, 1 ≤ x ∧ x ≤ 4) (x : Int) : x ∈ allv A B ↔ x ∈ A ++ B := by
  unfold allv
  rw [List.mem_filter, List.mem_append]
  simp only [decide_eq_true_eq]
  constructor
  · exact fun h => h.2
  · intro h
    refine ⟨?_, h⟩
    have : 1 ≤ x ∧ x ≤ 4 := by exact h.elim (ha x) (hb x)
    have : x = 1 ∨ x = 2 ∨ x = 3 ∨ x = 4 := by omega
    rcases this with rfl | rfl | rfl | rfl <;> decide
theorem allv_len (A B : List Int) : (allv A B).length ≤ 4 := by
  unfold allv
  exact Nat.le_trans (List.length_filter_le _ _) (by decide)
theorem r_cat {m : Loc} {W₁ W₂ : EW} (h : W₁ m σ fun a σ₁ => W₂ m σ₁ fun b σ₂ => ∃ i j vs ws, a = .obj i ∧ b = .obj j ∧ σ₂[i]? = some (.list vs) ∧ σ₂[j]? = some (.list ws) ∧ (vs ++ ws).length ≤ 4096 ∧ Q (.obj σ₂.length) (σ₂ ++ [.list (vs ++ ws)])) : eCat W₁ W₂ m σ Q := h
theorem c_allv (h : St p σ x ms d) (k : ∀ (r : Hp) (i : Nat), (σ ++ r)[i]? = some (.list ((allv p.come p.goes).map V.int)) → σ.length ≤ i → Q (.obj i) (σ ++ r)) : F_Config_all_voters [.obj p.c] σ Q := by
  refine ⟨rfl, ?_⟩
  delta W_Config_all_voters
  have hc := h.hc
  repeat (first | walk_at "mst")
  refine r_cat ?_
  repeat (first | walk_at "mst")
  refine ⟨_, _, _, _, rfl, rfl, h.a.at', h.b.at', by simp only [List.length_append, List.length_map]; have := h.a.lt; have := h.b.lt; omega, ?_⟩
  repeat (first | walk_at "mst")
  rw [← List.map_append]
  refine c_rising (ns := p.come ++ p.goes) g_last (by simp only [List.length_append]; have := h.pw.lc; have := h.pw.lg; omega) fun R q h1 h2 _ => ?_
  have e := sorted_unique h1 (allv_pw p.come p.goes) fun x => (h2 x).trans (allv_mem h.pw.c h.pw.g x).symm
  subst e
  repeat (first | walk_at "mst")
  rw [List.append_assoc]
  refine k _ _ ?_ (by simp)
  rw [← List.append_assoc]
  exact get2.1
theorem c_members (h : St p σ x ms d) (k : ∀ (r : Hp) (i : Nat) (R : List Int), (σ ++ r)[i]? = some (.list (R.map V.int)) → (1 : Int) ∈ R → Q (.obj i) (σ ++ r)) : F_Config_members [.obj p.c] σ Q := by
  refine ⟨rfl, ?_⟩
  delta W_Config_members
  have hc := h.hc
  repeat (first | walk_at "mst")
  refine r_cat ?_
  refine r_cat ?_
  repeat (first | walk_at "mst")
  refine ⟨_, _, _, _, rfl, rfl, h.a.at', h.b.at', by simp only [List.length_append, List.length_map]; have := h.a.lt; have := h.b.lt; omega, ?_⟩
  have hc := g_app (r := [O.list (p.come.map V.int ++ p.goes.map V.int)]) h.hc
  repeat (first | walk_at "mst")
  refine ⟨_, _, _, _, rfl, rfl, g_last, g_app h.r.at', by simp only [List.length_append, List.length_map]; have := h.a.lt; have := h.b.lt; have := h.r.lt; omega, ?_⟩
  repeat (first | walk_at "mst")
  rw [← List.map_append, ← List.map_append]
  refine c_rising (ns := p.come ++ p.goes ++ p.rest) g_last (by simp only [List.length_append]; have := h.pw.lc; have := h.pw.lg; have := h.pw.lr; omega) fun R q h1 h2 _ => ?_
  repeat (first | walk_at "mst")
  have e : ∀ (a b c : Hp), σ ++ a ++ b ++ c = σ ++ (a ++ b ++ c) := fun a b c => by simp only [List.append_assoc]
  have hg := get2 (σ := σ ++ [O.list (List.map V.int (p.come ++ p.goes))] ++ [O.list (List.map V.int (p.come ++ p.goes ++ p.rest))]) (o := O.list (List.map V.int R)) (o' := q)
  rw [e] at hg ⊢
  refine k _ _ R hg.1 ((h2 1).mpr ?_)
  rcases h.pw.one with h | h
  · simp [h]
  · simp [h]
end


noncomputable def recV (w : Vt) (n : Int) (ok : Bool) : Vt := if (look w n).isSome then w else w ++ [(n, ok)]
section
variable {p : Par} {σ σ' σ₀ : Hp} {x : Es} {t v s l : Int} {ms d d' : Nat} {Q : V → Hp → Prop} {L : List Msg}
theorem St.setf {r : Hp} {i : Nat} {o : O} (h : St p σ x ms d) (hi : σ.length ≤ i) : St p ((σ ++ r).set i o) x ms d :=
  h.keep fun j q hj _ => g_ne (g_app hj) (by have := lt_of_get hj; omega)
theorem c_rec (h : St p σ x ms d) (hw : x.w.length < 4096) {n : Int} {ok : Bool} (k : ∀ σ', St p σ' ⟨x.t, x.v, x.s, x.l, x.ms, recV x.w n ok⟩ ms d → Fd p ms d σ d σ' → Q .none σ') : F_Ballots_record_vote [.obj p.b, .int n, .bool ok] σ Q := by
  refine ⟨rfl, ?_⟩
  delta W_Ballots_record_vote
  have he := h.eb
  repeat (first | walk_at "mst" | walk_at "meb")
  refine r_indict h.hd ?_
  rw [look_any]
  unfold recV at k
  cases hl : (look x.w n).isSome with
  | true =>
    rw [hl, if_pos rfl] at k
    refine r_iff ?_ rfl
    repeat (first | walk_at "mst" | walk_at "meb")
    exact k _ h .refl
  | false =>
    rw [hl, if_neg (by decide)] at k
    refine r_ift ?_ rfl
    repeat (first | walk_at "mst" | walk_at "meb")
    refine ⟨_, _, _, _, rfl, rfl, rfl, h.hd, by simpa [Vt.d] using hw, ?_⟩
    have e : putD x.w.d n (.bool ok) = Vt.d (x.w ++ [(n, ok)]) := by
      unfold putD
      rw [look_any, hl, if_neg (by decide)]
      simp [Vt.d]
    rw [e]
    repeat (first | walk_at "mst" | walk_at "meb")
    refine k _ ?_ .setd
    obtain ⟨cf, ee, hh, to, dr, hE⟩ := h.ke
    have g : ∀ (j : Nat) (o : O), σ[j]? = some o → o.tag ≠ 3 → (σ.set d (.dict (Vt.d (x.w ++ [(n, ok)]))))[j]? = some o := fun j o hj ho => g_ne hj (Ne.symm (h.ne_d hj ho))
    refine h.mk' ⟨⟨cf, ee, hh, to, dr, g _ _ hE (by walk_at "mt")⟩, g _ _ h.eb.hb (by walk_at "mt"), g _ _ h.eb.hj (by walk_at "mt")⟩ (g_set h.hd) (h.hm.mono (fun o ho => ?_) fun j m en hj => g _ _ hj (by walk_at "mt")) fun j o hj ht => g j o hj (by omega)
    obtain ⟨vs, hv⟩ := h.hm.list
    rw [hv] at ho; cases ho
    exact g _ _ hv (by walk_at "mt")
theorem c_cvote (h : St p σ x ms d) (k : Q (.int (jv p.come p.goes x.w)) σ) : F_Config_vote [.obj p.c, .obj d] σ Q := by
  refine ⟨rfl, ?_⟩
  delta W_Config_vote
  have hc := h.hc
  repeat (first | walk_at "mst")
  refine c_jv h.a.at' h.b.at' h.hd ?_
  repeat (first | walk_at "mst")
  exact k
theorem c_tally (h : St p σ x ms d) (k : ∀ (r : Hp) (i : Nat), (σ ++ r)[i]? = some (.tup [.int (cnt x.w (some true) (allv p.come p.goes)), .int (cnt x.w (some false) (allv p.come p.goes)), .int (jv p.come p.goes x.w)]) → σ.length ≤ i → Q (.obj i) (σ ++ r)) :
    F_Ballots_tally [.obj p.b] σ Q := by
  refine ⟨rfl, ?_⟩
  delta W_Ballots_tally
  have he := h.eb
  have hc := h.hc
  repeat (first | walk_at "mst" | walk_at "meb")
  refine c_allv h fun r i hi hle => ?_
  refine ⟨i, _, _, rfl, hi, .inl rfl, ?_⟩
  have h1 : St p ((σ ++ r).set i .gone) x ms d := h.setf hle
  refine forW_ind (fun vs m σ' => ∃ (q : List Int) (g z : Int), vs = q.map V.int ∧ lk m 183 = some (.obj p.b) ∧ lk m 104 = some (.int g) ∧ lk m 173 = some (.int z) ∧ σ' = (σ ++ r).set i .gone ∧ g + cnt x.w (some true) q = cnt x.w (some true) (allv p.come p.goes) ∧ z + cnt x.w (some false) q = cnt x.w (some false) (allv p.come p.goes))
      ?_ ?_ _ _ _ ⟨allv p.come p.goes, 0, 0, rfl, rfl, rfl, rfl, rfl, by simp, by simp⟩
  · rintro v vr m σ' K ⟨q, g, z, hr, m1, m2, m3, rfl, hg, hz⟩ k1 k2
    cases q with
    | nil => cases hr
    | cons n q =>
      obtain ⟨rfl, rfl⟩ := List.cons.inj hr
      have q0 : lk (put m 152 (.int n)) 152 = some (.int n) := lk_eq
      have q1 : lk (put m 152 (.int n)) 183 = some (.obj p.b) := lk_ne rfl m1
      have q2 : lk (put m 152 (.int n)) 104 = some (.int g) := lk_ne rfl m2
      have q3 : lk (put m 152 (.int n)) 173 = some (.int z) := lk_ne rfl m3
      have he1 := h1.eb
      repeat (first | with_reducible refine r_loc q0 ?_ | with_reducible refine r_loc q1 ?_ | walk_at "mst" | walk_at "meb")
      refine r_indict h1.hd ?_
      rw [look_any]
      simp only [cnt] at hg hz
      cases hl : look x.w n with
      | none =>
        rw [hl] at hg hz
        refine r_ift ?_ rfl
        repeat (first | walk_at "mst")
        exact k2 _ _ ⟨q, g, z, rfl, q1, q2, q3, rfl, by simpa using hg, by simpa using hz⟩
      | some b =>
        rw [hl] at hg hz
        refine r_iff ?_ rfl
        repeat (first | with_reducible refine r_loc q0 ?_ | with_reducible refine r_loc q1 ?_ | walk_at "mst" | walk_at "meb")
        refine r_idxdict h1.hd (look_find hl) ?_
        repeat (first | walk_at "mst")
        cases b with
        | true =>
          refine r_ift ?_ rfl
          repeat (first | with_reducible refine r_augN q2 ?_ | walk_at "mst")
          refine k1 _ _ ⟨q, g + 1, z, rfl, ?_, ?_, ?_, rfl, ?_, ?_⟩
          · exact lk_ne rfl q1
          · exact lk_eq
          · exact lk_ne rfl q3
          · rw [if_pos rfl] at hg; omega
          · simpa using hz
        | false =>
          refine r_iff ?_ rfl
          repeat (first | with_reducible refine r_augN q3 ?_ | walk_at "mst")
          refine k1 _ _ ⟨q, g, z + 1, rfl, ?_, ?_, ?_, rfl, ?_, ?_⟩
          · exact lk_ne rfl q1
          · exact lk_ne rfl q2
          · exact lk_eq
          · simpa using hg
          · rw [if_pos rfl] at hz; omega
  · rintro m σ' ⟨q, g, z, hr, m1, m2, m3, rfl, hg, hz⟩
    have hr0 : q = [] := by cases q with | nil => rfl | cons _ _ => cases hr
    subst hr0
    refine ⟨g_set hi, ?_⟩
    rw [set_back hi]
    have hg' : g = cnt x.w (some true) (allv p.come p.goes) := by simpa [cnt] using hg
    have hz' : z = cnt x.w (some false) (allv p.come p.goes) := by simpa [cnt] using hz
    have h2 : St p (σ ++ r) x ms d := h.push
    have he2 := h2.eb
    have hc2 := h2.hc
    repeat (first | with_reducible refine r_loc m1 ?_ | with_reducible refine r_loc m2 ?_ | with_reducible refine r_loc m3 ?_ | walk_at "mst" | walk_at "meb")
    refine c_cvote h2 ?_
    repeat (first | walk_at "mst")
    refine r_knew rfl ?_
    repeat (first | walk_at "mst")
    subst hg' hz'
    rw [List.append_assoc]
    refine k _ _ ?_ (by simp)
    rw [← List.append_assoc]
    exact g_last
theorem c_poll (h : St p σ x ms d) (hw : x.w.length < 4096) {n kd : Int} {ok : Bool} (hk : (kd = 17 ∧ x.s = 3) ∨ (kd = 5 ∧ x.s = 1)) (k : ∀ σ', St p σ' ⟨x.t, x.v, x.s, x.l, x.ms, recV x.w n ok⟩ ms d → Fd p ms d σ d σ' → Q (.int (jv p.come p.goes (recV x.w n ok))) σ') :
    F_Elector_poll [.obj p.e, .int n, .int kd, .bool ok] σ Q := by
  refine ⟨rfl, ?_⟩
  delta W_Elector_poll
  have he := h.eb
  repeat (first | walk_at "mst" | walk_at "meb")
  rcases hk with ⟨rfl, hs⟩ | ⟨rfl, hs⟩
  · refine r_andt ?_ rfl
    repeat (first | walk_at "mst" | walk_at "meb")
    refine r_andf ?_ (by rw [hs]; rfl)
    refine r_iff ?_ rfl
    repeat (first | walk_at "mst" | walk_at "meb")
    refine r_andf ?_ rfl
    refine r_iff ?_ rfl
    repeat (first | walk_at "mst" | walk_at "meb")
    refine c_rec h hw fun σ1 h1 f1 => ?_
    have he1 := h1.eb
    repeat (first | walk_at "mst" | walk_at "meb")
    refine c_tally h1 fun r i hi hle => ?_
    repeat (first | walk_at "mst")
    refine r_idxtup hi rfl rfl ?_
    repeat (first | walk_at "mst")
    exact k _ h1.push (f1.trans .push)
  · refine r_andf ?_ rfl
    refine r_iff ?_ rfl
    repeat (first | walk_at "mst" | walk_at "meb")
    refine r_andt ?_ rfl
    repeat (first | walk_at "mst" | walk_at "meb")
    refine r_andf ?_ (by rw [hs]; rfl)
    refine r_iff ?_ rfl
    repeat (first | walk_at "mst" | walk_at "meb")
    refine c_rec h hw fun σ1 h1 f1 => ?_
    have he1 := h1.eb
    repeat (first | walk_at "mst" | walk_at "meb")
    refine c_tally h1 fun r i hi hle => ?_
    repeat (first | walk_at "mst")
    refine r_idxtup hi rfl rfl ?_
    repeat (first | walk_at "mst")
    exact k _ h1.push (f1.trans .push)
end


section
variable {p : Par} {σ σ' σ₀ : Hp} {x : Es} {t v s l : Int} {ms d d' : Nat} {Q : V → Hp → Prop} {L : List Msg}
theorem k_bf (h : St p σ x ms d) {y z : Int} (k : ∀ σ' d', St p σ' ⟨y, if x.t = y then x.v else 0, 0, z, x.ms, []⟩ ms d' → Fd p ms d σ d' σ' → Q .none σ') : F_Elector_become_follower [.obj p.e, .int y, .int z] σ Q :=
  c_bf h.eb fun σ' d' e f hd ld => k σ' d' (h.ofn e f hd) (.of f (.inr ld))
theorem k_bc (h : St p σ x ms d) (hs : x.s ≠ 2) (k : ∀ σ' d', St p σ' ⟨x.t + 1, 1, 1, 0, x.ms, []⟩ ms d' → Fd p ms d σ d' σ' → Q .none σ') : F_Elector_become_candidate [.obj p.e] σ Q :=
  c_bc h.eb hs fun σ' d' e f hd ld => k σ' d' (h.ofn e f hd) (.of f (.inr ld))
theorem k_bp (h : St p σ x ms d) (hs : x.s ≠ 2) (k : ∀ σ' d', St p σ' ⟨x.t, x.v, 3, 0, x.ms, []⟩ ms d' → Fd p ms d σ d' σ' → Q .none σ') : F_Elector_become_pre_candidate [.obj p.e] σ Q :=
  c_bp h.eb hs fun σ' d' e f hd ld => k σ' d' (h.ofn e f hd) (.of f (.inr ld))
noncomputable def lead (x : Es) : Es := ⟨x.t, x.v, 2, 1, x.ms, []⟩
theorem k_bl (h : St p σ x ms d) (hs : x.s ≠ 0) (k : ∀ σ' d', St p σ' (lead x) ms d' → Fd p ms d σ d' σ' → Q .none σ') : F_Elector_become_leader [.obj p.e] σ Q := by
  refine ⟨rfl, ?_⟩
  delta W_Elector_become_leader
  have he := h.eb
  have hc := h.hc
  repeat (first | walk_at "mst" | walk_at "meb")
  refine r_iff ?_ (by simpa [cmpB] using hs)
  repeat (first | walk_at "mst" | walk_at "meb")
  refine c_members h fun r i R hi h1 => ?_
  refine r_inlist hi (intsOf_map R) ?_
  refine r_iff ?_ (by
    have : R.any (fun y => y == (1 : Int)) = true := List.any_eq_true.mpr ⟨1, h1, by decide⟩
    rw [this]; rfl)
  have h2 : St p (σ ++ r) x ms d := h.push
  have he := h2.eb
  repeat (first | walk_at "mst" | walk_at "meb")
  refine c_reset he fun σ2 d2 h2' f2 hd ld => ?_
  repeat (first | walk_at "mst" | walk_at "meb")
  rename_i σ3 h3 f3 g3 σ4 h4 f4 g4
  refine c_lead ?_
  repeat (first | walk_at "mst" | walk_at "meb")
  rw [if_pos rfl] at h4
  exact k _ d2 (h2.ofn h4 f4 (g4 _ _ (g3 _ _ hd (h2'.ned hd)) (h3.ned (g3 _ _ hd (h2'.ned hd))))) (Fd.push.trans (.of f4 (.inr ld)))
theorem k_send (h : St p σ x ms d) {i en : Nat} {m : Msg} (hi : σ[i]? = some (msgO m en)) (hk : m.kind = 5 ∨ m.kind = 17) (hf : m.frm ≠ 0) (ht : m.term ≠ 0) (hl : x.ms.length < 4096)
    (k : ∀ σ', St p σ' ⟨x.t, x.v, x.s, x.l, x.ms ++ [m], x.w⟩ ms d → Fd p ms d σ d σ' → Q .none σ') : F_Elector_send [.obj p.e, .obj i] σ Q := by
  refine ⟨rfl, ?_⟩
  delta W_Elector_send
  have he := h.eb
  unfold msgO at hi
  repeat (first | walk_at "mst" | walk_at "meb")
  refine r_iff ?_ (by simpa [cmpB] using hf)
  repeat (first | walk_at "mst" | walk_at "meb")
  refine r_knew rfl ?_
  refine r_intup g_last rfl ?_
  refine r_ift ?_ (by rcases hk with e | e <;> rw [e] <;> rfl)
  have hi2 := g_app (r := [O.tup [V.int 5, V.int 6, V.int 17, V.int 18]]) hi
  have h2 : St p (σ ++ [O.tup [V.int 5, V.int 6, V.int 17, V.int 18]]) x ms d := h.push
  have he2 := h2.eb
  repeat (first | walk_at "mst" | walk_at "meb")
  refine r_iff ?_ (by simpa [cmpB] using ht)
  repeat (first | walk_at "mst" | walk_at "meb")
  obtain ⟨ids, hm, ha⟩ := h2.hm
  refine ⟨⟨_, _, rfl, hm⟩, ?_⟩
  repeat (first | walk_at "mst" | walk_at "meb")
  refine ⟨_, _, rfl, hm, by rw [List.length_map, ha.length]; exact hl, ?_⟩
  repeat (first | walk_at "mst" | walk_at "meb")
  refine k _ ?_ (Fd.push.trans .setm)
  obtain ⟨cf, ee, hh, to, dr, hE⟩ := h2.ke
  have g : ∀ (j : Nat) (o : O) (q : O), (σ ++ [O.tup [V.int 5, V.int 6, V.int 17, V.int 18]])[j]? = some o → o.tag ≠ 1 → ((σ ++ [O.tup [V.int 5, V.int 6, V.int 17, V.int 18]]).set ms q)[j]? = some o := fun j o q hj ho => g_ne hj (tag_ne hm hj (Ne.symm ho))
  refine h2.mk' ⟨⟨cf, ee, hh, to, dr, g _ _ _ hE (by walk_at "mt")⟩, g _ _ _ h2.eb.hb (by walk_at "mt"), g _ _ _ h2.eb.hj (by walk_at "mt")⟩ (g _ _ _ h2.hd (by walk_at "mt")) ⟨ids ++ [i], ?_, ?_⟩ fun j o hj ht => ?_
  · rw [g_set hm]; simp
  · exact (ha.mono fun j m ⟨en, e⟩ => ⟨en, g _ _ _ e (by walk_at "mt")⟩).append (.cons ⟨en, g _ (msgO m en) _ hi2 (Nat.ne_of_beq_eq_false rfl)⟩ .nil)
  · rcases ht with ht | ht | ⟨_, ht⟩
    · exact g _ _ _ hj (by omega)
    · exact g _ _ _ hj (by omega)
    · exact g_ne hj (Ne.symm ht)
end


structure Ex (σ σ' : Hp) : Prop where
  keep : ∀ (j : Nat) (o : O), σ[j]? = some o → σ'[j]? = some o
  len : σ.length ≤ σ'.length
theorem Ex.push {σ r : Hp} : Ex σ (σ ++ r) := ⟨fun _ _ h => g_app h, by simp⟩
theorem Ex.refl {σ : Hp} : Ex σ σ := ⟨fun _ _ h => h, Nat.le_refl _⟩
theorem Ex.trans {σ σ' σ'' : Hp} (a : Ex σ σ') (b : Ex σ' σ'') : Ex σ σ'' := ⟨fun j o h => b.keep j o (a.keep j o h), Nat.le_trans a.len b.len⟩
theorem Ex.of {i : Nat} {σ σ' σ'' : Hp} (a : Ex σ σ') (k : Kp i σ' σ'') (hi : σ.length ≤ i) : Ex σ σ'' := ⟨fun j o h => k.keep j o (a.keep j o h) (by have := lt_of_get h; omega), Nat.le_trans a.len k.len⟩
theorem Fd.ex {p : Par} {ms d : Nat} {σ σ' : Hp} (a : Ex σ σ') : Fd p ms d σ d σ' := ⟨fun j o h _ _ _ _ => a.keep j o h, a.len, .inl rfl⟩
section
variable {p : Par} {σ σ' σ₀ : Hp} {x : Es} {t v s l : Int} {ms d d' : Nat} {Q : V → Hp → Prop} {L : List Msg}
theorem St.ex (h : St p σ x ms d) (a : Ex σ σ') : St p σ' x ms d := h.keep fun j o hj _ => a.keep j o hj
end
noncomputable def asksL (p : Par) (kd tm : Int) (ctx : Bool) : List Int → List Msg
  | [] => []
  | n :: r => if n = 1 then asksL p kd tm ctx r else ⟨kd, n, 1, tm, p.lt, p.li, false, ctx⟩ :: asksL p kd tm ctx r
noncomputable def asks (p : Par) (kd tm : Int) (ctx : Bool) : List Msg := asksL p kd tm ctx (allv p.come p.goes)
noncomputable def B_camp : SW := (sSeq (sIf (tCmp .Eq (eLoc 146) (eAttr (eLoc 183) 152)) (sSeq sCont
  sNil) sNil)
  (sSeq (sAsg 174 (eNew 132 F_Message_init (esCons (eLoc 64) (esCons (eLoc 146) (esCons (eAttr (eLoc 183) 152) (esCons (eLoc 200) esNil))))))
  (sSeq (sSet (eLoc 124) (eLoc 174) 115)
  (sSeq (sSet (eLoc 126) (eLoc 174) 134)
  (sSeq (sIf (tCmp .Eq (eLoc 123) (eV (.int 3))) (sSeq (sSet (eV (.bytes true)) (eLoc 174) 84)
  sNil) sNil)
  (sSeq (sExp (eMeth 606 184 (eLoc 183) F_Elector_send (esCons (eLoc 174) esNil)))
  sNil))))))
section
variable {p : Par} {σ σ' σ₀ : Hp} {x : Es} {t v s l : Int} {ms d d' : Nat} {Q : V → Hp → Prop} {L : List Msg}
theorem k_loop {i : Nat} {o : O} {kd tm knd : Int} {m₀ : Loc} {Qs : Fl → Loc → Hp → Prop} {A : List Int} (h : St p σ x ms d) (hg : σ[i]? = some .gone) (hkd : kd = 5 ∨ kd = 17) (htm : tm ≠ 0) (hA : x.ms.length + A.length < 4096)
    (m1 : lk m₀ 183 = some (.obj p.e)) (m2 : lk m₀ 64 = some (.int kd)) (m3 : lk m₀ 200 = some (.int tm)) (m4 : lk m₀ 124 = some (.int p.li)) (m5 : lk m₀ 126 = some (.int p.lt)) (m6 : lk m₀ 123 = some (.int knd))
    (k : ∀ m' σ', St p σ' ⟨x.t, x.v, x.s, x.l, x.ms ++ asksL p kd tm (decide (knd = 3)) A, x.w⟩ ms d → Fd p ms d σ d σ' → σ'[i]? = some .gone → Qs .next m' (σ'.set i o)) : forW i o 146 B_camp (A.map V.int) m₀ σ Qs := by
  refine forW_ind (fun vs m σ' => ∃ (q : List Int) (L : List Msg), vs = q.map V.int ∧ (lk m 183 = some (.obj p.e) ∧ lk m 64 = some (.int kd) ∧ lk m 200 = some (.int tm) ∧ lk m 124 = some (.int p.li) ∧ lk m 126 = some (.int p.lt) ∧ lk m 123 = some (.int knd)) ∧
      St p σ' ⟨x.t, x.v, x.s, x.l, L, x.w⟩ ms d ∧ Fd p ms d σ d σ' ∧ σ'[i]? = some .gone ∧ L ++ asksL p kd tm (decide (knd = 3)) q = x.ms ++ asksL p kd tm (decide (knd = 3)) A ∧ L.length + q.length < 4096) ?_ ?_ _ _ _ ⟨A, x.ms, rfl, ⟨m1, m2, m3, m4, m5, m6⟩, h, .refl, hg, rfl, hA⟩
  · rintro v vr m σ' K ⟨q, L, hr, ⟨m1, m2, m3, m4, m5, m6⟩, h1, f1, hg1, hL, hlen⟩ k1 k2
    cases q with
    | nil => cases hr
    | cons n q =>
      obtain ⟨rfl, rfl⟩ := List.cons.inj hr
      have w : ∀ y, y ≠ 146 → lk (put m 146 (.int n)) y = lk m y := fun y hy => by rw [lk_put, if_neg (Ne.symm hy)]
      have n0 : lk (put m 146 (.int n)) 146 = some (.int n) := lk_eq
      have n1 := (w 183 (by decide)).trans m1
      have n2 := (w 64 (by decide)).trans m2
      have n3 := (w 200 (by decide)).trans m3
      have n4 := (w 124 (by decide)).trans m4
      have n5 := (w 126 (by decide)).trans m5
      have n6 := (w 123 (by decide)).trans m6
      generalize put m 146 (.int n) = mm at n0 n1 n2 n3 n4 n5 n6
      have he := h1.eb
      delta B_camp
      repeat (first | with_reducible refine r_loc n0 ?_ | with_reducible refine r_loc n1 ?_ | walk_at "mst" | walk_at "meb")
      refine r_ifc (fun hc => ?_) (fun hc => ?_)
      · have hn : n = 1 := by simpa [cmpB] using hc
        repeat (first | walk_at "mst")
        exact k2 _ _ ⟨q, L, rfl, ⟨n1, n2, n3, n4, n5, n6⟩, h1, f1, hg1, by rw [← hL]; simp [asksL, hn], by simp only [List.length_cons] at hlen; omega⟩
      · have hn : ¬ n = 1 := by simpa [cmpB] using hc
        repeat (first | with_reducible refine r_loc n0 ?_ | with_reducible refine r_loc n1 ?_ | with_reducible refine r_loc n2 ?_ | with_reducible refine r_loc n3 ?_ | walk_at "mst" | walk_at "meb")
        refine c_msg g_last fun σ2 en hm2 kp2 => ⟨rfl, ?_⟩
        have ex2 : Ex σ' σ2 := Ex.push.of kp2 (Nat.le_refl _)
        have w : ∀ y, y ≠ 174 → lk (put mm 174 (.obj σ'.length)) y = lk mm y := fun y hy => by rw [lk_put, if_neg (Ne.symm hy)]
        have o0 : lk (put mm 174 (.obj σ'.length)) 174 = some (.obj σ'.length) := lk_eq
        have o1 := (w 183 (by decide)).trans n1
        have o2 := (w 64 (by decide)).trans n2
        have o3 := (w 200 (by decide)).trans n3
        have o4 := (w 124 (by decide)).trans n4
        have o5 := (w 126 (by decide)).trans n5
        have o6 := (w 123 (by decide)).trans n6
        have f2 : Kp σ'.length σ2 σ2 := .refl
        generalize put mm 174 (V.obj σ'.length) = mn at o0 o1 o2 o3 o4 o5 o6
        unfold msgO at hm2
        repeat (first | with_reducible refine r_loc o0 ?_ | with_reducible refine r_loc o4 ?_ | with_reducible refine r_loc o5 ?_ | with_reducible refine r_loc o6 ?_ | walk_at "mst")
        refine r_putk hm2 f2 (by decide +kernel) (by with_unfolding_all rfl) fun σ3 hm3 f3 g3 => ?_
        repeat (first | with_reducible refine r_loc o0 ?_ | with_reducible refine r_loc o4 ?_ | with_reducible refine r_loc o5 ?_ | with_reducible refine r_loc o6 ?_ | walk_at "mst")
        refine r_putk hm3 f3 (by decide +kernel) (by with_unfolding_all rfl) fun σ4 hm4 f4 g4 => ?_
        repeat (first | with_reducible refine r_loc o0 ?_ | with_reducible refine r_loc o4 ?_ | with_reducible refine r_loc o5 ?_ | with_reducible refine r_loc o6 ?_ | walk_at "mst")
        have fin : ∀ σ5, σ5[σ'.length]? = some (msgO ⟨kd, n, 1, tm, p.lt, p.li, false, decide (knd = 3)⟩ en) → Ex σ' σ5 → (sSeq (sExp (eMeth 606 184 (eLoc 183) F_Elector_send (esCons (eLoc 174) esNil))) sNil) mn σ5 K := fun σ5 hm5 ex5 => by
          have h5 := h1.ex ex5
          have he5 := h5.eb
          repeat (first | with_reducible refine r_loc o0 ?_ | with_reducible refine r_loc o1 ?_ | walk_at "mst" | walk_at "meb")
          refine k_send h5 hm5 hkd (by show (1 : Int) ≠ 0; decide) htm (by show L.length < 4096; omega) fun σ6 h6 f6 => ?_
          repeat (first | walk_at "mst")
          have hg5 := ex5.keep _ _ hg1
          refine k1 _ _ ⟨q, _, rfl, ⟨o1, o2, o3, o4, o5, o6⟩, h6, f1.trans ((Fd.ex ex5).trans f6), ?_, ?_, ?_⟩
          · exact f6.keep i _ hg5 (h5.ne_e hg5 (by walk_at "mt")) (h5.ne_b hg5 (by walk_at "mt")) (by obtain ⟨vs, hv⟩ := h5.hm.list; exact tag_ne hg5 hv (by walk_at "mt")) (h5.ne_d hg5 (by walk_at "mt"))
          · rw [← hL]; simp [asksL, hn]
          · simp only [List.length_cons] at hlen; simp only [List.length_append, List.length_cons, List.length_nil]; omega
        have ex4 : Ex σ' σ4 := ex2.of f4 (Nat.le_refl _)
        refine r_ifc (fun hc => ?_) (fun hc => ?_)
        · have hq : knd = 3 := by simpa [cmpB] using hc
          repeat (first | with_reducible refine r_loc o0 ?_ | walk_at "mst")
          refine r_putk hm4 f4 (by decide +kernel) (by with_unfolding_all rfl) fun σ5 hm5 f5 g5 => ?_
          refine r_next ?_
          refine r_nil ?_
          refine r_next ?_
          refine fin σ5 ?_ (ex2.of f5 (Nat.le_refl _))
          rw [hm5, hq]; rfl
        · have hq : ¬ knd = 3 := by simpa [cmpB] using hc
          refine r_nil ?_
          refine r_next ?_
          refine fin σ4 ?_ ex4
          rw [hm4, decide_eq_false hq]; rfl
  · rintro m σ' ⟨q, L, hr, _, h1, f1, hg1, hL, hlen⟩
    have hr0 : q = [] := by cases q with | nil => rfl | cons _ _ => cases hr
    subst hr0
    refine ⟨hg1, k _ _ ?_ f1 hg1⟩
    have : L = x.ms ++ asksL p kd tm (decide (knd = 3)) A := by rw [← hL]; simp [asksL]
    rw [← this]; exact h1
end


noncomputable def qw (p : Par) (w : Vt) : Int := jv p.come p.goes w
noncomputable def w1 : Vt := [(1, true)]
noncomputable def campV (p : Par) (ctx : Bool) (x : Es) : Es := if qw p w1 = 3 then ⟨x.t + 1, 1, 2, 1, x.ms, []⟩ else ⟨x.t + 1, 1, 1, 0, x.ms ++ asks p 5 (x.t + 1) ctx, w1⟩
noncomputable def campP (p : Par) (x : Es) : Es := if qw p w1 = 3 then campV p false ⟨x.t, x.v, 3, 0, x.ms, w1⟩ else ⟨x.t, x.v, 3, 0, x.ms ++ asks p 17 (x.t + 1) false, w1⟩
noncomputable def wonE (p : Par) (x : Es) : Es := if x.s = 3 then campV p false x else lead x
noncomputable def SC2 (Wn : FW) : SW := (sSeq (sIf (tCmp .Eq (eMeth 606 165 (eLoc 183) F_Elector_poll (esCons (eAttr (eLoc 183) 152) (esCons (eLoc 64) (esCons (eV (.bool true)) esNil)))) (eV (.int 3))) (sSeq (sExp (eMeth 606 217 (eLoc 183) Wn esNil))
  (sSeq sRet0
  sNil)) sNil)
  (sSeq (sUnp2 124 126 (eMeth 606 125 (eLoc 183) F_Elector_last_row esNil))
  (sSeq (sFor 146 (eMeth 242 57 (eAttr (eAttr (eLoc 183) 206) 83) F_Config_all_voters esNil) B_camp)
  sNil)))
noncomputable def WC (Wn : FW) : SW := (sSeq (sIf (tCmp .Eq (eLoc 123) (eV (.int 1))) (sSeq (sExp (eMeth 606 71 (eLoc 183) F_Elector_become_pre_candidate esNil))
  (sSeq (sAsg 64 (eV (.int 17)))
  (sSeq (sAsg 200 (eBin .Add (eAttr (eLoc 183) 200) (eV (.int 1))))
  sNil))) (sSeq (sExp (eMeth 606 68 (eLoc 183) F_Elector_become_candidate esNil))
  (sSeq (sAsg 64 (eV (.int 5)))
  (sSeq (sAsg 200 (eAttr (eLoc 183) 200))
  sNil))))
  (SC2 Wn))
theorem WC0 : W_Elector_campaign1 = WC F_Elector_won0 := rfl
theorem WC1 : W_Elector_campaign = WC F_Elector_won1 := rfl
section
variable {p : Par} {σ σ' σ₀ : Hp} {x : Es} {t v s l : Int} {ms d d' : Nat} {Q : V → Hp → Prop} {L : List Msg}
theorem c_lastrow (h : St p σ x ms d) (k : Q (.obj p.la) σ) : F_Elector_last_row [.obj p.e] σ Q := by
  refine ⟨rfl, ?_⟩
  delta W_Elector_last_row
  have he := h.eb
  repeat (first | walk_at "mst" | walk_at "meb")
  exact k
/-- behind the poll of a campaign -/
theorem k_camp2 {Wn : FW} {kd tm knd : Int} {m : Loc} {Qs : Fl → Loc → Hp → Prop} (h : St p σ x ms d) (hw : x.w = []) (hkd : (kd = 17 ∧ x.s = 3) ∨ (kd = 5 ∧ x.s = 1)) (htm : tm ≠ 0) (hl : x.ms.length ≤ 4000)
    (m1 : lk m 183 = some (.obj p.e)) (m2 : lk m 64 = some (.int kd)) (m3 : lk m 200 = some (.int tm)) (m6 : lk m 123 = some (.int knd))
    (kw : qw p w1 = 3 → ∀ σ', St p σ' ⟨x.t, x.v, x.s, x.l, x.ms, w1⟩ ms d → Fd p ms d σ d σ' → Wn [.obj p.e] σ' fun _ σ'' => Qs (.ret .none) m σ'')
    (ka : qw p w1 ≠ 3 → ∀ m' σ', St p σ' ⟨x.t, x.v, x.s, x.l, x.ms ++ asks p kd tm (decide (knd = 3)), w1⟩ ms d → Fd p ms d σ d σ' → Qs .next m' σ') :
    SC2 Wn m σ Qs := by
  delta SC2
  have he := h.eb
  repeat (first | with_reducible refine r_loc m1 ?_ | with_reducible refine r_loc m2 ?_ | walk_at "mst" | walk_at "meb")
  refine c_poll h (by rw [hw]; decide) hkd fun σ1 h1 f1 => ?_
  rw [hw] at h1 ⊢
  change St p σ1 ⟨x.t, x.v, x.s, x.l, x.ms, w1⟩ ms d at h1
  change kCmp _ _ (V.int (qw p w1)) _ _
  have he1 := h1.eb
  repeat (first | with_reducible refine r_loc m1 ?_ | walk_at "mst" | walk_at "meb")
  refine r_ifc (fun hc => ?_) (fun hc => ?_)
  · have hq : qw p w1 = 3 := by simpa [cmpB] using hc
    repeat (first | with_reducible refine r_loc m1 ?_ | walk_at "mst" | walk_at "meb")
    exact kw hq σ1 h1 f1
  · have hq : ¬ qw p w1 = 3 := by simpa [cmpB] using hc
    repeat (first | with_reducible refine r_loc m1 ?_ | walk_at "mst" | walk_at "meb")
    refine c_lastrow h1 ⟨_, _, _, rfl, h1.la, ?_⟩
    have w : ∀ y, y ≠ 124 → y ≠ 126 → lk (put (put m 124 (.int p.li)) 126 (.int p.lt)) y = lk m y := fun y hy hy' => by rw [lk_put, if_neg (Ne.symm hy'), lk_put, if_neg (Ne.symm hy)]
    have n1 := (w 183 (by decide) (by decide)).trans m1
    have n2 := (w 64 (by decide) (by decide)).trans m2
    have n3 := (w 200 (by decide) (by decide)).trans m3
    have n6 := (w 123 (by decide) (by decide)).trans m6
    have n4 : lk (put (put m 124 (.int p.li)) 126 (.int p.lt)) 124 = some (.int p.li) := lk_ne rfl lk_eq
    have n5 : lk (put (put m 124 (.int p.li)) 126 (.int p.lt)) 126 = some (.int p.lt) := lk_eq
    generalize put (put m 124 (.int p.li)) 126 (.int p.lt) = mm at n1 n2 n3 n4 n5 n6
    have hc1 := h1.hc
    repeat (first | with_reducible refine r_loc n1 ?_ | walk_at "mst" | walk_at "meb")
    refine c_allv h1 fun r i hi hle => ?_
    refine ⟨i, _, _, rfl, hi, .inl rfl, ?_⟩
    refine k_loop (h1.setf hle) (g_set hi) (hkd.elim (fun h => .inr h.1) fun h => .inl h.1) htm (by have := allv_len p.come p.goes; show x.ms.length + _ < _; omega) n1 n2 n3 n4 n5 n6 fun m' σ' h' f' hg' => ?_
    repeat (first | walk_at "mst")
    refine ka hq _ _ (h'.setg hg') ((f1.trans ?_))
    exact ((Fd.push.setf hle).trans f').setf hle
theorem k_camp {Wn : FW} {knd : Int} {d : Nat} (h : St p σ x ms d) (hs : x.s ≠ 2) (ht : 0 ≤ x.t) (hl : x.ms.length ≤ 4000)
    (kw : qw p w1 = 3 → ∀ σ' d', St p σ' (if knd = 1 then ⟨x.t, x.v, 3, 0, x.ms, w1⟩ else ⟨x.t + 1, 1, 1, 0, x.ms, w1⟩) ms d' → Fd p ms d σ d' σ' → Wn [.obj p.e] σ' fun _ σ'' => Q .none σ'')
    (ka : qw p w1 ≠ 3 → ∀ σ' d', St p σ' (if knd = 1 then ⟨x.t, x.v, 3, 0, x.ms ++ asks p 17 (x.t + 1) (decide (knd = 3)), w1⟩ else ⟨x.t + 1, 1, 1, 0, x.ms ++ asks p 5 (x.t + 1) (decide (knd = 3)), w1⟩) ms d' → Fd p ms d σ d' σ' → Q .none σ') :
    WC Wn ([183, 123].zip [.obj p.e, .int knd]) σ (fun fl _ σ' => Q (retV fl) σ') := by
  delta WC
  have he := h.eb
  repeat (first | walk_at "mst" | walk_at "meb")
  refine r_ifc (fun hc => ?_) (fun hc => ?_)
  · have hq : knd = 1 := by simpa [cmpB] using hc
    rw [if_pos hq] at kw ka
    repeat (first | walk_at "mst" | walk_at "meb")
    refine k_bp h hs fun σ1 d1 h1 f1 => ?_
    have he1 := h1.eb
    repeat (first | walk_at "mst" | walk_at "meb")
    refine k_camp2 h1 rfl (.inl ⟨rfl, rfl⟩) (by show x.t + 1 ≠ 0; omega) hl rfl rfl rfl rfl (fun hq σ2 h2 f2 => ?_) (fun hq m' σ2 h2 f2 => ?_)
    · exact kw hq _ _ h2 (f1.trans f2)
    · exact ka hq _ _ h2 (f1.trans f2)
  · have hq : ¬ knd = 1 := by simpa [cmpB] using hc
    rw [if_neg hq] at kw ka
    repeat (first | walk_at "mst" | walk_at "meb")
    refine k_bc h hs fun σ1 d1 h1 f1 => ?_
    have he1 := h1.eb
    repeat (first | walk_at "mst" | walk_at "meb")
    refine k_camp2 h1 rfl (.inr ⟨rfl, rfl⟩) (by show x.t + 1 ≠ 0; omega) hl rfl rfl rfl rfl (fun hq σ2 h2 f2 => ?_) (fun hq m' σ2 h2 f2 => ?_)
    · exact kw hq _ _ h2 (f1.trans f2)
    · exact ka hq _ _ h2 (f1.trans f2)
theorem k_lead {Qs : Fl → Loc → Hp → Prop} {m : Loc} (h : St p σ x ms d) (hs : x.s ≠ 0) (m1 : lk m 183 = some (.obj p.e)) (k : ∀ σ' d', St p σ' (lead x) ms d' → Fd p ms d σ d' σ' → Qs .next m σ') :
    (sSeq (sExp (eMeth 606 70 (eLoc 183) F_Elector_become_leader esNil)) (sSeq (sExp (eMeth 606 67 (eLoc 183) F_Elector_bcast_append esNil)) sNil)) m σ Qs := by
  have he := h.eb
  repeat (first | with_reducible refine r_loc m1 ?_ | walk_at "mst" | walk_at "meb")
  refine k_bl h hs fun σ1 d1 h1 f1 => ?_
  have he1 := h1.eb
  repeat (first | with_reducible refine r_loc m1 ?_ | walk_at "mst" | walk_at "meb")
  refine c_bcast ?_
  repeat (first | walk_at "mst")
  exact k _ _ h1 f1
theorem k_won0 (h : St p σ x ms d) (hs : x.s = 1) (k : ∀ σ' d', St p σ' (lead x) ms d' → Fd p ms d σ d' σ' → Q .none σ') : F_Elector_won0 [.obj p.e] σ Q := by
  refine ⟨rfl, ?_⟩
  delta W_Elector_won0
  have he := h.eb
  refine r_seq ?_
  refine r_if ?_
  repeat (first | walk_at "mst" | walk_at "meb")
  refine r_iff ?_ (by rw [hs]; rfl)
  refine r_nil ?_
  refine r_next ?_
  exact k_lead h (by rw [hs]; decide) rfl fun σ1 d1 h1 f1 => k _ _ h1 f1
/-- a campaign for votes -/
theorem k_campV {knd : Int} {Wn : FW} (hW : Wn = F_Elector_won0 ∨ Wn = F_Elector_won1) (h : St p σ x ms d) (hs : x.s ≠ 2) (ht : 0 ≤ x.t) (hl : x.ms.length ≤ 4000) (hk : knd = 2 ∨ knd = 3)
    (k : ∀ σ' d', St p σ' (campV p (decide (knd = 3)) x) ms d' → Fd p ms d σ d' σ' → Q .none σ') : WC Wn ([183, 123].zip [.obj p.e, .int knd]) σ (fun fl _ σ' => Q (retV fl) σ') := by
  have hn : ¬ knd = 1 := by omega
  unfold campV at k
  refine k_camp h hs ht hl (fun hq σ1 d1 h1 f1 => ?_) (fun hq σ1 d1 h1 f1 => ?_)
  · rw [if_neg hn] at h1
    rw [if_pos hq] at k
    rcases hW with rfl | rfl
    · exact k_won0 h1 rfl fun σ2 d2 h2 f2 => k _ _ h2 (f1.trans f2)
    · refine ⟨rfl, ?_⟩
      delta W_Elector_won1
      have he := h1.eb
      refine r_seq ?_
      refine r_if ?_
      repeat (first | walk_at "mst" | walk_at "meb")
      refine r_iff ?_ rfl
      refine r_nil ?_
      refine r_next ?_
      exact k_lead h1 (by show (1 : Int) ≠ 0; decide) rfl fun σ2 d2 h2 f2 => k _ _ h2 (f1.trans f2)
  · rw [if_neg hn] at h1
    rw [if_neg hq] at k
    exact k _ _ h1 f1
theorem k_campV1 {knd : Int} (h : St p σ x ms d) (hs : x.s ≠ 2) (ht : 0 ≤ x.t) (hl : x.ms.length ≤ 4000) (hk : knd = 2 ∨ knd = 3)
    (k : ∀ σ' d', St p σ' (campV p (decide (knd = 3)) x) ms d' → Fd p ms d σ d' σ' → Q .none σ') : F_Elector_campaign1 [.obj p.e, .int knd] σ Q := by
  refine ⟨rfl, ?_⟩
  rw [WC0]
  exact k_campV (.inl rfl) h hs ht hl hk k
theorem won_eq : F_Elector_won = F_Elector_won1 := rfl
theorem k_won1 (h : St p σ x ms d) (hs : x.s = 1 ∨ x.s = 3) (ht : 0 ≤ x.t) (hl : x.ms.length ≤ 4000) (k : ∀ σ' d', St p σ' (wonE p x) ms d' → Fd p ms d σ d' σ' → Q .none σ') : F_Elector_won1 [.obj p.e] σ Q := by
  refine ⟨rfl, ?_⟩
  delta W_Elector_won1
  have he := h.eb
  unfold wonE at k
  refine r_seq ?_
  refine r_if ?_
  repeat (first | walk_at "mst" | walk_at "meb")
  rcases hs with hs | hs
  · rw [if_neg (by omega)] at k
    refine r_iff ?_ (by rw [hs]; rfl)
    refine r_nil ?_
    refine r_next ?_
    exact k_lead h (by rw [hs]; decide) rfl fun σ1 d1 h1 f1 => k _ _ h1 f1
  · rw [if_pos hs] at k
    refine r_ift ?_ (by rw [hs]; rfl)
    repeat (first | walk_at "mst" | walk_at "meb")
    refine k_campV1 h (by omega) ht hl (.inl rfl) fun σ1 d1 h1 f1 => ?_
    repeat (first | walk_at "mst")
    exact k _ _ h1 f1
theorem k_campaign {knd : Int} (h : St p σ x ms d) (hs : x.s ≠ 2) (ht : 0 ≤ x.t) (hl : x.ms.length ≤ 4000) (hk : knd = 1 ∨ knd = 2 ∨ knd = 3)
    (k : ∀ σ' d', St p σ' (if knd = 1 then campP p x else campV p (decide (knd = 3)) x) ms d' → Fd p ms d σ d' σ' → Q .none σ') : F_Elector_campaign [.obj p.e, .int knd] σ Q := by
  refine ⟨rfl, ?_⟩
  rw [WC1]
  rcases hk with hk | hk
  · rw [if_pos hk] at k
    unfold campP at k
    refine k_camp h hs ht hl (fun hq σ1 d1 h1 f1 => ?_) (fun hq σ1 d1 h1 f1 => ?_)
    · rw [if_pos hk] at h1
      rw [if_pos hq] at k
      exact k_won1 h1 (.inr rfl) ht hl fun σ2 d2 h2 f2 => k _ _ h2 (f1.trans f2)
    · rw [if_pos hk, hk] at h1
      rw [if_neg hq] at k
      exact k _ _ h1 f1
  · rw [if_neg (by omega)] at k
    exact k_campV (.inr rfl) h hs ht hl hk k
end



local macro_rules | `(tactic| walk_at "mct") => `(tactic| with_reducible first
  | refine r_ift ?_ (by decide) | refine r_iff ?_ (by decide) | refine r_andt ?_ (by decide) | refine r_andf ?_ (by decide) | refine r_ort ?_ (by decide) | refine r_orf ?_ (by decide) | refine r_or2t ?_ (by decide) | refine r_or2f ?_ (by decide))
section
variable {p : Par} {σ σ' σ₀ : Hp} {x : Es} {t v s l : Int} {ms d d' : Nat} {Q : V → Hp → Prop} {L : List Msg}
theorem c_promo (h : St p σ x ms d) (k : ∀ r : Hp, Q (.bool true) (σ ++ r)) : F_Elector_promotable [.obj p.e] σ Q := by
  refine ⟨rfl, ?_⟩
  delta W_Elector_promotable
  have he := h.eb
  have hc := h.hc
  repeat (first | walk_at "mst" | walk_at "meb")
  refine c_allv h fun r i hi hle => ?_
  refine r_inlist hi (intsOf_map _) ?_
  have : (allv p.come p.goes).any (fun y => y == (1 : Int)) = true := List.any_eq_true.mpr ⟨1, by
    rw [allv_mem h.pw.c h.pw.g, List.mem_append]; exact h.pw.one, by decide⟩
  rw [this]
  repeat (first | walk_at "mst")
  exact k r
theorem k_hup {knd : Int} (h : St p σ x ms d) (hs : x.s ≠ 2) (ht : 0 ≤ x.t) (hl : x.ms.length ≤ 4000) (hk : knd = 1 ∨ knd = 2 ∨ knd = 3)
    (k : ∀ σ' d', St p σ' (if knd = 1 then campP p x else campV p (decide (knd = 3)) x) ms d' → Fd p ms d σ d' σ' → Q .none σ') : F_Elector_hup [.obj p.e, .int knd] σ Q := by
  refine ⟨rfl, ?_⟩
  delta W_Elector_hup
  have he := h.eb
  repeat (first | walk_at "mst" | walk_at "meb")
  refine r_orf ?_ (by simpa [cmpB] using hs)
  repeat (first | walk_at "mst" | walk_at "meb")
  refine c_promo h fun r => ?_
  refine r_tbool ?_
  refine r_orf ?_ rfl
  refine r_or0 ?_
  refine r_iff ?_ rfl
  refine r_nil ?_
  refine r_next ?_
  have h2 : St p (σ ++ r) x ms d := h.push
  have he2 := h2.eb
  repeat (first | walk_at "mst" | walk_at "meb")
  refine c_unapplied ?_
  repeat (first | walk_at "mst" | walk_at "meb")
  refine k_campaign h2 hs ht hl hk fun σ3 d3 h3 f3 => ?_
  repeat (first | walk_at "mst" | walk_at "meb")
  exact k _ _ h3 (Fd.push.trans f3)
theorem c_isl {kd : Int} {b : Bool} (hk : (kd = 0 ∧ b = true) ∨ ((kd = 6 ∨ kd = 18) ∧ b = false)) (k : ∀ r : Hp, Q (.bool b) (σ ++ r)) : F_is_local [.int kd] σ Q := by
  refine ⟨rfl, ?_⟩
  delta W_is_local
  repeat (first | walk_at "mst")
  refine r_knew rfl ?_
  refine r_intup g_last rfl ?_
  repeat (first | walk_at "mst")
  rcases hk with ⟨rfl, rfl⟩ | ⟨rfl | rfl, rfl⟩ <;> exact k _
theorem c_may {kd : Int} {b : Bool} (hk : (kd = 0 ∧ b = true) ∨ ((kd = 6 ∨ kd = 18) ∧ b = false)) (k : ∀ r : Hp, Q (.bool b) (σ ++ r)) : F_may_lack_term [.int kd] σ Q := by
  refine ⟨rfl, ?_⟩
  delta W_may_lack_term
  repeat (first | walk_at "mst")
  refine c_isl hk fun r => ?_
  repeat (first | walk_at "mst")
  rcases hk with ⟨rfl, rfl⟩ | ⟨rfl | rfl, rfl⟩
  · refine r_ift ?_ rfl
    repeat (first | walk_at "mst")
    exact k r
  all_goals
    refine r_iff ?_ rfl
    repeat (first | walk_at "mst")
    refine r_knew rfl ?_
    refine r_intup g_last rfl ?_
    repeat (first | walk_at "mst")
    rw [List.append_assoc]
    exact k _
/-- a message without a term -/
theorem c_st0 {i en : Nat} {m : Msg} {b : Bool} (hi : σ[i]? = some (msgO m en)) (hk : (m.kind = 0 ∧ b = true) ∨ ((m.kind = 6 ∨ m.kind = 18) ∧ b = false)) (htm : m.term = 0) (k : ∀ r : Hp, Q (.bool b) (σ ++ r)) : F_Elector_settle_term [.obj p.e, .obj i] σ Q := by
  refine ⟨rfl, ?_⟩
  delta W_Elector_settle_term
  unfold msgO at hi
  rw [htm] at hi
  repeat (first | walk_at "mst" | walk_at "mct")
  refine c_may hk fun r => ?_
  repeat (first | walk_at "mst")
  exact k r
theorem c_stEq {i en : Nat} {m : Msg} (h : St p σ x ms d) (hi : σ[i]? = some (msgO m en)) (htm : m.term = x.t) (ht : 0 < x.t) (k : Q (.bool true) σ) : F_Elector_settle_term [.obj p.e, .obj i] σ Q := by
  refine ⟨rfl, ?_⟩
  delta W_Elector_settle_term
  have he := h.eb
  unfold msgO at hi
  rw [htm] at hi
  repeat (first | walk_at "mst" | walk_at "meb" | walk_at "mct")
  refine r_iff ?_ (by simp [cmpB]; omega)
  repeat (first | walk_at "mst" | walk_at "meb" | walk_at "mct")
  refine r_iff ?_ (by simp [cmpB])
  repeat (first | walk_at "mst" | walk_at "meb" | walk_at "mct")
  refine r_iff ?_ (by simp [cmpB])
  repeat (first | walk_at "mst" | walk_at "meb" | walk_at "mct")
  exact k
theorem c_stLt {i en : Nat} {m : Msg} (h : St p σ x ms d) (hi : σ[i]? = some (msgO m en)) (hk : m.kind = 6 ∨ m.kind = 18) (h0 : m.term ≠ 0) (htm : m.term < x.t) (k : Q (.bool false) σ) : F_Elector_settle_term [.obj p.e, .obj i] σ Q := by
  refine ⟨rfl, ?_⟩
  delta W_Elector_settle_term
  have he := h.eb
  unfold msgO at hi
  repeat (first | walk_at "mst" | walk_at "meb" | walk_at "mct")
  refine r_iff ?_ (by simp [cmpB]; omega)
  repeat (first | walk_at "mst" | walk_at "meb" | walk_at "mct")
  refine r_iff ?_ (by simp [cmpB]; omega)
  repeat (first | walk_at "mst" | walk_at "meb" | walk_at "mct")
  refine r_ift ?_ (by simp [cmpB]; omega)
  repeat (first | walk_at "mst" | walk_at "meb" | walk_at "mct")
  refine ⟨rfl, ?_⟩
  delta W_Elector_answer_lower
  rcases hk with hk | hk
  all_goals
    rw [hk] at hi
    repeat (first | walk_at "mst" | walk_at "meb" | walk_at "mct")
    exact k
/-- a message of a higher term -/
theorem c_stGt {i en : Nat} {m : Msg} (h : St p σ x ms d) (hi : σ[i]? = some (msgO m en)) (hk : m.kind = 6 ∨ m.kind = 18) (h0 : 0 < m.term) (htm : x.t < m.term)
    (k : ∀ σ' d', St p σ' (if m.kind = 18 ∧ m.rej = false then x else ⟨m.term, 0, 0, 0, x.ms, []⟩) ms d' → Fd p ms d σ d' σ' → Q (.bool true) σ') : F_Elector_settle_term [.obj p.e, .obj i] σ Q := by
  refine ⟨rfl, ?_⟩
  delta W_Elector_settle_term
  have he := h.eb
  unfold msgO at hi
  repeat (first | walk_at "mst" | walk_at "meb" | walk_at "mct")
  refine r_iff ?_ (by simp [cmpB]; omega)
  repeat (first | walk_at "mst" | walk_at "meb" | walk_at "mct")
  refine r_ift ?_ (by simp [cmpB]; omega)
  repeat (first | walk_at "mst" | walk_at "meb" | walk_at "mct")
  refine ⟨rfl, ?_⟩
  delta W_Elector_settle_higher
  have hne : ¬ x.t = m.term := by omega
  rcases hk with hk | hk
  · rw [if_neg (by omega)] at k
    rw [hk] at hi
    repeat (first | walk_at "mst" | walk_at "meb" | walk_at "mct")
    refine k_bf h fun σ1 d1 h1 f1 => ?_
    rw [if_neg hne] at h1
    repeat (first | walk_at "mst" | walk_at "meb" | walk_at "mct")
    exact k _ _ h1 f1
  · rw [hk] at hi k
    repeat (first | walk_at "mst" | walk_at "meb" | walk_at "mct")
    cases hr : m.rej with
    | false =>
      rw [hr, if_pos ⟨rfl, rfl⟩] at k
      repeat (first | walk_at "mst" | walk_at "meb" | walk_at "mct")
      exact k _ _ h .refl
    | true =>
      rw [hr, if_neg (fun e => absurd e.2 (by decide))] at k
      repeat (first | walk_at "mst" | walk_at "meb" | walk_at "mct")
      refine k_bf h fun σ1 d1 h1 f1 => ?_
      rw [if_neg hne] at h1
      repeat (first | walk_at "mst" | walk_at "meb" | walk_at "mct")
      exact k _ _ h1 f1
theorem k_step_hup {i en : Nat} {m : Msg} (h : St p σ x ms d) (hi : σ[i]? = some (msgO m en)) (hk : m.kind = 0) (htm : m.term = 0) (hs : x.s ≠ 2) (ht : 0 ≤ x.t) (hl : x.ms.length ≤ 4000)
    (k : ∀ σ' d', St p σ' (if p.pv then campP p x else campV p false x) ms d' → Fd p ms d σ d' σ' → Q .none σ') : F_Elector_step [.obj p.e, .obj i] σ Q := by
  refine ⟨rfl, ?_⟩
  delta W_Elector_step
  have he := h.eb
  have hi0 := hi
  unfold msgO at hi
  rw [hk] at hi
  repeat (first | walk_at "mst" | walk_at "meb" | walk_at "mct")
  refine c_st0 hi0 (.inl ⟨hk, rfl⟩) htm fun r => ?_
  have h2 : St p (σ ++ r) x ms d := h.push
  have he := h2.eb
  have hi2 := g_app (r := r) hi
  repeat (first | walk_at "mst" | walk_at "meb" | walk_at "mct")
  revert k
  generalize hpv : p.pv = b
  intro k
  cases b with
  | true =>
    rw [if_pos rfl] at k
    refine r_ift ?_ rfl
    repeat (first | walk_at "mst" | walk_at "meb")
    refine k_hup h2 hs ht hl (.inl rfl) fun σ3 d3 h3 f3 => ?_
    repeat (first | walk_at "mst" | walk_at "meb")
    exact k _ _ h3 (Fd.push.trans f3)
  | false =>
    rw [if_neg (by decide)] at k
    refine r_iff ?_ rfl
    repeat (first | walk_at "mst" | walk_at "meb")
    refine k_hup h2 hs ht hl (.inr (.inl rfl)) fun σ3 d3 h3 f3 => ?_
    repeat (first | walk_at "mst" | walk_at "meb")
    exact k _ _ h3 (Fd.push.trans f3)
theorem k_step_tn {i en : Nat} {m : Msg} (h : St p σ x ms d) (hi : σ[i]? = some (msgO m en)) (hk : m.kind = 14) (htm : m.term = x.t) (hs : x.s = 0) (ht : 0 < x.t) (hl : x.ms.length ≤ 4000)
    (k : ∀ σ' d', St p σ' (campV p true x) ms d' → Fd p ms d σ d' σ' → Q .none σ') : F_Elector_step [.obj p.e, .obj i] σ Q := by
  refine ⟨rfl, ?_⟩
  delta W_Elector_step
  have he := h.eb
  have hi0 := hi
  unfold msgO at hi
  rw [hk] at hi
  repeat (first | walk_at "mst" | walk_at "meb" | walk_at "mct")
  refine c_stEq h hi0 htm ht ?_
  rw [hs] at he
  repeat (first | walk_at "mst" | walk_at "meb" | walk_at "mct")
  refine ⟨rfl, ?_⟩
  delta W_Elector_step_follower
  repeat (first | walk_at "mst" | walk_at "meb" | walk_at "mct")
  refine k_hup h (by omega) (by omega) hl (.inr (.inr rfl)) fun σ3 d3 h3 f3 => ?_
  repeat (first | walk_at "mst" | walk_at "meb" | walk_at "mct")
  exact k _ _ h3 f3
end



noncomputable def pollE (p : Par) (x : Es) (m : Msg) : Es :=
  if qw p (recV x.w m.frm (!m.rej)) = 3 then wonE p ⟨x.t, x.v, x.s, x.l, x.ms, recV x.w m.frm (!m.rej)⟩
  else if qw p (recV x.w m.frm (!m.rej)) = 2 then ⟨x.t, x.v, 0, 0, x.ms, []⟩ else ⟨x.t, x.v, x.s, x.l, x.ms, recV x.w m.frm (!m.rej)⟩
noncomputable def stepC (p : Par) (x : Es) (m : Msg) : Es := if x.s = 3 ∧ m.kind = 18 then pollE p x m else if x.s = 1 ∧ m.kind = 6 then pollE p x m else x
noncomputable def stepE (p : Par) (x : Es) (m : Msg) : Es :=
  if m.term = 0 then x else if x.t < m.term then (if m.kind = 18 ∧ m.rej = false then stepC p x m else ⟨m.term, 0, 0, 0, x.ms, []⟩) else if m.term < x.t then x else stepC p x m
section
variable {p : Par} {σ σ' σ₀ : Hp} {x : Es} {t v s l : Int} {ms d d' : Nat} {Q : V → Hp → Prop} {L : List Msg}
noncomputable def S_res : SW := (sSeq (sIf (tCmp .Eq (eLoc 178) (eV (.int 3))) (sSeq (sExp (eMeth 606 217 (eLoc 183) F_Elector_won esNil))
  sNil) (sSeq (sIf (tCmp .Eq (eLoc 178) (eV (.int 2))) (sSeq (sExp (eMeth 606 69 (eLoc 183) F_Elector_become_follower (esCons (eAttr (eLoc 183) 200) (esCons (eV (.int 0)) esNil))))
  sNil) sNil)
  sNil))
  sNil)
theorem k_res {m : Loc} {Qs : Fl → Loc → Hp → Prop} (h : St p σ x ms d) (hs : x.s = 1 ∨ x.s = 3) (ht : 0 ≤ x.t) (hl : x.ms.length ≤ 4000) (m1 : lk m 183 = some (.obj p.e)) (m2 : lk m 178 = some (.int (qw p x.w)))
    (k : ∀ σ' d', St p σ' (if qw p x.w = 3 then wonE p x else if qw p x.w = 2 then ⟨x.t, x.v, 0, 0, x.ms, []⟩ else x) ms d' → Fd p ms d σ d' σ' → Qs .next m σ') : S_res m σ Qs := by
  delta S_res
  have he := h.eb
  repeat (first | with_reducible refine r_loc m1 ?_ | with_reducible refine r_loc m2 ?_ | walk_at "mst" | walk_at "meb")
  refine r_ifc (fun hc => ?_) (fun hc => ?_)
  · have hq : qw p x.w = 3 := by simpa [cmpB] using hc
    rw [if_pos hq] at k
    repeat (first | with_reducible refine r_loc m1 ?_ | walk_at "mst" | walk_at "meb")
    rw [won_eq]
    refine k_won1 h hs ht hl fun σ1 d1 h1 f1 => ?_
    repeat (first | walk_at "mst" | walk_at "meb")
    exact k _ _ h1 f1
  · have hq : ¬ qw p x.w = 3 := by simpa [cmpB] using hc
    rw [if_neg hq] at k
    repeat (first | with_reducible refine r_loc m1 ?_ | with_reducible refine r_loc m2 ?_ | walk_at "mst" | walk_at "meb")
    refine r_ifc (fun hc => ?_) (fun hc => ?_)
    · have hq : qw p x.w = 2 := by simpa [cmpB] using hc
      rw [if_pos hq] at k
      repeat (first | with_reducible refine r_loc m1 ?_ | walk_at "mst" | walk_at "meb")
      refine k_bf h fun σ1 d1 h1 f1 => ?_
      rw [if_pos rfl] at h1
      repeat (first | walk_at "mst" | walk_at "meb")
      exact k _ _ h1 f1
    · have hq : ¬ qw p x.w = 2 := by simpa [cmpB] using hc
      rw [if_neg hq] at k
      repeat (first | walk_at "mst" | walk_at "meb")
      exact k _ _ h .refl
theorem k_cand {i en : Nat} {m : Msg} (h : St p σ x ms d) (hi : σ[i]? = some (msgO m en)) (hk : m.kind = 6 ∨ m.kind = 18) (hs : x.s = 1 ∨ x.s = 3) (ht : 0 ≤ x.t) (hl : x.ms.length ≤ 4000) (hw : x.w.length ≤ 4000)
    (k : ∀ σ' d', St p σ' (stepC p x m) ms d' → Fd p ms d σ d' σ' → Q .none σ') : F_Elector_step_candidate [.obj p.e, .obj i] σ Q := by
  refine ⟨rfl, ?_⟩
  have eW : W_Elector_step_candidate = (sSeq (sIf (tCmp .Eq (eAttr (eLoc 135) 123) (eV (.int 2))) sFls sNil)
  (sSeq (sIf (tOr [(tCmp .Eq (eAttr (eLoc 135) 123) (eV (.int 3))), (tCmp .Eq (eAttr (eLoc 135) 123) (eV (.int 8))), (tCmp .Eq (eAttr (eLoc 135) 123) (eV (.int 7)))]) sFls sNil)
  (sSeq (sIf (tCmp .Eq (eAttr (eLoc 183) 192) (eV (.int 3))) (sSeq (sIf (tCmp .NotEq (eAttr (eLoc 135) 123) (eV (.int 18))) (sSeq sRet0
  sNil) sNil)
  (sSeq (sAsg 178 (eMeth 606 165 (eLoc 183) F_Elector_poll (esCons (eAttr (eLoc 135) 99) (esCons (eV (.int 17)) (esCons (eNot (eAttr (eLoc 135) 171)) esNil)))))
  sNil)) (sSeq (sIf (tCmp .NotEq (eAttr (eLoc 135) 123) (eV (.int 6))) (sSeq sRet0
  sNil) sNil)
  (sSeq (sAsg 178 (eMeth 606 165 (eLoc 183) F_Elector_poll (esCons (eAttr (eLoc 135) 99) (esCons (eV (.int 5)) (esCons (eNot (eAttr (eLoc 135) 171)) esNil)))))
  sNil)))
  S_res))) := rfl
  rw [eW]
  have he := h.eb
  unfold msgO at hi
  unfold stepC at k
  have hc2 : ∀ c : Int, c = 2 ∨ c = 3 ∨ c = 8 ∨ c = 7 → cmpB .Eq m.kind c = false := fun c hc => by simp [cmpB]; omega
  repeat (first | walk_at "mst" | walk_at "meb")
  refine r_iff ?_ (hc2 2 (by omega))
  repeat (first | walk_at "mst" | walk_at "meb")
  refine r_orf ?_ (hc2 3 (by omega))
  repeat (first | walk_at "mst" | walk_at "meb")
  refine r_orf ?_ (hc2 8 (by omega))
  repeat (first | walk_at "mst" | walk_at "meb")
  refine r_orf ?_ (hc2 7 (by omega))
  repeat (first | walk_at "mst" | walk_at "meb" | walk_at "mct")
  rcases hs with hs | hs
  · rw [if_neg (fun e => by have := e.1; omega)] at k
    refine r_iff ?_ (by rw [hs]; rfl)
    repeat (first | walk_at "mst" | walk_at "meb")
    rcases hk with hk | hk
    · rw [if_pos ⟨hs, hk⟩] at k
      refine r_iff ?_ (by rw [hk]; rfl)
      repeat (first | walk_at "mst" | walk_at "meb")
      refine c_poll h (by omega) (.inr ⟨rfl, hs⟩) fun σ1 h1 f1 => ?_
      repeat (first | walk_at "mst" | walk_at "meb")
      exact k_res h1 (.inl hs) ht hl rfl rfl fun σ2 d2 h2 f2 => k _ _ h2 (f1.trans f2)
    · rw [if_neg (fun e => by have := e.2; omega)] at k
      refine r_ift ?_ (by rw [hk]; rfl)
      repeat (first | walk_at "mst" | walk_at "meb")
      exact k _ _ h .refl
  · refine r_ift ?_ (by rw [hs]; rfl)
    repeat (first | walk_at "mst" | walk_at "meb")
    rcases hk with hk | hk
    · rw [if_neg (fun e => by have := e.2; omega), if_neg (fun e => by have := e.1; omega)] at k
      refine r_ift ?_ (by rw [hk]; rfl)
      repeat (first | walk_at "mst" | walk_at "meb")
      exact k _ _ h .refl
    · rw [if_pos ⟨hs, hk⟩] at k
      refine r_iff ?_ (by rw [hk]; rfl)
      repeat (first | walk_at "mst" | walk_at "meb")
      refine c_poll h (by omega) (.inl ⟨rfl, hs⟩) fun σ1 h1 f1 => ?_
      repeat (first | walk_at "mst" | walk_at "meb")
      exact k_res h1 (.inr hs) ht hl rfl rfl fun σ2 d2 h2 f2 => k _ _ h2 (f1.trans f2)
noncomputable def S_disp : SW := (sSeq (sIf (tCmp .Eq (eAttr (eLoc 135) 123) (eV (.int 0))) (sSeq (sIf (tVal (eAttr (eLoc 183) 167)) (sSeq (sExp (eMeth 606 111 (eLoc 183) F_Elector_hup (esCons (eV (.int 1)) esNil)))
  sNil) (sSeq (sExp (eMeth 606 111 (eLoc 183) F_Elector_hup (esCons (eV (.int 2)) esNil)))
  sNil))
  sNil) (sSeq (sIf (tOr [(tCmp .Eq (eAttr (eLoc 135) 123) (eV (.int 5))), (tCmp .Eq (eAttr (eLoc 135) 123) (eV (.int 17)))]) sFls (sSeq (sIf (tCmp .Eq (eAttr (eLoc 183) 192) (eV (.int 2))) (sSeq (sExp (eMeth 606 197 (eLoc 183) F_Elector_step_leader (esCons (eLoc 135) esNil)))
  sNil) (sSeq (sIf (tCmp .Eq (eAttr (eLoc 183) 192) (eV (.int 0))) (sSeq (sExp (eMeth 606 196 (eLoc 183) F_Elector_step_follower (esCons (eLoc 135) esNil)))
  sNil) (sSeq (sExp (eMeth 606 194 (eLoc 183) F_Elector_step_candidate (esCons (eLoc 135) esNil)))
  sNil))
  sNil))
  sNil))
  sNil))
  sNil)
theorem k_disp {i en : Nat} {m : Msg} {mm : Loc} {Qs : Fl → Loc → Hp → Prop} (h : St p σ x ms d) (hi : σ[i]? = some (msgO m en)) (hk : m.kind = 6 ∨ m.kind = 18) (hs : 0 ≤ x.s ∧ x.s ≤ 3) (ht : 0 ≤ x.t) (hl : x.ms.length ≤ 4000) (hw : x.w.length ≤ 4000)
    (m1 : lk mm 183 = some (.obj p.e)) (m2 : lk mm 135 = some (.obj i)) (k : ∀ σ' d', St p σ' (stepC p x m) ms d' → Fd p ms d σ d' σ' → Qs .next mm σ') : S_disp mm σ Qs := by
  delta S_disp
  have he := h.eb
  have hi0 := hi
  unfold msgO at hi
  have hc2 : ∀ c : Int, c = 0 ∨ c = 5 ∨ c = 17 → cmpB .Eq m.kind c = false := fun c hc => by simp [cmpB]; omega
  repeat (first | with_reducible refine r_loc m1 ?_ | with_reducible refine r_loc m2 ?_ | walk_at "mst" | walk_at "meb")
  refine r_iff ?_ (hc2 0 (by omega))
  repeat (first | with_reducible refine r_loc m1 ?_ | with_reducible refine r_loc m2 ?_ | walk_at "mst" | walk_at "meb")
  refine r_orf ?_ (hc2 5 (by omega))
  repeat (first | with_reducible refine r_loc m1 ?_ | with_reducible refine r_loc m2 ?_ | walk_at "mst" | walk_at "meb")
  refine r_orf ?_ (hc2 17 (by omega))
  repeat (first | with_reducible refine r_loc m1 ?_ | with_reducible refine r_loc m2 ?_ | walk_at "mst" | walk_at "meb" | walk_at "mct")
  by_cases h2 : x.s = 2
  · have e : stepC p x m = x := by unfold stepC; rw [if_neg (fun e => by have := e.1; omega), if_neg (fun e => by have := e.1; omega)]
    rw [e] at k
    refine r_ift ?_ (by rw [h2]; rfl)
    repeat (first | with_reducible refine r_loc m1 ?_ | with_reducible refine r_loc m2 ?_ | walk_at "mst" | walk_at "meb")
    refine c_stepleader ?_
    repeat (first | walk_at "mst" | walk_at "meb")
    exact k _ _ h .refl
  refine r_iff ?_ (by simpa [cmpB] using h2)
  repeat (first | with_reducible refine r_loc m1 ?_ | with_reducible refine r_loc m2 ?_ | walk_at "mst" | walk_at "meb")
  by_cases h0 : x.s = 0
  · have e : stepC p x m = x := by unfold stepC; rw [if_neg (fun e => by have := e.1; omega), if_neg (fun e => by have := e.1; omega)]
    rw [e] at k
    refine r_ift ?_ (by rw [h0]; rfl)
    repeat (first | with_reducible refine r_loc m1 ?_ | with_reducible refine r_loc m2 ?_ | walk_at "mst" | walk_at "meb")
    refine ⟨rfl, ?_⟩
    delta W_Elector_step_follower
    rcases hk with hk | hk
    all_goals
      rw [hk] at hi
      repeat (first | walk_at "mst" | walk_at "meb" | walk_at "mct")
      exact k _ _ h .refl
  refine r_iff ?_ (by simpa [cmpB] using h0)
  repeat (first | with_reducible refine r_loc m1 ?_ | with_reducible refine r_loc m2 ?_ | walk_at "mst" | walk_at "meb")
  refine k_cand h hi0 hk (by omega) ht hl hw fun σ1 d1 h1 f1 => ?_
  repeat (first | walk_at "mst" | walk_at "meb")
  exact k _ _ h1 f1
theorem k_step {i en : Nat} {m : Msg} (h : St p σ x ms d) (hi : σ[i]? = some (msgO m en)) (hk : m.kind = 6 ∨ m.kind = 18) (hs : 0 ≤ x.s ∧ x.s ≤ 3) (ht : 0 < x.t) (h0 : 0 ≤ m.term) (hl : x.ms.length ≤ 4000) (hw : x.w.length ≤ 4000)
    (k : ∀ σ' d', St p σ' (stepE p x m) ms d' → Fd p ms d σ d' σ' → Q .none σ') : F_Elector_step [.obj p.e, .obj i] σ Q := by
  refine ⟨rfl, ?_⟩
  have eW : W_Elector_step = (sSeq (sIf (tOr [(tCmp .Eq (eAttr (eLoc 135) 123) (eV (.int 19))), (tCmp .Eq (eAttr (eLoc 135) 123) (eV (.int 20)))]) sFls sNil)
  (sSeq (sIf (tNot (tVal (eMeth 606 186 (eLoc 183) F_Elector_settle_term (esCons (eLoc 135) esNil)))) (sSeq sRet0
  sNil) sNil) S_disp)) := rfl
  rw [eW]
  have he := h.eb
  have hi0 := hi
  unfold msgO at hi
  unfold stepE at k
  have hc2 : ∀ c : Int, c = 19 ∨ c = 20 → cmpB .Eq m.kind c = false := fun c hc => by simp [cmpB]; omega
  repeat (first | walk_at "mst" | walk_at "meb")
  refine r_orf ?_ (hc2 19 (by omega))
  repeat (first | walk_at "mst" | walk_at "meb")
  refine r_orf ?_ (hc2 20 (by omega))
  repeat (first | walk_at "mst" | walk_at "meb" | walk_at "mct")
  by_cases c0 : m.term = 0
  · rw [if_pos c0] at k
    refine c_st0 hi0 (.inr ⟨hk, rfl⟩) c0 fun r => ?_
    repeat (first | walk_at "mst" | walk_at "meb" | walk_at "mct")
    exact k _ _ h.push .push
  rw [if_neg c0] at k
  by_cases c1 : x.t < m.term
  · rw [if_pos c1] at k
    refine c_stGt h hi0 hk (by omega) c1 fun σ1 d1 h1 f1 => ?_
    have hi1 := f1.keep _ _ hi0 (h.ne_e hi (by walk_at "mt")) (h.ne_b hi (by walk_at "mt")) (by obtain ⟨vs, hv⟩ := h.hm.list; exact tag_ne hi hv (by walk_at "mt")) (h.ne_d hi (by walk_at "mt"))
    repeat (first | walk_at "mst" | walk_at "meb" | walk_at "mct")
    by_cases c2 : m.kind = 18 ∧ m.rej = false
    · rw [if_pos c2] at h1 k
      exact k_disp h1 hi1 hk hs (by omega) hl hw rfl rfl fun σ2 d2 h2 f2 => k _ _ h2 (f1.trans f2)
    · rw [if_neg c2] at h1 k
      refine k_disp h1 hi1 hk ⟨by show (0 : Int) ≤ 0; decide, by show (0 : Int) ≤ 3; decide⟩ (by show 0 ≤ m.term; omega) hl (Nat.zero_le _) rfl rfl fun σ2 d2 h2 f2 => k _ _ ?_ (f1.trans f2)
      exact h2
  rw [if_neg c1] at k
  by_cases c2 : m.term < x.t
  · rw [if_pos c2] at k
    refine c_stLt h hi0 hk c0 c2 ?_
    repeat (first | walk_at "mst" | walk_at "meb" | walk_at "mct")
    exact k _ _ h .refl
  rw [if_neg c2] at k
  refine c_stEq h hi0 (by omega) ht ?_
  repeat (first | walk_at "mst" | walk_at "meb" | walk_at "mct")
  exact k_disp h hi0 hk hs (by omega) hl hw rfl rfl fun σ2 d2 h2 f2 => k _ _ h2 f2
end



section
variable {m : Loc} {σ : Hp} {x : Nat} {cap : List Nat} {v : V} {Q : V → Hp → Prop} {Qt : Bool → Hp → Prop} {W W₁ W₂ Wi We : EW} {Wc : TW}
noncomputable def kComp (x : Nat) (cap : List Nat) (Wc : TW) (We : EW) (m : Loc) (Q : V → Hp → Prop) : V → Hp → Prop := fun v σ₁ => ∃ i o vs, v = .obj i ∧ σ₁[i]? = some o ∧ (o = .list vs ∨ o = .tup vs) ∧
  compW i o x cap Wc We m vs [] (σ₁.set i .gone) fun acc σ₂ => Q (.obj σ₂.length) (σ₂ ++ [.list acc])
theorem r_comp (h : Wi m σ (kComp x cap Wc We m Q)) : eComp x cap Wi Wc We m σ Q := h
theorem r_ttrue (h : Qt true σ) : tTrue m σ Qt := h
noncomputable def kAll (f : List Bool → Bool) (Q : V → Hp → Prop) : V → Hp → Prop := fun v σ' => ∃ i vs bs, v = .obj i ∧ σ'[i]? = some (.list vs) ∧ boolsOf vs = some bs ∧ Q (.bool (f bs)) σ'
theorem r_all (h : W m σ (kAll (fun bs => bs.all id) Q)) : eAll W m σ Q := h
theorem r_any (h : W m σ (kAll (fun bs => bs.any id) Q)) : eAny W m σ Q := h
theorem r_kall {f : List Bool → Bool} {i : Nat} {bs : List Bool} (hi : σ[i]? = some (.list (bs.map V.bool))) (h : Q (.bool (f bs)) σ) : kAll f Q (.obj i) σ := ⟨i, _, bs, rfl, hi, boolsOf_map bs, h⟩
noncomputable def kCatT (Q : V → Hp → Prop) (a b : V) (σ : Hp) : Prop := ∃ i j vs ws, a = .obj i ∧ b = .obj j ∧ σ[i]? = some (.tup vs) ∧ σ[j]? = some (.tup ws) ∧ vs ≠ [] ∧ ws ≠ [] ∧ (vs ++ ws).length ≤ 4096 ∧ Q (.obj σ.length) (σ ++ [.tup (vs ++ ws)])
theorem r_catT (h : W₁ m σ fun a σ₁ => W₂ m σ₁ fun b σ₂ => kCatT Q a b σ₂) : eCatT W₁ W₂ m σ Q := h
noncomputable def kEqT (neg : Bool) (Q : Bool → Hp → Prop) (a b : V) (σ : Hp) : Prop := ∃ i j vs ws, a = .obj i ∧ b = .obj j ∧ σ[i]? = some (.tup vs) ∧ σ[j]? = some (.tup ws) ∧ compatL vs ws = true ∧ Q (decide (vs = ws) != neg) σ
theorem r_eqT {neg : Bool} (h : W₁ m σ fun a σ₁ => W₂ m σ₁ fun b σ₂ => kEqT neg Qt a b σ₂) : tEqT neg W₁ W₂ m σ Qt := h
theorem r_keqT {neg : Bool} {i j : Nat} {vs ws : List V} (hi : σ[i]? = some (.tup vs)) (hj : σ[j]? = some (.tup ws)) (hc : compatL vs ws = true) (h : Qt (decide (vs = ws) != neg) σ) : kEqT neg Qt (.obj i) (.obj j) σ := ⟨i, j, vs, ws, rfl, rfl, hi, hj, hc, h⟩
theorem r_max (h : W m σ fun v σ' => ∃ (i : Nat) (ns : List Int), v = .obj i ∧ σ'[i]? = some (.list (ns.map V.int)) ∧ 0 < ns.length ∧ ∀ M ∈ ns, (∀ a ∈ ns, a ≤ M) → Q (.int M) σ') : eMax W m σ Q := h
theorem r_pow {i j : Int} (h : 0 ≤ j ∧ j < 8 ∧ i.natAbs < 8) (k : Q (.int (i ^ j.toNat)) σ) : kBin .Pow Q (.int i) (.int j) σ := ⟨i, j, rfl, rfl, h, k⟩
/-- all but what is out of sight stays -/
structure Exg (σ σ' : Hp) : Prop where
  keep : ∀ (j : Nat) (o : O), σ[j]? = some o → o.tag ≠ 0 → σ'[j]? = some o
  len : σ.length ≤ σ'.length
theorem Ex.g {σ σ' : Hp} (h : Ex σ σ') : Exg σ σ' := ⟨fun j o hj _ => h.keep j o hj, h.len⟩
theorem Ex.back {i : Nat} {o : O} {σ σ' : Hp} (hi : σ[i]? = some o) (h : Ex (σ.set i .gone) σ') : Ex σ (σ'.set i o) := by
  have hg : σ'[i]? = some .gone := h.keep i _ (g_set hi)
  refine ⟨fun j q hj => ?_, by simpa using h.len⟩
  by_cases hij : i = j
  · subst hij; rw [hi] at hj; cases hj; exact g_set hg
  · exact g_ne (h.keep j q (g_ne hj hij)) hij
theorem k_comp {i : Nat} {o : O} {vs : List V} {f : V → Bool} (P : V → V → Hp → Prop) (hi : σ[i]? = some o) (ho : o = .list vs ∨ o = .tup vs)
    (ht : ∀ v ∈ vs, ∀ (σ' : Hp) (K : Bool → Hp → Prop), Ex (σ.set i .gone) σ' → (∀ σ'', Ex σ' σ'' → K (f v) σ'') → Wc (innerL m x v cap) σ' K)
    (he : ∀ v ∈ vs, f v = true → ∀ (σ' : Hp) (K : V → Hp → Prop), Ex (σ.set i .gone) σ' → (∀ u σ'', Ex σ' σ'' → P v u σ'' → K u σ'') → We (innerL m x v cap) σ' K)
    (hP : ∀ v u σ' σ'', P v u σ' → Exg σ' σ'' → P v u σ'')
    (k : ∀ acc σ', Ex σ σ' → All2 (fun v u => P v u σ') (vs.filter f) acc → Q (.obj σ'.length) (σ' ++ [.list acc])) : kComp x cap Wc We m Q (.obj i) σ := by
  refine ⟨i, o, vs, rfl, hi, ho, ?_⟩
  suffices H : ∀ (r done : List V) (acc : List V) (σ' : Hp), (∀ v ∈ r, v ∈ vs) → Ex (σ.set i .gone) σ' → All2 (fun v u => P v u σ') done acc → done ++ r.filter f = vs.filter f → compW i o x cap Wc We m r acc σ' fun acc σ₂ => Q (.obj σ₂.length) (σ₂ ++ [.list acc]) from
    H vs [] [] _ (fun _ h => h) .refl .nil rfl
  intro r
  induction r with
  | nil =>
    intro done acc σ' _ hE ha hd
    have hg : σ'[i]? = some .gone := hE.keep i _ (g_set hi)
    refine ⟨hg, k acc _ (hE.back hi) ?_⟩
    have : done = vs.filter f := by simpa using hd
    rw [← this]
    exact ha.mono fun v u h => hP v u _ _ h ⟨fun j q hj hq => g_ne hj (tag_ne hg hj fun e => hq e.symm), by simp⟩
  | cons v r ih =>
    intro done acc σ' hm hE ha hd
    refine ht v (hm v List.mem_cons_self) σ' _ hE fun σ1 hE1 => ⟨fun hb => ?_, fun hb => ?_⟩
    · refine he v (hm v List.mem_cons_self) hb σ1 _ (hE.trans hE1) fun u σ2 hE2 hp => ?_
      refine ih (done ++ [v]) (acc ++ [u]) σ2 (fun w hw => hm w (List.mem_cons_of_mem _ hw)) ((hE.trans hE1).trans hE2) ((ha.mono fun v u h => hP v u _ _ h (hE1.trans hE2).g).append (.cons hp .nil)) ?_
      rw [← hd, List.filter_cons_of_pos hb]
      simp
    · refine ih done acc σ1 (fun w hw => hm w (List.mem_cons_of_mem _ hw)) (hE.trans hE1) (ha.mono fun v u h => hP v u _ _ h hE1.g) ?_
      rw [← hd, List.filter_cons_of_neg (by simp [hb])]
theorem filter_map_int (A : List Int) (f : Int → Bool) (g : V → Bool) (h : ∀ n ∈ A, g (.int n) = f n) : (A.map V.int).filter g = (A.filter f).map V.int := by
  induction A with
  | nil => rfl
  | cons a A ih =>
    have ih := ih fun n hn => h n (List.mem_cons_of_mem _ hn)
    have ha := h a List.mem_cons_self
    cases hf : f a with
    | true => rw [List.map_cons, List.filter_cons_of_pos (by rw [ha, hf]), List.filter_cons_of_pos hf, List.map_cons, ih]
    | false => rw [List.map_cons, List.filter_cons_of_neg (by rw [ha, hf]; decide), List.filter_cons_of_neg (by rw [hf]; decide), ih]
theorem all2_eq {α : Type} : ∀ {a b : List α}, All2 (fun x y => y = x) a b → b = a
  | _, _, .nil => rfl
  | _, _, .cons h r => by rw [h, all2_eq r]
/-- a comprehension that only picks ints -/
theorem k_compf {i : Nat} {o : O} {A : List Int} {f : Int → Bool} (hi : σ[i]? = some o) (ho : o = .list (A.map V.int) ∨ o = .tup (A.map V.int))
    (ht : ∀ n ∈ A, ∀ (σ' : Hp) (K : Bool → Hp → Prop), Ex (σ.set i .gone) σ' → (∀ σ'', Ex σ' σ'' → K (f n) σ'') → Wc (innerL m x (.int n) cap) σ' K)
    (k : ∀ σ', Ex σ σ' → Q (.obj σ'.length) (σ' ++ [.list ((A.filter f).map V.int)])) : kComp x cap Wc (eLoc x) m Q (.obj i) σ := by
  refine k_comp (vs := A.map V.int) (f := fun v => match v with | .int n => f n | _ => false) (fun v u _ => u = v) hi ho ?_ ?_ (fun _ _ _ _ h _ => h) fun acc σ' hE ha => ?_
  · intro v hv
    obtain ⟨n, hn, rfl⟩ := List.mem_map.mp hv
    exact ht n hn
  · intro v hv _ σ' K hE hK
    exact r_loc (by simp [innerL, lk]) (hK v σ' .refl rfl)
  · rw [filter_map_int A f _ (fun _ _ => rfl)] at ha
    rw [all2_eq ha]
    exact k σ' hE
end
-- the halves and who wins them
noncomputable def winB (A who : List Int) : Bool := decide ((A.length : Int) < 2 * ((A.filter fun j => who.any (· == j)).length : Int))
noncomputable def winsB (H : List (List Int)) (who : List Int) : Bool := H.all fun A => winB A who
/-- the list of the halves -/
structure Hv (σ : Hp) (h : Nat) (hs : List Nat) (H : List (List Int)) : Prop where
  at' : σ[h]? = some (.list (hs.map V.obj))
  all : All2 (fun i A => σ[i]? = some (.list (A.map V.int))) hs H
  off : ∀ i ∈ hs, i ≠ h
  sz : ∀ A ∈ H, A.length ≤ 4
theorem Hv.ex {σ σ' : Hp} {h : Nat} {hs : List Nat} {H : List (List Int)} (a : Hv σ h hs H) (e : Ex σ σ') : Hv σ' h hs H := ⟨e.keep _ _ a.at', a.all.mono fun _ _ q => e.keep _ _ q, a.off, a.sz⟩
theorem All2.mem {α β : Type} {R : α → β → Prop} : ∀ {as : List α} {bs : List β}, All2 R as bs → ∀ a ∈ as, ∃ b ∈ bs, R a b
  | _, _, .cons h r, a, ha => by
    rcases List.mem_cons.mp ha with rfl | ha
    · exact ⟨_, List.mem_cons_self, h⟩
    · obtain ⟨b, hb, hr⟩ := r.mem a ha
      exact ⟨b, List.mem_cons_of_mem _ hb, hr⟩
theorem map_int_inj {A B : List Int} (h : A.map V.int = B.map V.int) : A = B := by
  induction A generalizing B with
  | nil => cases B with | nil => rfl | cons _ _ => cases h
  | cons a A ih =>
    cases B with
    | nil => cases h
    | cons b B =>
      simp only [List.map_cons, List.cons.injEq, V.int.injEq] at h
      rw [h.1, ih h.2]
theorem acc_eq {σ : Hp} {g : List Int → V} : ∀ {hs : List Nat} {H : List (List Int)} {acc : List V}, All2 (fun i A => σ[i]? = some (.list (A.map V.int))) hs H → All2 (fun v u => ∃ (i : Nat) (A : List Int), v = .obj i ∧ σ[i]? = some (.list (A.map V.int)) ∧ u = g A) (hs.map V.obj) acc → acc = H.map g
  | _, _, _, .nil, .nil => rfl
  | _, _, _, .cons hx hr, .cons p q => by
    obtain ⟨i, A, e1, e2, e3⟩ := p
    cases e1
    rw [hx] at e2
    have := map_int_inj (O.list.inj (Option.some.inj e2))
    subst this
    rw [e3, acc_eq hr q]
    rfl
theorem c_wins {σ : Hp} {h w : Nat} {hs : List Nat} {H : List (List Int)} {who : List Int} {Q : V → Hp → Prop} (hh : Hv σ h hs H) (hw : σ[w]? = some (.list (who.map V.int))) (hn : w ≠ h ∧ w ∉ hs)
    (k : ∀ σ', Ex σ σ' → Q (.bool (winsB H who)) σ') : F_law_wins [.obj h, .obj w] σ Q := by
  refine ⟨rfl, ?_⟩
  delta W_law_wins
  repeat (first | walk_at "mst")
  refine r_all ?_
  refine r_comp ?_
  refine r_loc (by with_unfolding_all rfl) ?_
  refine k_comp (vs := hs.map V.obj) (f := fun _ => true) (fun v u _ => ∃ (i : Nat) (A : List Int), v = .obj i ∧ σ[i]? = some (.list (A.map V.int)) ∧ u = .bool (winB A who)) hh.at' (.inl rfl) ?_ ?_ (fun _ _ _ _ h _ => h) ?_
  · intro v hv σ' K hE hK
    exact r_ttrue (hK σ' .refl)
  · intro v hv _ σ' K hE hK
    obtain ⟨i, hi, rfl⟩ := List.mem_map.mp hv
    obtain ⟨A, hA, hiA⟩ := hh.all.mem i hi
    have hl4 := hh.sz A hA
    have hi' : σ'[i]? = some (.list (A.map V.int)) := hE.keep _ _ (g_ne hiA (Ne.symm (hh.off i hi)))
    have hw' : σ'[w]? = some (.list (who.map V.int)) := hE.keep _ _ (g_ne hw (Ne.symm hn.1))
    refine r_ecmp ?_
    refine r_bin ?_
    refine r_V ?_
    refine r_len ?_
    refine r_comp ?_
    refine r_loc (by with_unfolding_all rfl) ?_
    refine k_compf (f := fun j => who.any (· == j)) hi' (.inl rfl) ?_ ?_
    · intro n hn' σ2 K2 hE2 hK2
      refine r_tin ?_
      refine r_loc (by with_unfolding_all rfl) ?_
      refine r_loc (by with_unfolding_all rfl) ?_
      refine r_inlist (hE2.keep _ _ (g_ne hw' (fun e => hn.2 (e ▸ hi)))) (intsOf_map who) ?_
      have := hK2 σ2 .refl
      simpa using this
    · intro σ2 hE2
      refine r_lenlist g_last ?_
      rw [List.length_map]
      have hfl : (A.filter fun j => who.any (· == j)).length ≤ 4 := Nat.le_trans (List.length_filter_le _ _) hl4
      refine r_mul ⟨by decide, by simp only [Int.natAbs_natCast]; omega⟩ ?_
      refine r_len ?_
      refine r_loc (by with_unfolding_all rfl) ?_
      refine r_lenlist (g_app (hE2.keep _ _ hi')) ?_
      rw [List.length_map]
      refine r_kcmp ?_
      exact hK _ _ (hE2.trans .push) ⟨i, A, rfl, hiA, rfl⟩
  · intro acc σ' hE ha
    have e : acc = (H.map fun A => winB A who).map V.bool := by
      rw [List.filter_eq_self.mpr (fun _ _ => rfl)] at ha
      rw [acc_eq hh.all ha, List.map_map]
      rfl
    subst e
    refine r_kall g_last ?_
    repeat (first | walk_at "mst")
    have : (H.map fun A => winB A who).all id = winsB H who := by unfold winsB; rw [List.all_map]; rfl
    rw [this]
    exact k _ (hE.trans .push)



theorem seqIndex_nat {k n : Nat} (h : k < n) : seqIndex? (k : Int) n = some k := by
  unfold seqIndex?
  simp; omega
section
variable {σ : Hp} {Q : V → Hp → Prop}
noncomputable def drawZ (ns : List Int) (n : Nat) : Int := ns.getD (n % ns.length) 0 + 7919 * ((n / ns.length : Nat) : Int)
theorem c_lawdraw {i : Nat} {ns : List Int} {n : Nat} (hi : σ[i]? = some (.list (ns.map V.int))) (h0 : 0 < ns.length) (h1 : ns.length ≤ 5) (hn : n ≤ 4) (k : Q (.int (drawZ ns n)) σ) : F_law_draw [.obj i, .int n] σ Q := by
  refine ⟨rfl, ?_⟩
  delta W_law_draw
  repeat (first | walk_at "mst")
  refine r_lenlist hi ?_
  rw [List.length_map]
  refine r_mod (by omega) ?_
  have e : (n : Int).fmod (ns.length : Int) = ((n % ns.length : Nat) : Int) := by
    rw [Int.fmod_eq_emod_of_nonneg _ (by omega)]; rfl
  rw [e]
  have hlt : n % ns.length < ns.length := Nat.mod_lt _ h0
  refine r_idxlist (q := n % ns.length) (v := .int ns[n % ns.length]) hi (by rw [List.length_map]; exact seqIndex_nat hlt) (by rw [List.getElem?_map, List.getElem?_eq_getElem hlt]; rfl) ?_
  repeat (first | walk_at "mst")
  refine r_lenlist hi ?_
  rw [List.length_map]
  refine r_div ⟨by omega, by simp only [Int.natAbs_natCast]; omega⟩ ?_
  have e2 : (n : Int).fdiv (ns.length : Int) = ((n / ns.length : Nat) : Int) := by
    rw [Int.fdiv_eq_ediv_of_nonneg _ (by omega)]; rfl
  rw [e2]
  have : n / ns.length ≤ n := Nat.div_le_self _ _
  refine r_mul ⟨by decide, by simp only [Int.natAbs_natCast]; omega⟩ ?_
  repeat (first | walk_at "mst")
  have e3 : drawZ ns n = ns[n % ns.length] + 7919 * ((n / ns.length : Nat) : Int) := by
    unfold drawZ
    rw [List.getD_eq_getElem?_getD, List.getElem?_eq_getElem hlt]
    rfl
  rw [e3] at k
  exact k
theorem c_says {kd frm t : Int} {b : Bool} (k : ∀ σ' i en, Ex σ σ' → σ'[i]? = some (msgO ⟨kd, 1, frm, t, 0, 0, b, false⟩ en) → σ.length ≤ i → Q (.obj i) σ') : F_law_says [.int kd, .int frm, .int t, .bool b] σ Q := by
  refine ⟨rfl, ?_⟩
  delta W_law_says
  repeat (first | walk_at "mst")
  refine c_msg g_last fun σ2 en hm2 kp2 => ⟨rfl, ?_⟩
  have ex2 : Ex σ σ2 := Ex.push.of kp2 (Nat.le_refl _)
  unfold msgO at hm2
  have f2 : Kp σ.length σ2 σ2 := .refl
  repeat (first | walk_at "mst")
  refine r_putk hm2 f2 (by decide +kernel) (by with_unfolding_all rfl) fun σ3 hm3 f3 g3 => ?_
  repeat (first | walk_at "mst")
  exact k σ3 _ en (ex2.of f3 (Nat.le_refl _)) hm3 (Nat.le_refl _)
noncomputable def wordM (way far : Int) (pre : Bool) (j t : Int) : List Msg :=
  if way = 1 then [⟨if pre then 18 else 6, 1, j, if pre then t else t + 1, 0, 0, true, false⟩]
  else if way = 2 then [⟨if pre then 18 else 6, 1, j, t + 1, 0, 0, false, false⟩, ⟨if pre then 18 else 6, 1, j, t + 1, 0, 0, false, false⟩]
  else if way = 3 then [⟨if pre then 18 else 6, 1, j, t + 1, 0, 0, false, false⟩, ⟨if pre then 18 else 6, 1, j, if pre then t else t + 1, 0, 0, true, false⟩]
  else if way = 4 then [⟨if pre then 18 else 6, 1, j, (if pre then t else t + 1) - 1, 0, 0, decide (far.fmod 2 = 1), false⟩]
  else if way = 5 then [⟨if pre then 18 else 6, 1, j, t + 2 + far, 0, 0, true, false⟩]
  else if way = 6 then [⟨if pre then 6 else 18, 1, j, if pre then t else t + 1, 0, 0, false, false⟩]
  else [⟨if pre then 18 else 6, 1, j, t + 1, 0, 0, false, false⟩]
theorem ml_one {σ : Hp} {i en : Nat} {m : Msg} (h : σ[i]? = some (msgO m en)) : Ml (σ ++ [.list [V.obj i]]) σ.length [m] := ⟨[i], g_last, .cons ⟨en, g_app h⟩ .nil⟩
theorem ml_two {σ : Hp} {i j en en' : Nat} {m m' : Msg} (h : σ[i]? = some (msgO m en)) (h' : σ[j]? = some (msgO m' en')) : Ml (σ ++ [.list [V.obj i, V.obj j]]) σ.length [m, m'] := ⟨[i, j], g_last, .cons ⟨en, g_app h⟩ (.cons ⟨en', g_app h'⟩ .nil)⟩
theorem wordM_eq (way far : Int) (pre : Bool) (j t : Int) : wordM way far pre j t =
  if way = 1 then [⟨if pre then 18 else 6, 1, j, if pre then t else t + 1, 0, 0, true, false⟩]
  else if way = 2 then [⟨if pre then 18 else 6, 1, j, t + 1, 0, 0, false, false⟩, ⟨if pre then 18 else 6, 1, j, t + 1, 0, 0, false, false⟩]
  else if way = 3 then [⟨if pre then 18 else 6, 1, j, t + 1, 0, 0, false, false⟩, ⟨if pre then 18 else 6, 1, j, if pre then t else t + 1, 0, 0, true, false⟩]
  else if way = 4 then [⟨if pre then 18 else 6, 1, j, (if pre then t else t + 1) - 1, 0, 0, decide (far.fmod 2 = 1), false⟩]
  else if way = 5 then [⟨if pre then 18 else 6, 1, j, t + 2 + far, 0, 0, true, false⟩]
  else if way = 6 then [⟨if pre then 6 else 18, 1, j, if pre then t else t + 1, 0, 0, false, false⟩]
  else [⟨if pre then 18 else 6, 1, j, t + 1, 0, 0, false, false⟩] := rfl
theorem c_word {way far j t : Int} {pre : Bool} (k : ∀ σ' i, Ex σ σ' → Ml σ' i (wordM way far pre j t) → σ.length ≤ i → Q (.obj i) σ') : F_law_word [.int way, .int far, .bool pre, .int j, .int t] σ Q := by
  refine ⟨rfl, ?_⟩
  have kk : ∀ M, wordM way far pre j t = M → ∀ σ' i, Ex σ σ' → Ml σ' i M → σ.length ≤ i → Q (.obj i) σ' := fun M e => e ▸ k
  clear k
  delta W_law_word
  repeat (first | walk_at "mst")
  cases pre with
  | true =>
    have e := wordM_eq way far true j t
    refine r_ift ?_ rfl
    repeat (first | walk_at "mst")
    refine c_says fun σ1 i1 en1 E1 h1 l1 => ?_
    repeat (first | walk_at "mst")
    refine c_says fun σ2 i2 en2 E2 h2 l2 => ?_
    have h1 := E2.keep _ _ h1
    have E := E1.trans E2
    repeat (first | walk_at "mst")
    refine r_ifc (fun hc => ?_) (fun hc => ?_)
    · replace e := e.trans (if_pos (of_decide_eq_true hc))
      repeat (first | walk_at "mst")
      refine r_knew rfl ?_
      repeat (first | walk_at "mst")
      exact kk _ e _ _ (E.trans .push) (ml_one h2) E.len
    replace e := e.trans (if_neg (of_decide_eq_false hc))
    repeat (first | walk_at "mst")
    refine r_ifc (fun hc => ?_) (fun hc => ?_)
    · replace e := e.trans (if_pos (of_decide_eq_true hc))
      repeat (first | walk_at "mst")
      refine r_knew rfl ?_
      repeat (first | walk_at "mst")
      exact kk _ e _ _ (E.trans .push) (ml_two h1 h1) E.len
    replace e := e.trans (if_neg (of_decide_eq_false hc))
    repeat (first | walk_at "mst")
    refine r_ifc (fun hc => ?_) (fun hc => ?_)
    · replace e := e.trans (if_pos (of_decide_eq_true hc))
      repeat (first | walk_at "mst")
      refine r_knew rfl ?_
      repeat (first | walk_at "mst")
      exact kk _ e _ _ (E.trans .push) (ml_two h1 h2) E.len
    replace e := e.trans (if_neg (of_decide_eq_false hc))
    repeat (first | walk_at "mst")
    refine r_ifc (fun hc => ?_) (fun hc => ?_)
    · replace e := e.trans (if_pos (of_decide_eq_true hc))
      repeat (first | walk_at "mst")
      refine r_mod (by decide) ?_
      repeat (first | walk_at "mst")
      refine c_says fun σ3 i3 en3 E3 h3 l3 => ?_
      refine r_esn ?_
      refine r_knew rfl ?_
      repeat (first | walk_at "mst")
      exact kk _ e _ _ ((E.trans E3).trans .push) (ml_one h3) (E.trans E3).len
    replace e := e.trans (if_neg (of_decide_eq_false hc))
    repeat (first | walk_at "mst")
    refine r_ifc (fun hc => ?_) (fun hc => ?_)
    · replace e := e.trans (if_pos (of_decide_eq_true hc))
      repeat (first | walk_at "mst")
      refine c_says fun σ3 i3 en3 E3 h3 l3 => ?_
      refine r_esn ?_
      refine r_knew rfl ?_
      repeat (first | walk_at "mst")
      exact kk _ e _ _ ((E.trans E3).trans .push) (ml_one h3) (E.trans E3).len
    replace e := e.trans (if_neg (of_decide_eq_false hc))
    repeat (first | walk_at "mst")
    refine r_ifc (fun hc => ?_) (fun hc => ?_)
    · replace e := e.trans (if_pos (of_decide_eq_true hc))
      repeat (first | walk_at "mst")
      refine c_says fun σ3 i3 en3 E3 h3 l3 => ?_
      refine r_esn ?_
      refine r_knew rfl ?_
      repeat (first | walk_at "mst")
      exact kk _ e _ _ ((E.trans E3).trans .push) (ml_one h3) (E.trans E3).len
    replace e := e.trans (if_neg (of_decide_eq_false hc))
    repeat (first | walk_at "mst")
    refine r_knew rfl ?_
    repeat (first | walk_at "mst")
    exact kk _ e _ _ (E.trans .push) (ml_one h1) E.len
  | false =>
    have e := wordM_eq way far false j t
    refine r_iff ?_ rfl
    repeat (first | walk_at "mst")
    refine c_says fun σ1 i1 en1 E1 h1 l1 => ?_
    repeat (first | walk_at "mst")
    refine c_says fun σ2 i2 en2 E2 h2 l2 => ?_
    have h1 := E2.keep _ _ h1
    have E := E1.trans E2
    repeat (first | walk_at "mst")
    refine r_ifc (fun hc => ?_) (fun hc => ?_)
    · replace e := e.trans (if_pos (of_decide_eq_true hc))
      repeat (first | walk_at "mst")
      refine r_knew rfl ?_
      repeat (first | walk_at "mst")
      exact kk _ e _ _ (E.trans .push) (ml_one h2) E.len
    replace e := e.trans (if_neg (of_decide_eq_false hc))
    repeat (first | walk_at "mst")
    refine r_ifc (fun hc => ?_) (fun hc => ?_)
    · replace e := e.trans (if_pos (of_decide_eq_true hc))
      repeat (first | walk_at "mst")
      refine r_knew rfl ?_
      repeat (first | walk_at "mst")
      exact kk _ e _ _ (E.trans .push) (ml_two h1 h1) E.len
    replace e := e.trans (if_neg (of_decide_eq_false hc))
    repeat (first | walk_at "mst")
    refine r_ifc (fun hc => ?_) (fun hc => ?_)
    · replace e := e.trans (if_pos (of_decide_eq_true hc))
      repeat (first | walk_at "mst")
      refine r_knew rfl ?_
      repeat (first | walk_at "mst")
      exact kk _ e _ _ (E.trans .push) (ml_two h1 h2) E.len
    replace e := e.trans (if_neg (of_decide_eq_false hc))
    repeat (first | walk_at "mst")
    refine r_ifc (fun hc => ?_) (fun hc => ?_)
    · replace e := e.trans (if_pos (of_decide_eq_true hc))
      repeat (first | walk_at "mst")
      refine r_mod (by decide) ?_
      repeat (first | walk_at "mst")
      refine c_says fun σ3 i3 en3 E3 h3 l3 => ?_
      refine r_esn ?_
      refine r_knew rfl ?_
      repeat (first | walk_at "mst")
      exact kk _ e _ _ ((E.trans E3).trans .push) (ml_one h3) (E.trans E3).len
    replace e := e.trans (if_neg (of_decide_eq_false hc))
    repeat (first | walk_at "mst")
    refine r_ifc (fun hc => ?_) (fun hc => ?_)
    · replace e := e.trans (if_pos (of_decide_eq_true hc))
      repeat (first | walk_at "mst")
      refine c_says fun σ3 i3 en3 E3 h3 l3 => ?_
      refine r_esn ?_
      refine r_knew rfl ?_
      repeat (first | walk_at "mst")
      exact kk _ e _ _ ((E.trans E3).trans .push) (ml_one h3) (E.trans E3).len
    replace e := e.trans (if_neg (of_decide_eq_false hc))
    repeat (first | walk_at "mst")
    refine r_ifc (fun hc => ?_) (fun hc => ?_)
    · replace e := e.trans (if_pos (of_decide_eq_true hc))
      repeat (first | walk_at "mst")
      refine c_says fun σ3 i3 en3 E3 h3 l3 => ?_
      refine r_esn ?_
      refine r_knew rfl ?_
      repeat (first | walk_at "mst")
      exact kk _ e _ _ ((E.trans E3).trans .push) (ml_one h3) (E.trans E3).len
    replace e := e.trans (if_neg (of_decide_eq_false hc))
    repeat (first | walk_at "mst")
    refine r_knew rfl ?_
    repeat (first | walk_at "mst")
    exact kk _ e _ _ (E.trans .push) (ml_one h1) E.len
end



section
variable {σ : Hp} {Q : V → Hp → Prop}
noncomputable def remL (no : List Int) : List Int := [1, 2, 3, 4].filter fun j => !(no.any (· == j))
noncomputable def hiM (higher : List Int) : Option Int → Prop
  | Option.none => higher = []
  | some M => M ∈ higher ∧ ∀ a ∈ higher, a ≤ M
noncomputable def endL (H : List (List Int)) (pre : Bool) (t v : Int) (yes no : List Int) : Option Int → List Int
  | some M => [M, 0, 0, 0]
  | Option.none => if winsB H yes then (if pre && !(winsB H [1]) then [t + 1, 1, 1, 0] else [t + 1, 1, 2, 1])
    else if pre then [t, v, if winsB H (remL no) then 3 else 0, 0] else [t + 1, 1, if winsB H (remL no) then 1 else 0, 0]
theorem lt4 {σ σ' : Hp} {h : Nat} {o : O} (hi : σ[h]? = some o) (e : Ex σ σ') : h < σ'.length := lt_of_get (e.keep _ _ hi)
theorem Hv.fresh {σ : Hp} {h i : Nat} {hs : List Nat} {H : List (List Int)} (a : Hv σ h hs H) (hi : σ.length ≤ i) : i ≠ h ∧ i ∉ hs :=
  ⟨by have := lt_of_get a.at'; omega, fun hm => by obtain ⟨_, _, q⟩ := a.all.mem i hm; have := lt_of_get q; omega⟩
/-- the wins of the sayers of a new list -/
theorem c_end {h y n g : Nat} {hs : List Nat} {H : List (List Int)} {pre : Bool} {t v : Int} {yes no higher : List Int} (hh : Hv σ h hs H) (hy : σ[y]? = some (.list (yes.map V.int))) (hn : σ[n]? = some (.list (no.map V.int))) (hg : σ[g]? = some (.list (higher.map V.int)))
    (ny : y ≠ h ∧ y ∉ hs) (k : ∀ σ' i hM, Ex σ σ' → hiM higher hM → σ'[i]? = some (.tup ((endL H pre t v yes no hM).map V.int)) → σ.length ≤ i → Q (.obj i) σ') :
    F_law_end [.obj h, .bool pre, .int t, .int v, .obj y, .obj n, .obj g] σ Q := by
  refine ⟨rfl, ?_⟩
  delta W_law_end
  repeat (first | walk_at "mst")
  refine r_lenlist hg ?_
  rw [List.length_map]
  repeat (first | walk_at "mst")
  refine r_ifc (fun hc => ?_) (fun hc => ?_)
  · have hc' : 0 < higher.length := by simpa [cmpB] using hc
    repeat (first | walk_at "mst")
    refine r_max ?_
    refine r_loc (by with_unfolding_all rfl) ⟨g, higher, rfl, hg, hc', fun M hM hle => ?_⟩
    repeat (first | walk_at "mst")
    refine r_knew rfl ?_
    repeat (first | walk_at "mst")
    exact k _ _ (some M) .push ⟨hM, hle⟩ g_last (Nat.le_refl _)
  have hc' : higher = [] := by
    cases higher with
    | nil => rfl
    | cons a r => simp [cmpB] at hc
  repeat (first | walk_at "mst")
  refine c_wins hh hy ny fun σ1 E1 => ?_
  repeat (first | walk_at "mst")
  have fin : ∀ {σ' i L}, Ex σ σ' → endL H pre t v yes no Option.none = L → σ'[i]? = some (.tup (L.map V.int)) → σ.length ≤ i → Q (.obj i) σ' := fun E e q l => k _ _ Option.none E hc' (e ▸ q) l
  have hh1 := hh.ex E1
  have keepE : ∀ {σ2 : Hp}, Ex σ1 σ2 → Ex σ σ2 := fun e => E1.trans e
  cases hwy : winsB H yes with
  | true =>
    refine r_ift ?_ rfl
    repeat (first | walk_at "mst")
    cases pre with
    | true =>
      refine r_andt ?_ rfl
      repeat (first | walk_at "mst")
      refine r_knew rfl ?_
      repeat (first | walk_at "mst")
      have E2 : Ex σ1 (σ1 ++ [O.list [V.int 1]]) := .push
      refine c_wins (hh1.ex E2) (who := [1]) g_last (hh1.fresh (Nat.le_refl _)) fun σ3 E3 => ?_
      repeat (first | walk_at "mst")
      have E13 := keepE (E2.trans E3)
      cases hw1 : winsB H [1] with
      | true =>
        refine r_andf ?_ rfl
        refine r_iff ?_ rfl
        repeat (first | walk_at "mst")
        refine r_knew rfl ?_
        repeat (first | walk_at "mst")
        exact fin (E13.trans .push) (by simp only [endL, hwy, hw1]; rfl) g_last E13.len
      | false =>
        refine r_andt ?_ rfl
        repeat (first | walk_at "mst")
        refine r_knew rfl ?_
        repeat (first | walk_at "mst")
        exact fin (E13.trans .push) (by simp only [endL, hwy, hw1]; rfl) g_last E13.len
    | false =>
      refine r_andf ?_ rfl
      refine r_iff ?_ rfl
      repeat (first | walk_at "mst")
      refine r_knew rfl ?_
      repeat (first | walk_at "mst")
      exact fin (E1.trans .push) (by simp only [endL, hwy]; rfl) g_last E1.len
  | false =>
    refine r_iff ?_ rfl
    repeat (first | walk_at "mst")
    have tail : ∀ (m : Loc) (σ2 : Hp) (io : Nat) (a b s0 : Int) (Qs : Fl → Loc → Hp → Prop), Ex σ1 σ2 → lk m 106 = some (.obj h) → lk m 153 = some (.obj n) → lk m 163 = some (.obj io) → lk m 192 = some (.int s0) → σ2[io]? = some (.tup [.int a, .int b]) →
        (∀ σ' i m', Ex σ σ' → σ.length ≤ i → σ'[i]? = some (.tup ([a, b, if winsB H (remL no) then s0 else 0, 0].map V.int)) → Qs (.ret (.obj i)) m' σ') →
        (sSeq (sIf (tNot (tVal (eCall F_law_wins (esCons (eLoc 106) (esCons (eComp 117 [153] (eTup (esCons (eV (.int 1)) (esCons (eV (.int 2)) (esCons (eV (.int 3)) (esCons (eV (.int 4)) esNil))))) (tIn true (eLoc 117) (eLoc 153)) (eLoc 117)) esNil))))) (sSeq (sAsg 192 (eV (.int 0))) sNil) sNil)
          (sSeq (sRet (eCatT (eLoc 163) (eTup (esCons (eLoc 192) (esCons (eV (.int 0)) esNil))))) sNil)) m σ2 Qs := by
      intro m σ2 io a b s0 Qs E2 m1 m2 m3 m4 hio hq
      repeat (first | with_reducible refine r_loc m1 ?_ | walk_at "mst")
      refine r_comp ?_
      repeat (first | walk_at "mst")
      refine r_knew rfl ?_
      have E12 := keepE E2
      refine k_compf (A := [1, 2, 3, 4]) (f := fun j => !(no.any (· == j))) g_last (.inr rfl) ?_ ?_
      · intro j hj σ3 K3 hE3 hK3
        refine r_tin ?_
        refine r_loc (v := .int j) (by simp [innerL, lk]) ?_
        refine r_loc (v := .obj n) (by
          have hf : ∀ (l : Loc), lk l 153 = some (.obj n) → lk (l.filter fun p => [153].contains p.1) 153 = some (.obj n) := by
            intro l
            induction l with
            | nil => intro h; cases h
            | cons p l ih =>
              intro h
              simp only [lk] at h
              by_cases hp : p.1 = 153
              · rw [if_pos hp] at h
                rw [List.filter_cons_of_pos (by simp [hp])]
                simp only [lk, if_pos hp]
                exact h
              · rw [if_neg hp] at h
                rw [List.filter_cons_of_neg (by simpa using hp)]
                exact ih h
          simp only [innerL, lk]
          rw [if_neg (by decide)]
          exact hf m m2) ?_
        have hn3 : σ3[n]? = some (.list (no.map V.int)) := hE3.keep _ _ (g_ne (g_app (E12.keep _ _ hn)) (by have := lt4 hn E12; omega))
        refine r_inlist hn3 (intsOf_map no) ?_
        have := hK3 σ3 .refl
        simpa using this
      · intro σ3 hE3
        repeat (first | walk_at "mst")
        have E3 : Ex σ2 (σ3 ++ [O.list (([1, 2, 3, 4].filter fun j => !(no.any (· == j))).map V.int)]) := (Ex.push.trans hE3).trans .push
        have hlen : σ2.length ≤ σ3.length := (Ex.push.trans hE3).len
        refine c_wins (who := remL no) ((hh1.ex E2).ex E3) g_last ((hh1.ex E2).fresh hlen) fun σ4 E4 => ?_
        repeat (first | walk_at "mst")
        have E24 := E3.trans E4
        cases hr : winsB H (remL no) with
        | true =>
          refine r_iff ?_ rfl
          repeat (first | with_reducible refine r_loc m3 ?_ | with_reducible refine r_loc m4 ?_ | walk_at "mst")
          refine r_catT ?_
          repeat (first | with_reducible refine r_loc m3 ?_ | with_reducible refine r_loc m4 ?_ | walk_at "mst")
          refine r_knew rfl ?_
          refine ⟨_, _, _, _, rfl, rfl, g_app (E24.keep _ _ hio), g_last, by simp, by simp, by simp, ?_⟩
          repeat (first | walk_at "mst")
          have E5 := (E12.trans E24).trans ((Ex.push (r := [O.tup [V.int s0, V.int 0]])).trans (.push (r := [O.tup ([V.int a, V.int b] ++ [V.int s0, V.int 0])])))
          refine hq _ _ _ E5 (by have := (E12.trans E24).len; simp; omega) ?_
          rw [hr]
          exact g_last
        | false =>
          refine r_ift ?_ rfl
          repeat (first | walk_at "mst")
          refine r_catT ?_
          refine r_loc (v := .obj io) (lk_ne rfl m3) ?_
          repeat (first | walk_at "mst")
          refine r_loc (v := .int 0) (lk_eq) ?_
          repeat (first | walk_at "mst")
          refine r_knew rfl ?_
          refine ⟨_, _, _, _, rfl, rfl, g_app (E24.keep _ _ hio), g_last, by simp, by simp, by simp, ?_⟩
          repeat (first | walk_at "mst")
          have E5 := (E12.trans E24).trans ((Ex.push (r := [O.tup [V.int 0, V.int 0]])).trans (.push (r := [O.tup ([V.int a, V.int b] ++ [V.int 0, V.int 0])])))
          refine hq _ _ _ E5 (by have := (E12.trans E24).len; simp; omega) ?_
          rw [hr]
          exact g_last
    cases pre with
    | true =>
      refine r_ift ?_ rfl
      repeat (first | walk_at "mst")
      refine r_knew rfl ?_
      refine r_next ?_
      refine r_seq ?_
      refine r_asg ?_
      refine r_V ?_
      refine r_next ?_
      refine r_nil ?_
      refine r_next ?_
      exact tail _ _ _ t v 3 _ .push rfl rfl rfl rfl g_last fun σ' i m' E l q => fin E (by simp only [endL, hwy]; rfl) q l
    | false =>
      refine r_iff ?_ rfl
      repeat (first | walk_at "mst")
      refine r_knew rfl ?_
      refine r_next ?_
      refine r_seq ?_
      refine r_asg ?_
      refine r_V ?_
      refine r_next ?_
      refine r_nil ?_
      refine r_next ?_
      exact tail _ _ _ (t + 1) 1 1 _ .push rfl rfl rfl rfl g_last fun σ' i m' E l q => fin E (by simp only [endL, hwy]; rfl) q l
end



/-- a list of tuples -/
noncomputable def Tl (σ : Hp) (i : Nat) (R : List (List V)) : Prop := ∃ ids : List Nat, σ[i]? = some (.list (ids.map V.obj)) ∧ All2 (fun j r => σ[j]? = some (.tup r)) ids R
theorem Tl.exg {σ σ' : Hp} {i : Nat} {R : List (List V)} (h : Tl σ i R) (e : Exg σ σ') : Tl σ' i R := by
  obtain ⟨ids, a, b⟩ := h
  exact ⟨ids, e.keep _ _ a (by walk_at "mt"), b.mono fun j r q => e.keep _ _ q (by walk_at "mt")⟩
noncomputable def rowOf (m : Msg) : List V := [.int m.kind, .int m.to, .int m.frm, .int m.term, .int m.index, .int m.lterm, .bytes m.ctx]
noncomputable def inH (H : List (List Int)) (j : Int) : Bool := H.any fun A => A.any (· == j)
noncomputable def askedL (H : List (List Int)) (kd t li lt : Int) (mark : Bool) : List (List V) :=
  if winsB H [1] then [] else ([2, 3, 4].filter fun j => inH H j).map fun j => [.int kd, .int j, .int 1, .int (t + 1), .int li, .int lt, .bytes mark]
/-- the new tuples behind the picked ints -/
theorem rows_of {σ : Hp} {f : Int → List V} : ∀ {A : List Int} {acc : List V}, All2 (fun v u => ∃ (n : Int) (i : Nat), v = .int n ∧ u = .obj i ∧ σ[i]? = some (.tup (f n))) (A.map V.int) acc → ∃ ids : List Nat, acc = ids.map V.obj ∧ All2 (fun j r => σ[j]? = some (.tup r)) ids (A.map f)
  | [], _, .nil => ⟨[], rfl, .nil⟩
  | n :: A, _, .cons p q => by
    obtain ⟨n', i, e1, rfl, h⟩ := p
    cases e1
    obtain ⟨ids, rfl, hr⟩ := rows_of q
    exact ⟨i :: ids, rfl, .cons h hr⟩
section
variable {σ : Hp} {Q : V → Hp → Prop}
theorem c_asked {h la : Nat} {hs : List Nat} {H : List (List Int)} {kd t li lt : Int} {mark : Bool} (hh : Hv σ h hs H) (hl : σ[la]? = some (.tup [.int li, .int lt]))
    (k : ∀ σ' i, Ex σ σ' → Tl σ' i (askedL H kd t li lt mark) → σ.length ≤ i → Q (.obj i) σ') : F_law_asked [.obj h, .int kd, .int t, .obj la, .bytes mark] σ Q := by
  refine ⟨rfl, ?_⟩
  unfold askedL at k
  delta W_law_asked
  repeat (first | walk_at "mst")
  refine r_knew rfl ?_
  repeat (first | walk_at "mst")
  have E0 : Ex σ (σ ++ [O.list [V.int 1]]) := .push
  refine c_wins (hh.ex E0) (who := [1]) g_last (hh.fresh (Nat.le_refl _)) fun σ1 E1 => ?_
  repeat (first | walk_at "mst")
  have E01 := E0.trans E1
  have hh1 := hh.ex E01
  cases hw : winsB H [1] with
  | true =>
    rw [hw, if_pos rfl] at k
    refine r_ift ?_ rfl
    repeat (first | walk_at "mst")
    refine r_knew rfl ?_
    repeat (first | walk_at "mst")
    exact k _ _ (E01.trans .push) ⟨[], g_last, .nil⟩ E01.len
  | false =>
    rw [hw, if_neg (by decide)] at k
    refine r_iff ?_ rfl
    repeat (first | walk_at "mst")
    refine r_comp ?_
    repeat (first | walk_at "mst")
    refine r_knew rfl ?_
    have lenp : ∀ {j : Nat} {o : O}, σ1[j]? = some o → σ1.length ≠ j := fun hj => by have := lt_of_get hj; omega
    refine k_comp (vs := [2, 3, 4].map V.int) (f := fun v => match v with | .int n => inH H n | _ => false) (fun v u σ' => ∃ (n : Int) (i : Nat), v = .int n ∧ u = .obj i ∧ σ'[i]? = some (.tup [.int kd, .int n, .int 1, .int (t + 1), .int li, .int lt, .bytes mark])) g_last (.inr rfl) ?_ ?_ ?_ ?_
    · intro v hv σ2 K2 hE2 hK2
      obtain ⟨n, hn, rfl⟩ := List.mem_map.mp hv
      refine r_tval ?_
      refine r_any ?_
      refine r_comp ?_
      refine r_loc (by with_unfolding_all rfl) ?_
      have hh2 : Hv σ2 h hs H := ⟨hE2.keep _ _ (g_ne (g_app hh1.at') (lenp hh1.at')), hh1.all.mono fun i A q => hE2.keep _ _ (g_ne (g_app q) (lenp q)), hh1.off, hh1.sz⟩
      refine k_comp (vs := hs.map V.obj) (f := fun _ => true) (fun v u _ => ∃ (i : Nat) (A : List Int), v = .obj i ∧ σ2[i]? = some (.list (A.map V.int)) ∧ u = .bool (A.any (· == n))) hh2.at' (.inl rfl) ?_ ?_ (fun _ _ _ _ h _ => h) ?_
      · intro v hv σ3 K3 hE3 hK3
        exact r_ttrue (hK3 σ3 .refl)
      · intro v hv _ σ3 K3 hE3 hK3
        obtain ⟨i, hi, rfl⟩ := List.mem_map.mp hv
        obtain ⟨A, hA, hiA⟩ := hh2.all.mem i hi
        refine r_ein ?_
        refine r_loc (by with_unfolding_all rfl) ?_
        refine r_loc (by with_unfolding_all rfl) ?_
        refine r_inlist (hE3.keep _ _ (g_ne hiA (Ne.symm (hh2.off i hi)))) (intsOf_map A) ?_
        have := hK3 (.bool (A.any (· == n))) σ3 .refl ⟨i, A, rfl, hiA, rfl⟩
        simpa using this
      · intro acc σ3 hE3 ha
        have e : acc = (H.map fun A => A.any (· == n)).map V.bool := by
          rw [List.filter_eq_self.mpr (fun _ _ => rfl)] at ha
          rw [acc_eq hh2.all ha, List.map_map]
          rfl
        subst e
        refine r_kall g_last ?_
        refine r_tbool ?_
        have : (H.map fun A => A.any (· == n)).any id = inH H n := by unfold inH; rw [List.any_map]; rfl
        rw [this]
        exact hK2 _ (hE3.trans .push)
    · intro v hv _ σ2 K2 hE2 hK2
      obtain ⟨n, hn, rfl⟩ := List.mem_map.mp hv
      have hl2 : σ2[la]? = some (.tup [.int li, .int lt]) := hE2.keep _ _ (g_ne (g_app (E01.keep _ _ hl)) (lenp (E01.keep _ _ hl)))
      repeat (first | walk_at "mst")
      refine r_idxtup hl2 rfl rfl ?_
      repeat (first | walk_at "mst")
      refine r_idxtup hl2 rfl rfl ?_
      repeat (first | walk_at "mst")
      refine r_knew rfl ?_
      exact hK2 _ _ .push ⟨n, _, rfl, rfl, g_last⟩
    · rintro v u σ2 σ3 ⟨n, i, e1, e2, e3⟩ hE
      exact ⟨n, i, e1, e2, hE.keep _ _ e3 (by walk_at "mt")⟩
    · intro acc σ2 hE2 ha
      rw [filter_map_int [2, 3, 4] (fun j => inH H j) _ (fun _ _ => rfl)] at ha
      obtain ⟨ids, rfl, hr⟩ := rows_of ha
      repeat (first | walk_at "mst")
      have E2 := E01.trans ((Ex.push).trans hE2)
      exact k _ _ (E2.trans .push) ⟨ids, g_last, hr.mono fun j r q => g_app q⟩ E2.len
noncomputable def ords : List (List Int) := [[0, 1, 2], [0, 2, 1], [1, 0, 2], [1, 2, 0], [2, 0, 1], [2, 1, 0]]
theorem c_orders (k : ∀ (σ' : Hp) (i : Nat) (ids : List Nat), Ex σ σ' → σ'[i]? = some (.list (ids.map V.obj)) → All2 (fun j r => σ'[j]? = some (.tup r)) ids (ords.map fun o => o.map V.int) → (∀ j ∈ ids, σ.length ≤ j) → σ.length ≤ i → Q (.obj i) σ') : F_law_orders [] σ Q := by
  refine ⟨rfl, ?_⟩
  delta W_law_orders
  repeat (first | walk_at "mst" | refine r_knew rfl ?_)
  have e : ∀ a b c d e' f g : O, σ ++ [a] ++ [b] ++ [c] ++ [d] ++ [e'] ++ [f] ++ [g] = σ ++ [a, b, c, d, e', f, g] := fun _ _ _ _ _ _ _ => by simp
  rw [e]
  have g : ∀ (n i : Nat) (l : Hp) (o : O), i = σ.length + n → l[n]? = some o → (σ ++ l)[i]? = some o := fun n i l o hi h => by rw [hi, List.getElem?_append_right (by omega)]; simpa using h
  refine k _ _ [_, _, _, _, _, _] .push (g 6 _ _ _ (by simp) rfl) ?_ ?_ (by simp)
  · exact .cons (g 0 _ _ _ rfl rfl) (.cons (g 1 _ _ _ (by simp) rfl) (.cons (g 2 _ _ _ (by simp) rfl) (.cons (g 3 _ _ _ (by simp) rfl) (.cons (g 4 _ _ _ (by simp) rfl) (.cons (g 5 _ _ _ (by simp) rfl) .nil)))))
  · intro j hj
    simp only [List.mem_cons, List.not_mem_nil, or_false] at hj
    rcases hj with rfl | rfl | rfl | rfl | rfl | rfl <;> simp
end



noncomputable def cfgR (jt : Nat) (pv : Bool) : List (Nat × V) := [(152, .int 1), (91, .int 2), (108, .int 1), (198, .int 0), (118, .obj jt), (63, .int 0), (143, .int 1048576), (140, .int 1048576), (144, .int 18446744073709551615), (141, .int 256), (142, .int 18446744073709551615), (78, .bool false), (167, .bool pv), (169, .int 0), (154, .bool false), (195, .bool false)]
section
variable {σ : Hp} {Q : V → Hp → Prop}
theorem c_rcfg {i : Nat} (hi : σ[i]? = some (.inst 319 [])) (k : ∀ σ' jt, σ'[i]? = some (.inst 319 (cfgR jt false)) → σ'[jt]? = some (.tup [.int 0]) → Kp i σ σ' → Q .none σ') : F_RaftConfig_init [.obj i, .int 1, .int 2, .int 1, .int 0] σ Q := by
  refine ⟨rfl, ?_⟩
  delta W_RaftConfig_init
  have f : Kp i σ σ := .refl
  repeat (first | walk_at "mst" | walk_at "mkp")
  rename_i σ5 jt h5 k5 hj l5 g5 σ6 h6 k6 g6 σ7 h7 k7 g7
  have hne : jt ≠ i := tag_ne hj h5 (by walk_at "mt")
  have hj7 := g7 _ _ (g6 _ _ hj hne) hne
  refine r_shl ⟨by decide, by decide, by decide⟩ ?_
  have e20 : (1 : Int) * 2 ^ (20 : Int).toNat = 1048576 := by decide
  rw [e20]
  repeat (first | walk_at "mst" | walk_at "mkp")
  refine r_shl ⟨by decide, by decide, by decide⟩ ?_
  rw [e20]
  repeat (first | walk_at "mst" | walk_at "mkp")
  rename_i σ8 h8 k8 g8 σ9 h9 k9 g9 σA hA kA gA σB hB kB gB σC hC kC gC σD hD kD gD σE hE kE gE σF hF kF gF σG hG kG gG σH hH kH gH
  refine k σH jt hH ?_ kH
  exact gH _ _ (gG _ _ (gF _ _ (gE _ _ (gD _ _ (gC _ _ (gB _ _ (gA _ _ (g9 _ _ (g8 _ _ hj7 hne) hne) hne) hne) hne) hne) hne) hne) hne) hne
theorem c_check {i jt : Nat} {pv : Bool} (hi : σ[i]? = some (.inst 319 (cfgR jt pv))) (hj : σ[jt]? = some (.tup [.int 0])) (k : Q .none σ) : F_RaftConfig_check_all [.obj i] σ Q := by
  refine ⟨rfl, ?_⟩
  delta W_RaftConfig_check_all
  repeat (first | walk_at "mst" | walk_at "mct")
  show tIsN _ _ _ _ _
  refine r_attr ?_
  refine r_loc rfl ?_
  refine r_get hi rfl ⟨⟨_, rfl⟩, ?_⟩
  repeat (first | walk_at "mst" | walk_at "mct")
  refine r_lentup hj ?_
  repeat (first | walk_at "mst" | walk_at "mct")
  exact k
theorem c_ballots {b : Nat} (hb : σ[b]? = some (.inst 291 [])) (k : ∀ σ' c d, σ'[b]? = some (.inst 291 (balA c d)) → Kp b σ σ' → Q .none σ') : F_Ballots_init [.obj b] σ Q := by
  refine ⟨rfl, ?_⟩
  delta W_Ballots_init
  have f : Kp b σ σ := .refl
  repeat (first | walk_at "mst" | refine r_knew rfl ?_)
  have L : ∀ {τ : Hp} {i : Nat}, τ[i]? = some (.list []) → Li τ i [] := fun h => ⟨h, by decide, .nil⟩
  refine c_cfg g_last ((L g_last).app.app.app.app) ((L g_last).app.app.app) ((L g_last).app.app) ((L g_last).app) fun σ2 v o l n hc _ _ _ _ kp _ => ⟨rfl, ?_⟩
  have E : Ex σ σ2 := (((((Ex.push).trans .push).trans .push).trans .push).trans .push).of kp (by simp)
  have hb2 := E.keep _ _ hb
  have f2 : Kp b σ σ2 := ⟨fun j o h _ => E.keep _ _ h, E.len⟩
  repeat (first | walk_at "mst" | walk_at "mkp")
  rename_i σ3 h3 f3 g3
  refine r_dict0 ?_
  have h4 := g_app (r := [O.dict []]) h3
  have f4 := f3.push (r := [O.dict []])
  repeat (first | walk_at "mst" | walk_at "mkp")
  exact k _ _ _ (by assumption) (by assumption)
theorem c_furnish {e : Nat} {as : List (Nat × V)} (he : σ[e]? = some (.inst 606 as)) (hl : as.length.ble 39 = true) (k : ∀ σ' b c d, σ'[e]? = some (.inst 606 (put as 206 (.obj b))) → σ'[b]? = some (.inst 291 (balA c d)) → Kp e σ σ' → σ.length ≤ b → Q .none σ') : F_Elector_furnish [.obj e] σ Q := by
  refine ⟨rfl, ?_⟩
  delta W_Elector_furnish
  repeat (first | walk_at "mst")
  refine c_ballots g_last fun σ2 c d hb kp => ⟨rfl, ?_⟩
  have E : Ex σ σ2 := Ex.push.of kp (Nat.le_refl _)
  have he2 := E.keep _ _ he
  have f2 : Kp e σ σ2 := ⟨fun j o h _ => E.keep _ _ h, E.len⟩
  repeat (first | walk_at "mst")
  refine r_putk he2 f2 (by decide +kernel) hl fun σ3 h3 f3 g3 => ?_
  repeat (first | walk_at "mst")
  exact k _ _ _ _ h3 (g3 _ _ hb (tag_ne hb he2 (by walk_at "mt"))) f3 (Nat.le_refl _)
theorem put_hd {a : Nat} {u v : V} {r : List (Nat × V)} : put ((a, u) :: r) a v = (a, v) :: r := if_pos rfl
theorem put_tl {a x : Nat} {u v : V} {r r' : List (Nat × V)} (h : Nat.beq a x = false) (k : put r x v = r') : put ((a, u) :: r) x v = (a, u) :: r' :=
  (if_neg (Nat.ne_of_beq_eq_false h)).trans (congrArg _ k)
theorem put_nil {x : Nat} {v : V} : put [] x v = [(x, v)] := rfl
theorem r_putp {σ₀ σ : Hp} {i C a : Nat} {as as' : List (Nat × V)} {v : V} {Qh : Hp → Prop} (hi : σ[i]? = some (.inst C as)) (f : Kp i σ₀ σ) (ho : okA C a = true) (hl : as.length.ble 39 = true) (hp : put as a v = as')
    (k : ∀ σ', σ'[i]? = some (.inst C as') → Kp i σ₀ σ' → Qh σ') : setA σ (.obj i) a v Qh :=
  r_putk hi f ho hl fun σ' h1 f1 _ => k σ' (hp ▸ h1) f1
set_option maxHeartbeats 1000000 in
theorem c_elector {e c jt : Nat} {pv : Bool} (he : σ[e]? = some (.inst 606 [])) (hc : σ[c]? = some (.inst 319 (cfgR jt pv))) (hj : σ[jt]? = some (.tup [.int 0]))
    (k : ∀ σ' p ms d, p.e = e → p.jt = jt → p.pv = pv → EB p σ' 0 0 0 0 ms d → Kp e σ σ' → Q .none σ') : F_Elector_init [.obj e, .obj c] σ Q := by
  refine ⟨rfl, ?_⟩
  delta W_Elector_init
  have f : Kp e σ σ := .refl
  have hce : c ≠ e := tag_ne hc he (by walk_at "mt")
  have hje : jt ≠ e := tag_ne hj he (by walk_at "mt")
  repeat (first | walk_at "mst")
  refine c_check hc hj ?_
  have hh := he
  have kp := f
  repeat (first | walk_at "mst" | (with_reducible refine r_putp hh kp (by decide +kernel) (by with_unfolding_all rfl) (by repeat (first | exact put_hd | exact put_nil | apply put_tl (by with_unfolding_all rfl))) ?_; intro σ' hh1 kp1; clear hh kp; have hh := hh1; have kp := kp1; clear hh1 kp1; have hcc := kp.keep c _ hc hce) | (with_reducible refine r_newk hh kp (by with_unfolding_all rfl) ?_; intro σ' jj hh1 kp1 hjj ljj gg; clear gg hh kp; have hh := hh1; have kp := kp1; clear hh1 kp1; have hcc := kp.keep c _ hc hce))
  refine c_furnish hh (by with_unfolding_all rfl) fun σ2 b cc d h2 hb2 kp2 lb => ?_
  have K2 : Kp e σ σ2 := ⟨fun j o h hn => kp2.keep j o (kp.keep j o h hn) hn, Nat.le_trans kp.len kp2.len⟩
  have f2 : Kp e σ2 σ2 := .refl
  repeat (first | walk_at "mst")
  refine c_begin ?_
  repeat (first | walk_at "mst")
  simp only [put, Nat.reduceEqDiff, reduceIte] at h2
  obtain ⟨jl, la, h3⟩ : ∃ jl la, σ2[e]? = some (.inst 606 (elA c jt pv 0 0 0 0 jl 0 0 2 0 la b)) := ⟨_, _, h2⟩
  have E2 : EB ⟨e, b, cc, 0, 0, 0, 0, jt, la, pv, [], [], [], 0, 0⟩ σ2 0 0 0 0 jl d := ⟨⟨_, _, _, _, _, h3⟩, hb2, K2.keep _ _ hj hje⟩
  refine c_bf E2 fun σ3 d3 E3 f3 hd ld => ?_
  repeat (first | walk_at "mst")
  refine k _ _ _ _ rfl rfl rfl E3 ⟨fun j o h hn => f3.keep j o (K2.keep j o h hn) hn fun q => ?_, Nat.le_trans K2.len f3.len⟩
  have h1 := lt_of_get h
  have h2 := kp.len
  have h3 : j = b := q
  omega
end



section
variable {p : Par} {σ σ' σ₀ : Hp} {t v s l : Int} {ms d d' : Nat} {Q : V → Hp → Prop}
/-- a config with its lists -/
structure Cf (σ : Hp) (i : Nat) (A B C : List Int) (v o l n : Nat) : Prop where
  at' : σ[i]? = some (.inst 242 (cfgA v o l n))
  a : Li σ v A
  b : Li σ o B
  c : Li σ l C
  d : Li σ n []
theorem Li.ex {σ σ' : Hp} {i : Nat} {A : List Int} (h : Li σ i A) (e : Ex σ σ') : Li σ' i A := ⟨e.keep _ _ h.at', h.lt, h.so⟩
theorem Cf.ex {σ σ' : Hp} {i v o l n : Nat} {A B C : List Int} (h : Cf σ i A B C v o l n) (e : Ex σ σ') : Cf σ' i A B C v o l n := ⟨e.keep _ _ h.at', h.a.ex e, h.b.ex e, h.c.ex e, h.d.ex e⟩
theorem c_ccopy {i v o l n : Nat} {A B C : List Int} (h : Cf σ i A B C v o l n) (k : ∀ σ' j v o l n, Ex σ σ' → Cf σ' j A B C v o l n → (σ.length ≤ j ∧ σ.length ≤ v ∧ σ.length ≤ o ∧ σ.length ≤ l) → Q (.obj j) σ') : F_Config_copy [.obj i] σ Q := by
  refine ⟨rfl, ?_⟩
  delta W_Config_copy
  have hc := h.at'
  repeat (first | walk_at "mst")
  refine c_cfg g_last h.a.app h.b.app h.c.app h.d.app fun σ2 v' o' l' n' hi' a b c d kp hl => ⟨rfl, ?_⟩
  repeat (first | walk_at "mst")
  have e : (σ ++ [O.inst 242 []]).length = σ.length + 1 := by simp
  exact k _ _ _ _ _ _ (Ex.push.of kp (Nat.le_refl _)) ⟨hi', a, b, c, d⟩ ⟨Nat.le_refl _, by omega, by omega, by omega⟩
theorem c_stand {mi la : Nat} {cv co cl cn : Nat} {A B C : List Int} {t' v' li lt : Int} (h : EB p σ t v s l ms d) (hm : Cf σ mi A B C cv co cl cn) (hla : σ[la]? = some (.tup [.int li, .int lt]))
    (k : ∀ σ' c v o l' n, EB ⟨p.e, p.b, c, v, o, l', n, p.jt, la, p.pv, A, B, C, li, lt⟩ σ' t' v' s l ms d → Cf σ' c A B C v o l' n → (σ.length ≤ c ∧ σ.length ≤ v ∧ σ.length ≤ o ∧ σ.length ≤ l') → (∀ (j : Nat) (o : O), σ[j]? = some o → j ≠ p.e → j ≠ p.b → σ'[j]? = some o) → σ.length ≤ σ'.length → Q .none σ') :
    F_Elector_stand [.obj p.e, .int t', .int v', .obj mi, .obj la] σ Q := by
  refine ⟨rfl, ?_⟩
  delta W_Elector_stand
  have f : Fe p σ σ := .refl
  repeat (first | walk_at "mst" | walk_at "meb")
  rename_i σ1 h1 f1 g1 σ2 h2 f2 g2
  have he1 : ∀ {j : Nat} {o : O}, σ[j]? = some o → o.tag ≠ 616 → j ≠ p.e := fun hj ho => by obtain ⟨_, _, _, _, _, e⟩ := h.he; exact tag_ne hj e ho
  have K : ∀ {j : Nat} {o : O}, σ[j]? = some o → o.tag ≠ 616 → σ2[j]? = some o := fun hj ho => g2 _ _ (g1 _ _ hj (he1 hj ho)) (he1 hj ho)
  have hm2 : Cf σ2 mi A B C cv co cl cn := ⟨K hm.at' (by walk_at "mt"), ⟨K hm.a.at' (by walk_at "mt"), hm.a.lt, hm.a.so⟩, ⟨K hm.b.at' (by walk_at "mt"), hm.b.lt, hm.b.so⟩, ⟨K hm.c.at' (by walk_at "mt"), hm.c.lt, hm.c.so⟩, ⟨K hm.d.at' (by walk_at "mt"), hm.d.lt, hm.d.so⟩⟩
  have hmi := hm2.at'
  repeat (first | walk_at "mst" | walk_at "meb")
  refine c_ccopy hm2 fun σ3 c3 v3 o3 l3 n3 E3 cf3 hl3 => ?_
  have h3 : EB p σ3 t' v' s l ms d := h2.keep fun j o hj _ => E3.keep j o hj
  repeat (first | walk_at "mst" | walk_at "meb")
  have hb3 := h3.hb
  refine r_put hb3 (by decide +kernel) (Nat.lt_of_lt_of_le (Nat.lt_succ_self _) (Nat.le_of_ble_eq_true rfl)) ?_
  have hne : p.e ≠ p.b := h3.ne
  obtain ⟨cf, ee, hh, to, dr, hE⟩ := h3.he
  have gB : ∀ {j : Nat} {o q : O}, σ3[j]? = some o → o.tag ≠ 301 → (σ3.set p.b q)[j]? = some o := fun hj ho => g_ne hj (Ne.symm (tag_ne hj hb3 ho))
  have hE4 : (σ3.set p.b (.inst 291 (put (balA p.c d) 83 (.obj c3))))[p.e]? = _ := gB hE (by walk_at "mt")
  repeat (first | walk_at "mst")
  refine r_put hE4 (by decide +kernel) (Nat.lt_of_lt_of_le (Nat.lt_succ_self _) (Nat.le_of_ble_eq_true rfl)) ?_
  repeat (first | walk_at "mst")
  have gE : ∀ {j : Nat} {o q q' : O}, σ3[j]? = some o → o.tag ≠ 301 → o.tag ≠ 616 → ((σ3.set p.b q).set p.e q')[j]? = some o := fun hj ho ho' => g_ne (gB hj ho) (Ne.symm (tag_ne hj hE ho'))
  have L : ∀ {i : Nat} {D : List Int} {q q' : O}, Li σ3 i D → Li ((σ3.set p.b q).set p.e q') i D := fun h => ⟨gE h.at' (by walk_at "mt") (by walk_at "mt"), h.lt, h.so⟩
  have hlen : σ.length ≤ σ2.length := f2.len
  refine k _ c3 v3 o3 l3 n3 ⟨⟨cf, ee, hh, to, dr, ?_⟩, ?_, gE h3.hj (by walk_at "mt") (by walk_at "mt")⟩ ⟨gE cf3.at' (by walk_at "mt") (by walk_at "mt"), L cf3.a, L cf3.b, L cf3.c, L cf3.d⟩ ⟨by omega, by omega, by omega, by omega⟩ ?_ ?_
  · exact g_set hE4
  · exact g_ne (g_set hb3) hne
  · intro j o hj h1' h2'
    exact g_ne (g_ne (E3.keep _ _ (g2 _ _ (g1 _ _ hj h1') h1')) (Ne.symm h2')) (Ne.symm h1')
  · have := E3.len
    simp
    omega
end

-- the plain law: majorities
noncomputable def winF (f : Int → Bool) (A : List Int) : Bool := decide ((A.length : Int) < 2 * ((A.filter f).length : Int))
noncomputable def WF (H : List (List Int)) (f : Int → Bool) : Bool := H.all (winF f)
theorem winsB_eq (H : List (List Int)) (who : List Int) : winsB H who = WF H (fun j => who.any (· == j)) := rfl
theorem filter_le {f g : Int → Bool} : ∀ {A : List Int}, (∀ j ∈ A, f j = true → g j = true) → (A.filter f).length ≤ (A.filter g).length
  | [], _ => Nat.le_refl _
  | a :: A, h => by
    have ih := filter_le (A := A) fun j hj => h j (List.mem_cons_of_mem _ hj)
    have ha := h a List.mem_cons_self
    cases hf : f a <;> cases hg : g a <;> simp [List.filter_cons, hf, hg] <;> first | omega | (rw [hf, hg] at ha; exact absurd (ha rfl) (by decide))
structure Hvs (A B : List Int) (H : List (List Int)) : Prop where
  a : ∀ x ∈ A, 1 ≤ x ∧ x ≤ 4
  b : ∀ x ∈ B, 1 ≤ x ∧ x ≤ 4
  na : A ≠ []
  h : (B = [] ∧ H = [A]) ∨ (B ≠ [] ∧ H = [A, B])
section
variable {A B : List Int} {H : List (List Int)}
theorem Hvs.mem (hh : Hvs A B H) {C : List Int} (hC : C ∈ H) : C ≠ [] ∧ ∀ x ∈ C, 1 ≤ x ∧ x ≤ 4 := by
  rcases hh.h with ⟨_, rfl⟩ | ⟨hb, rfl⟩
  · rw [List.mem_singleton.mp hC]; exact ⟨hh.na, hh.a⟩
  · rcases List.mem_cons.mp hC with rfl | hC
    · exact ⟨hh.na, hh.a⟩
    · rw [List.mem_singleton.mp hC]; exact ⟨hb, hh.b⟩
theorem WF_mono (hh : Hvs A B H) {f g : Int → Bool} (h : ∀ j, 1 ≤ j ∧ j ≤ 4 → f j = true → g j = true) (w : WF H f = true) : WF H g = true := by
  unfold WF at w ⊢
  rw [List.all_eq_true] at w ⊢
  intro C hC
  have w := w C hC
  unfold winF at w ⊢
  rw [decide_eq_true_eq] at w ⊢
  have := filter_le (A := C) (f := f) (g := g) fun j hj => h j ((hh.mem hC).2 j hj)
  omega
theorem WF_congr (hh : Hvs A B H) {f g : Int → Bool} (h : ∀ j, 1 ≤ j ∧ j ≤ 4 → f j = g j) : WF H f = WF H g := by
  cases h1 : WF H f with
  | true => exact (WF_mono hh (fun j hj e => by rw [← h j hj]; exact e) h1).symm
  | false =>
    cases h2 : WF H g with
    | false => rfl
    | true => rw [WF_mono hh (fun j hj e => by rw [h j hj]; exact e) h2] at h1; cases h1
theorem WF_all (hh : Hvs A B H) {f : Int → Bool} (h : ∀ j, 1 ≤ j ∧ j ≤ 4 → f j = true) : WF H f = true := by
  unfold WF
  rw [List.all_eq_true]
  intro C hC
  unfold winF
  rw [decide_eq_true_eq, List.filter_eq_self.mpr fun j hj => h j ((hh.mem hC).2 j hj)]
  have := (hh.mem hC).1
  have : 0 < C.length := List.length_pos_iff.mpr this
  omega
noncomputable def vt (y n : Int → Bool) (j : Int) : Option Bool := if y j then some true else if n j then some false else Option.none
theorem cnt_f {w : Vt} {o : Option Bool} {f : Int → Bool} : ∀ {C : List Int}, (∀ j ∈ C, (look w j = o) ↔ f j = true) → cnt w o C = ((C.filter f).length : Int)
  | [], _ => rfl
  | a :: C, h => by
    have ih := cnt_f (C := C) fun j hj => h j (List.mem_cons_of_mem _ hj)
    have ha := h a List.mem_cons_self
    unfold cnt
    rw [ih]
    cases hf : f a with
    | true => rw [if_pos (ha.mpr hf), List.filter_cons_of_pos hf]; simp only [List.length_cons]; omega
    | false => rw [if_neg (fun e => by rw [ha.mp e] at hf; cases hf), List.filter_cons_of_neg (by rw [hf]; decide)]; omega
theorem filter_split {f g : Int → Bool} : ∀ {C : List Int}, (∀ j ∈ C, ¬(f j = true ∧ g j = true)) → (C.filter f).length + (C.filter g).length = (C.filter fun j => f j || g j).length
  | [], _ => rfl
  | a :: C, h => by
    have ih := filter_split (C := C) fun j hj => h j (List.mem_cons_of_mem _ hj)
    have ha := h a List.mem_cons_self
    cases hf : f a <;> cases hg : g a <;> simp [List.filter_cons, hf, hg] <;> first | omega | exact absurd ⟨hf, hg⟩ ha
theorem mv_eq {w : Vt} {y n : Int → Bool} {C : List Int} (hC : C ≠ []) (hw : ∀ j ∈ C, look w j = vt y n j) (hd : ∀ j, ¬(y j = true ∧ n j = true)) : mv C w = if winF y C then 3 else if winF (fun j => !n j) C then 1 else 2 := by
  have c1 : cnt w (some true) C = ((C.filter y).length : Int) := cnt_f fun j hj => by
    rw [hw j hj]; unfold vt
    cases y j <;> cases n j <;> simp
  have c2 : cnt w Option.none C = ((C.filter fun j => !y j && !n j).length : Int) := cnt_f fun j hj => by
    rw [hw j hj]; unfold vt
    cases y j <;> cases n j <;> simp
  have c3 : (C.filter y).length + (C.filter fun j => !y j && !n j).length = (C.filter fun j => !n j).length := by
    rw [filter_split fun j _ e => by have := e.2; rw [e.1] at this; simp at this]
    congr 1
    apply List.filter_congr
    intro j _
    have := hd j
    cases hy : y j <;> cases hn : n j <;> simp_all
  unfold mv
  rw [if_neg hC, c1, c2]
  have e : (C.length : Int).fdiv 2 = (C.length : Int) / 2 := Int.fdiv_eq_ediv_of_nonneg _ (by decide)
  rw [e]
  unfold winF
  simp only [decide_eq_true_eq]
  have hP : ((C.length : Int) / 2 + 1 ≤ ((C.filter y).length : Int)) ↔ ((C.length : Int) < 2 * ((C.filter y).length : Int)) := by omega
  have hR : ((C.length : Int) / 2 + 1 ≤ ((C.filter y).length : Int) + ((C.filter fun j => !y j && !n j).length : Int)) ↔ ((C.length : Int) < 2 * ((C.filter fun j => !n j).length : Int)) := by omega
  by_cases h1 : (C.length : Int) < 2 * ((C.filter y).length : Int)
  · rw [if_pos (hP.mpr h1), if_pos h1]
  · rw [if_neg (fun q => h1 (hP.mp q)), if_neg h1]
    by_cases h2 : (C.length : Int) < 2 * ((C.filter fun j => !n j).length : Int)
    · rw [if_pos (hR.mpr h2), if_pos h2]
    · rw [if_neg (fun q => h2 (hR.mp q)), if_neg h2]
theorem winF_mono {f g : Int → Bool} {C : List Int} (h : ∀ j ∈ C, f j = true → g j = true) (w : winF f C = true) : winF g C = true := by
  unfold winF at w ⊢
  rw [decide_eq_true_eq] at w ⊢
  have := filter_le h
  omega
/-- the joint vote, by who said yes and who said no -/
theorem jv_eq (hh : Hvs A B H) {w : Vt} {y n : Int → Bool} (hw : ∀ j, 1 ≤ j ∧ j ≤ 4 → look w j = vt y n j) (hd : ∀ j, ¬(y j = true ∧ n j = true)) : jv A B w = if WF H y then 3 else if WF H (fun j => !n j) then 1 else 2 := by
  have mono : ∀ C : List Int, winF y C = true → winF (fun j => !n j) C = true := fun C => winF_mono fun j _ hy => by have := hd j; cases hn : n j <;> simp_all
  have ma := mv_eq hh.na (fun j hj => hw j (hh.a j hj)) hd
  rcases hh.h with ⟨rfl, rfl⟩ | ⟨hb, rfl⟩
  · have mb : mv [] w = 3 := rfl
    unfold jv WF
    simp only [List.all_cons, List.all_nil, Bool.and_true]
    rw [ma, mb]
    cases winF y A <;> cases winF (fun j => !n j) A <;> simp
  · have mb := mv_eq hb (fun j hj => hw j (hh.b j hj)) hd
    unfold jv WF
    simp only [List.all_cons, List.all_nil, Bool.and_true]
    rw [ma, mb]
    have hA := mono A
    have hB := mono B
    revert hA hB
    cases winF y A <;> cases winF (fun j => !n j) A <;> cases winF y B <;> cases winF (fun j => !n j) B <;> simp
end

-- the plain law: one word after the other
noncomputable def Lk (w : Vt) (y n : Int → Bool) : Prop := ∀ j, 1 ≤ j ∧ j ≤ 4 → look w j = vt y n j
noncomputable def ins (f : Int → Bool) (j : Int) : Int → Bool := fun i => f i || i == j
theorem look_app : ∀ {w : Vt} {j i : Int} {b : Bool}, look (w ++ [(j, b)]) i = match look w i with | some c => some c | Option.none => if j = i then some b else Option.none
  | [], j, i, b => rfl
  | a :: w, j, i, b => by
    show look (a :: (w ++ [(j, b)])) i = _
    unfold look
    by_cases h : a.1 = i
    · rw [if_pos h, if_pos h]
    · rw [if_neg h, if_neg h]; exact look_app
theorem vt_none {y n : Int → Bool} {j : Int} (hy : y j = false) (hn : n j = false) : vt y n j = Option.none := by unfold vt; rw [hy, hn]; rfl
theorem Lk_yes {w : Vt} {y n : Int → Bool} {j : Int} (h : Lk w y n) (hj : 1 ≤ j ∧ j ≤ 4) (hy : y j = false) (hn : n j = false) : Lk (recV w j true) (ins y j) n := by
  intro i hi
  have e := h j hj
  rw [vt_none hy hn] at e
  unfold recV
  rw [e, if_neg (by decide), look_app, h i hi]
  unfold vt ins
  by_cases hij : j = i
  · subst hij
    rw [hy, hn]; simp
  · have : (i == j) = false := by simp; omega
    rw [this, Bool.or_false]
    cases y i <;> cases n i <;> simp [hij]
theorem Lk_no {w : Vt} {y n : Int → Bool} {j : Int} (h : Lk w y n) (hj : 1 ≤ j ∧ j ≤ 4) (hy : y j = false) (hn : n j = false) : Lk (recV w j false) y (ins n j) := by
  intro i hi
  have e := h j hj
  rw [vt_none hy hn] at e
  unfold recV
  rw [e, if_neg (by decide), look_app, h i hi]
  unfold vt ins
  by_cases hij : j = i
  · subst hij
    rw [hy, hn]; simp
  · have : (i == j) = false := by simp; omega
    rw [this, Bool.or_false]
    cases y i <;> cases n i <;> simp [hij]
theorem Lk_again {w : Vt} {y n : Int → Bool} {j : Int} {b : Bool} (h : Lk w y n) (hj : 1 ≤ j ∧ j ≤ 4) (hy : y j = true) : recV w j b = w := by
  have e := h j hj
  unfold vt at e
  rw [hy, if_pos rfl] at e
  unfold recV
  rw [e]; rfl
section
variable {p : Par} {x : Es} {m : Msg}
theorem stepE_low (h : m.term < x.t) : stepE p x m = x := by
  unfold stepE
  by_cases h0 : m.term = 0
  · rw [if_pos h0]
  · rw [if_neg h0, if_neg (by omega), if_pos h]
theorem stepE_eq (h : m.term = x.t) (h0 : 0 < x.t) : stepE p x m = stepC p x m := by
  unfold stepE
  rw [if_neg (by omega), if_neg (by omega), if_neg (by omega)]
theorem stepE_hi (h : x.t < m.term) (h0 : 0 < m.term) (hr : m.rej = true) : stepE p x m = ⟨m.term, 0, 0, 0, x.ms, []⟩ := by
  unfold stepE
  rw [if_neg (by omega), if_pos h, if_neg (fun e => by rw [hr] at e; exact absurd e.2 (by decide))]
theorem stepE_hip (h : x.t < m.term) (h0 : 0 < m.term) (hk : m.kind = 18) (hr : m.rej = false) : stepE p x m = stepC p x m := by
  unfold stepE
  rw [if_neg (by omega), if_pos h, if_pos ⟨hk, hr⟩]
theorem stepC_id (h : (x.s = 3 → m.kind ≠ 18) ∧ (x.s = 1 → m.kind ≠ 6)) : stepC p x m = x := by
  unfold stepC
  rw [if_neg (fun e => h.1 e.1 e.2), if_neg (fun e => h.2 e.1 e.2)]
theorem stepC_20 (h : x.s = 2 ∨ x.s = 0) : stepC p x m = x := stepC_id ⟨fun e => by omega, fun e => by omega⟩
theorem stepC_16 (h : x.s = 1) (h2 : m.kind = 18) : stepC p x m = x := stepC_id ⟨fun e => by omega, fun e => by omega⟩
theorem stepC_36 (h : x.s = 3) (h2 : m.kind = 6) : stepC p x m = x := stepC_id ⟨fun e => by omega, fun e => by omega⟩
theorem stepC_poll (h : (x.s = 3 ∧ m.kind = 18) ∨ (x.s = 1 ∧ m.kind = 6)) : stepC p x m = pollE p x m := by
  unfold stepC
  by_cases h1 : x.s = 3 ∧ m.kind = 18
  · rw [if_pos h1]
  · rw [if_neg h1, if_pos (h.resolve_left h1)]
end
noncomputable def mx : Option Int → Int → Int
  | Option.none, a => a
  | some b, a => max b a
noncomputable def isY (w : Int) : Bool := w == 0 || w == 2 || w == 3
/-- the state behind some words, in an election for votes -/
noncomputable def stN (H : List (List Int)) (t : Int) (ms : List Msg) (y n : Int → Bool) : Option Int → Es → Prop
  | some M, x => t + 2 ≤ M ∧ x = ⟨M, 0, 0, 0, ms, []⟩
  | Option.none, x => (WF H y = true ∧ x = ⟨t + 1, 1, 2, 1, ms, []⟩) ∨ (WF H y = false ∧ WF H (fun j => !n j) = true ∧ ∃ w, x = ⟨t + 1, 1, 1, 0, ms, w⟩ ∧ Lk w y n) ∨ (WF H y = false ∧ WF H (fun j => !n j) = false ∧ x = ⟨t + 1, 1, 0, 0, ms, []⟩)
section
variable {p : Par} {x : Es} {H : List (List Int)} {t j M : Int} {ms : List Msg} {y n : Int → Bool} {hm : Option Int} {b : Bool}
theorem dis_yes {y n : Int → Bool} {j : Int} (hd : ∀ i, ¬(y i = true ∧ n i = true)) (hn : n j = false) : ∀ i, ¬(ins y j i = true ∧ n i = true) := fun i e => by
  unfold ins at e
  rcases (Bool.or_eq_true _ _).mp e.1 with q | q
  · exact hd i ⟨q, e.2⟩
  · rw [eq_of_beq q, hn] at e; exact absurd e.2 (by decide)
theorem dis_no {y n : Int → Bool} {j : Int} (hd : ∀ i, ¬(y i = true ∧ n i = true)) (hy : y j = false) : ∀ i, ¬(y i = true ∧ ins n j i = true) := fun i e => by
  unfold ins at e
  rcases (Bool.or_eq_true _ _).mp e.2 with q | q
  · exact hd i ⟨e.1, q⟩
  · rw [eq_of_beq q, hy] at e; exact absurd e.1 (by decide)
theorem WF_yn (hh : Hvs p.come p.goes H) (hd : ∀ i, ¬(y i = true ∧ n i = true)) (h : WF H (fun j => !n j) = false) : WF H y = false := by
  cases hy : WF H y with
  | false => rfl
  | true => rw [WF_mono hh (f := y) (g := fun j => !n j) (fun j _ e => by have := hd j; cases hn : n j <;> simp_all) hy] at h; cases h
theorem WF_ins (hh : Hvs p.come p.goes H) (h : WF H y = true) : WF H (ins y j) = true := WF_mono hh (fun i _ e => by unfold ins; rw [e]; rfl) h
theorem WF_insn (hh : Hvs p.come p.goes H) (h : WF H (fun i => !n i) = false) : WF H (fun i => !ins n j i) = false := by
  cases hy : WF H (fun i => !ins n j i) with
  | false => rfl
  | true => rw [WF_mono hh (f := fun i => !ins n j i) (g := fun i => !n i) (fun i _ e => by unfold ins at e; cases hn : n i <;> simp_all) hy] at h; cases h
theorem N_hi (h : stN H t ms y n hm x) (ht : 0 < t) (hM : t + 2 ≤ M) : stN H t ms y n (some (mx hm M)) (stepE p x ⟨6, 1, j, M, 0, 0, true, false⟩) := by
  cases hm with
  | some M0 =>
    obtain ⟨h1, rfl⟩ := h
    rw [show mx (some M0) M = max M0 M from rfl]
    by_cases c : M0 < M
    · rw [stepE_hi c (by show 0 < M; omega) rfl]
      exact ⟨by omega, by rw [Int.max_eq_right (by omega)]⟩
    · by_cases c2 : M < M0
      · rw [stepE_low c2]
        exact ⟨by omega, by rw [Int.max_eq_left (by omega)]⟩
      · rw [stepE_eq (by show M = M0; omega) (by show 0 < M0; omega), stepC_20 (by first | exact .inl rfl | exact .inr rfl)]
        exact ⟨by omega, by rw [Int.max_eq_left (by omega)]⟩
  | none =>
    have : x.t = t + 1 ∧ x.ms = ms := by
      rcases h with ⟨_, rfl⟩ | ⟨_, _, w, rfl, _⟩ | ⟨_, _, rfl⟩ <;> exact ⟨rfl, rfl⟩
    rw [stepE_hi (by show x.t < M; omega) (by show 0 < M; omega) rfl, this.2]
    exact ⟨hM, rfl⟩
theorem N_low (h : stN H t ms y n hm x) {r : Bool} {k : Int} : stepE p x ⟨k, 1, j, t, 0, 0, r, false⟩ = x := by
  apply stepE_low
  cases hm with
  | some M0 => obtain ⟨h1, rfl⟩ := h; show t < M0; omega
  | none => rcases h with ⟨_, rfl⟩ | ⟨_, _, w, rfl, _⟩ | ⟨_, _, rfl⟩ <;> (show t < t + 1; omega)
theorem N_other (h : stN H t ms y n hm x) (ht : 0 < t) {r : Bool} : stepE p x ⟨18, 1, j, t + 1, 0, 0, r, false⟩ = x := by
  cases hm with
  | some M0 => obtain ⟨h1, rfl⟩ := h; exact stepE_low (by show t + 1 < M0; omega)
  | none =>
    rcases h with ⟨_, rfl⟩ | ⟨_, _, w, rfl, _⟩ | ⟨_, _, rfl⟩
    · rw [stepE_eq rfl (by show 0 < t + 1; omega), stepC_20 (by first | exact .inl rfl | exact .inr rfl)]
    · rw [stepE_eq rfl (by show 0 < t + 1; omega), stepC_16 rfl rfl]
    · rw [stepE_eq rfl (by show 0 < t + 1; omega), stepC_20 (by first | exact .inl rfl | exact .inr rfl)]
theorem N_again (hh : Hvs p.come p.goes H) (h : stN H t ms y n hm x) (ht : 0 < t) (hd : ∀ i, ¬(y i = true ∧ n i = true)) (hj : 1 ≤ j ∧ j ≤ 4) (hy : y j = true) {r : Bool} : stepE p x ⟨6, 1, j, t + 1, 0, 0, r, false⟩ = x := by
  cases hm with
  | some M0 => obtain ⟨h1, rfl⟩ := h; exact stepE_low (by show t + 1 < M0; omega)
  | none =>
    rcases h with ⟨_, rfl⟩ | ⟨h1, h2, w, rfl, hw⟩ | ⟨_, _, rfl⟩
    · rw [stepE_eq rfl (by show 0 < t + 1; omega), stepC_20 (by first | exact .inl rfl | exact .inr rfl)]
    · rw [stepE_eq rfl (by show 0 < t + 1; omega), stepC_poll (.inr ⟨rfl, rfl⟩)]
      unfold pollE qw
      have e : recV w j (!r) = w := Lk_again hw hj hy
      simp only [e]
      rw [jv_eq hh hw hd, h1, h2]
      rfl
    · rw [stepE_eq rfl (by show 0 < t + 1; omega), stepC_20 (by first | exact .inl rfl | exact .inr rfl)]
theorem N_yes (hh : Hvs p.come p.goes H) (h : stN H t ms y n hm x) (ht : 0 < t) (hd : ∀ i, ¬(y i = true ∧ n i = true)) (hj : 1 ≤ j ∧ j ≤ 4) (hy : y j = false) (hn : n j = false) : stN H t ms (ins y j) n hm (stepE p x ⟨6, 1, j, t + 1, 0, 0, false, false⟩) := by
  have hd' := dis_yes hd hn
  cases hm with
  | some M0 =>
    obtain ⟨h1, rfl⟩ := h
    rw [stepE_low (by show t + 1 < M0; omega)]
    exact ⟨h1, rfl⟩
  | none =>
    rcases h with ⟨h1, rfl⟩ | ⟨h1, h2, w, rfl, hw⟩ | ⟨h1, h2, rfl⟩
    · rw [stepE_eq rfl (by show 0 < t + 1; omega), stepC_20 (by first | exact .inl rfl | exact .inr rfl)]
      exact .inl ⟨WF_ins hh h1, rfl⟩
    · rw [stepE_eq rfl (by show 0 < t + 1; omega), stepC_poll (.inr ⟨rfl, rfl⟩)]
      unfold pollE qw
      have hw' := Lk_yes hw hj hy hn
      simp only [Bool.not_false]
      rw [jv_eq hh hw' hd']
      cases c1 : WF H (ins y j) with
      | true => exact .inl ⟨c1, rfl⟩
      | false =>
        rw [h2]
        exact .inr (.inl ⟨c1, h2, _, rfl, hw'⟩)
    · rw [stepE_eq rfl (by show 0 < t + 1; omega), stepC_20 (by first | exact .inl rfl | exact .inr rfl)]
      exact .inr (.inr ⟨WF_yn hh hd' h2, h2, rfl⟩)
theorem N_no (hh : Hvs p.come p.goes H) (h : stN H t ms y n hm x) (ht : 0 < t) (hd : ∀ i, ¬(y i = true ∧ n i = true)) (hj : 1 ≤ j ∧ j ≤ 4) (hy : y j = false) (hn : n j = false) : stN H t ms y (ins n j) hm (stepE p x ⟨6, 1, j, t + 1, 0, 0, true, false⟩) := by
  have hd' := dis_no hd hy
  cases hm with
  | some M0 =>
    obtain ⟨h1, rfl⟩ := h
    rw [stepE_low (by show t + 1 < M0; omega)]
    exact ⟨h1, rfl⟩
  | none =>
    rcases h with ⟨h1, rfl⟩ | ⟨h1, h2, w, rfl, hw⟩ | ⟨h1, h2, rfl⟩
    · rw [stepE_eq rfl (by show 0 < t + 1; omega), stepC_20 (by first | exact .inl rfl | exact .inr rfl)]
      exact .inl ⟨h1, rfl⟩
    · rw [stepE_eq rfl (by show 0 < t + 1; omega), stepC_poll (.inr ⟨rfl, rfl⟩)]
      unfold pollE qw
      have hw' := Lk_no hw hj hy hn
      simp only [Bool.not_true]
      rw [jv_eq hh hw' hd', h1]
      cases c1 : WF H (fun i => !ins n j i) with
      | true => exact .inr (.inl ⟨h1, c1, _, rfl, hw'⟩)
      | false => exact .inr (.inr ⟨h1, c1, rfl⟩)
    · rw [stepE_eq rfl (by show 0 < t + 1; omega), stepC_20 (by first | exact .inl rfl | exact .inr rfl)]
      exact .inr (.inr ⟨h1, WF_insn hh h2, rfl⟩)
/-- one turn: all the words of a member -/
theorem N_turn (hh : Hvs p.come p.goes H) (h : stN H t ms y n hm x) (ht : 0 < t) (hd : ∀ i, ¬(y i = true ∧ n i = true)) (hj : 1 ≤ j ∧ j ≤ 4) (hy : y j = false) (hn : n j = false) {way far : Int} (hw : 0 ≤ way ∧ way ≤ 6) (hf : 0 ≤ far) :
    stN H t ms (if isY way then ins y j else y) (if way = 1 then ins n j else n) (if way = 5 then some (mx hm (t + 2 + far)) else hm) ((wordM way far false j t).foldl (stepE p) x) := by
  have hins : ins y j j = true := by unfold ins; simp
  have hd' := dis_yes (j := j) hd hn
  have : way = 0 ∨ way = 1 ∨ way = 2 ∨ way = 3 ∨ way = 4 ∨ way = 5 ∨ way = 6 := by omega
  rcases this with rfl | rfl | rfl | rfl | rfl | rfl | rfl
  · exact N_yes hh h ht hd hj hy hn
  · exact N_no hh h ht hd hj hy hn
  · have h1 := N_yes hh h ht hd hj hy hn
    show stN H t ms (ins y j) n hm (stepE p (stepE p x _) _)
    have e := N_again hh h1 ht hd' hj hins (r := false)
    simp only [if_neg (show ¬(false = true) by decide)]
    rw [e]; exact h1
  · have h1 := N_yes hh h ht hd hj hy hn
    show stN H t ms (ins y j) n hm (stepE p (stepE p x _) _)
    have e := N_again hh h1 ht hd' hj hins (r := true)
    simp only [if_neg (show ¬(false = true) by decide)]
    rw [e]; exact h1
  · have e := N_low (p := p) (j := j) h (r := decide (far.fmod 2 = 1)) (k := 6)
    show stN H t ms y n hm (stepE p x ⟨6, 1, j, t + 1 - 1, 0, 0, _, false⟩)
    rw [show t + 1 - 1 = t by omega, e]; exact h
  · exact N_hi h ht (by omega)
  · show stN H t ms y n hm (stepE p x _)
    have e := N_other (p := p) (j := j) h ht (r := false)
    simp only [if_neg (show ¬(false = true) by decide)]
    rw [e]; exact h
end

-- the plain law: pre-votes first
structure Xw (p : Par) (H : List (List Int)) (t : Int) (m1 m2 : List Msg) (x : Es) : Prop where
  et : x.t = t + 1
  ems : x.ms = m1 ++ m2
  es : x.s = 1 ∨ x.s = 2
  c : WF H (fun j => j == 1) = false → x = ⟨t + 1, 1, 1, 0, m1 ++ asks p 5 (t + 1) false, w1⟩
noncomputable def stP (H : List (List Int)) (t v : Int) (m1 m2 : List Msg) (xw : Es) (ey y n : Int → Bool) : Option Int → Es → Prop
  | some M, x => t + 2 ≤ M ∧ x = ⟨M, 0, 0, 0, if WF H ey then m1 ++ m2 else m1, []⟩
  | Option.none, x => ey = y ∧ ((WF H y = true ∧ x = xw) ∨ (WF H y = false ∧ WF H (fun j => !n j) = true ∧ ∃ w, x = ⟨t, v, 3, 0, m1, w⟩ ∧ Lk w y n) ∨ (WF H y = false ∧ WF H (fun j => !n j) = false ∧ x = ⟨t, v, 0, 0, m1, []⟩))
section
variable {p : Par} {x xw : Es} {H : List (List Int)} {t v j M : Int} {m1 m2 : List Msg} {ey y n : Int → Bool} {hm : Option Int} {b : Bool}
theorem P_hi (X : Xw p H t m1 m2 xw) (h : stP H t v m1 m2 xw ey y n hm x) (ht : 0 < t) (hM : t + 2 ≤ M) : stP H t v m1 m2 xw ey y n (some (mx hm M)) (stepE p x ⟨18, 1, j, M, 0, 0, true, false⟩) := by
  cases hm with
  | some M0 =>
    obtain ⟨h1, rfl⟩ := h
    rw [show mx (some M0) M = max M0 M from rfl]
    by_cases c : M0 < M
    · rw [stepE_hi c (by show 0 < M; omega) rfl]
      exact ⟨by omega, by rw [Int.max_eq_right (by omega)]⟩
    · by_cases c2 : M < M0
      · rw [stepE_low c2]
        exact ⟨by omega, by rw [Int.max_eq_left (by omega)]⟩
      · rw [stepE_eq (by show M = M0; omega) (by show 0 < M0; omega), stepC_20 (.inr rfl)]
        exact ⟨by omega, by rw [Int.max_eq_left (by omega)]⟩
  | none =>
    obtain ⟨rfl, h⟩ := h
    have : x.t ≤ t + 1 ∧ x.ms = if WF H ey then m1 ++ m2 else m1 := by
      rcases h with ⟨c, rfl⟩ | ⟨c, _, w, rfl, _⟩ | ⟨c, _, rfl⟩
      · rw [c, if_pos rfl]; exact ⟨by rw [X.et]; omega, X.ems⟩
      · rw [c]; exact ⟨by show t ≤ t + 1; omega, rfl⟩
      · rw [c]; exact ⟨by show t ≤ t + 1; omega, rfl⟩
    rw [stepE_hi (by show x.t < M; omega) (by show 0 < M; omega) rfl, this.2]
    exact ⟨hM, rfl⟩
/-- an elder answer -/
theorem P_old (X : Xw p H t m1 m2 xw) (h : stP H t v m1 m2 xw ey y n hm x) {r : Bool} {k : Int} : stepE p x ⟨k, 1, j, t - 1, 0, 0, r, false⟩ = x := by
  apply stepE_low
  show t - 1 < x.t
  cases hm with
  | some M0 => obtain ⟨h1, rfl⟩ := h; show t - 1 < M0; omega
  | none => rcases h with ⟨_, ⟨_, rfl⟩ | ⟨_, _, w, rfl, _⟩ | ⟨_, _, rfl⟩⟩ <;> first | (rw [X.et]; omega) | (show t - 1 < t; omega)
theorem P_other (X : Xw p H t m1 m2 xw) (h : stP H t v m1 m2 xw ey y n hm x) (ht : 0 < t) {r : Bool} : stepE p x ⟨6, 1, j, t, 0, 0, r, false⟩ = x := by
  cases hm with
  | some M0 => obtain ⟨h1, rfl⟩ := h; exact stepE_low (by show t < M0; omega)
  | none =>
    rcases h with ⟨_, ⟨_, rfl⟩ | ⟨_, _, w, rfl, _⟩ | ⟨_, _, rfl⟩⟩
    · exact stepE_low (by rw [X.et]; show t < t + 1; omega)
    · rw [stepE_eq rfl ht, stepC_36 rfl rfl]
    · rw [stepE_eq rfl ht, stepC_20 (.inr rfl)]
/-- a yes or a no of a member that has said yes -/
theorem P_againY (hh : Hvs p.come p.goes H) (X : Xw p H t m1 m2 xw) (h : stP H t v m1 m2 xw ey y n hm x) (ht : 0 < t) (hd : ∀ i, ¬(y i = true ∧ n i = true)) (hj : 1 ≤ j ∧ j ≤ 4) (hy : y j = true) : stepE p x ⟨18, 1, j, t + 1, 0, 0, false, false⟩ = x := by
  cases hm with
  | some M0 => obtain ⟨h1, rfl⟩ := h; exact stepE_low (by show t + 1 < M0; omega)
  | none =>
    rcases h with ⟨_, ⟨_, rfl⟩ | ⟨h1, h2, w, rfl, hw⟩ | ⟨_, _, rfl⟩⟩
    · rw [stepE_eq X.et.symm (by rw [X.et]; omega)]
      rcases X.es with s | s
      · exact stepC_16 s rfl
      · exact stepC_20 (.inl s)
    · rw [stepE_hip (by show t < t + 1; omega) (by show 0 < t + 1; omega) rfl rfl, stepC_poll (.inl ⟨rfl, rfl⟩)]
      unfold pollE qw
      have e : recV w j (!false) = w := Lk_again hw hj hy
      simp only [e]
      rw [jv_eq hh hw hd, h1, h2]
      rfl
    · rw [stepE_hip (by show t < t + 1; omega) (by show 0 < t + 1; omega) rfl rfl, stepC_20 (.inr rfl)]
theorem P_againN (hh : Hvs p.come p.goes H) (X : Xw p H t m1 m2 xw) (h : stP H t v m1 m2 xw ey y n hm x) (ht : 0 < t) (hd : ∀ i, ¬(y i = true ∧ n i = true)) (hj : 1 ≤ j ∧ j ≤ 4) (hy : y j = true) : stepE p x ⟨18, 1, j, t, 0, 0, true, false⟩ = x := by
  cases hm with
  | some M0 => obtain ⟨h1, rfl⟩ := h; exact stepE_low (by show t < M0; omega)
  | none =>
    rcases h with ⟨_, ⟨_, rfl⟩ | ⟨h1, h2, w, rfl, hw⟩ | ⟨_, _, rfl⟩⟩
    · exact stepE_low (by rw [X.et]; show t < t + 1; omega)
    · rw [stepE_eq rfl ht, stepC_poll (.inl ⟨rfl, rfl⟩)]
      unfold pollE qw
      have e : recV w j (!true) = w := Lk_again hw hj hy
      simp only [e]
      rw [jv_eq hh hw hd, h1, h2]
      rfl
    · rw [stepE_eq rfl ht, stepC_20 (.inr rfl)]
theorem look_w1 (j : Int) : look w1 j = vt (fun j => j == 1) (fun _ => false) j := by
  show (if (1 : Int) = j then some true else Option.none) = if (j == 1) = true then some true else if false = true then some false else Option.none
  by_cases h : (1 : Int) = j
  · rw [if_pos h, if_pos (by simp; omega)]
  · rw [if_neg h, if_neg (by simp; omega), if_neg (by decide)]
theorem qw_w1 (hh : Hvs p.come p.goes H) : qw p w1 = if WF H (fun j => j == 1) then 3 else 1 := by
  unfold qw
  rw [jv_eq hh (fun j _ => look_w1 j) (fun j e => absurd e.2 (by decide)), WF_all (f := fun j => !(fun _ => false) j) hh (fun _ _ => rfl)]
  rfl
theorem P_yes (hh : Hvs p.come p.goes H) (X : Xw p H t m1 m2 xw) (h : stP H t v m1 m2 xw ey y n hm x) (ht : 0 < t) (h1y : y 1 = true) (hd : ∀ i, ¬(y i = true ∧ n i = true)) (hj : 1 ≤ j ∧ j ≤ 4) (hy : y j = false) (hn : n j = false) :
    stP H t v m1 m2 xw (if hm = Option.none then ins y j else ey) (ins y j) n hm (stepE p x ⟨18, 1, j, t + 1, 0, 0, false, false⟩) := by
  have hd' := dis_yes hd hn
  cases hm with
  | some M0 =>
    obtain ⟨h1, rfl⟩ := h
    rw [stepE_low (by show t + 1 < M0; omega)]
    exact ⟨h1, rfl⟩
  | none =>
    rw [if_pos rfl]
    rcases h with ⟨rfl, ⟨h1, rfl⟩ | ⟨h1, h2, w, rfl, hw⟩ | ⟨h1, h2, rfl⟩⟩
    · refine ⟨rfl, .inl ⟨WF_ins hh h1, ?_⟩⟩
      rw [stepE_eq X.et.symm (by rw [X.et]; omega)]
      rcases X.es with s | s
      · exact stepC_16 s rfl
      · exact stepC_20 (.inl s)
    · refine ⟨rfl, ?_⟩
      rw [stepE_hip (by show t < t + 1; omega) (by show 0 < t + 1; omega) rfl rfl, stepC_poll (.inl ⟨rfl, rfl⟩)]
      have hw' := Lk_yes hw hj hy hn
      have hq : qw p (recV w j true) = _ := jv_eq hh hw' hd'
      unfold pollE
      simp only [Bool.not_false]
      rw [hq]
      cases c1 : WF H (ins ey j) with
      | true =>
        refine .inl ⟨rfl, ?_⟩
        have c0 : WF H (fun j => j == 1) = false := by
          cases c : WF H (fun j => j == 1) with
          | false => rfl
          | true => rw [WF_mono hh (f := fun j => j == 1) (g := ey) (fun i _ e => by rw [eq_of_beq e]; exact h1y) c] at h1; cases h1
        rw [X.c c0, if_pos rfl, if_pos rfl]
        unfold wonE
        rw [if_pos rfl]
        unfold campV
        rw [qw_w1 hh, c0]
        rfl
      | false =>
        rw [h2]
        exact .inr (.inl ⟨rfl, rfl, _, rfl, hw'⟩)
    · refine ⟨rfl, .inr (.inr ⟨WF_yn hh hd' h2, h2, ?_⟩)⟩
      rw [stepE_hip (by show t < t + 1; omega) (by show 0 < t + 1; omega) rfl rfl, stepC_20 (.inr rfl)]
theorem P_no (hh : Hvs p.come p.goes H) (X : Xw p H t m1 m2 xw) (h : stP H t v m1 m2 xw ey y n hm x) (ht : 0 < t) (hd : ∀ i, ¬(y i = true ∧ n i = true)) (hj : 1 ≤ j ∧ j ≤ 4) (hy : y j = false) (hn : n j = false) :
    stP H t v m1 m2 xw ey y (ins n j) hm (stepE p x ⟨18, 1, j, t, 0, 0, true, false⟩) := by
  have hd' := dis_no hd hy
  cases hm with
  | some M0 =>
    obtain ⟨h1, rfl⟩ := h
    rw [stepE_low (by show t < M0; omega)]
    exact ⟨h1, rfl⟩
  | none =>
    rcases h with ⟨rfl, ⟨h1, rfl⟩ | ⟨h1, h2, w, rfl, hw⟩ | ⟨h1, h2, rfl⟩⟩
    · exact ⟨rfl, .inl ⟨h1, stepE_low (by rw [X.et]; show t < t + 1; omega)⟩⟩
    · refine ⟨rfl, ?_⟩
      rw [stepE_eq rfl ht, stepC_poll (.inl ⟨rfl, rfl⟩)]
      have hw' := Lk_no hw hj hy hn
      have hq : qw p (recV w j false) = _ := jv_eq hh hw' hd'
      unfold pollE
      simp only [Bool.not_true]
      rw [hq, h1]
      cases c1 : WF H (fun i => !ins n j i) with
      | true => exact .inr (.inl ⟨rfl, rfl, _, rfl, hw'⟩)
      | false => exact .inr (.inr ⟨rfl, rfl, rfl⟩)
    · refine ⟨rfl, .inr (.inr ⟨h1, WF_insn hh h2, ?_⟩)⟩
      rw [stepE_eq rfl ht, stepC_20 (.inr rfl)]
theorem P_turn (hh : Hvs p.come p.goes H) (X : Xw p H t m1 m2 xw) (h : stP H t v m1 m2 xw ey y n hm x) (ht : 0 < t) (h1y : y 1 = true) (hd : ∀ i, ¬(y i = true ∧ n i = true)) (hj : 1 ≤ j ∧ j ≤ 4) (hy : y j = false) (hn : n j = false) {way far : Int} (hw : 0 ≤ way ∧ way ≤ 6) (hf : 0 ≤ far) :
    stP H t v m1 m2 xw (if isY way = true ∧ hm = Option.none then ins y j else ey) (if isY way then ins y j else y) (if way = 1 then ins n j else n) (if way = 5 then some (mx hm (t + 2 + far)) else hm) ((wordM way far true j t).foldl (stepE p) x) := by
  have hins : ins y j j = true := by unfold ins; simp
  have hd' := dis_yes (j := j) hd hn
  have eY : ∀ w, isY w = true → (if isY w = true ∧ hm = Option.none then ins y j else ey) = (if hm = Option.none then ins y j else ey) := fun w hw => by
    by_cases c : hm = Option.none
    · rw [if_pos ⟨hw, c⟩, if_pos c]
    · rw [if_neg (fun e => c e.2), if_neg c]
  have eN : ∀ w, isY w = false → (if isY w = true ∧ hm = Option.none then ins y j else ey) = ey := fun w hw => if_neg fun e => by rw [hw] at e; exact absurd e.1 (by decide)
  have : way = 0 ∨ way = 1 ∨ way = 2 ∨ way = 3 ∨ way = 4 ∨ way = 5 ∨ way = 6 := by omega
  rcases this with rfl | rfl | rfl | rfl | rfl | rfl | rfl
  · rw [eY 0 rfl]; exact P_yes hh X h ht h1y hd hj hy hn
  · rw [eN 1 rfl]; exact P_no hh X h ht hd hj hy hn
  · rw [eY 2 rfl]
    have h1 := P_yes hh X h ht h1y hd hj hy hn
    show stP H t v m1 m2 xw _ (ins y j) n hm (stepE p (stepE p x _) _)
    have e := P_againY hh X h1 ht hd' hj hins
    simp only [if_pos]
    rw [e]; exact h1
  · rw [eY 3 rfl]
    have h1 := P_yes hh X h ht h1y hd hj hy hn
    show stP H t v m1 m2 xw _ (ins y j) n hm (stepE p (stepE p x _) _)
    have e := P_againN hh X h1 ht hd' hj hins
    simp only [if_pos]
    rw [e]; exact h1
  · rw [eN 4 rfl]
    have e := P_old (p := p) (j := j) X h (r := decide (far.fmod 2 = 1)) (k := 18)
    show stP H t v m1 m2 xw ey y n hm (stepE p x ⟨18, 1, j, t - 1, 0, 0, _, false⟩)
    rw [e]; exact h
  · rw [eN 5 rfl]; exact P_hi X h ht (by omega)
  · rw [eN 6 rfl]
    show stP H t v m1 m2 xw ey y n hm (stepE p x _)
    have e := P_other (p := p) (j := j) X h ht (r := false)
    simp only [if_pos]
    rw [e]; exact h
end

-- the plain law: all the words, in any order
noncomputable def yesL (wy : Int → Int) : List Int := 1 :: [2, 3, 4].filter fun j => isY (wy j)
noncomputable def noL (wy : Int → Int) : List Int := [2, 3, 4].filter fun j => wy j == 1
noncomputable def higherL (t : Int) (wy fr : Int → Int) : List Int := ([2, 3, 4].filter fun j => wy j == 5).map fun j => t + 2 + fr j
structure Rn where
  x : Es
  op : Bool
  early : List Int
noncomputable def turnR (p : Par) (pre : Bool) (t : Int) (wy fr : Int → Int) (R : Rn) (j : Int) : Rn :=
  ⟨(wordM (wy j) (fr j) pre j t).foldl (stepE p) R.x, R.op && !(wy j == 5), if (R.op && !(wy j == 5)) && (yesL wy).any (· == j) then R.early ++ [j] else R.early⟩
noncomputable def yD (wy : Int → Int) (D : List Int) (i : Int) : Bool := i == 1 || (D.any (· == i) && isY (wy i))
noncomputable def nD (wy : Int → Int) (D : List Int) (i : Int) : Bool := D.any (· == i) && wy i == 1
noncomputable def hD (t : Int) (wy fr : Int → Int) (D : List Int) : List Int := (D.filter fun j => wy j == 5).map fun j => t + 2 + fr j
theorem hiM_snoc {l : List Int} {hm : Option Int} {a : Int} (h : hiM l hm) : hiM (l ++ [a]) (some (mx hm a)) := by
  cases hm with
  | none =>
    have : l = [] := h
    subst this
    exact ⟨by simp [mx], fun b hb => by simp at hb; rw [hb]; exact Int.le_refl _⟩
  | some M =>
    obtain ⟨h1, h2⟩ := h
    refine ⟨?_, fun b hb => ?_⟩
    · show max M a ∈ l ++ [a]
      rcases Int.le_total M a with c | c
      · rw [Int.max_eq_right c]; simp
      · rw [Int.max_eq_left c]; simp [h1]
    · show b ≤ max M a
      rcases List.mem_append.mp hb with hb | hb
      · have := h2 b hb; omega
      · rw [List.mem_singleton.mp hb]; omega
theorem hiM_uniq {l l' : List Int} {hm hm' : Option Int} (h : hiM l hm) (h' : hiM l' hm') (e : ∀ a, a ∈ l ↔ a ∈ l') : hm = hm' := by
  cases hm with
  | none =>
    have : l = [] := h
    subst this
    cases hm' with
    | none => rfl
    | some M => exact absurd ((e M).mpr h'.1) List.not_mem_nil
  | some M =>
    cases hm' with
    | none =>
      have : l' = [] := h'
      subst this
      exact absurd ((e M).mp h.1) List.not_mem_nil
    | some M' =>
      have h1 := h.2 M' ((e M').mpr h'.1)
      have h2 := h'.2 M ((e M).mp h.1)
      rw [show M = M' by omega]
theorem yD_snoc {wy : Int → Int} {D : List Int} {j : Int} : (if isY (wy j) then ins (yD wy D) j else yD wy D) = yD wy (D ++ [j]) := by
  funext i
  unfold yD ins
  rw [List.any_append]
  simp only [List.any_cons, List.any_nil, Bool.or_false]
  by_cases h : j = i
  · subst h
    cases c : isY (wy j) <;> simp [c]
  · have h1 : (j == i) = false := by simpa using h
    have h2 : (i == j) = false := by simp; omega
    cases isY (wy j) <;> simp [h1, h2]
theorem nD_snoc {wy : Int → Int} {D : List Int} {j : Int} : (if wy j = 1 then ins (nD wy D) j else nD wy D) = nD wy (D ++ [j]) := by
  funext i
  unfold nD ins
  rw [List.any_append]
  simp only [List.any_cons, List.any_nil, Bool.or_false]
  by_cases h : j = i
  · subst h
    by_cases c : wy j = 1
    · rw [if_pos c]; simp [c]
    · rw [if_neg c]; simp [c]
  · have h1 : (j == i) = false := by simpa using h
    have h2 : (i == j) = false := by simp; omega
    by_cases c : wy j = 1
    · rw [if_pos c]; simp [h1, h2]
    · rw [if_neg c]; simp [h1]
theorem hD_snoc {t : Int} {wy fr : Int → Int} {D : List Int} {j : Int} {hm : Option Int} (h : hiM (hD t wy fr D) hm) : hiM (hD t wy fr (D ++ [j])) (if wy j = 5 then some (mx hm (t + 2 + fr j)) else hm) := by
  unfold hD at h ⊢
  rw [List.filter_append]
  by_cases c : wy j = 5
  · rw [if_pos c, List.filter_cons_of_pos (by simpa using c), List.filter_nil, List.map_append]
    exact hiM_snoc h
  · rw [if_neg c, List.filter_cons_of_neg (by simpa using c), List.filter_nil, List.append_nil]
    exact h
theorem yn_dis {wy : Int → Int} {D : List Int} (h1 : (1 : Int) ∉ D) : ∀ i, ¬(yD wy D i = true ∧ nD wy D i = true) := fun i e => by
  unfold yD nD at e
  simp only [Bool.or_eq_true, Bool.and_eq_true, beq_iff_eq, List.any_eq_true, exists_eq_right] at e
  obtain ⟨e1, e2, e3⟩ := e
  rcases e1 with rfl | ⟨_, e1⟩
  · exact h1 e2
  · rw [e3] at e1; exact absurd e1 (by decide)
theorem yes_any {wy : Int → Int} {j : Int} (hj : 2 ≤ j ∧ j ≤ 4) : (yesL wy).any (· == j) = isY (wy j) := by
  unfold yesL
  have : j = 2 ∨ j = 3 ∨ j = 4 := by omega
  rw [List.any_cons]
  have h1 : ((1 : Int) == j) = false := by simp; omega
  rw [h1, Bool.false_or]
  cases h : isY (wy j) with
  | true => exact List.any_eq_true.mpr ⟨j, List.mem_filter.mpr ⟨by rcases this with rfl | rfl | rfl <;> decide, h⟩, by simp⟩
  | false =>
    rw [List.any_eq_false]
    intro i hi
    rw [List.mem_filter] at hi
    intro e
    rw [eq_of_beq e, h] at hi
    exact absurd hi.2 (by decide)
section
variable {p : Par} {H : List (List Int)} {t v : Int} {ms m1 m2 : List Msg} {xw : Es} {wy fr : Int → Int} {D : List Int} {R : Rn} {j : Int}
structure InvN (p : Par) (H : List (List Int)) (t : Int) (ms : List Msg) (wy fr : Int → Int) (D : List Int) (R : Rn) : Prop where
  ex : ∃ hm, hiM (hD t wy fr D) hm ∧ stN H t ms (yD wy D) (nD wy D) hm R.x
structure InvP (p : Par) (H : List (List Int)) (t v : Int) (m1 m2 : List Msg) (xw : Es) (wy fr : Int → Int) (D : List Int) (R : Rn) : Prop where
  ex : ∃ hm ey, hiM (hD t wy fr D) hm ∧ R.op = hm.isNone ∧ (∀ i, R.early.any (· == i) = ey i) ∧ stP H t v m1 m2 xw ey (yD wy D) (nD wy D) hm R.x
theorem fresh_y {D : List Int} (hj : j ≠ 1) (hD : j ∉ D) : yD wy D j = false ∧ nD wy D j = false := by
  have : D.any (· == j) = false := by
    rw [List.any_eq_false]
    intro i hi e
    exact hD (eq_of_beq e ▸ hi)
  unfold yD nD
  rw [this]
  simp [hj]
theorem InvN.turn (I : InvN p H t ms wy fr D R) (hh : Hvs p.come p.goes H) (ht : 0 < t) (hj : 2 ≤ j ∧ j ≤ 4) (hD : j ∉ D) (h1 : (1 : Int) ∉ D) (hw : 0 ≤ wy j ∧ wy j ≤ 6) (hf : 0 ≤ fr j) : InvN p H t ms wy fr (D ++ [j]) (turnR p false t wy fr R j) := by
  obtain ⟨hm, h2, h3⟩ := I.ex
  obtain ⟨hy, hn⟩ := fresh_y (wy := wy) (by omega) hD
  have := N_turn hh h3 ht (yn_dis h1) ⟨by omega, hj.2⟩ hy hn hw hf
  rw [yD_snoc, nD_snoc] at this
  exact ⟨_, hD_snoc h2, this⟩
theorem InvP.turn (I : InvP p H t v m1 m2 xw wy fr D R) (hh : Hvs p.come p.goes H) (X : Xw p H t m1 m2 xw) (ht : 0 < t) (hj : 2 ≤ j ∧ j ≤ 4) (hD : j ∉ D) (h1 : (1 : Int) ∉ D) (hw : 0 ≤ wy j ∧ wy j ≤ 6) (hf : 0 ≤ fr j) : InvP p H t v m1 m2 xw wy fr (D ++ [j]) (turnR p true t wy fr R j) := by
  obtain ⟨hm, ey, h2, h4, h5, h3⟩ := I.ex
  obtain ⟨hy, hn⟩ := fresh_y (wy := wy) (by omega) hD
  have := P_turn hh X h3 ht (by unfold yD; rfl) (yn_dis h1) ⟨by omega, hj.2⟩ hy hn hw hf
  rw [yD_snoc, nD_snoc] at this
  refine ⟨_, _, hD_snoc h2, ?_, ?_, this⟩
  · show (R.op && !(wy j == 5)) = _
    rw [h4]
    by_cases c : wy j = 5
    · rw [if_pos c]; simp [c]
    · rw [if_neg c]; simp [c]
  · intro i
    show (if (R.op && !(wy j == 5)) && (yesL wy).any (· == j) then R.early ++ [j] else R.early).any (· == i) = _
    rw [yes_any hj, h4]
    cases hY : isY (wy j) with
    | false => rw [Bool.and_false, if_neg (by decide), if_neg (fun e => absurd e.1 (by decide))]; exact h5 i
    | true =>
      have c : (wy j == 5) = false := by
        cases c : wy j == 5 with
        | false => rfl
        | true => rw [eq_of_beq c] at hY; exact absurd hY (by decide)
      rw [c]
      cases hm with
      | none =>
        have e : ey = yD wy D := h3.1
        rw [if_pos (by rfl), if_pos ⟨rfl, rfl⟩, List.any_append, h5, e]
        unfold ins
        simp only [List.any_cons, List.any_nil, Bool.or_false]
        congr 1
        by_cases q : j = i
        · subst q; rfl
        · have h1 : (j == i) = false := by simpa using q
          have h2 : (i == j) = false := by simp; omega
          rw [h1, h2]
      | some M => rw [if_neg (by simp), if_neg (fun e => by cases e.2)]; exact h5 i
end

-- the plain law: the start and the end
noncomputable def yF (wy : Int → Int) (i : Int) : Bool := i == 1 || ((i == 2 || i == 3 || i == 4) && isY (wy i))
noncomputable def nF (wy : Int → Int) (i : Int) : Bool := (i == 2 || i == 3 || i == 4) && wy i == 1
noncomputable def All3 (D : List Int) : Prop := ∀ i, D.any (· == i) = (i == 2 || i == 3 || i == 4)
theorem yD_all {wy : Int → Int} {D : List Int} (h : All3 D) : yD wy D = yF wy := by funext i; unfold yD yF; rw [h i]
theorem nD_all {wy : Int → Int} {D : List Int} (h : All3 D) : nD wy D = nF wy := by funext i; unfold nD nF; rw [h i]
theorem any234 (f : Int → Bool) (i : Int) : ([2, 3, 4].filter f).any (· == i) = ((i == 2 || i == 3 || i == 4) && f i) := by
  by_cases h : i = 2 ∨ i = 3 ∨ i = 4
  · rcases h with rfl | rfl | rfl <;> (simp only [List.filter_cons, List.filter_nil]; cases f 2 <;> cases f 3 <;> cases f 4 <;> rfl)
  · have e : (i == 2 || i == 3 || i == 4) = false := by simp; omega
    rw [e, Bool.false_and, List.any_eq_false]
    intro j hj q
    have := (List.mem_filter.mp hj).1
    rw [eq_of_beq q] at this
    simp at this
    omega
theorem yes_yF (wy : Int → Int) : (fun i => (yesL wy).any (· == i)) = yF wy := by
  funext i
  unfold yesL yF
  rw [List.any_cons, any234]
  congr 1
  by_cases h : i = 1
  · subst h; rfl
  · have h1 : ((1 : Int) == i) = false := by simp; omega
    have h2 : (i == (1 : Int)) = false := by simpa using h
    rw [h1, h2]
theorem no_nF (wy : Int → Int) : (fun i => (noL wy).any (· == i)) = nF wy := by
  funext i
  unfold noL nF
  rw [any234]
theorem one_any : (fun j => ([1] : List Int).any (· == j)) = fun j => j == 1 := by
  funext i
  rw [List.any_cons, List.any_nil, Bool.or_false]
  by_cases h : i = 1
  · subst h; rfl
  · have h1 : ((1 : Int) == i) = false := by simp; omega
    have h2 : (i == (1 : Int)) = false := by simpa using h
    rw [h1, h2]
theorem mem_any {A : List Int} {j : Int} : A.any (· == j) = decide (j ∈ A) := by
  cases h : decide (j ∈ A) with
  | true => exact List.any_eq_true.mpr ⟨j, of_decide_eq_true h, by simp⟩
  | false =>
    rw [List.any_eq_false]
    intro i hi e
    exact of_decide_eq_false h (eq_of_beq e ▸ hi)
section
variable {p : Par} {H : List (List Int)} {t v : Int} {ms m1 m2 : List Msg} {xw : Es} {wy fr : Int → Int} {D : List Int} {R : Rn} {j : Int} {x : Es} {mk : Bool}
theorem rem_nF (hh : Hvs p.come p.goes H) : winsB H (remL (noL wy)) = WF H (fun j => !nF wy j) := by
  rw [winsB_eq]
  apply WF_congr hh
  intro j hj
  rw [mem_any]
  have e : (noL wy).any (· == j) = nF wy j := congrFun (no_nF wy) j
  unfold remL
  rw [← e]
  cases c : (noL wy).any (· == j) with
  | true => simp only [Bool.not_true, decide_eq_false_iff_not, List.mem_filter, c]; exact fun q => absurd q.2 (by decide)
  | false =>
    simp only [Bool.not_false, decide_eq_true_eq, List.mem_filter, c]
    have : j = 1 ∨ j = 2 ∨ j = 3 ∨ j = 4 := by omega
    exact ⟨by rcases this with rfl | rfl | rfl | rfl <;> decide, trivial⟩
theorem yes_wins : winsB H (yesL wy) = WF H (yF wy) := by rw [winsB_eq, yes_yF]
theorem one_wins : winsB H [1] = WF H (fun j => j == 1) := by rw [winsB_eq, one_any]
theorem asksL_rows {kd tm : Int} {ctx : Bool} : ∀ A : List Int, (asksL p kd tm ctx A).map rowOf = (A.filter fun j => !(j == 1)).map fun j => [.int kd, .int j, .int 1, .int tm, .int p.li, .int p.lt, .bytes ctx]
  | [] => rfl
  | a :: A => by
    unfold asksL
    by_cases h : a = 1
    · rw [if_pos h, List.filter_cons_of_neg (by simp [h])]; exact asksL_rows A
    · rw [if_neg h, List.filter_cons_of_pos (by simp [h]), List.map_cons, List.map_cons, asksL_rows A]; rfl
theorem inH_eq (hh : Hvs p.come p.goes H) (j : Int) : inH H j = decide (j ∈ p.come ∨ j ∈ p.goes) := by
  unfold inH
  rcases hh.h with ⟨h1, rfl⟩ | ⟨_, rfl⟩
  · rw [List.any_cons, List.any_nil, Bool.or_false, mem_any, h1]; simp
  · rw [List.any_cons, List.any_cons, List.any_nil, Bool.or_false, mem_any, mem_any]; simp
theorem asks_rows (hh : Hvs p.come p.goes H) {kd : Int} (h1 : WF H (fun j => j == 1) = false) : (asks p kd (t + 1) mk).map rowOf = askedL H kd t p.li p.lt mk := by
  unfold asks askedL
  rw [one_wins, h1, if_neg (by decide), asksL_rows]
  congr 1
  unfold allv
  rw [List.filter_filter]
  have e : ∀ j, decide (j ∈ p.come ∨ j ∈ p.goes) = inH H j := fun j => (inH_eq hh j).symm
  simp only [e]
  rw [List.filter_cons_of_neg (by simp)]
  apply List.filter_congr
  intro j hj
  have : j ≠ 1 := by simp at hj; omega
  simp [this]
theorem asked_won {kd : Int} (h1 : WF H (fun j => j == 1) = true) : askedL H kd t p.li p.lt mk = [] := by
  unfold askedL
  rw [one_wins, h1, if_pos rfl]
-- the starts
noncomputable def msN (p : Par) (H : List (List Int)) (kd t : Int) (mk : Bool) : List Msg := if WF H (fun j => j == 1) then [] else asks p kd (t + 1) mk
theorem msN_rows (hh : Hvs p.come p.goes H) {kd : Int} : (msN p H kd t mk).map rowOf = askedL H kd t p.li p.lt mk := by
  unfold msN
  cases c : WF H (fun j => j == 1) with
  | true => rw [if_pos rfl, asked_won c]; rfl
  | false => rw [if_neg (by decide), asks_rows hh c]
theorem yD_nil : yD wy [] = fun j => j == 1 := by funext i; unfold yD; simp
theorem nD_nil : nD wy [] = fun _ => false := by funext i; unfold nD; simp
theorem startN (hh : Hvs p.come p.goes H) (ht : x.t = t) (hm : x.ms = []) : InvN p H t (msN p H 5 t mk) wy fr [] ⟨campV p mk x, true, [1]⟩ := by
  refine ⟨Option.none, rfl, ?_⟩
  rw [yD_nil, nD_nil]
  unfold campV
  rw [qw_w1 hh, hm, ht]
  unfold msN
  cases c : WF H (fun j => j == 1) with
  | true => rw [if_pos rfl]; exact .inl ⟨c, rfl⟩
  | false => rw [if_neg (by decide)]; exact .inr (.inl ⟨c, WF_all hh fun _ _ => rfl, w1, rfl, fun j _ => look_w1 j⟩)
noncomputable def xwP (p : Par) (H : List (List Int)) (t : Int) : Es := if WF H (fun j => j == 1) then ⟨t + 1, 1, 2, 1, [], []⟩ else ⟨t + 1, 1, 1, 0, msN p H 17 t false ++ msN p H 5 t false, w1⟩
theorem XwP : Xw p H t (msN p H 17 t false) (msN p H 5 t false) (xwP p H t) := by
  unfold xwP
  refine ⟨?_, ?_, ?_, fun c => ?_⟩
  · split <;> rfl
  · unfold msN
    cases c : WF H (fun j => j == 1) with
    | true => rfl
    | false => rfl
  · split
    · exact .inr rfl
    · exact .inl rfl
  · unfold msN; rw [c]; rfl
theorem startP (hh : Hvs p.come p.goes H) (ht : x.t = t) (hv : x.v = v) (hm : x.ms = []) : InvP p H t v (msN p H 17 t false) (msN p H 5 t false) (xwP p H t) wy fr [] ⟨campP p x, true, [1]⟩ := by
  refine ⟨Option.none, _, rfl, rfl, fun i => congrFun one_any i, ?_⟩
  rw [yD_nil, nD_nil]
  unfold campP campV
  rw [qw_w1 hh, hm, ht, hv]
  refine ⟨rfl, ?_⟩
  cases c : WF H (fun j => j == 1) with
  | true => refine .inl ⟨rfl, ?_⟩; unfold xwP; rw [c]; rfl
  | false => rw [if_neg (by decide)]; exact .inr (.inl ⟨rfl, WF_all hh fun _ _ => rfl, w1, by unfold msN; rw [c]; rfl, fun j _ => look_w1 j⟩)
/-- refused by the second member before -/
theorem before (hh : Hvs p.come p.goes H) (c : WF H (fun j => j == 1) = false) (ht : 0 < t) (hx : x.t = t ∧ x.v = v) : ∃ w s ms, stepE p (campP p x) ⟨18, 1, 2, t, 0, 0, true, false⟩ = ⟨t, v, s, 0, ms, w⟩ ∧ (s = 0 ∨ s = 3) ∧ w.length ≤ 2 := by
  obtain ⟨rfl, rfl⟩ := hx
  unfold campP
  rw [qw_w1 hh, c, if_neg (by decide)]
  rw [stepE_eq (x := ⟨x.t, x.v, 3, 0, x.ms ++ asks p 17 (x.t + 1) false, w1⟩) rfl ht, stepC_poll (.inl ⟨rfl, rfl⟩)]
  have hw' := Lk_no (y := fun j => j == 1) (n := fun _ => false) (fun j _ => look_w1 j) (j := 2) (by decide) rfl rfl
  have hd' : ∀ i : Int, ¬((i == 1) = true ∧ ins (fun _ => false) 2 i = true) := dis_no (fun i e => absurd e.2 (by decide)) rfl
  have hq : qw p (recV w1 2 false) = _ := jv_eq hh hw' hd'
  unfold pollE
  simp only [Bool.not_true]
  rw [hq, c]
  cases c1 : WF H (fun i => !ins (fun _ => false) 2 i) with
  | true => exact ⟨_, 3, _, rfl, .inr rfl, Nat.le_of_ble_eq_true rfl⟩
  | false => exact ⟨[], 0, _, rfl, .inl rfl, Nat.zero_le _⟩
-- the ends
theorem hD_mem (h : All3 D) (a : Int) : a ∈ hD t wy fr D ↔ a ∈ higherL t wy fr := by
  have hm : ∀ j, j ∈ D ↔ j ∈ ([2, 3, 4] : List Int) := fun j => by
    have := h j
    rw [mem_any] at this
    constructor
    · intro q
      rw [decide_eq_true q] at this
      simp at this
      simp
      omega
    · intro q
      have : decide (j ∈ D) = true := by rw [this]; simp at q; simp; omega
      exact of_decide_eq_true this
  unfold hD higherL
  simp only [List.mem_map, List.mem_filter, hm]
structure Pend (H : List (List Int)) (wy : Int → Int) (w : Vt) : Prop where
  lk : Lk w (yF wy) (nF wy)
  y : WF H (yF wy) = false
  n : WF H (fun j => !nF wy j) = true
theorem endN {hM : Option Int} (hh : Hvs p.come p.goes H) (I : InvN p H t ms wy fr D R) (hD : All3 D) (h : hiM (higherL t wy fr) hM) :
    [R.x.t, R.x.v, R.x.s, R.x.l] = endL H false t v (yesL wy) (noL wy) hM ∧ R.x.ms = ms ∧ R.x.s ≠ 3 ∧ (R.x.s = 1 → Pend H wy R.x.w) := by
  obtain ⟨hm, h1, h2⟩ := I.ex
  have e := hiM_uniq h1 h (hD_mem hD)
  subst e
  rw [yD_all hD, nD_all hD] at h2
  unfold endL
  cases hm with
  | some M =>
    obtain ⟨_, e⟩ := h2
    rw [e]
    exact ⟨rfl, rfl, by show (0 : Int) ≠ 3; decide, fun e => absurd e (by show (0 : Int) ≠ 1; decide)⟩
  | none =>
    dsimp only
    rw [yes_wins, rem_nF hh]
    rcases h2 with ⟨a, e⟩ | ⟨a, b, w, e, hw⟩ | ⟨a, b, e⟩
    · rw [e, a]
      exact ⟨rfl, rfl, by show (2 : Int) ≠ 3; decide, fun e => absurd e (by show (2 : Int) ≠ 1; decide)⟩
    · rw [e, a, b]
      exact ⟨rfl, rfl, by show (1 : Int) ≠ 3; decide, fun _ => ⟨hw, a, b⟩⟩
    · rw [e, a, b]
      exact ⟨rfl, rfl, by show (0 : Int) ≠ 3; decide, fun e => absurd e (by show (0 : Int) ≠ 1; decide)⟩
theorem endP {hM : Option Int} (hh : Hvs p.come p.goes H) (I : InvP p H t v (msN p H 17 t false) (msN p H 5 t false) (xwP p H t) wy fr D R) (hD : All3 D) (h : hiM (higherL t wy fr) hM) :
    [R.x.t, R.x.v, R.x.s, R.x.l] = endL H true t v (yesL wy) (noL wy) hM ∧ R.x.ms = (if winsB H R.early then msN p H 17 t false ++ msN p H 5 t false else msN p H 17 t false) ∧ (R.x.s = 3 → Pend H wy R.x.w) := by
  obtain ⟨hm, ey, h1, _, h3, h2⟩ := I.ex
  have e := hiM_uniq h1 h (hD_mem hD)
  subst e
  rw [yD_all hD, nD_all hD] at h2
  have hE : winsB H R.early = WF H ey := by
    rw [winsB_eq]
    congr 1
    funext i
    exact h3 i
  unfold endL
  rw [hE]
  cases hm with
  | some M =>
    obtain ⟨_, e⟩ := h2
    rw [e]
    exact ⟨rfl, rfl, fun e => absurd e (by show (0 : Int) ≠ 3; decide)⟩
  | none =>
    dsimp only
    rw [yes_wins, rem_nF hh, one_wins]
    obtain ⟨rfl, h2⟩ := h2
    rcases h2 with ⟨a, e⟩ | ⟨a, b, w, e, hw⟩ | ⟨a, b, e⟩
    · rw [e, a, if_pos rfl]
      unfold xwP
      cases c : WF H (fun j => j == 1) with
      | true => exact ⟨rfl, by unfold msN; rw [c]; rfl, fun e => absurd e (by show (2 : Int) ≠ 3; decide)⟩
      | false => exact ⟨rfl, rfl, fun e => absurd e (by show (1 : Int) ≠ 3; decide)⟩
    · rw [e, a, b]
      exact ⟨rfl, rfl, fun _ => ⟨hw, a, b⟩⟩
    · rw [e, a, b]
      exact ⟨rfl, rfl, fun e => absurd e (by show (0 : Int) ≠ 3; decide)⟩
-- the tally
noncomputable def restL (A B : List Int) : List Int := [2, 3, 4].filter fun j => !(A.any (· == j)) && !(B.any (· == j))
theorem rest_any (A B : List Int) {j : Int} (hj : 2 ≤ j ∧ j ≤ 4) : (restL A B).any (· == j) = !decide (j ∈ A ∨ j ∈ B) := by
  unfold restL
  rw [any234, mem_any, mem_any]
  have : (j == 2 || j == 3 || j == 4) = true := by simp; omega
  rw [this, Bool.true_and]
  by_cases h1 : j ∈ A <;> by_cases h2 : j ∈ B <;> simp [h1, h2]
theorem tally (hh : Hvs p.come p.goes H) (one : (1 : Int) ∈ p.come ∨ (1 : Int) ∈ p.goes) {w : Vt} (P : Pend H wy w) :
    cnt w (some true) (allv p.come p.goes) = (((yesL wy).filter fun j => !((restL p.come p.goes).any (· == j))).length : Int) ∧
    cnt w (some false) (allv p.come p.goes) = (((noL wy).filter fun j => !((restL p.come p.goes).any (· == j))).length : Int) ∧ jv p.come p.goes w = 1 := by
  have hd : ∀ i, ¬(yF wy i = true ∧ nF wy i = true) := fun i e => by
    unfold yF nF at e
    simp only [Bool.or_eq_true, Bool.and_eq_true, beq_iff_eq] at e
    obtain ⟨e1, e2, e3⟩ := e
    rcases e1 with rfl | ⟨_, e1⟩
    · omega
    · rw [e3] at e1; exact absurd e1 (by decide)
  have rng : ∀ j ∈ allv p.come p.goes, 1 ≤ j ∧ j ≤ 4 := fun j hj => by
    unfold allv at hj
    have := (List.mem_filter.mp hj).1
    simp at this
    omega
  refine ⟨?_, ?_, ?_⟩
  · rw [cnt_f (f := yF wy) fun j hj => by rw [P.lk j (rng j hj)]; unfold vt; cases hy : yF wy j <;> cases nF wy j <;> simp]
    congr 2
    unfold allv yesL
    rw [List.filter_filter]
    have e0 : ∀ j, (yF wy j && decide (j ∈ p.come ∨ j ∈ p.goes)) = (decide (j ∈ p.come ∨ j ∈ p.goes) && yF wy j) := fun j => Bool.and_comm _ _
    have h1 : (restL p.come p.goes).any (· == 1) = false := by unfold restL; rw [any234]; rfl
    have e1 : List.filter (fun a => yF wy a && decide (a ∈ p.come ∨ a ∈ p.goes)) [1, 2, 3, 4] = 1 :: List.filter (fun a => yF wy a && decide (a ∈ p.come ∨ a ∈ p.goes)) [2, 3, 4] := List.filter_cons_of_pos (by rw [decide_eq_true one]; rfl)
    have e2 : ∀ L : List Int, List.filter (fun j => !((restL p.come p.goes).any (· == j))) (1 :: L) = 1 :: List.filter (fun j => !((restL p.come p.goes).any (· == j))) L := fun L => List.filter_cons_of_pos (by rw [h1]; rfl)
    rw [e1, e2, List.filter_filter]
    congr 1
    apply List.filter_congr
    intro j hj
    have hj : 2 ≤ j ∧ j ≤ 4 := by simp at hj; omega
    rw [rest_any _ _ hj, Bool.not_not]
    have : (j == 1) = false := by simp; omega
    have h2 : (j == 2 || j == 3 || j == 4) = true := by simp; omega
    unfold yF
    rw [this, h2, Bool.false_or, Bool.true_and, Bool.and_comm]
  · rw [cnt_f (f := nF wy) fun j hj => by rw [P.lk j (rng j hj)]; unfold vt; have := hd j; cases hy : yF wy j <;> cases hn : nF wy j <;> simp_all]
    congr 2
    unfold allv noL
    rw [List.filter_filter, List.filter_filter, List.filter_cons_of_neg (by simp [nF])]
    apply List.filter_congr
    intro j hj
    have hj : 2 ≤ j ∧ j ≤ 4 := by simp at hj; omega
    rw [rest_any _ _ hj, Bool.not_not]
    have h2 : (j == 2 || j == 3 || j == 4) = true := by simp; omega
    unfold nF
    rw [h2, Bool.true_and, Bool.and_comm]
  · rw [jv_eq hh P.lk hd, P.y, P.n]; rfl
end

-- the law, cut into parts (printed by gen_law.py)
noncomputable def B_msg : SW := (sSeq (sExp (eMeth 606 193 (eLoc 88) F_Elector_step (esCons (eLoc 135) esNil)))
  sNil)
noncomputable def B_turn : SW := (sSeq (sFor 135 (eIdx (eLoc 218) (eLoc 122)) B_msg)
  (sSeq (sIf (tCmp .Eq (eIdx (eLoc 215) (eLoc 122)) (eV (.int 5))) (sSeq (sAsg 158 (eV (.bool false))) sNil) sNil)
  (sSeq (sIf (tAnd [(tVal (eLoc 158)), (tIn false (eBin .Add (eLoc 122) (eV (.int 2))) (eLoc 221))]) (sSeq (sExp (sApp (eLoc 89) (eBin .Add (eLoc 122) (eV (.int 2))))) sNil) sNil)
  sNil)))
noncomputable def B_tally : SW := (sSeq (sAsg 222 (eLen (eComp 117 [177] (eLoc 221) (tIn true (eLoc 117) (eLoc 177)) (eLoc 117))))
  (sSeq (sAsg 155 (eLen (eComp 117 [177] (eLoc 153) (tIn true (eLoc 117) (eLoc 177)) (eLoc 117))))
  (sSeq (sIf (tEqT true (eMeth 291 199 (eAttr (eLoc 88) 206) F_Ballots_tally esNil) (eTup (esCons (eLoc 222) (esCons (eLoc 155) (esCons (eV (.int 1)) esNil))))) (sSeq (sRet (eV (.bool false))) sNil) sNil)
  sNil)))
noncomputable def B_e4 : SW := (sSeq (sIf (tOr [(tCmp .Eq (eIdx (eLoc 92) (eV (.int 2))) (eV (.int 3))), (tAnd [(tCmp .Eq (eIdx (eLoc 92) (eV (.int 2))) (eV (.int 1))), (tNot (tVal (eLoc 166)))])]) B_tally sNil)
  sNil)
noncomputable def B_e3 : SW := (sSeq (sIf (tNeL (eComp 135 [] (eAttr (eLoc 88) 148) tTrue (eTup (esCons (eAttr (eLoc 135) 123) (esCons (eAttr (eLoc 135) 205) (esCons (eAttr (eLoc 135) 99) (esCons (eAttr (eLoc 135) 200) (esCons (eAttr (eLoc 135) 115) (esCons (eAttr (eLoc 135) 134) (esCons (eAttr (eLoc 135) 84) esNil))))))))) (eLoc 213)) (sSeq (sRet (eV (.bool false))) sNil) sNil)
  B_e4)
noncomputable def B_e2 : SW := (sSeq (sIf (tAnd [(tVal (eLoc 166)), (tVal (eCall F_law_wins (esCons (eLoc 106) (esCons (eLoc 89) esNil))))]) (sSeq (sAsg 213 (eCat (eLoc 213) (eCall F_law_asked (esCons (eLoc 106) (esCons (eV (.int 5)) (esCons (eLoc 200) (esCons (eLoc 124) (esCons (eLoc 138) esNil)))))))) sNil) sNil)
  B_e3)
noncomputable def B_e1 : SW := (sSeq (sIf (tEqT true (eTup (esCons (eAttr (eLoc 88) 200) (esCons (eAttr (eLoc 88) 209) (esCons (eAttr (eLoc 88) 192) (esCons (eAttr (eLoc 88) 129) esNil))))) (eLoc 92)) (sSeq (sRet (eV (.bool false))) sNil) sNil)
  (sSeq (sAsg 213 (eCall F_law_asked (esCons (eLoc 106) (esCons (eLoc 123) (esCons (eLoc 200) (esCons (eLoc 124) (esCons (eLoc 138) esNil)))))))
  B_e2))
noncomputable def B_loop : SW := (sSeq (sFor 122 (eLoc 159) B_turn)
  B_e1)
noncomputable def B_go : SW := (sSeq (sIf (tCmp .Gt (eLoc 150) (eV (.int 1))) (sSeq (sExp (eMeth 606 193 (eLoc 88) F_Elector_step (esCons (eNew 132 F_Message_init (esCons (eV (.int 14)) (esCons (eV (.int 1)) (esCons (eV (.int 2)) (esCons (eLoc 200) esNil))))) esNil))) sNil) (sSeq (sExp (eMeth 606 193 (eLoc 88) F_Elector_step (esCons (eNew 132 F_Message_init (esCons (eV (.int 0)) (esCons (eV (.int 1)) (esCons (eV (.int 1)) (esCons (eV (.int 0)) esNil))))) esNil))) sNil))
  (sSeq (sAsg 89 (eList (esCons (eV (.int 1)) esNil)))
  (sSeq (sAsg 158 (eV (.bool true)))
  B_loop)))
noncomputable def B_pre : SW := (sSeq (sIf (tAnd [(tVal (eLoc 166)), (tEqT false (eLoc 159) (eTup (esCons (eV (.int 0)) (esCons (eV (.int 1)) (esCons (eV (.int 2)) esNil))))), (tNot (tVal (eCall F_law_wins (esCons (eLoc 106) (esCons (eList (esCons (eV (.int 1)) esNil)) esNil)))))]) (sSeq (sExp (eMeth 606 193 (eLoc 88) F_Elector_step (esCons (eNew 132 F_Message_init (esCons (eV (.int 0)) (esCons (eV (.int 1)) (esCons (eV (.int 1)) (esCons (eV (.int 0)) esNil))))) esNil))) (sSeq (sExp (eMeth 606 193 (eLoc 88) F_Elector_step (esCons (eCall F_law_says (esCons (eV (.int 18)) (esCons (eV (.int 2)) (esCons (eLoc 200) (esCons (eV (.bool true)) esNil))))) esNil))) (sSeq (sSet (eList esNil) (eLoc 88) 148) sNil))) sNil)
  B_go)
noncomputable def B_order : SW := (sSeq (sExp (eMeth 606 69 (eLoc 88) F_Elector_become_follower (esCons (eLoc 200) (esCons (eV (.int 0)) esNil))))
  (sSeq (sExp (eMeth 606 191 (eLoc 88) F_Elector_stand (esCons (eLoc 200) (esCons (eLoc 209) (esCons (eLoc 147) (esCons (eLoc 124) esNil))))))
  (sSeq (sSet (eList esNil) (eLoc 88) 148)
  B_pre)))
noncomputable def L_orders : SW := (sSeq (sFor 159 (eCall F_law_orders esNil) B_order)
  (sSeq (sRet (eV (.bool true)))
  sNil))
noncomputable def L_make : SW := (sSeq (sAsg 73 (eNew 319 F_RaftConfig_init (esCons (eV (.int 1)) (esCons (eV (.int 2)) (esCons (eV (.int 1)) (esCons (eV (.int 0)) esNil))))))
  (sSeq (sSet (eOr2 (eCmp .Eq (eLoc 150) (eV (.int 1))) (eCmp .Eq (eLoc 150) (eV (.int 2)))) (eLoc 73) 167)
  (sSeq (sAsg 88 (eNew 606 F_Elector_init (esCons (eLoc 73) esNil)))
  (sSeq (sAsg 147 (eNew 242 F_Config_init (esCons (eLoc 79) (esCons (eLoc 103) (esCons (eLoc 177) (esCons (eList esNil) (esCons (eV (.bool false)) esNil)))))))
  (sSeq (sAsg 92 (eCall F_law_end (esCons (eLoc 106) (esCons (eLoc 166) (esCons (eLoc 200) (esCons (eLoc 209) (esCons (eLoc 221) (esCons (eLoc 153) (esCons (eLoc 110) esNil)))))))))
  (sSeq (sAsg 123 (eV (.int 5)))
  (sSeq (sAsg 138 (eV (.bytes false)))
  (sSeq (sIf (tVal (eLoc 166)) (sSeq (sAsg 123 (eV (.int 17))) sNil) sNil)
  (sSeq (sIf (tCmp .Gt (eLoc 150) (eV (.int 1))) (sSeq (sAsg 138 (eV (.bytes true))) sNil) sNil)
  L_orders)))))))))
noncomputable def B_words : SW := (sSeq (sAsg 223 (eCall F_law_draw (esCons (eLoc 156) (esCons (eLoc 117) esNil))))
  (sSeq (sExp (sApp (eLoc 215) (eBin .Mod (eLoc 223) (eV (.int 7)))))
  (sSeq (sExp (sApp (eLoc 218) (eCall F_law_word (esCons (eBin .Mod (eLoc 223) (eV (.int 7))) (esCons (eBin .Mod (eBin .FloorDiv (eLoc 223) (eV (.int 7))) (eV (.int 3))) (esCons (eLoc 166) (esCons (eLoc 117) (esCons (eLoc 200) esNil))))))))
  (sSeq (sIf (tIn false (eBin .Mod (eLoc 223) (eV (.int 7))) (eTup (esCons (eV (.int 0)) (esCons (eV (.int 2)) (esCons (eV (.int 3)) esNil))))) (sSeq (sExp (sApp (eLoc 221) (eLoc 117))) sNil) sNil)
  (sSeq (sIf (tCmp .Eq (eBin .Mod (eLoc 223) (eV (.int 7))) (eV (.int 1))) (sSeq (sExp (sApp (eLoc 153) (eLoc 117))) sNil) sNil)
  (sSeq (sIf (tCmp .Eq (eBin .Mod (eLoc 223) (eV (.int 7))) (eV (.int 5))) (sSeq (sExp (sApp (eLoc 110) (eBin .Add (eBin .Add (eLoc 200) (eV (.int 2))) (eBin .Mod (eBin .FloorDiv (eLoc 223) (eV (.int 7))) (eV (.int 3)))))) sNil) sNil)
  sNil))))))
noncomputable def L_words : SW := (sSeq (sAsg 218 (eList esNil))
  (sSeq (sAsg 221 (eList (esCons (eV (.int 1)) esNil)))
  (sSeq (sAsg 153 (eList esNil))
  (sSeq (sAsg 110 (eList esNil))
  (sSeq (sAsg 215 (eList esNil))
  (sSeq (sFor 117 (eTup (esCons (eV (.int 2)) (esCons (eV (.int 3)) (esCons (eV (.int 4)) esNil)))) B_words)
  L_make))))))
noncomputable def L_half : SW := (sSeq (sAsg 220 (eCall F_law_draw (esCons (eLoc 156) (esCons (eV (.int 1)) esNil))))
  (sSeq (sAsg 79 (eCat (eList (esCons (eV (.int 1)) esNil)) (eComp 117 [220] (eTup (esCons (eV (.int 2)) (esCons (eV (.int 3)) (esCons (eV (.int 4)) esNil)))) (tCmp .Eq (eBin .Mod (eBin .FloorDiv (eLoc 220) (eBin .Pow (eV (.int 2)) (eBin .Sub (eLoc 117) (eV (.int 1))))) (eV (.int 2))) (eV (.int 0))) (eLoc 117))))
  (sSeq (sAsg 103 (eList esNil))
  (sSeq (sAsg 106 (eList (esCons (eLoc 79) esNil)))
  (sSeq (sIf (tCmp .Eq (eBin .Mod (eLoc 220) (eV (.int 2))) (eV (.int 1))) (sSeq (sAsg 79 (eComp 117 [] (eLoc 79) (tCmp .Lt (eLoc 117) (eV (.int 4))) (eLoc 117))) (sSeq (sAsg 103 (eComp 117 [220] (eTup (esCons (eV (.int 1)) (esCons (eV (.int 2)) (esCons (eV (.int 3)) esNil)))) (tCmp .Eq (eBin .Mod (eBin .FloorDiv (eBin .Add (eV (.int 1)) (eBin .Mod (eBin .FloorDiv (eLoc 220) (eV (.int 8))) (eV (.int 7)))) (eBin .Pow (eV (.int 2)) (eBin .Sub (eLoc 117) (eV (.int 1))))) (eV (.int 2))) (eV (.int 1))) (eLoc 117))) (sSeq (sIf (tCmp .Eq (eBin .Mod (eBin .FloorDiv (eLoc 220) (eV (.int 56))) (eV (.int 2))) (eV (.int 1))) (sSeq (sUnp2 79 103 (eTup (esCons (eLoc 103) (esCons (eLoc 79) esNil)))) sNil) sNil) (sSeq (sAsg 106 (eList (esCons (eLoc 79) (esCons (eLoc 103) esNil)))) sNil)))) sNil)
  (sSeq (sAsg 177 (eComp 117 [79, 103] (eTup (esCons (eV (.int 2)) (esCons (eV (.int 3)) (esCons (eV (.int 4)) esNil)))) (tAnd [(tIn true (eLoc 117) (eLoc 79)), (tIn true (eLoc 117) (eLoc 103))]) (eLoc 117)))
  L_words))))))
noncomputable def L_head : SW := (sSeq (sIf (tCmp .Eq (eLen (eLoc 156)) (eV (.int 0))) (sSeq (sAsg 156 (eList (esCons (eV (.int 2)) esNil))) sNil) sNil)
  (sSeq (sAsg 219 (eIdx (eLoc 156) (eV (.int 0))))
  (sSeq (sAsg 150 (eBin .Mod (eLoc 219) (eV (.int 4))))
  (sSeq (sAsg 166 (eCmp .Eq (eLoc 150) (eV (.int 1))))
  (sSeq (sAsg 200 (eBin .Add (eV (.int 1)) (eBin .Mod (eBin .FloorDiv (eLoc 219) (eV (.int 4))) (eV (.int 3)))))
  (sSeq (sAsg 209 (eBin .Mult (eV (.int 3)) (eBin .Mod (eBin .FloorDiv (eLoc 219) (eV (.int 12))) (eV (.int 2)))))
  (sSeq (sAsg 124 (eTup (esCons (eBin .Add (eV (.int 2)) (eBin .Mod (eBin .FloorDiv (eLoc 219) (eV (.int 24))) (eV (.int 3)))) (esCons (eV (.int 1)) esNil))))
  L_half)))))))
theorem W_law_cut : W_law = L_head := rfl



structure Ok (x : Es) (n : Nat) : Prop where
  s0 : 0 ≤ x.s
  s3 : x.s ≤ 3
  t0 : 0 < x.t
  bd : x.ms.length + x.w.length ≤ n
theorem asksL_len {p : Par} {kd tm : Int} {c : Bool} : ∀ A : List Int, (asksL p kd tm c A).length ≤ A.length
  | [] => Nat.le_refl _
  | a :: A => by
    have := asksL_len (p := p) (kd := kd) (tm := tm) (c := c) A
    unfold asksL
    split <;> simp only [List.length_cons] <;> omega
theorem asks_len {p : Par} {kd tm : Int} {c : Bool} : (asks p kd tm c).length ≤ 4 := Nat.le_trans (asksL_len _) (allv_len _ _)
section
variable {p : Par} {x : Es} {n : Nat} {c : Bool} {m : Msg}
theorem Ok.mono {n' : Nat} (h : Ok x n) (hn : n ≤ n') : Ok x n' := ⟨h.s0, h.s3, h.t0, Nat.le_trans h.bd hn⟩
theorem Ok.campV (h : Ok x n) : Ok (campV p c x) (n + 5) := by
  have := h.t0
  have := h.bd
  unfold Mine.campV
  split
  · exact ⟨by show (0 : Int) ≤ 2; decide, by show (2 : Int) ≤ 3; decide, by show 0 < x.t + 1; omega, by show x.ms.length + 0 ≤ _; omega⟩
  · refine ⟨by show (0 : Int) ≤ 1; decide, by show (1 : Int) ≤ 3; decide, by show 0 < x.t + 1; omega, ?_⟩
    show (x.ms ++ asks p 5 (x.t + 1) c).length + 1 ≤ _
    have := asks_len (p := p) (kd := 5) (tm := x.t + 1) (c := c)
    rw [List.length_append]
    omega
theorem Ok.campP (h : Ok x n) : Ok (campP p x) (n + 10) := by
  have := h.t0
  have := h.bd
  unfold Mine.campP
  split
  · refine (Ok.campV (n := n + 1) ⟨by show (0 : Int) ≤ 3; decide, by show (3 : Int) ≤ 3; decide, by show 0 < x.t; omega, ?_⟩).mono (by omega)
    show x.ms.length + 1 ≤ _
    omega
  · refine ⟨by show (0 : Int) ≤ 3; decide, by show (3 : Int) ≤ 3; decide, by show 0 < x.t; omega, ?_⟩
    show (x.ms ++ asks p 17 (x.t + 1) false).length + 1 ≤ _
    have := asks_len (p := p) (kd := 17) (tm := x.t + 1) (c := false)
    rw [List.length_append]
    omega
theorem recV_len {w : Vt} {k : Int} {b : Bool} : (recV w k b).length ≤ w.length + 1 := by
  unfold recV
  split
  · omega
  · simp
theorem Ok.pollE (h : Ok x n) : Ok (pollE p x m) (n + 10) := by
  have := h.t0
  have := h.bd
  have hr := recV_len (w := x.w) (k := m.frm) (b := !m.rej)
  have h' : Ok ⟨x.t, x.v, x.s, x.l, x.ms, recV x.w m.frm (!m.rej)⟩ (n + 1) := ⟨h.s0, h.s3, h.t0, by show x.ms.length + (recV x.w m.frm (!m.rej)).length ≤ _; omega⟩
  unfold Mine.pollE
  split
  · unfold wonE
    split
    · exact h'.campV.mono (by omega)
    · refine ⟨by show (0 : Int) ≤ 2; decide, by show (2 : Int) ≤ 3; decide, h.t0, ?_⟩
      show x.ms.length + 0 ≤ _
      omega
  split
  · refine ⟨by show (0 : Int) ≤ 0; decide, by show (0 : Int) ≤ 3; decide, h.t0, ?_⟩
    show x.ms.length + 0 ≤ _
    omega
  · exact h'.mono (by omega)
theorem Ok.stepC (h : Ok x n) : Ok (stepC p x m) (n + 10) := by
  unfold Mine.stepC
  split
  · exact h.pollE
  split
  · exact h.pollE
  · exact h.mono (by omega)
theorem Ok.stepE (h : Ok x n) (hm : 0 ≤ m.term) : Ok (stepE p x m) (n + 10) := by
  have := h.bd
  unfold Mine.stepE
  split
  · exact h.mono (by omega)
  split
  · split
    · exact h.stepC
    · refine ⟨by show (0 : Int) ≤ 0; decide, by show (0 : Int) ≤ 3; decide, by show 0 < m.term; omega, ?_⟩
      show x.ms.length + 0 ≤ _
      omega
  split
  · exact h.mono (by omega)
  · exact h.stepC
end
theorem Fd.lock {p : Par} {ms d d' i : Nat} {σ σ' : Hp} {o : O} (hi : σ[i]? = some o) (f : Fd p ms d (σ.set i .gone) d' σ') : Fd p ms d σ d' (σ'.set i o) := by
  have hl := f.len
  have hn := f.nd
  rw [List.length_set] at hl hn
  refine ⟨fun j q hj h1 h2 h3 h4 => ?_, by rw [List.length_set]; exact hl, hn⟩
  by_cases hij : i = j
  · subst hij
    rw [hi] at hj
    cases hj
    have := lt_of_get hi
    exact List.getElem?_set_self (by omega)
  · exact g_ne (f.keep j q (g_ne hj hij) h1 h2 h3 h4) hij
theorem St.fresh {p : Par} {σ : Hp} {x : Es} {ms d : Nat} (h : St p σ x ms d) {i : Nat} (hi : σ.length ≤ i) : i ≠ ms ∧ i ≠ p.lv ∧ i ≠ p.lo ∧ i ≠ p.ll ∧ i ≠ p.jt ∧ i ≠ p.la := by
  obtain ⟨vs, hv⟩ := h.hm.list
  have a1 := lt_of_get hv
  have a2 := lt_of_get h.a.at'
  have a3 := lt_of_get h.b.at'
  have a4 := lt_of_get h.r.at'
  have a5 := lt_of_get h.eb.hj
  have a6 := lt_of_get h.la
  exact ⟨by omega, by omega, by omega, by omega, by omega, by omega⟩
section
variable {p : Par} {σ σ' σ₀ : Hp} {x : Es} {ms d d' : Nat} {Q : V → Hp → Prop}
/-- the messages of one word, one after the other -/
theorem k_words {iw n : Nat} {ids : List Nat} {Lm : List Msg} {m₀ : Loc} {Qs : Fl → Loc → Hp → Prop} (h : St p σ x ms d) (hi : σ[iw]? = some (.list (ids.map V.obj))) (ha : All2 (fun j m => ∃ en, σ[j]? = some (msgO m en)) ids Lm)
    (hk : ∀ m ∈ Lm, (m.kind = 6 ∨ m.kind = 18) ∧ 0 ≤ m.term) (ok : Ok x n) (hn : n + 10 * Lm.length ≤ 4000) (hne : iw ≠ ms ∧ iw ≠ p.lv ∧ iw ≠ p.lo ∧ iw ≠ p.ll) (m1 : lk m₀ 88 = some (.obj p.e))
    (k : ∀ m' σ' d', (∀ y, y ≠ 135 → lk m' y = lk m₀ y) → St p σ' (Lm.foldl (stepE p) x) ms d' → Fd p ms d σ d' σ' → Qs .next m' σ') : forW iw (.list (ids.map V.obj)) 135 B_msg (ids.map V.obj) m₀ (σ.set iw .gone) Qs := by
  have hjt : iw ≠ p.jt := tag_ne hi h.eb.hj (by walk_at "mt")
  have hla : iw ≠ p.la := tag_ne hi h.la (by walk_at "mt")
  have h0 : St p (σ.set iw .gone) x ms d := h.seti hi (.inl rfl) ⟨hne.1, hne.2.1, hne.2.2.1, hne.2.2.2, hjt, hla⟩
  have hg0 : (σ.set iw .gone)[iw]? = some .gone := g_set hi
  have ha0 : All2 (fun j m => ∃ en, (σ.set iw .gone)[j]? = some (msgO m en)) ids Lm := ha.mono fun j m ⟨en, e⟩ => ⟨en, g_ne e (tag_ne hi e (by walk_at "mt"))⟩
  refine forW_ind (fun vs m σ' => ∃ (ids' : List Nat) (done L' : List Msg) (d' : Nat), vs = ids'.map V.obj ∧ Lm = done ++ L' ∧ All2 (fun j m => ∃ en, σ'[j]? = some (msgO m en)) ids' L' ∧ St p σ' (done.foldl (stepE p) x) ms d' ∧ Fd p ms d (σ.set iw .gone) d' σ' ∧ (∀ y, y ≠ 135 → lk m y = lk m₀ y) ∧ Ok (done.foldl (stepE p) x) (n + 10 * done.length))
    ?_ ?_ _ _ _ ⟨ids, [], Lm, d, rfl, rfl, ha0, h0, .refl, fun _ _ => rfl, ok⟩
  · rintro v r m σ1 K ⟨ids', done, L', d1, hr, hL, hall, h1, f1, hm, ok1⟩ k1 k2
    cases hall with
    | nil => cases hr
    | @cons j mg ids'' L'' hj hrest =>
      obtain ⟨rfl, rfl⟩ := List.cons.inj hr
      obtain ⟨en, hj⟩ := hj
      have hmg := hk mg (by rw [hL]; simp)
      have q0 : lk (put m 135 (.obj j)) 135 = some (.obj j) := lk_eq
      have q1 : lk (put m 135 (.obj j)) 88 = some (.obj p.e) := by rw [lk_put, if_neg (by decide), hm 88 (by decide)]; exact m1
      have he1 := h1.eb
      have hlen : Lm.length = done.length + (L''.length + 1) := by rw [hL]; simp
      have hb := ok1.bd
      delta B_msg
      repeat (first | with_reducible refine r_loc q0 ?_ | with_reducible refine r_loc q1 ?_ | walk_at "mst" | walk_at "meb")
      refine k_step h1 hj hmg.1 ⟨ok1.s0, ok1.s3⟩ ok1.t0 hmg.2 (by omega) (by omega) fun σ2 d2 h2 f2 => ?_
      repeat (first | walk_at "mst")
      refine k1 _ _ ⟨ids'', done ++ [mg], L'', d2, rfl, by rw [hL]; simp, ?_, by rw [List.foldl_append]; exact h2, f1.trans f2, fun y hy => by rw [lk_put, if_neg (Ne.symm hy)]; exact hm y hy, by rw [List.foldl_append, List.length_append]; exact (ok1.stepE hmg.2).mono (by simp; omega)⟩
      refine hrest.mono fun j m ⟨en, e⟩ => ⟨en, f2.keep _ _ e (h1.ne_e e (by walk_at "mt")) (h1.ne_b e (by walk_at "mt")) ?_ (h1.ne_d e (by walk_at "mt"))⟩
      obtain ⟨vs, hv⟩ := h1.hm.list
      exact tag_ne e hv (by walk_at "mt")
  · rintro m σ1 ⟨ids', done, L', d1, hr, hL, hall, h1, f1, hm, ok1⟩
    have hr0 : ids' = [] := by cases ids' with | nil => rfl | cons _ _ => cases hr
    subst hr0
    cases hall
    have hg1 : σ1[iw]? = some .gone := f1.keep _ _ hg0 (h0.ne_e hg0 (by walk_at "mt")) (h0.ne_b hg0 (by walk_at "mt")) hne.1 (h0.ne_d hg0 (by walk_at "mt"))
    refine ⟨hg1, k _ _ d1 hm ?_ (f1.lock hi)⟩
    have e : Lm = done := by rw [hL]; simp
    rw [e]
    exact h1.setg hg1
end
theorem word_ok {way far j t : Int} {pre : Bool} (ht : 0 < t) (hf : 0 ≤ far) : (∀ m ∈ wordM way far pre j t, (m.kind = 6 ∨ m.kind = 18) ∧ 0 ≤ m.term) ∧ (wordM way far pre j t).length ≤ 2 := by
  have o : ∀ (k a b c e : Int) (r s : Bool), (k = 6 ∨ k = 18) → 0 ≤ c → ∀ m ∈ [(⟨k, a, b, c, e, e, r, s⟩ : Msg)], (m.kind = 6 ∨ m.kind = 18) ∧ 0 ≤ m.term := fun k a b c e r s h1 h2 m hm => by rw [List.mem_singleton.mp hm]; exact ⟨h1, h2⟩
  have two : ∀ (k k' a b c c' e : Int) (r r' s : Bool), (k = 6 ∨ k = 18) → (k' = 6 ∨ k' = 18) → 0 ≤ c → 0 ≤ c' → ∀ m ∈ [(⟨k, a, b, c, e, e, r, s⟩ : Msg), ⟨k', a, b, c', e, e, r', s⟩], (m.kind = 6 ∨ m.kind = 18) ∧ 0 ≤ m.term := fun k k' a b c c' e r r' s h1 h1' h2 h2' m hm => by
    rcases List.mem_cons.mp hm with rfl | hm
    · exact ⟨h1, h2⟩
    · rw [List.mem_singleton.mp hm]; exact ⟨h1', h2'⟩
  have hk : ∀ b : Bool, ((if b then (18 : Int) else 6) = 6 ∨ (if b then (18 : Int) else 6) = 18) := fun b => by cases b <;> simp
  have hk' : ∀ b : Bool, ((if b then (6 : Int) else 18) = 6 ∨ (if b then (6 : Int) else 18) = 18) := fun b => by cases b <;> simp
  have hown : ∀ b : Bool, 0 < (if b then t else t + 1) := fun b => by cases b <;> simp <;> omega
  have h1 := hown pre
  unfold wordM
  split
  · exact ⟨o _ _ _ _ _ _ _ (hk pre) (by omega), by simp⟩
  split
  · exact ⟨two _ _ _ _ _ _ _ _ _ _ (hk pre) (hk pre) (by omega) (by omega), by simp⟩
  split
  · exact ⟨two _ _ _ _ _ _ _ _ _ _ (hk pre) (hk pre) (by omega) (by omega), by simp⟩
  split
  · exact ⟨o _ _ _ _ _ _ _ (hk pre) (by omega), by simp⟩
  split
  · exact ⟨o _ _ _ _ _ _ _ (hk pre) (by omega), by simp⟩
  split
  · exact ⟨o _ _ _ _ _ _ _ (hk' pre) (by omega), by simp⟩
  · exact ⟨o _ _ _ _ _ _ _ (hk pre) (by omega), by simp⟩



set_option genSizeOf false in
set_option genInjectivity false in
structure Wp where
  (e ih ir la wl yl ys no en mi cv co cl cn : Nat)
  (hs ws : List Nat)
  (A B : List Int)
  (H : List (List Int))
  (pre : Bool)
  (md t v li lt : Int)
  (wy fr : Int → Int)
  (hM : Option Int)
structure Wd (q : Wp) (σ : Hp) : Prop where
  hv : Hv σ q.ih q.hs q.H
  rest : σ[q.ir]? = some (.list ((restL q.A q.B).map V.int))
  la : σ[q.la]? = some (.tup [.int q.li, .int q.lt])
  wl : σ[q.wl]? = some (.list (q.ws.map V.obj))
  ws : All2 (fun i j => Ml σ i (wordM (q.wy j) (q.fr j) q.pre j q.t)) q.ws [2, 3, 4]
  yl : σ[q.yl]? = some (.list ([2, 3, 4].map fun j => V.int (q.wy j)))
  ys : σ[q.ys]? = some (.list ((yesL q.wy).map V.int))
  no : σ[q.no]? = some (.list ((noL q.wy).map V.int))
  en : σ[q.en]? = some (.tup ((endL q.H q.pre q.t q.v (yesL q.wy) (noL q.wy) q.hM).map V.int))
  mi : Cf σ q.mi q.A q.B (restL q.A q.B) q.cv q.co q.cl q.cn
structure Wc (q : Wp) : Prop where
  hh : Hvs q.A q.B q.H
  t0 : 0 < q.t
  pre : q.pre = decide (q.md = 1)
  hM : hiM (higherL q.t q.wy q.fr) q.hM
  wy : ∀ j, 0 ≤ q.wy j ∧ q.wy j ≤ 6
  fr : ∀ j, 0 ≤ q.fr j
  one : (1 : Int) ∈ q.A ∨ (1 : Int) ∈ q.B
  la : q.A.length ≤ 4
  lb : q.B.length ≤ 4
/-- the kinds of things that the orders leave as they are -/
noncomputable def wtag (o : O) : Prop := o.tag = 1 ∨ o.tag = 142 ∨ o.tag = 252 ∨ o.tag = 2
theorem Wd.keep {q : Wp} {σ σ' : Hp} (h : Wd q σ) (g : ∀ (j : Nat) (o : O), σ[j]? = some o → wtag o → σ'[j]? = some o) : Wd q σ' := by
  have l : ∀ {j : Nat} {vs : List V}, σ[j]? = some (.list vs) → σ'[j]? = some (.list vs) := fun hj => g _ _ hj (.inl rfl)
  have L : ∀ {i : Nat} {A : List Int}, Li σ i A → Li σ' i A := fun h => ⟨l h.at', h.lt, h.so⟩
  exact ⟨⟨l h.hv.at', h.hv.all.mono fun _ _ q => l q, h.hv.off, h.hv.sz⟩, l h.rest, g _ _ h.la (.inr (.inr (.inr rfl))), l h.wl, h.ws.mono fun i j ⟨ids, a, b⟩ => ⟨ids, l a, b.mono fun j m ⟨en, e⟩ => ⟨en, g _ _ e (.inr (.inl rfl))⟩⟩,
    l h.yl, l h.ys, l h.no, g _ _ h.en (.inr (.inr (.inr rfl))), ⟨g _ _ h.mi.at' (.inr (.inr (.inl rfl))), L h.mi.a, L h.mi.b, L h.mi.c, L h.mi.d⟩⟩
theorem wtag_ne {o : O} (h : wtag o) : o.tag ≠ 0 ∧ o.tag ≠ 616 ∧ o.tag ≠ 301 ∧ o.tag ≠ 3 := by
  rcases h with h | h | h | h <;> rw [h] <;> decide
/-- the world, below a size of the heap -/
noncomputable def Wn (q : Wp) (N : Nat) (σ : Hp) : Prop := Wd q (σ.take N)
theorem take_get {σ : Hp} {N j : Nat} {o : O} : (σ.take N)[j]? = some o ↔ j < N ∧ σ[j]? = some o := by
  rw [List.getElem?_take]
  by_cases h : j < N
  · rw [if_pos h]; exact ⟨fun q => ⟨h, q⟩, fun q => q.2⟩
  · rw [if_neg h]; exact ⟨fun q => (by cases q), fun q => absurd q.1 h⟩
section
variable {q : Wp} {N : Nat} {σ σ' : Hp}
theorem Wn.wd (h : Wn q N σ) : Wd q σ := Wd.keep h fun _ _ hj _ => (take_get.mp hj).2
theorem Wn.keep (h : Wn q N σ) (g : ∀ (j : Nat) (o : O), j < N → σ[j]? = some o → wtag o → σ'[j]? = some o) : Wn q N σ' :=
  Wd.keep h fun j o hj ht => take_get.mpr ⟨(take_get.mp hj).1, g j o (take_get.mp hj).1 (take_get.mp hj).2 ht⟩
theorem Wn.ex (h : Wn q N σ) (e : Ex σ σ') : Wn q N σ' := h.keep fun _ _ _ hj _ => e.keep _ _ hj
theorem Wn.set {i : Nat} {o : O} (h : Wn q N σ) (hi : N ≤ i) : Wn q N (σ.set i o) := h.keep fun j o hj hh _ => g_ne hh (by omega)
theorem Wn.fd {p : Par} {x : Es} {ms d d' : Nat} (h : Wn q N σ) (s : St p σ x ms d) (hm : N ≤ ms) (f : Fd p ms d σ d' σ') : Wn q N σ' :=
  h.keep fun j o hj hh ht => f.keep j o hh (s.ne_e hh (wtag_ne ht).2.1) (s.ne_b hh (wtag_ne ht).2.2.1) (by omega) (s.ne_d hh (wtag_ne ht).2.2.2)
end
-- the locals
noncomputable def Wp.locs (q : Wp) : List (Nat × V) := [(88, .obj q.e), (106, .obj q.ih), (123, .int (if q.pre then 17 else 5)), (124, .obj q.la), (138, .bytes (decide (1 < q.md))), (147, .obj q.mi), (150, .int q.md), (153, .obj q.no), (166, .bool q.pre), (177, .obj q.ir), (200, .int q.t), (209, .int q.v), (215, .obj q.yl), (218, .obj q.wl), (221, .obj q.ys), (92, .obj q.en)]
noncomputable def LK : List Nat := [88, 106, 123, 124, 138, 147, 150, 153, 166, 177, 200, 209, 215, 218, 221, 92]
noncomputable def Lo (q : Wp) (m : Loc) : Prop := ∀ a ∈ q.locs, lk m a.1 = some a.2
theorem locs_key {q : Wp} {a : Nat × V} (h : a ∈ q.locs) : a.1 ∈ LK := by
  have : q.locs.map (·.1) = LK := rfl
  rw [← this]
  exact List.mem_map.mpr ⟨a, h, rfl⟩
theorem Lo.mono {q : Wp} {m m' : Loc} (h : Lo q m) (g : ∀ y ∈ LK, lk m' y = lk m y) : Lo q m' := fun a ha => (g _ (locs_key ha)).trans (h a ha)
theorem Lo.put {q : Wp} {m : Loc} {x : Nat} {v : V} (h : Lo q m) (hx : LK.contains x = false) : Lo q (put m x v) := h.mono fun y hy => by
  rw [lk_put, if_neg fun e => ?_]
  subst e
  rw [List.contains_iff_mem.mpr hy] at hx
  cases hx
section
variable {q : Wp} {m : Loc}
theorem Lo.l88 (h : Lo q m) : lk m 88 = some (.obj q.e) := h (88, .obj q.e) (by walk_at "mm")
theorem Lo.l106 (h : Lo q m) : lk m 106 = some (.obj q.ih) := h (106, .obj q.ih) (by walk_at "mm")
theorem Lo.l123 (h : Lo q m) : lk m 123 = some (.int (if q.pre then 17 else 5)) := h (123, .int (if q.pre then 17 else 5)) (by walk_at "mm")
theorem Lo.l124 (h : Lo q m) : lk m 124 = some (.obj q.la) := h (124, .obj q.la) (by walk_at "mm")
theorem Lo.l138 (h : Lo q m) : lk m 138 = some (.bytes (decide (1 < q.md))) := h (138, .bytes (decide (1 < q.md))) (by walk_at "mm")
theorem Lo.l147 (h : Lo q m) : lk m 147 = some (.obj q.mi) := h (147, .obj q.mi) (by walk_at "mm")
theorem Lo.l150 (h : Lo q m) : lk m 150 = some (.int q.md) := h (150, .int q.md) (by walk_at "mm")
theorem Lo.l153 (h : Lo q m) : lk m 153 = some (.obj q.no) := h (153, .obj q.no) (by walk_at "mm")
theorem Lo.l166 (h : Lo q m) : lk m 166 = some (.bool q.pre) := h (166, .bool q.pre) (by walk_at "mm")
theorem Lo.l177 (h : Lo q m) : lk m 177 = some (.obj q.ir) := h (177, .obj q.ir) (by walk_at "mm")
theorem Lo.l200 (h : Lo q m) : lk m 200 = some (.int q.t) := h (200, .int q.t) (by walk_at "mm")
theorem Lo.l209 (h : Lo q m) : lk m 209 = some (.int q.v) := h (209, .int q.v) (by walk_at "mm")
theorem Lo.l215 (h : Lo q m) : lk m 215 = some (.obj q.yl) := h (215, .obj q.yl) (by walk_at "mm")
theorem Lo.l218 (h : Lo q m) : lk m 218 = some (.obj q.wl) := h (218, .obj q.wl) (by walk_at "mm")
theorem Lo.l221 (h : Lo q m) : lk m 221 = some (.obj q.ys) := h (221, .obj q.ys) (by walk_at "mm")
theorem Lo.l92 (h : Lo q m) : lk m 92 = some (.obj q.en) := h (92, .obj q.en) (by walk_at "mm")
end
local macro_rules | `(tactic| walk_at "mlo") => `(tactic| with_reducible first
  | refine r_loc (Lo.l88 (by assumption)) ?_ | refine r_loc (Lo.l106 (by assumption)) ?_ | refine r_loc (Lo.l123 (by assumption)) ?_ | refine r_loc (Lo.l124 (by assumption)) ?_ | refine r_loc (Lo.l138 (by assumption)) ?_ | refine r_loc (Lo.l147 (by assumption)) ?_
  | refine r_loc (Lo.l150 (by assumption)) ?_ | refine r_loc (Lo.l153 (by assumption)) ?_ | refine r_loc (Lo.l166 (by assumption)) ?_ | refine r_loc (Lo.l177 (by assumption)) ?_ | refine r_loc (Lo.l200 (by assumption)) ?_ | refine r_loc (Lo.l209 (by assumption)) ?_
  | refine r_loc (Lo.l215 (by assumption)) ?_ | refine r_loc (Lo.l218 (by assumption)) ?_ | refine r_loc (Lo.l221 (by assumption)) ?_ | refine r_loc (Lo.l92 (by assumption)) ?_)
/-- tuples, and what is out of sight, stay -/
structure Kt (σ σ' : Hp) : Prop where
  keep : ∀ (j : Nat) (o : O), σ[j]? = some o → o.tag = 2 ∨ o.tag = 0 → σ'[j]? = some o
  len : σ.length ≤ σ'.length
theorem Kt.trans {σ σ' σ'' : Hp} (a : Kt σ σ') (b : Kt σ' σ'') : Kt σ σ'' := ⟨fun j o h ht => b.keep j o (a.keep j o h ht) ht, Nat.le_trans a.len b.len⟩
theorem Kt.ex {σ σ' : Hp} (e : Ex σ σ') : Kt σ σ' := ⟨fun j o h _ => e.keep j o h, e.len⟩
theorem Kt.set {σ : Hp} {i : Nat} {o o' : O} (hi : σ[i]? = some o) (ho : o.tag ≠ 2 ∧ o.tag ≠ 0) : Kt σ (σ.set i o') := ⟨fun j q h ht => g_ne h (tag_ne hi h (by omega)), by simp⟩
theorem Kt.fd {p : Par} {σ σ' : Hp} {x : Es} {ms d d' : Nat} (s : St p σ x ms d) (f : Fd p ms d σ d' σ') : Kt σ σ' := by
  refine ⟨fun j o h ht => f.keep j o h (s.ne_e h (by omega)) (s.ne_b h (by omega)) ?_ (s.ne_d h (by omega)), f.len⟩
  obtain ⟨vs, hv⟩ := s.hm.list
  exact tag_ne h hv (by show o.tag ≠ 1; omega)
theorem Kt.lock {σ σ' : Hp} {i : Nat} {o : O} (hi : σ[i]? = some o) (f : Kt (σ.set i .gone) σ') : Kt σ (σ'.set i o) := by
  have hl := f.len
  rw [List.length_set] at hl
  refine ⟨fun j q h ht => ?_, by rw [List.length_set]; exact hl⟩
  by_cases hij : i = j
  · subst hij
    rw [hi] at h
    cases h
    have := lt_of_get hi
    exact List.getElem?_set_self (by omega)
  · exact g_ne (f.keep j q (g_ne h hij) ht) hij
theorem three {k : Int} (hk : 0 ≤ k ∧ k ≤ 2) : ∃ j : Nat, seqIndex? k 3 = some j ∧ (j : Int) = k ∧ j < 3 := by
  have : k = 0 ∨ k = 1 ∨ k = 2 := by omega
  rcases this with rfl | rfl | rfl
  · exact ⟨0, rfl, rfl, by decide⟩
  · exact ⟨1, rfl, rfl, by decide⟩
  · exact ⟨2, rfl, rfl, by decide⟩
theorem get234 {k : Int} {j : Nat} (e : (j : Int) = k) (h : j < 3) : ([2, 3, 4] : List Int)[j]? = some (k + 2) := by
  have : j = 0 ∨ j = 1 ∨ j = 2 := by omega
  rcases this with rfl | rfl | rfl <;> (subst e; rfl)
section
variable {q : Wp} {p : Par} {σ σ' : Hp} {x : Es} {ms d d' n N : Nat} {m : Loc} {Qs : Fl → Loc → Hp → Prop}
/-- what an order keeps between its turns -/
structure Tu (q : Wp) (N : Nat) (p : Par) (σ : Hp) (ms d ei : Nat) (R : Rn) (m : Loc) (n : Nat) : Prop where
  w : Wn q N σ
  st : St p σ R.x ms d
  pe : p.e = q.e
  nm : N ≤ ms
  nl : N ≤ p.lv ∧ N ≤ p.lo ∧ N ≤ p.ll
  ok : Ok R.x n
  ea : σ[ei]? = some (.list (R.early.map V.int))
  en : N ≤ ei ∧ ei ≠ ms ∧ ei ≠ p.lv ∧ ei ≠ p.lo ∧ ei ≠ p.ll
  el : R.early.length ≤ n
  lo : Lo q m
  l89 : lk m 89 = some (.obj ei)
  l158 : lk m 158 = some (.bool R.op)
theorem k_turn {ei : Nat} {R : Rn} {k : Int} (c : Wc q) (T : Tu q N p σ ms d ei R m n) (hk : 0 ≤ k ∧ k ≤ 2) (hn : n ≤ 3000) (hm : lk m 122 = some (.int k))
    (kk : ∀ m' σ' d', Tu q N p σ' ms d' ei (turnR p q.pre q.t q.wy q.fr R (k + 2)) m' (n + 20) → Kt σ σ' → Qs .next m' σ') : B_turn m σ Qs := by
  obtain ⟨j, hj1, hj2, hj3⟩ := three hk
  have w := T.w.wd
  have h234 := get234 hj2 hj3
  have lo := T.lo
  obtain ⟨wi, hwi, hMl⟩ : ∃ wi, q.ws[j]? = some wi ∧ Ml σ wi (wordM (q.wy (k + 2)) (q.fr (k + 2)) q.pre (k + 2) q.t) := by
    have hl := w.ws.length
    have hl' : j < q.ws.length := by rw [hl]; exact hj3
    obtain ⟨b, hb, hr⟩ := w.ws.get (List.getElem?_eq_getElem hl')
    rw [h234] at hb
    cases hb
    exact ⟨_, List.getElem?_eq_getElem hl', hr⟩
  obtain ⟨ids, hli, hall⟩ := hMl
  delta B_turn
  have lenws : (q.ws.map V.obj).length = 3 := by rw [List.length_map, w.ws.length]; rfl
  repeat (first | with_reducible refine r_loc hm ?_ | walk_at "mlo" | walk_at "mst")
  refine r_idxlist (q := j) (v := .obj wi) w.wl (by rw [lenws]; exact hj1) (by rw [List.getElem?_map, hwi]; rfl) ?_
  refine ⟨wi, _, _, rfl, hli, .inl rfl, ?_⟩
  have hwok := word_ok (way := q.wy (k + 2)) (j := k + 2) (pre := q.pre) c.t0 (c.fr (k + 2))
  have hwiN : wi < N := by
    have hl := (show Wd q (σ.take N) from T.w).ws.length
    obtain ⟨b, hb, ids', hr, _⟩ := (show Wd q (σ.take N) from T.w).ws.get hwi
    exact (take_get.mp hr).1
  have hb := T.ok.bd
  refine k_words T.st hli hall hwok.1 T.ok (by have := hwok.2; omega) ⟨by have := T.nm; omega, by have := T.nl; omega, by have := T.nl; omega, by have := T.nl; omega⟩ (by rw [T.pe]; exact lo.l88) fun m1 σ1 d1 hm1 h1 f1 => ?_
  have w1 : Wn q N σ1 := T.w.fd T.st T.nm f1
  have kt1 : Kt σ σ1 := .fd T.st f1
  have ea1 : σ1[ei]? = some (.list (R.early.map V.int)) := f1.keep _ _ T.ea (T.st.ne_e T.ea (by walk_at "mt")) (T.st.ne_b T.ea (by walk_at "mt")) T.en.2.1 (T.st.ne_d T.ea (by walk_at "mt"))
  have lo1 : Lo q m1 := lo.mono fun y hy => hm1 y (fun e => by subst e; exact absurd hy (by decide))
  have k1 : lk m1 122 = some (.int k) := (hm1 122 (by decide)).trans hm
  have a1 : lk m1 89 = some (.obj ei) := (hm1 89 (by decide)).trans T.l89
  have b1 : lk m1 158 = some (.bool R.op) := (hm1 158 (by decide)).trans T.l158
  have lenms := hwok.2
  have ok1 : Ok ((wordM (q.wy (k + 2)) (q.fr (k + 2)) q.pre (k + 2) q.t).foldl (stepE p) R.x) (n + 20) := by
    have gen : ∀ (L : List Msg) (y : Es) (b : Nat), (∀ m ∈ L, 0 ≤ m.term) → Ok y b → Ok (L.foldl (stepE p) y) (b + 10 * L.length) := by
      intro L
      induction L with
      | nil => intro y b _ h; exact h.mono (by simp)
      | cons a L ih =>
        intro y b hm h
        exact (ih _ _ (fun m hm' => hm m (List.mem_cons_of_mem _ hm')) (h.stepE (hm a List.mem_cons_self))).mono (by simp only [List.length_cons]; omega)
    exact (gen _ _ _ (fun m hm => (hwok.1 m hm).2) T.ok).mono (by omega)
  have ww := w1.wd
  -- behind the words: the flag
  have fin2 : ∀ (m2 : Loc) (op : Bool), Lo q m2 → lk m2 122 = some (.int k) → lk m2 89 = some (.obj ei) → lk m2 158 = some (.bool op) → op = (R.op && !(q.wy (k + 2) == 5)) →
      (sSeq (sIf (tAnd [(tVal (eLoc 158)), (tIn false (eBin .Add (eLoc 122) (eV (.int 2))) (eLoc 221))]) (sSeq (sExp (sApp (eLoc 89) (eBin .Add (eLoc 122) (eV (.int 2))))) sNil) sNil) sNil) m2 σ1 Qs := by
    intro m2 op lo2 k2 a2 b2 hop
    have fin3 : (op && (yesL q.wy).any (· == k + 2)) = false → Qs .next m2 σ1 := fun hc => by
      refine kk m2 σ1 d1 ⟨w1, h1, T.pe, T.nm, T.nl, ok1, ?_, T.en, ?_, lo2, a2, by rw [b2, hop]; rfl⟩ kt1
      · show σ1[ei]? = some (.list ((if (R.op && !(q.wy (k + 2) == 5)) && (yesL q.wy).any (· == k + 2) then R.early ++ [k + 2] else R.early).map V.int))
        rw [← hop, hc, if_neg (by decide)]; exact ea1
      · show (if (R.op && !(q.wy (k + 2) == 5)) && (yesL q.wy).any (· == k + 2) then R.early ++ [k + 2] else R.early).length ≤ _
        rw [← hop, hc, if_neg (by decide)]
        have := T.el
        omega
    repeat (first | with_reducible refine r_loc b2 ?_ | walk_at "mst")
    cases op with
    | false =>
      refine r_andf ?_ rfl
      refine r_iff ?_ rfl
      repeat (first | walk_at "mst")
      exact fin3 rfl
    | true =>
      refine r_andt ?_ rfl
      repeat (first | with_reducible refine r_loc k2 ?_ | walk_at "mlo" | walk_at "mst")
      refine r_inlist ww.ys (intsOf_map _) ?_
      cases hy : (yesL q.wy).any (· == k + 2) with
      | false =>
        refine r_andf ?_ rfl
        refine r_iff ?_ rfl
        repeat (first | walk_at "mst")
        exact fin3 (by rw [hy]; rfl)
      | true =>
        refine r_andt ?_ rfl
        repeat (first | with_reducible refine r_loc k2 ?_ | with_reducible refine r_loc a2 ?_ | walk_at "mst")
        refine ⟨⟨_, _, rfl, ea1⟩, ?_⟩
        repeat (first | with_reducible refine r_loc k2 ?_ | with_reducible refine r_loc a2 ?_ | walk_at "mst")
        refine ⟨_, _, rfl, ea1, by rw [List.length_map]; have := T.el; omega, ?_⟩
        repeat (first | walk_at "mst")
        have jt : ei ≠ p.jt := tag_ne ea1 h1.eb.hj (by walk_at "mt")
        have la : ei ≠ p.la := tag_ne ea1 h1.la (by walk_at "mt")
        have e : (turnR p q.pre q.t q.wy q.fr R (k + 2)).early = R.early ++ [k + 2] := by
          show (if (R.op && !(q.wy (k + 2) == 5)) && (yesL q.wy).any (· == k + 2) then R.early ++ [k + 2] else R.early) = _
          rw [← hop, hy]; rfl
        refine kk m2 _ d1 ⟨w1.set T.en.1, h1.seti ea1 (.inl rfl) ⟨T.en.2.1, T.en.2.2.1, T.en.2.2.2.1, T.en.2.2.2.2, jt, la⟩, T.pe, T.nm, T.nl, ok1, ?_, T.en, ?_, lo2, a2, by rw [b2, hop]; rfl⟩ (kt1.trans (.set ea1 (by walk_at "mt")))
        · rw [e, g_set ea1]; simp
        · rw [e, List.length_append]
          have := T.el
          simp only [List.length_cons, List.length_nil]
          omega
  repeat (first | with_reducible refine r_loc k1 ?_ | walk_at "mlo" | walk_at "mst")
  refine r_idxlist (q := j) (v := .int (q.wy (k + 2))) ww.yl (by rw [List.length_map]; exact hj1) (by rw [List.getElem?_map, h234]; rfl) ?_
  repeat (first | walk_at "mst")
  refine r_ifc (fun hc => ?_) (fun hc => ?_)
  · have h5 : q.wy (k + 2) = 5 := by simpa [cmpB] using hc
    refine r_seq ?_
    refine r_asg ?_
    refine r_V ?_
    refine r_next ?_
    refine r_nil ?_
    refine r_next ?_
    exact fin2 _ false (lo1.put rfl) (lk_ne rfl k1) (lk_ne rfl a1) (lk_eq) (by rw [h5]; simp)
  · have h5 : ¬ q.wy (k + 2) = 5 := by simpa [cmpB] using hc
    refine r_nil ?_
    refine r_next ?_
    exact fin2 _ R.op lo1 k1 a1 b1 (by rw [beq_eq_false_iff_ne.mpr h5]; simp)
end



theorem lk_filter_cap {cap : List Nat} {y : Nat} {v : V} (hc : cap.contains y = true) : ∀ {l : Loc}, lk l y = some v → lk (l.filter fun p => cap.contains p.1) y = some v
  | p :: l, h => by
    simp only [lk] at h
    by_cases hp : p.1 = y
    · rw [if_pos hp] at h
      rw [List.filter_cons_of_pos (by rw [hp]; exact hc)]
      simp only [lk, if_pos hp]
      exact h
    · rw [if_neg hp] at h
      by_cases hq : cap.contains p.1 = true
      · rw [List.filter_cons_of_pos (by exact hq)]
        simp only [lk, if_neg hp]
        exact lk_filter_cap hc h
      · rw [List.filter_cons_of_neg (by exact hq)]
        exact lk_filter_cap hc h
theorem lk_inner {cap : List Nat} {y x : Nat} {u v : V} {m : Loc} (hc : cap.contains y = true) (hx : x ≠ y) (h : lk m y = some v) : lk (innerL m x u cap) y = some v := by
  unfold innerL
  simp only [lk, if_neg hx]
  exact lk_filter_cap hc h
theorem lk_inner0 {cap : List Nat} {x : Nat} {u : V} {m : Loc} : lk (innerL m x u cap) x = some u := by unfold innerL; simp [lk]
theorem tups_of {σ : Hp} : ∀ {ids : List Nat} {R : List (List V)}, All2 (fun j r => σ[j]? = some (.tup r)) ids R → tups σ (ids.map V.obj) = some R
  | _, _, .nil => rfl
  | _, _, .cons h r => by
    simp only [List.map_cons, tups]
    rw [h, tups_of r]
    rfl
theorem compat_row (m : Msg) : compatL (rowOf m) (rowOf m) = true := rfl
theorem compat_rows : ∀ L : List Msg, compatLL (L.map rowOf) (L.map rowOf) = true
  | [] => rfl
  | m :: L => by
    show (compatL (rowOf m) (rowOf m) && compatLL (L.map rowOf) (L.map rowOf)) = true
    rw [compat_row, compat_rows L]; rfl
theorem row_inj {a b : Msg} {e e' : Nat} (h : msgO a e = msgO b e') : rowOf a = rowOf b := by
  unfold msgO at h
  simp only [O.inst.injEq, List.cons.injEq, Prod.mk.injEq, V.int.injEq, V.bool.injEq, V.bytes.injEq, true_and] at h
  unfold rowOf
  obtain ⟨h1, h2, h3, h4, h5, h6, _, _, h10⟩ := h
  simp only [h1, h2, h3, h4, h5, h6, h10]
section
variable {q : Wp} {p : Par} {σ σ' : Hp} {x : Es} {ms d d' n N ei : Nat} {m : Loc} {Qs : Fl → Loc → Hp → Prop} {Q : V → Hp → Prop} {R : Rn}
theorem rows_of_msgs {σ' : Hp} : ∀ {ids : List Nat} {L : List Msg} {acc : List V}, All2 (fun j m => ∃ en, σ[j]? = some (msgO m en)) ids L →
    All2 (fun v u => ∃ (j : Nat) (mg : Msg) (en i : Nat), v = .obj j ∧ σ[j]? = some (msgO mg en) ∧ u = .obj i ∧ σ'[i]? = some (.tup (rowOf mg))) (ids.map V.obj) acc → ∃ is : List Nat, acc = is.map V.obj ∧ All2 (fun j r => σ'[j]? = some (.tup r)) is (L.map rowOf)
  | _, _, _, .nil, .nil => ⟨[], rfl, .nil⟩
  | _, _, _, .cons hx hr, .cons h q => by
    obtain ⟨j, mg, en, i, e1, e2, rfl, e4⟩ := h
    cases e1
    obtain ⟨en', hx⟩ := hx
    rw [hx] at e2
    obtain ⟨is, rfl, hh⟩ := rows_of_msgs hr q
    have := row_inj (Option.some.inj e2).symm
    rw [this] at e4
    exact ⟨i :: is, rfl, .cons e4 hh⟩
/-- the messages' rows -/
theorem k_rows {m : Loc} (h : St p σ x ms d) (k : ∀ σ' i, Ex σ σ' → Tl σ' i (x.ms.map rowOf) → Q (.obj i) σ') :
    kComp 135 [] tTrue (eTup (esCons (eAttr (eLoc 135) 123) (esCons (eAttr (eLoc 135) 205) (esCons (eAttr (eLoc 135) 99) (esCons (eAttr (eLoc 135) 200) (esCons (eAttr (eLoc 135) 115) (esCons (eAttr (eLoc 135) 134) (esCons (eAttr (eLoc 135) 84) esNil)))))))) m Q (.obj ms) σ := by
  obtain ⟨ids, hm, ha⟩ := h.hm
  refine k_comp (vs := ids.map V.obj) (f := fun _ => true) (fun v u σ' => ∃ (j : Nat) (mg : Msg) (en i : Nat), v = .obj j ∧ σ[j]? = some (msgO mg en) ∧ u = .obj i ∧ σ'[i]? = some (.tup (rowOf mg))) hm (.inl rfl) ?_ ?_ ?_ ?_
  · intro v hv σ' K hE hK
    exact r_ttrue (hK σ' .refl)
  · intro v hv _ σ' K hE hK
    obtain ⟨j, hj, rfl⟩ := List.mem_map.mp hv
    obtain ⟨mg, hmg, en, hj⟩ := ha.mem j hj
    have hj' : σ'[j]? = some (msgO mg en) := hE.keep _ _ (g_ne hj (tag_ne hm hj (by walk_at "mt")))
    have hj2 := hj'
    unfold msgO at hj2
    repeat (first | with_reducible refine r_loc lk_inner0 ?_ | walk_at "mst")
    refine r_knew rfl ?_
    exact hK _ _ .push ⟨j, mg, en, _, rfl, hj, rfl, g_last⟩
  · rintro v u σ1 σ2 ⟨j, mg, en, i, e1, e2, e3, e4⟩ hE
    exact ⟨j, mg, en, i, e1, e2, e3, hE.keep _ _ e4 (by walk_at "mt")⟩
  · intro acc σ1 hE hacc
    rw [List.filter_eq_self.mpr (fun _ _ => rfl)] at hacc
    obtain ⟨is, rfl, hr⟩ := rows_of_msgs ha hacc
    exact k _ _ (hE.trans .push) ⟨is, g_last, hr.mono fun j r q => g_app q⟩
noncomputable def kNeL (Qt : Bool → Hp → Prop) (a b : V) (σ₂ : Hp) : Prop := ∃ i j xs ys P R, a = .obj i ∧ b = .obj j ∧ σ₂[i]? = some (.list xs) ∧ σ₂[j]? = some (.list ys) ∧ tups σ₂ xs = some P ∧ tups σ₂ ys = some R ∧ (P.length = R.length → compatLL P R = true) ∧ Qt (!decide (P = R)) σ₂
theorem r_neL {W₁ W₂ : EW} {Qt : Bool → Hp → Prop} (h : W₁ m σ fun a σ₁ => W₂ m σ₁ fun b σ₂ => kNeL Qt a b σ₂) : tNeL W₁ W₂ m σ Qt := h
/-- the picked ints of a list, counted -/
theorem k_pick {i ir : Nat} {A B : List Int} (hi : σ[i]? = some (.list (A.map V.int))) (hr : σ[ir]? = some (.list (B.map V.int))) (hne : i ≠ ir) (hm : lk m 177 = some (.obj ir))
    (k : ∀ σ' j, Ex σ σ' → σ'[j]? = some (.list ((A.filter fun j => !(B.any (· == j))).map V.int)) → Q (.obj j) σ') : kComp 117 [177] (tIn true (eLoc 117) (eLoc 177)) (eLoc 117) m Q (.obj i) σ := by
  refine k_compf (f := fun j => !(B.any (· == j))) hi (.inl rfl) ?_ ?_
  · intro n hn σ' K hE hK
    refine r_tin ?_
    refine r_loc lk_inner0 ?_
    refine r_loc (lk_inner rfl (by decide) hm) ?_
    refine r_inlist (hE.keep _ _ (g_ne hr hne)) (intsOf_map B) ?_
    have := hK σ' .refl
    simpa using this
  · intro σ' hE
    exact k _ _ (hE.trans .push) g_last
theorem k_e4 (c : Wc q) (w : Wn q N σ) (h : St p σ x ms d) (lo : Lo q m) (pe : p.e = q.e) (pA : p.come = q.A) (pB : p.goes = q.B)
    (F1 : [x.t, x.v, x.s, x.l] = endL q.H q.pre q.t q.v (yesL q.wy) (noL q.wy) q.hM)
    (F3 : x.s = 3 ∨ (x.s = 1 ∧ q.pre = false) → cnt x.w (some true) (allv q.A q.B) = (((yesL q.wy).filter fun j => !((restL q.A q.B).any (· == j))).length : Int) ∧ cnt x.w (some false) (allv q.A q.B) = (((noL q.wy).filter fun j => !((restL q.A q.B).any (· == j))).length : Int) ∧ jv q.A q.B x.w = 1)
    (hne : q.ys ≠ q.ir ∧ q.no ≠ q.ir) (k : ∀ m' σ', Lo q m' → Ex σ σ' → Qs .next m' σ') : B_e4 m σ Qs := by
  delta B_e4
  have wd := w.wd
  have hen : σ[q.en]? = some (.tup [.int x.t, .int x.v, .int x.s, .int x.l]) := by rw [wd.en, ← F1]; rfl
  have go : x.s = 3 ∨ (x.s = 1 ∧ q.pre = false) → B_tally m σ (kSeq sNil Qs) := fun hc => by
    obtain ⟨f1, f2, f3⟩ := F3 hc
    delta B_tally
    repeat (first | walk_at "mlo" | walk_at "mst")
    refine r_comp ?_
    repeat (first | walk_at "mlo" | walk_at "mst")
    refine k_pick wd.ys wd.rest hne.1 lo.l177 fun σ1 j1 E1 h1 => ?_
    refine r_lenlist h1 ?_
    rw [List.length_map]
    have w1 := (w.ex E1).wd
    have lo1 := lo.put (x := 222) (v := .int (((yesL q.wy).filter fun j => !((restL q.A q.B).any (· == j))).length : Int)) rfl
    repeat (first | walk_at "mlo" | walk_at "mst")
    refine r_comp ?_
    repeat (first | walk_at "mlo" | walk_at "mst")
    refine k_pick w1.no w1.rest hne.2 lo1.l177 fun σ2 j2 E2 h2 => ?_
    refine r_lenlist h2 ?_
    rw [List.length_map]
    have E12 := E1.trans E2
    have lo2 := lo1.put (x := 155) (v := .int (((noL q.wy).filter fun j => !((restL q.A q.B).any (· == j))).length : Int)) rfl
    have a1 : lk (put (put m 222 (.int (((yesL q.wy).filter fun j => !((restL q.A q.B).any (· == j))).length : Int))) 155 (.int (((noL q.wy).filter fun j => !((restL q.A q.B).any (· == j))).length : Int))) 222 = some (.int (((yesL q.wy).filter fun j => !((restL q.A q.B).any (· == j))).length : Int)) := lk_ne rfl lk_eq
    have a2 : lk (put (put m 222 (.int (((yesL q.wy).filter fun j => !((restL q.A q.B).any (· == j))).length : Int))) 155 (.int (((noL q.wy).filter fun j => !((restL q.A q.B).any (· == j))).length : Int))) 155 = some (.int (((noL q.wy).filter fun j => !((restL q.A q.B).any (· == j))).length : Int)) := lk_eq
    generalize put (put m 222 (.int (((yesL q.wy).filter fun j => !((restL q.A q.B).any (· == j))).length : Int))) 155 (.int (((noL q.wy).filter fun j => !((restL q.A q.B).any (· == j))).length : Int)) = m2 at lo2 a1 a2
    have st2 := h.ex E12
    have eb2 := st2.eb
    have le := lo2.l88
    rw [← pe] at le
    refine r_next ?_
    refine r_seq ?_
    refine r_if ?_
    refine r_eqT ?_
    repeat (first | with_reducible refine r_loc le ?_ | walk_at "mst" | walk_at "meb")
    refine c_tally st2 fun r i hi hle => ?_
    rw [pA, pB, f1, f2, f3] at hi
    repeat (first | with_reducible refine r_loc a1 ?_ | with_reducible refine r_loc a2 ?_ | walk_at "mst")
    refine r_knew rfl ?_
    refine r_keqT (g_app hi) g_last rfl ?_
    refine r_iff ?_ (by simp)
    repeat (first | walk_at "mst")
    exact k _ _ lo2 ((E12.trans .push).trans .push)
  have stop : Qs .next m σ := k m σ lo .refl
  repeat (first | walk_at "mlo" | walk_at "mst")
  refine r_idxtup hen rfl rfl ?_
  repeat (first | walk_at "mlo" | walk_at "mst")
  refine ⟨fun hc => ?_, fun hc => ?_⟩
  · refine r_ift ?_ rfl
    exact go (.inl (by simpa [cmpB] using hc))
  · repeat (first | walk_at "mlo" | walk_at "mst")
    refine r_idxtup hen rfl rfl ?_
    repeat (first | walk_at "mlo" | walk_at "mst")
    by_cases h1 : x.s = 1
    · refine r_andt ?_ (by rw [h1]; rfl)
      repeat (first | walk_at "mlo" | walk_at "mst")
      cases hp : q.pre with
      | true =>
        refine r_andf ?_ rfl
        refine ⟨fun e => (by cases e), fun _ => ?_⟩
        refine r_or0 ?_
        refine r_iff ?_ rfl
        repeat (first | walk_at "mst")
        exact stop
      | false =>
        refine r_andt ?_ rfl
        refine r_and0 ?_
        refine ⟨fun _ => ?_, fun e => (by cases e)⟩
        refine r_ift ?_ rfl
        exact go (.inr ⟨h1, hp⟩)
    · refine r_andf ?_ (by simpa [cmpB] using h1)
      refine ⟨fun e => (by cases e), fun _ => ?_⟩
      refine r_or0 ?_
      refine r_iff ?_ rfl
      repeat (first | walk_at "mst")
      exact stop
theorem k_e3 (c : Wc q) (w : Wn q N σ) (h : St p σ x ms d) (lo : Lo q m) (pe : p.e = q.e) (pA : p.come = q.A) (pB : p.goes = q.B)
    (F1 : [x.t, x.v, x.s, x.l] = endL q.H q.pre q.t q.v (yesL q.wy) (noL q.wy) q.hM)
    (F3 : x.s = 3 ∨ (x.s = 1 ∧ q.pre = false) → cnt x.w (some true) (allv q.A q.B) = (((yesL q.wy).filter fun j => !((restL q.A q.B).any (· == j))).length : Int) ∧ cnt x.w (some false) (allv q.A q.B) = (((noL q.wy).filter fun j => !((restL q.A q.B).any (· == j))).length : Int) ∧ jv q.A q.B x.w = 1)
    (hne : q.ys ≠ q.ir ∧ q.no ≠ q.ir) {wi : Nat} (l213 : lk m 213 = some (.obj wi)) (hw : Tl σ wi (x.ms.map rowOf)) (k : ∀ m' σ', Lo q m' → Ex σ σ' → Qs .next m' σ') : B_e3 m σ Qs := by
  delta B_e3
  have eb := h.eb
  have le := lo.l88
  rw [← pe] at le
  refine r_seq ?_
  refine r_if ?_
  refine r_neL ?_
  refine r_comp ?_
  repeat (first | with_reducible refine r_loc le ?_ | walk_at "mst" | walk_at "meb")
  refine k_rows h fun σ1 i1 E1 h1 => ?_
  refine r_loc l213 ?_
  obtain ⟨ids1, a1, b1⟩ := h1
  obtain ⟨ids2, a2, b2⟩ := hw.exg E1.g
  refine ⟨_, _, _, _, _, _, rfl, rfl, a1, a2, tups_of b1, tups_of b2, fun _ => compat_rows _, ?_⟩
  refine r_iff ?_ (by simp)
  refine r_nil ?_
  refine r_next ?_
  exact k_e4 c (w.ex E1) (h.ex E1) lo pe pA pB F1 F3 hne fun m' σ' l e => k m' σ' l (E1.trans e)
end



/-- what the plain law says of the end of an order -/
structure Fin (q : Wp) (R : Rn) : Prop where
  f1 : [R.x.t, R.x.v, R.x.s, R.x.l] = endL q.H q.pre q.t q.v (yesL q.wy) (noL q.wy) q.hM
  f2 : R.x.ms.map rowOf = askedL q.H (if q.pre then 17 else 5) q.t q.li q.lt (decide (1 < q.md)) ++ (if q.pre && winsB q.H R.early then askedL q.H 5 q.t q.li q.lt (decide (1 < q.md)) else [])
  f3 : R.x.s = 3 ∨ (R.x.s = 1 ∧ q.pre = false) → cnt R.x.w (some true) (allv q.A q.B) = (((yesL q.wy).filter fun j => !((restL q.A q.B).any (· == j))).length : Int) ∧ cnt R.x.w (some false) (allv q.A q.B) = (((noL q.wy).filter fun j => !((restL q.A q.B).any (· == j))).length : Int) ∧ jv q.A q.B R.x.w = 1
section
variable {q : Wp} {p : Par} {σ σ' : Hp} {x : Es} {ms d d' n N ei : Nat} {m : Loc} {Qs : Fl → Loc → Hp → Prop} {Q : V → Hp → Prop} {R : Rn}
theorem Wn.off (w : Wn q N σ) {i : Nat} (hi : N ≤ i) : i ≠ q.ih ∧ i ∉ q.hs := Hv.fresh (show Wd q (σ.take N) from w).hv (by rw [List.length_take]; omega)
theorem k_e2 (c : Wc q) (w : Wn q N σ) (h : St p σ R.x ms d) (lo : Lo q m) (pe : p.e = q.e) (pA : p.come = q.A) (pB : p.goes = q.B) (F : Fin q R) (hne : q.ys ≠ q.ir ∧ q.no ≠ q.ir) {wi : Nat} (l213 : lk m 213 = some (.obj wi)) (hw : Tl σ wi (askedL q.H (if q.pre then 17 else 5) q.t q.li q.lt (decide (1 < q.md))))
    (l89 : lk m 89 = some (.obj ei)) (hei : σ[ei]? = some (.list (R.early.map V.int))) (hN : N ≤ ei) (k : ∀ m' σ', Lo q m' → Ex σ σ' → Qs .next m' σ') : B_e2 m σ Qs := by
  delta B_e2
  have f2 := F.f2
  repeat (first | walk_at "mlo" | walk_at "mst")
  cases hp : q.pre with
  | false =>
    refine r_andf ?_ rfl
    refine r_iff ?_ rfl
    refine r_nil ?_
    refine r_next ?_
    refine k_e3 c w h lo pe pA pB F.f1 F.f3 hne l213 ?_ k
    rw [hp] at f2 hw
    rw [f2, show (if (false && winsB q.H R.early) = true then askedL q.H 5 q.t q.li q.lt (decide (1 < q.md)) else []) = [] from rfl, List.append_nil]
    exact hw
  | true =>
    rw [hp] at f2 hw
    refine r_andt ?_ rfl
    repeat (first | with_reducible refine r_loc l89 ?_ | walk_at "mlo" | walk_at "mst")
    refine c_wins w.wd.hv hei (w.off hN) fun σ1 E1 => ?_
    have w1 := w.ex E1
    repeat (first | walk_at "mst")
    cases hw1 : winsB q.H R.early with
    | false =>
      refine r_andf ?_ rfl
      refine r_iff ?_ rfl
      refine r_nil ?_
      refine r_next ?_
      refine k_e3 c w1 (h.ex E1) lo pe pA pB F.f1 F.f3 hne l213 ?_ fun m' σ' l e => k m' σ' l (E1.trans e)
      rw [hw1] at f2
      rw [f2, show (if (true && false) = true then askedL q.H 5 q.t q.li q.lt (decide (1 < q.md)) else []) = [] from rfl, List.append_nil]
      exact hw.exg E1.g
    | true =>
      refine r_andt ?_ rfl
      refine r_and0 ?_
      refine r_ift ?_ rfl
      refine r_seq ?_
      refine r_asg ?_
      refine r_cat ?_
      refine r_loc l213 ?_
      repeat (first | walk_at "mlo" | walk_at "mst")
      refine c_asked w1.wd.hv w1.wd.la fun σ2 i2 E2 h2 _ => ?_
      obtain ⟨ids1, a1, b1⟩ := hw.exg (E1.trans E2).g
      obtain ⟨ids2, a2, b2⟩ := h2
      have len : ∀ kd : Int, (askedL q.H kd q.t q.li q.lt (decide (1 < q.md))).length ≤ 3 := fun kd => by
        unfold askedL
        split
        · simp
        · rw [List.length_map]; exact Nat.le_trans (List.length_filter_le _ _) (by decide)
      refine ⟨_, _, _, _, rfl, rfl, a1, a2, ?_, ?_⟩
      · rw [List.length_append, List.length_map, List.length_map, b1.length, b2.length]
        have := len 5
        have := len (if True then 17 else 5)
        simp only [if_true] at this ⊢
        omega
      refine r_next ?_
      refine r_nil ?_
      refine r_next ?_
      have E3 := (E1.trans E2).trans (.push (r := [O.list (ids1.map V.obj ++ ids2.map V.obj)]))
      refine k_e3 c (w.ex E3) (h.ex E3) (lo.put rfl) pe pA pB F.f1 F.f3 hne (lk_eq) ?_ fun m' σ' l e => k m' σ' l (E3.trans e)
      rw [hw1] at f2
      rw [f2, show (if (true && true) = true then askedL q.H 5 q.t q.li q.lt (decide (1 < q.md)) else []) = askedL q.H 5 q.t q.li q.lt (decide (1 < q.md)) from rfl]
      refine ⟨ids1 ++ ids2, by rw [List.map_append]; exact g_last, (b1.mono fun j r q => g_app q).append (b2.mono fun j r q => g_app q)⟩
theorem k_e1 (c : Wc q) (T : Tu q N p σ ms d ei R m n) (pA : p.come = q.A) (pB : p.goes = q.B) (F : Fin q R) (hne : q.ys ≠ q.ir ∧ q.no ≠ q.ir) (k : ∀ m' σ', Lo q m' → Ex σ σ' → Qs .next m' σ') : B_e1 m σ Qs := by
  delta B_e1
  have lo := T.lo
  have le := lo.l88
  rw [← T.pe] at le
  have eb := T.st.eb
  have hen : σ[q.en]? = some (.tup [.int R.x.t, .int R.x.v, .int R.x.s, .int R.x.l]) := by rw [T.w.wd.en, ← F.f1]; rfl
  refine r_seq ?_
  refine r_if ?_
  refine r_eqT ?_
  repeat (first | with_reducible refine r_loc le ?_ | walk_at "mst" | walk_at "meb")
  refine r_knew rfl ?_
  refine r_loc lo.l92 ?_
  refine r_keqT g_last (g_app hen) rfl ?_
  refine r_iff ?_ (by simp)
  have E0 : Ex σ (σ ++ [O.tup [V.int R.x.t, V.int R.x.v, V.int R.x.s, V.int R.x.l]]) := .push
  have w0 := T.w.ex E0
  repeat (first | walk_at "mlo" | walk_at "mst")
  refine c_asked w0.wd.hv w0.wd.la fun σ1 i1 E1 h1 _ => ?_
  refine r_next ?_
  have E01 := E0.trans E1
  exact k_e2 c (T.w.ex E01) (T.st.ex E01) (lo.put rfl) T.pe pA pB F hne (lk_eq) h1 (lk_ne rfl T.l89) (E01.keep _ _ T.ea) T.en.1 fun m' σ' l e => k m' σ' l (E01.trans e)
theorem Tu.put {z : Nat} {v : V} (T : Tu q N p σ ms d ei R m n) (hx : LK.contains z = false) (h1 : z ≠ 89) (h2 : z ≠ 158) : Tu q N p σ ms d ei R (put m z v) n :=
  { T with lo := T.lo.put hx, l89 := by rw [lk_put, if_neg h1]; exact T.l89, l158 := by rw [lk_put, if_neg h2]; exact T.l158 }
/-- the three turns, and the checks -/
theorem k_bloop {oi : Nat} {a b e : Int} (c : Wc q) (T : Tu q N p σ ms d ei R m 100) (pA : p.come = q.A) (pB : p.goes = q.B) (ho : σ[oi]? = some (.tup [.int a, .int b, .int e])) (hoN : N ≤ oi) (l159 : lk m 159 = some (.obj oi)) (hr : (0 ≤ a ∧ a ≤ 2) ∧ (0 ≤ b ∧ b ≤ 2) ∧ (0 ≤ e ∧ e ≤ 2))
    (F : Fin q ([a + 2, b + 2, e + 2].foldl (turnR p q.pre q.t q.wy q.fr) R)) (hne : q.ys ≠ q.ir ∧ q.no ≠ q.ir) (k : ∀ m' σ' d', Lo q m' → Wn q N σ' → St p σ' ([a + 2, b + 2, e + 2].foldl (turnR p q.pre q.t q.wy q.fr) R).x ms d' → Kt σ σ' → Qs .next m' σ') : B_loop m σ Qs := by
  delta B_loop
  refine r_seq ?_
  refine r_for ?_
  refine r_loc l159 ?_
  refine ⟨oi, _, _, rfl, ho, .inr rfl, ?_⟩
  -- the order put aside
  have nl : ∀ {j : Nat} {vs : List V}, σ[j]? = some (.list vs) → oi ≠ j := fun h => tag_ne ho h (by walk_at "mt")
  have njt : oi ≠ p.jt := fun h => by
    have := T.st.eb.hj
    rw [← h, ho] at this
    simp at this
  have nla : oi ≠ p.la := fun h => by
    have := T.st.la
    rw [← h, ho] at this
    simp at this
  have hg0 : (σ.set oi .gone)[oi]? = some .gone := g_set ho
  have T0 : Tu q N p (σ.set oi .gone) ms d ei R m 100 := by
    obtain ⟨vs, hv⟩ := T.st.hm.list
    exact { T with w := T.w.set hoN, st := T.st.seti ho (.inr rfl) ⟨nl hv, nl T.st.a.at', nl T.st.b.at', nl T.st.r.at', njt, nla⟩, ea := g_ne T.ea (nl T.ea) }
  show B_turn _ _ _
  refine k_turn c (T0.put (z := 122) (v := .int a) rfl (by decide) (by decide)) hr.1 (by decide) (lk_eq) fun m1 σ1 d1 T1 K1 => ?_
  show B_turn _ _ _
  refine k_turn c (T1.put (z := 122) (v := .int b) rfl (by decide) (by decide)) hr.2.1 (by decide) (lk_eq) fun m2 σ2 d2 T2 K2 => ?_
  show B_turn _ _ _
  refine k_turn c (T2.put (z := 122) (v := .int e) rfl (by decide) (by decide)) hr.2.2 (by decide) (lk_eq) fun m3 σ3 d3 T3 K3 => ?_
  have K := (K1.trans K2).trans K3
  have hg3 : σ3[oi]? = some .gone := K.keep _ _ hg0 (.inr rfl)
  refine ⟨hg3, ?_⟩
  refine r_next ?_
  have h3 := T3.st.setg (o := .tup [.int a, .int b, .int e]) hg3
  have T4 : Tu q N p (σ3.set oi (.tup [.int a, .int b, .int e])) ms d3 ei ([a + 2, b + 2, e + 2].foldl (turnR p q.pre q.t q.wy q.fr) R) m3 (100 + 20 + 20 + 20) :=
    { T3 with w := T3.w.set hoN, st := h3, ea := g_ne T3.ea (tag_ne hg3 T3.ea (by walk_at "mt")) }
  refine k_e1 c T4 pA pB F hne fun m' σ' l E => ?_
  exact k m' σ' d3 l (T4.w.ex E) (T4.st.ex E) ((Kt.lock ho K).trans (.ex E))
end

-- the plain law at the law's own things
theorem all3_of {a b c : Int} (h : [a, b, c] ∈ ords) : (2 ≤ a + 2 ∧ a + 2 ≤ 4) ∧ (2 ≤ b + 2 ∧ b + 2 ≤ 4) ∧ (2 ≤ c + 2 ∧ c + 2 ≤ 4) ∧ a ≠ b ∧ a ≠ c ∧ b ≠ c ∧ All3 [a + 2, b + 2, c + 2] := by
  have key : ∀ x y z : Int, (∀ i : Int, i = x ∨ i = y ∨ i = z ↔ i = 2 ∨ i = 3 ∨ i = 4) → All3 [x, y, z] := by
    intro x y z hx i
    rw [mem_any]
    have h := hx i
    by_cases c : i = 2 ∨ i = 3 ∨ i = 4
    · have h1 : i ∈ [x, y, z] := by simpa using h.mpr c
      rw [decide_eq_true h1]
      symm
      simpa [or_assoc] using c
    · have h1 : ¬ i ∈ [x, y, z] := fun q => c (h.mp (by simpa using q))
      rw [decide_eq_false h1]
      symm
      simpa [or_assoc, not_or, and_assoc] using c
  have prm : ∀ l : List Int, l.isPerm [2, 3, 4] = true → All3 l := fun l h i => (List.Perm.any_eq (List.isPerm_iff.mp h)).trans (key 2 3 4 (fun _ => Iff.rfl) i)
  have : (a = 0 ∧ b = 1 ∧ c = 2) ∨ (a = 0 ∧ b = 2 ∧ c = 1) ∨ (a = 1 ∧ b = 0 ∧ c = 2) ∨ (a = 1 ∧ b = 2 ∧ c = 0) ∨ (a = 2 ∧ b = 0 ∧ c = 1) ∨ (a = 2 ∧ b = 1 ∧ c = 0) := by
    simpa [ords] using h
  rcases this with ⟨rfl, rfl, rfl⟩ | ⟨rfl, rfl, rfl⟩ | ⟨rfl, rfl, rfl⟩ | ⟨rfl, rfl, rfl⟩ | ⟨rfl, rfl, rfl⟩ | ⟨rfl, rfl, rfl⟩
  all_goals exact ⟨by decide, by decide, by decide, by decide, by decide, by decide, prm _ (by decide)⟩
section
variable {q : Wp} {p : Par} {x : Es} {a b e : Int}
noncomputable def x2of (q : Wp) (p : Par) (x : Es) : Es := if 1 < q.md then campV p true x else if q.pre then campP p x else campV p false x
theorem fin_of (c : Wc q) (pA : p.come = q.A) (pB : p.goes = q.B) (pl : p.li = q.li ∧ p.lt = q.lt) (hx : x.t = q.t ∧ x.v = q.v ∧ x.ms = []) (ho : [a, b, e] ∈ ords) :
    Fin q ([a + 2, b + 2, e + 2].foldl (turnR p q.pre q.t q.wy q.fr) ⟨x2of q p x, true, [1]⟩) := by
  obtain ⟨ha, hb, he, nab, nae, nbe, h3⟩ := all3_of ho
  have hh : Hvs p.come p.goes q.H := by rw [pA, pB]; exact c.hh
  have one : (1 : Int) ∈ p.come ∨ (1 : Int) ∈ p.goes := by rw [pA, pB]; exact c.one
  have nb : b + 2 ∉ [a + 2] := by simp; omega
  have ne : e + 2 ∉ [a + 2, b + 2] := by simp; omega
  have o1 : (1 : Int) ∉ [a + 2] := by simp; omega
  have o2 : (1 : Int) ∉ [a + 2, b + 2] := by simp; omega
  have hpre := c.pre
  cases hp : q.pre with
  | false =>
    rw [hp] at hpre
    have hm : ¬ q.md = 1 := of_decide_eq_false hpre.symm
    have e2 : x2of q p x = campV p (decide (1 < q.md)) x := by
      unfold x2of
      by_cases h : 1 < q.md
      · rw [if_pos h, decide_eq_true h]
      · rw [if_neg h, hp, decide_eq_false h]; rfl
    rw [e2]
    have I0 := startN (wy := q.wy) (fr := q.fr) (mk := decide (1 < q.md)) hh hx.1 hx.2.2
    have I1 := I0.turn hh c.t0 ha List.not_mem_nil List.not_mem_nil (c.wy _) (c.fr _)
    have I2 := I1.turn hh c.t0 hb nb o1 (c.wy _) (c.fr _)
    have I3 := I2.turn hh c.t0 he ne o2 (c.wy _) (c.fr _)
    obtain ⟨r1, r2, r3, r4⟩ := endN (v := q.v) hh I3 h3 c.hM
    refine ⟨by rw [hp]; exact r1, ?_, fun hs => ?_⟩
    · show List.map rowOf (turnR p false q.t q.wy q.fr _ (e + 2)).x.ms = _
      rw [r2, msN_rows hh, hp, pl.1, pl.2]
      show _ = askedL q.H 5 q.t q.li q.lt (decide (1 < q.md)) ++ []
      rw [List.append_nil]
    · rcases hs with hs | ⟨hs, _⟩
      · exact absurd hs r3
      · have := tally hh one (r4 hs)
        rw [pA, pB] at this
        exact this
  | true =>
    rw [hp] at hpre
    have hm : q.md = 1 := of_decide_eq_true hpre.symm
    have e2 : x2of q p x = campP p x := by
      unfold x2of
      rw [if_neg (by omega), hp]; rfl
    rw [e2]
    have I0 := startP (wy := q.wy) (fr := q.fr) hh hx.1 hx.2.1 hx.2.2
    have I1 := I0.turn hh XwP c.t0 ha List.not_mem_nil List.not_mem_nil (c.wy _) (c.fr _)
    have I2 := I1.turn hh XwP c.t0 hb nb o1 (c.wy _) (c.fr _)
    have I3 := I2.turn hh XwP c.t0 he ne o2 (c.wy _) (c.fr _)
    obtain ⟨r1, r2, r4⟩ := endP hh I3 h3 c.hM
    refine ⟨by rw [hp]; exact r1, ?_, fun hs => ?_⟩
    · show List.map rowOf (turnR p true q.t q.wy q.fr _ (e + 2)).x.ms = _
      rw [r2, hp]
      have hmk : decide (1 < q.md) = false := decide_eq_false (by omega)
      rw [hmk]
      show _ = askedL q.H 17 q.t q.li q.lt false ++ (if winsB q.H (turnR p true q.t q.wy q.fr _ (e + 2)).early then askedL q.H 5 q.t q.li q.lt false else [])
      split
      · rw [List.map_append, msN_rows hh, msN_rows hh, pl.1, pl.2]
      · rw [msN_rows hh, List.append_nil, pl.1, pl.2]
    · rcases hs with hs | ⟨_, hs⟩
      · have := tally hh one (r4 hs)
        rw [pA, pB] at this
        exact this
      · rw [hp] at hs; cases hs
end



section
variable {q : Wp} {p : Par} {σ σ' : Hp} {x : Es} {t v s l : Int} {ms d d' n N ei : Nat} {m : Loc} {Qs : Fl → Loc → Hp → Prop} {Q : V → Hp → Prop} {R : Rn}
/-- all but the elector stays -/
structure Ke (p : Par) (σ σ' : Hp) : Prop where
  keep : ∀ (j : Nat) (o : O), σ[j]? = some o → o.tag ≠ 616 → o.tag ≠ 301 → σ'[j]? = some o
  len : σ.length ≤ σ'.length
theorem Ke.trans {σ'' : Hp} (a : Ke p σ σ') (b : Ke p σ' σ'') : Ke p σ σ'' := ⟨fun j o h h1 h2 => b.keep j o (a.keep j o h h1 h2) h1 h2, Nat.le_trans a.len b.len⟩
theorem Ke.of (h : EB p σ t v s l ms d) (g : ∀ (j : Nat) (o : O), σ[j]? = some o → j ≠ p.e → j ≠ p.b → σ'[j]? = some o) (hl : σ.length ≤ σ'.length) : Ke p σ σ' := by
  refine ⟨fun j o hj h1 h2 => g j o hj ?_ ?_, hl⟩
  · obtain ⟨_, _, _, _, _, e⟩ := h.he
    exact tag_ne hj e h1
  · exact tag_ne hj h.hb h2
theorem Ke.wn (k : Ke p σ σ') (w : Wn q N σ) : Wn q N σ' := w.keep fun j o _ hj ht => k.keep j o hj (wtag_ne ht).2.1 (wtag_ne ht).2.2.1
theorem Ke.kt (k : Ke p σ σ') : Kt σ σ' := ⟨fun j o hj ht => k.keep j o hj (by omega) (by omega), k.len⟩
/-- new messages' list -/
theorem k_newms (le : lk m 88 = some (.obj p.e)) (h : EB p σ t v s l ms d) (k : ∀ σ', EB p σ' t v s l σ.length d → σ'[σ.length]? = some (.list []) → Ke p σ σ' → Qs .next m σ') : sSet (eList esNil) (eLoc 88) 148 m σ Qs := by
  repeat (first | with_reducible refine r_loc le ?_ | walk_at "mst")
  refine r_knew rfl ?_
  repeat (first | with_reducible refine r_loc le ?_ | walk_at "mst")
  have h1 : EB p (σ ++ [O.list []]) t v s l ms d := h.push
  refine h1.s_ms .refl fun σ2 h2 f2 g2 => ?_
  have hn : σ.length ≠ p.e := by
    obtain ⟨_, _, _, _, _, e⟩ := h.he
    have := lt_of_get e
    omega
  exact k σ2 h2 (g2 _ _ g_last hn) (.of h (fun j o hj h1 _ => g2 _ _ (g_app hj) h1) (Nat.le_trans (by simp) f2.len))
theorem St.newms (h : St p σ x ms d) (e : EB p σ' x.t x.v x.s x.l σ.length d) (hl : σ'[σ.length]? = some (.list [])) (k : Ke p σ σ') : St p σ' ⟨x.t, x.v, x.s, x.l, [], x.w⟩ σ.length d := by
  have f := h.fresh (Nat.le_refl _)
  have L : ∀ {i : Nat} {A : List Int}, Li σ i A → Li σ' i A := fun h => ⟨k.keep _ _ h.at' (by walk_at "mt") (by walk_at "mt"), h.lt, h.so⟩
  exact ⟨h.pw, e, k.keep _ _ h.hd (by walk_at "mt") (by walk_at "mt"), ⟨[], hl, .nil⟩, k.keep _ _ h.hc (by walk_at "mt") (by walk_at "mt"), L h.a, L h.b, L h.r, k.keep _ _ h.la (by walk_at "mt") (by walk_at "mt"), ⟨f.2.1, f.2.2.1, f.2.2.2.1⟩⟩
/-- what stands before the asking -/
structure Go (q : Wp) (N : Nat) (p : Par) (σ : Hp) (x : Es) (ms d : Nat) (m : Loc) (oi : Nat) : Prop where
  w : Wn q N σ
  st : St p σ x ms d
  pe : p.e = q.e
  pA : p.come = q.A
  pB : p.goes = q.B
  pl : p.li = q.li ∧ p.lt = q.lt
  pv : p.pv = (decide (q.md = 1) || decide (q.md = 2))
  nm : N ≤ ms
  nl : N ≤ p.lv ∧ N ≤ p.lo ∧ N ≤ p.ll
  lo : Lo q m
  l159 : lk m 159 = some (.obj oi)
  on : N ≤ oi
  xt : x.t = q.t
  xv : x.v = q.v
  xm : x.ms = []
  xs : x.s = 0 ∨ (q.pre = true ∧ x.s = 3)
  xw : x.w.length ≤ 5
theorem Go.ok (G : Go q N p σ x ms d m n) (c : Wc q) : Ok x 5 := ⟨by have := G.xs; omega, by have := G.xs; omega, by rw [G.xt]; exact c.t0, by rw [G.xm]; have := G.xw; simpa using this⟩
theorem k_go {oi : Nat} {a b e : Int} (c : Wc q) (G : Go q N p σ x ms d m oi) (ho : σ[oi]? = some (.tup [.int a, .int b, .int e])) (hr : [a, b, e] ∈ ords) (hne : q.ys ≠ q.ir ∧ q.no ≠ q.ir)
    (k : ∀ m' σ' x' ms' d', Lo q m' → Wn q N σ' → St p σ' x' ms' d' → Kt σ σ' → Qs .next m' σ') : B_go m σ Qs := by
  have lo := G.lo
  have le := lo.l88
  rw [← G.pe] at le
  have ok := G.ok c
  -- behind the asking
  have fin : ∀ σ1 d1, St p σ1 (x2of q p x) ms d1 → Fd p ms d σ d1 σ1 → (sSeq (sAsg 89 (eList (esCons (eV (.int 1)) esNil))) (sSeq (sAsg 158 (eV (.bool true))) B_loop)) m σ1 Qs := by
    intro σ1 d1 h1 f1
    have w1 := G.w.fd G.st G.nm f1
    have k1 : Kt σ σ1 := .fd G.st f1
    have w1N : N ≤ σ1.length := by
      have := lt_of_get (h1.hm.list).choose_spec
      have := G.nm
      omega
    repeat (first | walk_at "mst")
    refine r_knew rfl ?_
    refine r_next ?_
    refine r_seq ?_
    refine r_asg ?_
    refine r_V ?_
    refine r_next ?_
    have E : Ex σ1 (σ1 ++ [O.list [V.int 1]]) := .push
    have fr := h1.fresh (Nat.le_refl _)
    have ok2 : Ok (x2of q p x) 15 := by
      unfold x2of
      split
      · exact ok.campV.mono (by decide)
      split
      · exact ok.campP
      · exact ok.campV.mono (by decide)
    have T : Tu q N p (σ1 ++ [O.list [V.int 1]]) ms d1 σ1.length ⟨x2of q p x, true, [1]⟩ (put (put m 89 (.obj σ1.length)) 158 (.bool true)) 100 :=
      ⟨w1.ex E, h1.ex E, G.pe, G.nm, G.nl, ok2.mono (by decide), g_last, ⟨w1N, fr.1, fr.2.1, fr.2.2.1, fr.2.2.2.1⟩, by show ([1] : List Int).length ≤ 100; decide, (lo.put rfl).put rfl, lk_ne rfl lk_eq, lk_eq⟩
    obtain ⟨ra, rb, re, _, _, _, _⟩ := all3_of hr
    refine k_bloop (a := a) (b := b) (e := e) c T G.pA G.pB (g_app (k1.keep _ _ ho (.inl rfl))) G.on (lk_ne rfl (lk_ne rfl G.l159)) ⟨by omega, by omega, by omega⟩ (fin_of c G.pA G.pB G.pl ⟨G.xt, G.xv, G.xm⟩ hr) hne fun m' σ' d' l w s kt => ?_
    exact k m' σ' _ _ d' l w s ((k1.trans (.ex E)).trans kt)
  delta B_go
  repeat (first | walk_at "mlo" | walk_at "mst")
  have hms : x.ms.length ≤ 4000 := by rw [G.xm]; decide
  refine r_ifc (fun hc => ?_) (fun hc => ?_)
  · have hmd : 1 < q.md := by simpa [cmpB] using hc
    repeat (first | with_reducible refine r_loc le ?_ | walk_at "mlo" | walk_at "mst" | walk_at "meb")
    have eb := G.st.eb
    repeat (first | with_reducible refine r_loc le ?_ | walk_at "mlo" | walk_at "mst" | walk_at "meb")
    refine c_msg g_last fun σ1 en hm1 kp1 => ⟨rfl, ?_⟩
    have E1 : Ex σ σ1 := Ex.push.of kp1 (Nat.le_refl _)
    have h1 := G.st.ex E1
    repeat (first | walk_at "mst")
    have hs0 : x.s = 0 := by
      rcases G.xs with h | ⟨h, _⟩
      · exact h
      · rw [c.pre] at h
        have := of_decide_eq_true h
        omega
    refine k_step_tn h1 hm1 rfl G.xt.symm hs0 (by rw [G.xt]; exact c.t0) hms fun σ2 d2 h2 f2 => ?_
    refine r_next ?_
    refine r_nil ?_
    refine r_next ?_
    refine fin σ2 d2 ?_ ((Fd.ex E1).trans f2)
    unfold x2of
    rw [if_pos hmd]
    exact h2
  · have hmd : ¬ 1 < q.md := by simpa [cmpB] using hc
    have eb := G.st.eb
    repeat (first | with_reducible refine r_loc le ?_ | walk_at "mlo" | walk_at "mst" | walk_at "meb")
    refine c_msg g_last fun σ1 en hm1 kp1 => ⟨rfl, ?_⟩
    have E1 : Ex σ σ1 := Ex.push.of kp1 (Nat.le_refl _)
    have h1 := G.st.ex E1
    repeat (first | walk_at "mst")
    refine k_step_hup h1 hm1 rfl rfl (by have := G.xs; omega) (by rw [G.xt]; exact Int.le_of_lt c.t0) hms fun σ2 d2 h2 f2 => ?_
    refine r_next ?_
    refine r_nil ?_
    refine r_next ?_
    refine fin σ2 d2 ?_ ((Fd.ex E1).trans f2)
    unfold x2of
    rw [if_neg hmd, c.pre]
    have hpv := G.pv
    have h2' : decide (q.md = 2) = false := decide_eq_false (by omega)
    rw [h2', Bool.or_false] at hpv
    rw [hpv] at h2
    exact h2
theorem Go.ex {oi : Nat} (G : Go q N p σ x ms d m oi) (E : Ex σ σ') : Go q N p σ' x ms d m oi := { G with w := G.w.ex E, st := G.st.ex E }
theorem k_pre {oi : Nat} {a b e : Int} (c : Wc q) (G : Go q N p σ x ms d m oi) (h0 : x.s = 0) (ho : σ[oi]? = some (.tup [.int a, .int b, .int e])) (hr : [a, b, e] ∈ ords) (hne : q.ys ≠ q.ir ∧ q.no ≠ q.ir)
    (k : ∀ m' σ' x' ms' d', Lo q m' → Wn q N σ' → St p σ' x' ms' d' → Kt σ σ' → Qs .next m' σ') : B_pre m σ Qs := by
  have lo := G.lo
  have le := lo.l88
  rw [← G.pe] at le
  have go : ∀ σ1, Ex σ σ1 → B_go m σ1 Qs := fun σ1 E => k_go c (G.ex E) (E.keep _ _ ho) hr hne fun m' σ' x' ms' d' l w s kt => k m' σ' x' ms' d' l w s ((Kt.ex E).trans kt)
  delta B_pre
  repeat (first | walk_at "mlo" | walk_at "mst")
  cases hp : q.pre with
  | false =>
    refine r_andf ?_ rfl
    refine r_iff ?_ rfl
    refine r_nil ?_
    refine r_next ?_
    exact go σ .refl
  | true =>
    have hmd : q.md = 1 := by
      have := c.pre
      rw [hp] at this
      exact of_decide_eq_true this.symm
    refine r_andt ?_ rfl
    refine r_and ?_
    refine r_eqT ?_
    refine r_loc G.l159 ?_
    repeat (first | walk_at "mst")
    refine r_knew rfl ?_
    refine r_keqT (g_app ho) g_last rfl ?_
    have E1 : Ex σ (σ ++ [O.tup [V.int 0, V.int 1, V.int 2]]) := .push
    refine ⟨fun hc => ?_, fun hc => ?_⟩
    · repeat (first | walk_at "mlo" | walk_at "mst")
      refine r_knew rfl ?_
      repeat (first | walk_at "mst")
      have E2 := E1.trans (.push (r := [O.list [V.int 1]]))
      have w2 := G.w.ex E2
      have NL : N ≤ (σ ++ [O.tup [V.int 0, V.int 1, V.int 2]]).length := by
        have := lt_of_get ho
        have := G.on
        simp
        omega
      refine c_wins (who := [1]) w2.wd.hv g_last (w2.off NL) fun σ3 E3 => ?_
      repeat (first | walk_at "mst")
      have E23 := E2.trans E3
      cases hw : winsB q.H [1] with
      | true =>
        refine r_andf ?_ rfl
        refine r_iff ?_ rfl
        refine r_nil ?_
        refine r_next ?_
        exact go σ3 E23
      | false =>
        refine r_andt ?_ rfl
        refine r_and0 ?_
        refine r_ift ?_ rfl
        have hms : x.ms.length ≤ 4000 := by rw [G.xm]; decide
        have hpv : p.pv = true := by rw [G.pv, hmd]; rfl
        have eb3 := (G.st.ex E23).eb
        repeat (first | with_reducible refine r_loc le ?_ | walk_at "mlo" | walk_at "mst" | walk_at "meb")
        refine c_msg g_last fun σ4 en hm4 kp4 => ⟨rfl, ?_⟩
        have E4 : Ex σ σ4 := (E23.trans .push).of kp4 E23.len
        have h4 := G.st.ex E4
        repeat (first | walk_at "mst")
        refine k_step_hup h4 hm4 rfl rfl (by omega) (by rw [G.xt]; exact Int.le_of_lt c.t0) hms fun σ5 d5 h5 f5 => ?_
        rw [hpv, if_pos rfl] at h5
        have eb5 := h5.eb
        repeat (first | with_reducible refine r_loc le ?_ | walk_at "mlo" | walk_at "mst" | walk_at "meb")
        refine c_says fun σ6 i6 en6 E6 hm6 _ => ?_
        have h6 := h5.ex E6
        have okp : Ok (campP p x) 15 := (G.ok c).campP
        have hb := okp.bd
        repeat (first | walk_at "mst")
        refine k_step h6 hm6 (.inr rfl) ⟨okp.s0, okp.s3⟩ okp.t0 (Int.le_of_lt c.t0) (by omega) (by omega) fun σ7 d7 h7 f7 => ?_
        have hh : Hvs p.come p.goes q.H := by rw [G.pA, G.pB]; exact c.hh
        obtain ⟨w7, s7, ms7, e7, hs7, hw7⟩ := before hh (by rw [← one_wins]; exact hw) c.t0 ⟨G.xt, G.xv⟩
        rw [e7] at h7
        refine r_next ?_
        refine r_seq ?_
        refine k_newms le h7.eb fun σ8 e8 hl8 k8 => ?_
        refine r_next ?_
        refine r_nil ?_
        refine r_next ?_
        have F7 := ((Fd.ex E4).trans f5).trans ((Fd.ex E6).trans f7)
        have kt8 : Kt σ σ8 := (Kt.fd G.st F7).trans k8.kt
        refine k_go c (x := ⟨q.t, q.v, s7, 0, [], w7⟩) (oi := oi) ⟨k8.wn (G.w.fd G.st G.nm F7), h7.newms e8 hl8 k8, G.pe, G.pA, G.pB, G.pl, G.pv, ?_, G.nl, lo, G.l159, G.on, rfl, rfl, rfl, ?_, by show w7.length ≤ 5; omega⟩ (kt8.keep _ _ ho (.inl rfl)) hr hne fun m' σ' x' ms' d' l w s kt => k m' σ' x' ms' d' l w s (kt8.trans kt)
        · have := F7.len
          have := lt_of_get ho
          have := G.on
          omega
        · rcases hs7 with h | h
          · exact .inl h
          · exact .inr ⟨hp, h⟩
    · refine r_iff ?_ rfl
      refine r_nil ?_
      refine r_next ?_
      exact go _ E1
end



section
variable {q : Wp} {p : Par} {σ σ' : Hp} {x : Es} {t v s l : Int} {ms d d' n N ei : Nat} {m : Loc} {Qs : Fl → Loc → Hp → Prop} {Q : V → Hp → Prop} {R : Rn}
theorem EB.setl {i : Nat} {vs : List V} {o : O} (h : EB p σ t v s l ms d) (hi : σ[i]? = some (.list vs)) : EB p (σ.set i o) t v s l ms d := by
  obtain ⟨cf, ee, hh, to, dr, e⟩ := h.he
  exact ⟨⟨cf, ee, hh, to, dr, g_ne e (tag_ne hi e (by walk_at "mt"))⟩, g_ne h.hb (tag_ne hi h.hb (by walk_at "mt")), g_ne h.hj (tag_ne hi h.hj (by walk_at "mt"))⟩
theorem k_order {oi : Nat} {a b e : Int} (c : Wc q) (w : Wn q N σ) (h : EB p σ t v s l ms d) (pe : p.e = q.e) (pv : p.pv = (decide (q.md = 1) || decide (q.md = 2))) (lo : Lo q m) (l159 : lk m 159 = some (.obj oi)) (on : N ≤ oi) (ho : σ[oi]? = some (.tup [.int a, .int b, .int e])) (hr : [a, b, e] ∈ ords) (hne : q.ys ≠ q.ir ∧ q.no ≠ q.ir)
    (k : ∀ m' σ' p' x' ms' d', Lo q m' → Wn q N σ' → St p' σ' x' ms' d' → p'.e = q.e → p'.pv = p.pv → Kt σ σ' → Qs .next m' σ') : B_order m σ Qs := by
  delta B_order
  have le := lo.l88
  rw [← pe] at le
  repeat (first | with_reducible refine r_loc le ?_ | walk_at "mlo" | walk_at "mst" | walk_at "meb")
  refine c_bf h fun σ1 d1 h1 f1 hd1 ld1 => ?_
  have K1 : Ke p σ σ1 := .of h (fun j o hj a b => f1.keep j o hj a b) f1.len
  have w1 := K1.wn w
  repeat (first | with_reducible refine r_loc le ?_ | walk_at "mlo" | walk_at "mst" | walk_at "meb")
  refine c_stand h1 w1.wd.mi w1.wd.la fun σ2 c2 v2 o2 l2 n2 h2 cf2 hl2 g2 len2 => ?_
  have K2 : Ke p σ1 σ2 := .of h1 g2 len2
  have hd2 := K2.keep _ _ hd1 (by walk_at "mt") (by walk_at "mt")
  have K12 := K1.trans K2
  refine r_next ?_
  refine r_seq ?_
  refine k_newms (p := ⟨p.e, p.b, c2, v2, o2, l2, n2, p.jt, q.la, p.pv, q.A, q.B, restL q.A q.B, q.li, q.lt⟩) le h2 fun σ3 h3 hl3 k3 => ?_
  have K3 : Ke p σ σ3 := K12.trans ⟨k3.keep, k3.len⟩
  have w3 := K3.wn w
  have L : ∀ {i : Nat} {A : List Int}, Li σ2 i A → Li σ3 i A := fun h => ⟨k3.keep _ _ h.at' (by walk_at "mt") (by walk_at "mt"), h.lt, h.so⟩
  have hN : N ≤ σ.length := by
    have := lt_of_get ho
    omega
  have hl1 : σ.length ≤ σ1.length := K1.len
  have lt2 : σ.length ≤ σ2.length := K12.len
  have a1 := lt_of_get cf2.a.at'
  have a2 := lt_of_get cf2.b.at'
  have a3 := lt_of_get cf2.c.at'
  have rl : (restL q.A q.B).length ≤ 4 := by
    unfold restL
    exact Nat.le_trans (List.length_filter_le _ _) (by decide)
  have S3 : St ⟨p.e, p.b, c2, v2, o2, l2, n2, p.jt, q.la, p.pv, q.A, q.B, restL q.A q.B, q.li, q.lt⟩ σ3 ⟨q.t, q.v, 0, 0, [], []⟩ σ2.length d1 := by
    refine ⟨⟨c.hh.a, c.hh.b, c.la, c.lb, rl, c.one⟩, ?_, k3.keep _ _ hd2 (by walk_at "mt") (by walk_at "mt"), ⟨[], hl3, .nil⟩, k3.keep _ _ cf2.at' (by walk_at "mt") (by walk_at "mt"), L cf2.a, L cf2.b, L cf2.c, w3.wd.la, ⟨by show σ2.length ≠ v2; omega, by show σ2.length ≠ o2; omega, by show σ2.length ≠ l2; omega⟩⟩
    exact h3
  refine r_next ?_
  refine k_pre (oi := oi) c ⟨w3, S3, pe, rfl, rfl, ⟨rfl, rfl⟩, pv, by omega, ⟨by show N ≤ v2; omega, by show N ≤ o2; omega, by show N ≤ l2; omega⟩, lo, l159, on, rfl, rfl, rfl, .inl rfl, Nat.zero_le _⟩ rfl (K3.kt.keep _ _ ho (.inl rfl)) hr hne fun m' σ' x' ms' d' lo' w' s' kt' => ?_
  exact k m' σ' _ x' ms' d' lo' w' s' pe rfl (K3.kt.trans kt')
theorem k_orders (c : Wc q) (w : Wd q σ) (h : EB p σ t v s l ms d) (pe : p.e = q.e) (pv : p.pv = (decide (q.md = 1) || decide (q.md = 2))) (lo : Lo q m) (hne : q.ys ≠ q.ir ∧ q.no ≠ q.ir)
    (k : ∀ m' σ', Qs (.ret (.bool true)) m' σ') : L_orders m σ Qs := by
  delta L_orders
  refine r_seq ?_
  refine r_for ?_
  refine r_call ?_
  refine r_esn ?_
  refine c_orders fun σ1 oi ids E1 hoi hall hb l1 => ?_
  have w1 : Wn q σ.length σ1 := (show Wn q σ.length σ by unfold Wn; rw [List.take_length]; exact w).ex E1
  refine ⟨oi, _, _, rfl, hoi, .inl rfl, ?_⟩
  have hg : (σ1.set oi .gone)[oi]? = some .gone := g_set hoi
  refine forW_ind (fun vs m' σ' => ∃ (ids' : List Nat) (rows : List (List Int)) (p' : Par) (t' v' s' l' : Int) (ms' d' : Nat), vs = ids'.map V.obj ∧ All2 (fun j r => σ'[j]? = some (.tup r)) ids' (rows.map fun o => o.map V.int) ∧ (∀ r ∈ rows, r ∈ ords) ∧ (∀ j ∈ ids', σ.length ≤ j) ∧
    Lo q m' ∧ Wn q σ.length σ' ∧ EB p' σ' t' v' s' l' ms' d' ∧ p'.e = q.e ∧ p'.pv = p.pv ∧ σ'[oi]? = some .gone) ?_ ?_ _ _ _ ?_
  · rintro vv vr m2 σ2 K ⟨ids', rows, p', t', v', s', l', ms', d', hr, hall2, hrows, hids, lo2, w2, h2, pe2, pv2, hg2⟩ k1 _
    cases ids' with
    | nil => cases hr
    | cons j ids' =>
      obtain ⟨rfl, rfl⟩ := List.cons.inj hr
      cases rows with
      | nil => cases hall2
      | cons r rows =>
        cases hall2 with
        | cons hj hrest =>
          have hr0 := hrows r List.mem_cons_self
          obtain ⟨a, b, e, rfl⟩ : ∃ a b e, r = [a, b, e] := by
            simp only [ords, List.mem_cons, List.not_mem_nil, or_false] at hr0
            rcases hr0 with rfl | rfl | rfl | rfl | rfl | rfl <;> exact ⟨_, _, _, rfl⟩
          refine k_order c w2 h2 pe2 (pv2.trans pv) (lo2.put (x := 159) rfl) (lk_eq) (hids j List.mem_cons_self) hj hr0 hne fun m3 σ3 p3 x3 ms3 d3 lo3 w3 st3 pe3 pv3 kt3 => ?_
          refine k1 _ _ ⟨ids', rows, p3, _, _, _, _, ms3, d3, rfl, ?_, fun r hr => hrows r (List.mem_cons_of_mem _ hr), fun j hj => hids j (List.mem_cons_of_mem _ hj), lo3, w3, st3.eb, pe3, pv3.trans pv2, kt3.keep _ _ hg2 (.inr rfl)⟩
          exact hrest.mono fun j r q => kt3.keep _ _ q (.inl rfl)
  · rintro m2 σ2 ⟨ids', rows, p', t', v', s', l', ms', d', hr, _, _, _, _, _, _, _, _, hg2⟩
    refine ⟨hg2, ?_⟩
    repeat (first | walk_at "mst")
    exact k _ _
  · refine ⟨ids, ords, p, t, v, s, l, ms, d, rfl, hall.mono fun j r q => g_ne q (tag_ne hoi q (by walk_at "mt")), fun _ h => h, hb, lo, w1.set l1, (h.keep fun j o hj _ => E1.keep j o hj).setl hoi, pe, rfl, hg⟩
end



/-- the world before the elector is made -/
structure W0 (q : Wp) (ia ib hg : Nat) (σ : Hp) : Prop where
  hv : Hv σ q.ih q.hs q.H
  la : σ[q.la]? = some (.tup [.int q.li, .int q.lt])
  wl : σ[q.wl]? = some (.list (q.ws.map V.obj))
  ws : All2 (fun i j => Ml σ i (wordM (q.wy j) (q.fr j) q.pre j q.t)) q.ws [2, 3, 4]
  yl : σ[q.yl]? = some (.list ([2, 3, 4].map fun j => V.int (q.wy j)))
  ys : σ[q.ys]? = some (.list ((yesL q.wy).map V.int))
  no : σ[q.no]? = some (.list ((noL q.wy).map V.int))
  a : Li σ ia q.A
  b : Li σ ib q.B
  r : Li σ q.ir (restL q.A q.B)
  hg : σ[hg]? = some (.list ((higherL q.t q.wy q.fr).map V.int))
theorem W0.ex {q : Wp} {ia ib hg : Nat} {σ σ' : Hp} (h : W0 q ia ib hg σ) (e : Ex σ σ') : W0 q ia ib hg σ' :=
  ⟨h.hv.ex e, e.keep _ _ h.la, e.keep _ _ h.wl, h.ws.mono fun i j ⟨ids, a, b⟩ => ⟨ids, e.keep _ _ a, b.mono fun j m ⟨en, q⟩ => ⟨en, e.keep _ _ q⟩⟩, e.keep _ _ h.yl, e.keep _ _ h.ys, e.keep _ _ h.no, h.a.ex e, h.b.ex e, h.r.ex e, e.keep _ _ h.hg⟩
noncomputable def locs0 (q : Wp) (ia ib hg : Nat) : List (Nat × V) := [(106, .obj q.ih), (124, .obj q.la), (150, .int q.md), (153, .obj q.no), (166, .bool q.pre), (177, .obj q.ir), (200, .int q.t), (209, .int q.v), (215, .obj q.yl), (218, .obj q.wl), (221, .obj q.ys), (79, .obj ia), (103, .obj ib), (110, .obj hg)]
noncomputable def LK0 : List Nat := [106, 124, 150, 153, 166, 177, 200, 209, 215, 218, 221, 79, 103, 110]
noncomputable def L0 (q : Wp) (ia ib hg : Nat) (m : Loc) : Prop := ∀ a ∈ locs0 q ia ib hg, lk m a.1 = some a.2
section
variable {q : Wp} {ia ib hg : Nat} {m m' : Loc} {σ : Hp} {Qs : Fl → Loc → Hp → Prop}
theorem L0.mono (h : L0 q ia ib hg m) (g : ∀ y ∈ LK0, lk m' y = lk m y) : L0 q ia ib hg m' := fun a ha => (g _ (by
  have : (locs0 q ia ib hg).map (·.1) = LK0 := rfl
  rw [← this]
  exact List.mem_map.mpr ⟨a, ha, rfl⟩)).trans (h a ha)
theorem L0.put {x : Nat} {v : V} (h : L0 q ia ib hg m) (hx : LK0.contains x = false) : L0 q ia ib hg (put m x v) := h.mono fun y hy => by
  rw [lk_put, if_neg fun e => ?_]
  subst e
  rw [List.contains_iff_mem.mpr hy] at hx
  cases hx
theorem L0.l (h : L0 q ia ib hg m) {y : Nat} {v : V} (hy : (y, v) ∈ locs0 q ia ib hg) : lk m y = some v := h (y, v) hy
end
local macro_rules | `(tactic| walk_at "ml0") => `(tactic| with_reducible first
  | refine r_loc (L0.l (by assumption) (by simp only [locs0]; exact List.mem_cons_self)) ?_
  | refine r_loc (L0.l (by assumption) (by simp [locs0]; try rfl)) ?_)
section
variable {q : Wp} {ia ib hg : Nat} {m m' : Loc} {σ : Hp} {Qs : Fl → Loc → Hp → Prop}
theorem l_make (w : W0 q ia ib hg σ) (lo : L0 q ia ib hg m) (hp : q.pre = decide (q.md = 1)) (c : ∀ e en mi cv co cl cn hM, hiM (higherL q.t q.wy q.fr) hM → Wc { q with e := e, en := en, mi := mi, cv := cv, co := co, cl := cl, cn := cn, hM := hM }) (hne : q.ys ≠ q.ir ∧ q.no ≠ q.ir) (hy : q.ys ≠ q.ih ∧ q.ys ∉ q.hs)
    (k : ∀ m' σ', Qs (.ret (.bool true)) m' σ') : L_make m σ Qs := by
  delta L_make
  have g150 : lk m 150 = some (.int q.md) := lo.l (by walk_at "mm")
  repeat (first | walk_at "mst")
  refine c_rcfg g_last fun σ1 jt h1 hj1 kp1 => ⟨rfl, ?_⟩
  have E1 : Ex σ σ1 := Ex.push.of kp1 (Nat.le_refl _)
  -- the flag
  have flag : ∀ {mm : Loc} {K : V → Hp → Prop} {τ : Hp}, lk mm 150 = some (.int q.md) → K (.bool (decide (q.md = 1) || decide (q.md = 2))) τ → eOr2 (eCmp .Eq (eLoc 150) (eV (.int 1))) (eCmp .Eq (eLoc 150) (eV (.int 2))) mm τ K := by
    intro mm K τ hm hK
    repeat (first | with_reducible refine r_loc hm ?_ | walk_at "mst")
    by_cases h : q.md = 1
    · refine r_or2t ?_ (by simp [cmpB, h])
      rw [decide_eq_true h] at hK
      exact hK
    · refine r_or2f ?_ (by simpa [cmpB] using h)
      rw [decide_eq_false h] at hK
      repeat (first | with_reducible refine r_loc hm ?_ | walk_at "mst")
      exact hK
  have m73 : lk (put m 73 (.obj σ.length)) 73 = some (.obj σ.length) := lk_eq
  have lo1 := lo.put (x := 73) (v := .obj σ.length) rfl
  have g150' := (lo1.l (y := 150) (v := .int q.md) (by walk_at "mm"))
  refine r_next ?_
  refine r_seq ?_
  refine r_set ?_
  refine flag g150' ?_
  refine r_loc m73 ?_
  refine r_putk h1 .refl (by decide +kernel) (by with_unfolding_all rfl) fun σ2 h2 kp2 g2 => ?_
  have E2 : Ex σ σ2 := E1.of kp2 (Nat.le_refl _)
  have hj2 := g2 _ _ hj1 (tag_ne hj1 h1 (by walk_at "mt"))
  have h2 : σ2[σ.length]? = some (.inst 319 (cfgR jt (decide (q.md = 1) || decide (q.md = 2)))) := h2
  refine r_next ?_
  refine r_seq ?_
  refine r_asg ?_
  refine r_new ?_
  refine r_esc ?_
  refine r_loc m73 ?_
  refine r_esn ?_
  refine c_elector g_last (g_app h2) (g_app hj2) fun σ3 p3 ms3 d3 pe3 _ pv3 h3 kp3 => ⟨rfl, ?_⟩
  have E3 : Ex σ σ3 := (E2.trans .push).of kp3 E2.len
  refine r_next ?_
  have lo2 := lo1.put (x := 88) (v := .obj σ2.length) rfl
  have m88 : lk (put (put m 73 (.obj σ.length)) 88 (.obj σ2.length)) 88 = some (.obj σ2.length) := lk_eq
  generalize put (put m 73 (.obj σ.length)) 88 (.obj σ2.length) = ma at lo2 m88
  have w3 := w.ex E3
  refine r_seq ?_
  refine r_asg ?_
  refine r_new ?_
  refine r_esc ?_
  refine r_loc (lo2.l (y := 79) (v := .obj ia) (by walk_at "mm")) ?_
  refine r_esc ?_
  refine r_loc (lo2.l (y := 103) (v := .obj ib) (by walk_at "mm")) ?_
  refine r_esc ?_
  refine r_loc (lo2.l (y := 177) (v := .obj q.ir) (by walk_at "mm")) ?_
  refine r_esc ?_
  refine r_list ?_
  refine r_esn ?_
  refine r_knew rfl ?_
  refine r_esc ?_
  refine r_V ?_
  refine r_esn ?_
  have E4 : Ex σ3 (σ3 ++ [O.list []] ++ [.inst 242 []]) := (Ex.push).trans .push
  have w4 := w3.ex E4
  refine c_cfg g_last w4.a w4.b w4.r (⟨g_app g_last, by decide, .nil⟩ : Li _ _ []) fun σ5 v5 o5 l5 n5 h5 a5 b5 c5 d5 kp5 _ => ⟨rfl, ?_⟩
  have E5 : Ex σ3 σ5 := E4.of kp5 (by simp)
  have w5 := w3.ex E5
  refine r_next ?_
  have lo3 := lo2.put (x := 147) (v := .obj (σ3 ++ [O.list []]).length) rfl
  have m88' : lk (put ma 147 (.obj (σ3 ++ [O.list []]).length)) 88 = some (.obj σ2.length) := lk_ne rfl m88
  have m147 : lk (put ma 147 (.obj (σ3 ++ [O.list []]).length)) 147 = some (.obj (σ3 ++ [O.list []]).length) := lk_eq
  generalize put ma 147 (.obj (σ3 ++ [O.list []]).length) = mb at lo3 m88' m147
  refine r_seq ?_
  refine r_asg ?_
  refine r_call ?_
  refine r_esc ?_
  refine r_loc (lo3.l (y := 106) (v := .obj q.ih) (by walk_at "mm")) ?_
  refine r_esc ?_
  refine r_loc (lo3.l (y := 166) (v := .bool q.pre) (by walk_at "mm")) ?_
  refine r_esc ?_
  refine r_loc (lo3.l (y := 200) (v := .int q.t) (by walk_at "mm")) ?_
  refine r_esc ?_
  refine r_loc (lo3.l (y := 209) (v := .int q.v) (by walk_at "mm")) ?_
  refine r_esc ?_
  refine r_loc (lo3.l (y := 221) (v := .obj q.ys) (by walk_at "mm")) ?_
  refine r_esc ?_
  refine r_loc (lo3.l (y := 153) (v := .obj q.no) (by walk_at "mm")) ?_
  refine r_esc ?_
  refine r_loc (lo3.l (y := 110) (v := .obj hg) (by walk_at "mm")) ?_
  refine r_esn ?_
  refine c_end w5.hv w5.ys w5.no w5.hg hy fun σ6 ei hM E6 hM6 h6 _ => ?_
  refine r_next ?_
  have lo4 := lo3.put (x := 92) (v := .obj ei) rfl
  have n88 : lk (put mb 92 (.obj ei)) 88 = some (.obj σ2.length) := lk_ne rfl m88'
  have n147 : lk (put mb 92 (.obj ei)) 147 = some (.obj (σ3 ++ [O.list []]).length) := lk_ne rfl m147
  have n92 : lk (put mb 92 (.obj ei)) 92 = some (.obj ei) := lk_eq
  generalize put mb 92 (.obj ei) = mc at lo4 n88 n147 n92
  have w6 := w5.ex E6
  let q' : Wp := { q with e := σ2.length, en := ei, mi := (σ3 ++ [O.list []]).length, cv := v5, co := o5, cl := l5, cn := n5, hM := hM }
  have cf : Cf σ6 (σ3 ++ [O.list []]).length q.A q.B (restL q.A q.B) v5 o5 l5 n5 := (⟨h5, a5, b5, c5, d5⟩ : Cf σ5 _ _ _ _ _ _ _ _).ex E6
  have wd : Wd q' σ6 := ⟨w6.hv, w6.r.at', w6.la, w6.wl, w6.ws, w6.yl, w6.ys, w6.no, h6, cf⟩
  have h7 : EB p3 σ6 0 0 0 0 ms3 d3 := h3.keep fun j o hj _ => (E5.trans E6).keep _ _ hj
  -- the last names
  have fin : ∀ mz, lk mz 123 = some (.int (if q.pre then 17 else 5)) → lk mz 138 = some (.bytes (decide (1 < q.md))) → (∀ y, y ≠ 123 → y ≠ 138 → lk mz y = lk mc y) → L_orders mz σ6 Qs := by
    intro mz z1 z2 z3
    have z : ∀ {y : Nat} {v : V}, y ≠ 123 → y ≠ 138 → lk mc y = some v → lk mz y = some v := fun h1 h2 h => (z3 _ h1 h2).trans h
    have lq : Lo q' mz := by
      intro a ha
      simp only [Wp.locs, List.mem_cons, List.not_mem_nil, or_false] at ha
      rcases ha with rfl | rfl | rfl | rfl | rfl | rfl | rfl | rfl | rfl | rfl | rfl | rfl | rfl | rfl | rfl | rfl
      · exact show lk mz 88 = some (.obj σ2.length) from z (by decide) (by decide) n88
      · exact show lk mz 106 = some (.obj q.ih) from z (by decide) (by decide) (lo4.l (by walk_at "mm"))
      · exact z1
      · exact show lk mz 124 = some (.obj q.la) from z (by decide) (by decide) (lo4.l (by walk_at "mm"))
      · exact z2
      · exact show lk mz 147 = some (.obj (σ3 ++ [O.list []]).length) from z (by decide) (by decide) n147
      · exact show lk mz 150 = some (.int q.md) from z (by decide) (by decide) (lo4.l (by walk_at "mm"))
      · exact show lk mz 153 = some (.obj q.no) from z (by decide) (by decide) (lo4.l (by walk_at "mm"))
      · exact show lk mz 166 = some (.bool q.pre) from z (by decide) (by decide) (lo4.l (by walk_at "mm"))
      · exact show lk mz 177 = some (.obj q.ir) from z (by decide) (by decide) (lo4.l (by walk_at "mm"))
      · exact show lk mz 200 = some (.int q.t) from z (by decide) (by decide) (lo4.l (by walk_at "mm"))
      · exact show lk mz 209 = some (.int q.v) from z (by decide) (by decide) (lo4.l (by walk_at "mm"))
      · exact show lk mz 215 = some (.obj q.yl) from z (by decide) (by decide) (lo4.l (by walk_at "mm"))
      · exact show lk mz 218 = some (.obj q.wl) from z (by decide) (by decide) (lo4.l (by walk_at "mm"))
      · exact show lk mz 221 = some (.obj q.ys) from z (by decide) (by decide) (lo4.l (by walk_at "mm"))
      · exact show lk mz 92 = some (.obj ei) from z (by decide) (by decide) n92
    exact k_orders (q := q') (c _ _ _ _ _ _ _ _ hM6) wd h7 pe3 pv3 lq hne k
  refine r_seq ?_
  refine r_asg ?_
  refine r_V ?_
  refine r_next ?_
  refine r_seq ?_
  refine r_asg ?_
  refine r_V ?_
  refine r_next ?_
  have lo6 := (lo4.put (x := 123) (v := .int 5) rfl).put (x := 138) (v := .bytes false) rfl
  refine r_seq ?_
  refine r_if ?_
  refine r_tval ?_
  refine r_loc (lo6.l (y := 166) (v := .bool q.pre) (by walk_at "mm")) ?_
  refine r_tbool ?_
  -- the mark
  have mark : ∀ mz, lk mz 123 = some (.int (if q.pre then 17 else 5)) → lk mz 138 = some (.bytes false) → (∀ y, y ≠ 123 → y ≠ 138 → lk mz y = lk mc y) →
      (sSeq (sIf (tCmp .Gt (eLoc 150) (eV (.int 1))) (sSeq (sAsg 138 (eV (.bytes true))) sNil) sNil) L_orders) mz σ6 Qs := by
    intro mz z1 z2 z3
    have z150 : lk mz 150 = some (.int q.md) := (z3 150 (by decide) (by decide)).trans (lo4.l (by walk_at "mm"))
    refine r_seq ?_
    refine r_if ?_
    refine r_tcmp ?_
    refine r_loc z150 ?_
    refine r_V ?_
    refine r_kcmp ?_
    refine r_ifc (fun hc => ?_) (fun hc => ?_)
    · have hmd : 1 < q.md := by simpa [cmpB] using hc
      refine r_seq ?_
      refine r_asg ?_
      refine r_V ?_
      refine r_next ?_
      refine r_nil ?_
      refine r_next ?_
      refine fin _ (lk_ne rfl z1) (by rw [lk_put, if_pos rfl, decide_eq_true hmd]) fun y h1 h2 => by rw [lk_put, if_neg (Ne.symm h2)]; exact z3 y h1 h2
    · have hmd : ¬ 1 < q.md := by simpa [cmpB] using hc
      refine r_nil ?_
      refine r_next ?_
      exact fin _ z1 (by rw [decide_eq_false hmd]; exact z2) z3
  have same : ∀ y, y ≠ 123 → y ≠ 138 → lk (put (put mc 123 (.int 5)) 138 (.bytes false)) y = lk mc y := fun y h1 h2 => by rw [lk_put, if_neg (Ne.symm h2), lk_put, if_neg (Ne.symm h1)]
  cases hpp : q.pre with
  | true =>
    refine r_ift ?_ rfl
    refine r_seq ?_
    refine r_asg ?_
    refine r_V ?_
    refine r_next ?_
    refine r_nil ?_
    refine r_next ?_
    refine mark _ (by rw [lk_put, if_pos rfl, hpp]; rfl) (lk_ne rfl lk_eq) fun y h1 h2 => by rw [lk_put, if_neg (Ne.symm h1)]; exact same y h1 h2
  | false =>
    refine r_iff ?_ rfl
    refine r_nil ?_
    refine r_next ?_
    refine mark _ (by rw [lk_put, if_neg (by decide), lk_put, if_pos rfl, hpp]; rfl) (lk_eq) same
end



/-- the world before the words -/
structure Wa (q : Wp) (ia ib inu : Nat) (ns : List Int) (σ : Hp) : Prop where
  hv : Hv σ q.ih q.hs q.H
  la : σ[q.la]? = some (.tup [.int q.li, .int q.lt])
  a : Li σ ia q.A
  b : Li σ ib q.B
  r : Li σ q.ir (restL q.A q.B)
  nums : σ[inu]? = some (.list (ns.map V.int))
theorem Wa.keep {q : Wp} {ia ib inu : Nat} {ns : List Int} {σ σ' : Hp} (h : Wa q ia ib inu ns σ) (g : ∀ (j : Nat) (o : O), σ[j]? = some o → σ'[j]? = some o) : Wa q ia ib inu ns σ' := by
  have L : ∀ {i : Nat} {A : List Int}, Li σ i A → Li σ' i A := fun h => ⟨g _ _ h.at', h.lt, h.so⟩
  exact ⟨⟨g _ _ h.hv.at', h.hv.all.mono fun _ _ q => g _ _ q, h.hv.off, h.hv.sz⟩, g _ _ h.la, L h.a, L h.b, L h.r, g _ _ h.nums⟩
noncomputable def locsW (q : Wp) (ia ib inu n : Nat) : List (Nat × V) := [(106, .obj q.ih), (124, .obj q.la), (150, .int q.md), (166, .bool q.pre), (177, .obj q.ir), (200, .int q.t), (209, .int q.v), (79, .obj ia), (103, .obj ib), (156, .obj inu), (218, .obj n), (221, .obj (n + 1)), (153, .obj (n + 2)), (110, .obj (n + 3)), (215, .obj (n + 4))]
noncomputable def LKW : List Nat := [106, 124, 150, 166, 177, 200, 209, 79, 103, 156, 218, 221, 153, 110, 215]
noncomputable def LW (q : Wp) (ia ib inu n : Nat) (m : Loc) : Prop := ∀ a ∈ locsW q ia ib inu n, lk m a.1 = some a.2
section
variable {q : Wp} {ia ib inu n : Nat} {ns : List Int} {m m' : Loc} {σ σ' : Hp} {Qs : Fl → Loc → Hp → Prop}
theorem LW.put {x : Nat} {v : V} (h : LW q ia ib inu n m) (hx : LKW.contains x = false) : LW q ia ib inu n (put m x v) := fun a ha => by
  have hk : a.1 ∈ LKW := by
    have : (locsW q ia ib inu n).map (·.1) = LKW := rfl
    rw [← this]
    exact List.mem_map.mpr ⟨a, ha, rfl⟩
  rw [lk_put, if_neg fun e => ?_]
  · exact h a ha
  · rw [← e] at hk
    rw [List.contains_iff_mem.mpr hk] at hx
    cases hx
theorem LW.l (h : LW q ia ib inu n m) {y : Nat} {v : V} (hy : (y, v) ∈ locsW q ia ib inu n) : lk m y = some v := h (y, v) hy
/-- the five lists that the words' loop fills -/
structure F5 (q : Wp) (ia ib inu : Nat) (ns : List Int) (n : Nat) (ws : List Nat) (done : List Int) (c1 c2 c3 c4 : List V) (σ : Hp) : Prop where
  w : Wa q ia ib inu ns (σ.take n)
  f0 : σ[n]? = some (.list (ws.map V.obj))
  f1 : σ[n + 1]? = some (.list c1)
  f2 : σ[n + 2]? = some (.list c2)
  f3 : σ[n + 3]? = some (.list c3)
  f4 : σ[n + 4]? = some (.list c4)
  g : σ[n + 5]? = some .gone
  al : All2 (fun i j => n + 6 ≤ i ∧ Ml σ i (wordM (q.wy j) (q.fr j) q.pre j q.t)) ws done
section
variable {ws : List Nat} {done : List Int} {c1 c2 c3 c4 c : List V}
theorem Wa.set {i : Nat} {o : O} (w : Wa q ia ib inu ns (σ.take n)) (hi : n ≤ i) : Wa q ia ib inu ns ((σ.set i o).take n) := w.keep fun j q hj => by
  have := take_get.mp hj
  exact take_get.mpr ⟨this.1, g_ne this.2 (by omega)⟩
theorem al_keep (al : All2 (fun i j => n + 6 ≤ i ∧ Ml σ i (wordM (q.wy j) (q.fr j) q.pre j q.t)) ws done) (g : ∀ (j : Nat) (o : O), σ[j]? = some o → (n + 6 ≤ j ∨ o.tag = 142) → σ'[j]? = some o) : All2 (fun i j => n + 6 ≤ i ∧ Ml σ' i (wordM (q.wy j) (q.fr j) q.pre j q.t)) ws done :=
  al.mono fun i j ⟨h, ids, a, b⟩ => ⟨h, ids, g _ _ a (.inl h), b.mono fun k m ⟨en, e⟩ => ⟨en, g _ _ e (.inr rfl)⟩⟩
theorem F5.wd (h : F5 q ia ib inu ns n ws done c1 c2 c3 c4 σ) : Wa q ia ib inu ns σ := h.w.keep fun _ _ hj => (take_get.mp hj).2
theorem F5.ex (h : F5 q ia ib inu ns n ws done c1 c2 c3 c4 σ) (e : Ex σ σ') : F5 q ia ib inu ns n ws done c1 c2 c3 c4 σ' :=
  ⟨h.w.keep fun j o hj => take_get.mpr ⟨(take_get.mp hj).1, e.keep _ _ (take_get.mp hj).2⟩, e.keep _ _ h.f0, e.keep _ _ h.f1, e.keep _ _ h.f2, e.keep _ _ h.f3, e.keep _ _ h.f4, e.keep _ _ h.g, al_keep h.al fun j o hj _ => e.keep j o hj⟩
theorem al_seti {i : Nat} {vs : List V} {o : O} (al : All2 (fun i j => n + 6 ≤ i ∧ Ml σ i (wordM (q.wy j) (q.fr j) q.pre j q.t)) ws done) (hi : σ[i]? = some (.list vs)) (hn : i < n + 6) : All2 (fun k j => n + 6 ≤ k ∧ Ml (σ.set i o) k (wordM (q.wy j) (q.fr j) q.pre j q.t)) ws done :=
  al_keep al fun j q hj h => g_ne hj (by
    rcases h with h | h
    · omega
    · exact tag_ne hi hj (by rw [h]; simp [O.tag]))
theorem F5.s1 (h : F5 q ia ib inu ns n ws done c1 c2 c3 c4 σ) : F5 q ia ib inu ns n ws done c c2 c3 c4 (σ.set (n + 1) (.list c)) :=
  ⟨h.w.set (by omega), g_ne h.f0 (by omega), g_set h.f1, g_ne h.f2 (by omega), g_ne h.f3 (by omega), g_ne h.f4 (by omega), g_ne h.g (by omega), al_seti h.al h.f1 (by omega)⟩
theorem F5.s2 (h : F5 q ia ib inu ns n ws done c1 c2 c3 c4 σ) : F5 q ia ib inu ns n ws done c1 c c3 c4 (σ.set (n + 2) (.list c)) :=
  ⟨h.w.set (by omega), g_ne h.f0 (by omega), g_ne h.f1 (by omega), g_set h.f2, g_ne h.f3 (by omega), g_ne h.f4 (by omega), g_ne h.g (by omega), al_seti h.al h.f2 (by omega)⟩
theorem F5.s3 (h : F5 q ia ib inu ns n ws done c1 c2 c3 c4 σ) : F5 q ia ib inu ns n ws done c1 c2 c c4 (σ.set (n + 3) (.list c)) :=
  ⟨h.w.set (by omega), g_ne h.f0 (by omega), g_ne h.f1 (by omega), g_ne h.f2 (by omega), g_set h.f3, g_ne h.f4 (by omega), g_ne h.g (by omega), al_seti h.al h.f3 (by omega)⟩
theorem F5.s4 (h : F5 q ia ib inu ns n ws done c1 c2 c3 c4 σ) : F5 q ia ib inu ns n ws done c1 c2 c3 c (σ.set (n + 4) (.list c)) :=
  ⟨h.w.set (by omega), g_ne h.f0 (by omega), g_ne h.f1 (by omega), g_ne h.f2 (by omega), g_ne h.f3 (by omega), g_set h.f4, g_ne h.g (by omega), al_seti h.al h.f4 (by omega)⟩
theorem F5.s0 {wi : Nat} {j : Int} (h : F5 q ia ib inu ns n ws done c1 c2 c3 c4 σ) (hi : n + 6 ≤ wi) (hm : Ml σ wi (wordM (q.wy j) (q.fr j) q.pre j q.t)) : F5 q ia ib inu ns n (ws ++ [wi]) (done ++ [j]) c1 c2 c3 c4 (σ.set n (.list (ws.map V.obj ++ [.obj wi]))) := by
  have al := al_seti (o := .list (ws.map V.obj ++ [.obj wi])) (h.al.append (.cons ⟨hi, hm⟩ .nil)) h.f0 (by omega)
  refine ⟨h.w.set (Nat.le_refl _), ?_, g_ne h.f1 (by omega), g_ne h.f2 (by omega), g_ne h.f3 (by omega), g_ne h.f4 (by omega), g_ne h.g (by omega), al⟩
  rw [g_set h.f0]; simp
end
theorem any023 (w : Int) : ([0, 2, 3] : List Int).any (· == w) = isY w := by
  rw [mem_any]
  unfold isY
  by_cases h : w = 0 ∨ w = 2 ∨ w = 3
  · rw [decide_eq_true (by simpa using h)]
    symm
    simpa [or_assoc] using h
  · rw [decide_eq_false (by simpa using h)]
    symm
    simpa [or_assoc, not_or, and_assoc] using h
section
variable {ws : List Nat} {done : List Int} {c1 c2 c3 c4 c : List V}
theorem k_bword {jn : Nat} (h : F5 q ia ib inu ns n ws done c1 c2 c3 c4 σ) (lo : LW q ia ib inu n m) (hn : n + 6 ≤ σ.length) (hm : lk m 117 = some (.int (jn : Int))) (hj : jn ≤ 4) (h0 : 0 < ns.length) (h1 : ns.length ≤ 5)
    (hwy : q.wy (jn : Int) = (drawZ ns jn).fmod 7) (hfr : q.fr (jn : Int) = ((drawZ ns jn).fdiv 7).fmod 3) (hc : c1.length ≤ 10 ∧ c2.length ≤ 10 ∧ c3.length ≤ 10 ∧ c4.length ≤ 10 ∧ ws.length ≤ 10)
    (k : ∀ m' σ' wi, F5 q ia ib inu ns n (ws ++ [wi]) (done ++ [(jn : Int)]) (c1 ++ if isY (q.wy jn) then [.int (jn : Int)] else []) (c2 ++ if q.wy jn = 1 then [.int (jn : Int)] else []) (c3 ++ if q.wy jn = 5 then [.int (q.t + 2 + q.fr jn)] else []) (c4 ++ [.int (q.wy jn)]) σ' →
      LW q ia ib inu n m' → n + 6 ≤ σ'.length → Qs .next m' σ') : B_words m σ Qs := by
  delta B_words
  refine r_seq ?_
  refine r_asg ?_
  refine r_call ?_
  refine r_esc ?_
  refine r_loc (lo.l (y := 156) (v := .obj inu) (by walk_at "mm")) ?_
  refine r_esc ?_
  refine r_loc hm ?_
  refine r_esn ?_
  refine c_lawdraw h.wd.nums h0 h1 hj ?_
  refine r_next ?_
  have lo1 := lo.put (x := 223) (v := .int (drawZ ns jn)) rfl
  have z1 : lk (put m 223 (.int (drawZ ns jn))) 223 = some (.int (drawZ ns jn)) := lk_eq
  have j1 : lk (put m 223 (.int (drawZ ns jn))) 117 = some (.int (jn : Int)) := lk_ne rfl hm
  generalize put m 223 (.int (drawZ ns jn)) = mm at lo1 z1 j1
  have g215 := lo1.l (y := 215) (v := .obj (n + 4)) (by walk_at "mm")
  have g218 := lo1.l (y := 218) (v := .obj n) (by walk_at "mm")
  have g166 := lo1.l (y := 166) (v := .bool q.pre) (by walk_at "mm")
  have g200 := lo1.l (y := 200) (v := .int q.t) (by walk_at "mm")
  have g221 := lo1.l (y := 221) (v := .obj (n + 1)) (by walk_at "mm")
  have g153 := lo1.l (y := 153) (v := .obj (n + 2)) (by walk_at "mm")
  have g110 := lo1.l (y := 110) (v := .obj (n + 3)) (by walk_at "mm")
  repeat (first | with_reducible refine r_loc z1 ?_ | with_reducible refine r_loc g215 ?_ | walk_at "mst")
  refine ⟨⟨_, _, rfl, h.f4⟩, ?_⟩
  repeat (first | with_reducible refine r_loc z1 ?_ | walk_at "mst")
  refine r_mod (by decide) ?_
  rw [← hwy]
  refine ⟨_, _, rfl, h.f4, by omega, ?_⟩
  have h' := h.s4 (c := c4 ++ [.int (q.wy jn)])
  repeat (first | with_reducible refine r_loc z1 ?_ | with_reducible refine r_loc g218 ?_ | walk_at "mst")
  refine ⟨⟨_, _, rfl, h'.f0⟩, ?_⟩
  repeat (first | with_reducible refine r_loc z1 ?_ | with_reducible refine r_loc g218 ?_ | walk_at "mst")
  refine r_mod (by decide) ?_
  rw [← hwy]
  repeat (first | with_reducible refine r_loc z1 ?_ | with_reducible refine r_loc g218 ?_ | walk_at "mst")
  refine r_div ⟨by decide, by decide⟩ ?_
  repeat (first | with_reducible refine r_loc z1 ?_ | with_reducible refine r_loc g218 ?_ | walk_at "mst")
  refine r_mod (by decide) ?_
  rw [← hfr]
  repeat (first | with_reducible refine r_loc g166 ?_ | with_reducible refine r_loc g200 ?_ | with_reducible refine r_loc j1 ?_ | walk_at "mst")
  refine c_word fun σ2 wi E2 ml2 lw => ?_
  have h2 := h'.ex E2
  refine ⟨_, _, rfl, h2.f0, by rw [List.length_map]; omega, ?_⟩
  rw [List.length_set] at lw
  have h3 := h2.s0 (j := (jn : Int)) (by omega) ml2
  have len3 : n + 6 ≤ (σ2.set n (.list (ws.map V.obj ++ [.obj wi]))).length := by
    have := E2.len
    rw [List.length_set] at this
    rw [List.length_set]
    omega
  generalize σ2.set n (.list (ws.map V.obj ++ [.obj wi])) = σ3 at h3 len3
  refine r_next ?_
  -- the three ifs
  have if3 : ∀ {c1 c2 : List V} {σ : Hp}, F5 q ia ib inu ns n (ws ++ [wi]) (done ++ [(jn : Int)]) c1 c2 c3 (c4 ++ [.int (q.wy jn)]) σ → n + 6 ≤ σ.length → (∀ σ', F5 q ia ib inu ns n (ws ++ [wi]) (done ++ [(jn : Int)]) c1 c2 (c3 ++ if q.wy jn = 5 then [.int (q.t + 2 + q.fr jn)] else []) (c4 ++ [.int (q.wy jn)]) σ' → n + 6 ≤ σ'.length → Qs .next mm σ') →
      (sSeq (sIf (tCmp .Eq (eBin .Mod (eLoc 223) (eV (.int 7))) (eV (.int 5))) (sSeq (sExp (sApp (eLoc 110) (eBin .Add (eBin .Add (eLoc 200) (eV (.int 2))) (eBin .Mod (eBin .FloorDiv (eLoc 223) (eV (.int 7))) (eV (.int 3)))))) sNil) sNil) sNil) mm σ Qs := by
    intro c1 c2 σ hf hl kk
    repeat (first | with_reducible refine r_loc z1 ?_ | walk_at "mst")
    refine r_mod (by decide) ?_
    rw [← hwy]
    refine r_kcmp ?_
    refine r_ifc (fun hc' => ?_) (fun hc' => ?_)
    · have e : q.wy jn = 5 := by simpa [cmpB] using hc'
      repeat (first | with_reducible refine r_loc z1 ?_ | with_reducible refine r_loc g110 ?_ | with_reducible refine r_loc g200 ?_ | walk_at "mst")
      refine ⟨⟨_, _, rfl, hf.f3⟩, ?_⟩
      repeat (first | with_reducible refine r_loc z1 ?_ | with_reducible refine r_loc g200 ?_ | walk_at "mst")
      refine r_div ⟨by decide, by decide⟩ ?_
      repeat (first | with_reducible refine r_loc z1 ?_ | walk_at "mst")
      refine r_mod (by decide) ?_
      rw [← hfr]
      repeat (first | walk_at "mst")
      refine ⟨_, _, rfl, hf.f3, by omega, ?_⟩
      repeat (first | walk_at "mst")
      refine kk _ ?_ (by simpa using hl)
      rw [if_pos e]
      exact hf.s3
    · have e : ¬ q.wy jn = 5 := by simpa [cmpB] using hc'
      repeat (first | walk_at "mst")
      refine kk _ ?_ hl
      rw [if_neg e, List.append_nil]
      exact hf
  have if2 : ∀ {c1 : List V} {σ : Hp}, F5 q ia ib inu ns n (ws ++ [wi]) (done ++ [(jn : Int)]) c1 c2 c3 (c4 ++ [.int (q.wy jn)]) σ → n + 6 ≤ σ.length → (∀ σ', F5 q ia ib inu ns n (ws ++ [wi]) (done ++ [(jn : Int)]) c1 (c2 ++ if q.wy jn = 1 then [.int (jn : Int)] else []) (c3 ++ if q.wy jn = 5 then [.int (q.t + 2 + q.fr jn)] else []) (c4 ++ [.int (q.wy jn)]) σ' → n + 6 ≤ σ'.length → Qs .next mm σ') →
      (sSeq (sIf (tCmp .Eq (eBin .Mod (eLoc 223) (eV (.int 7))) (eV (.int 1))) (sSeq (sExp (sApp (eLoc 153) (eLoc 117))) sNil) sNil) (sSeq (sIf (tCmp .Eq (eBin .Mod (eLoc 223) (eV (.int 7))) (eV (.int 5))) (sSeq (sExp (sApp (eLoc 110) (eBin .Add (eBin .Add (eLoc 200) (eV (.int 2))) (eBin .Mod (eBin .FloorDiv (eLoc 223) (eV (.int 7))) (eV (.int 3)))))) sNil) sNil) sNil)) mm σ Qs := by
    intro c1 σ hf hl kk
    refine r_seq ?_
    refine r_if ?_
    repeat (first | with_reducible refine r_loc z1 ?_ | walk_at "mst")
    refine r_mod (by decide) ?_
    rw [← hwy]
    refine r_kcmp ?_
    refine r_ifc (fun hc' => ?_) (fun hc' => ?_)
    · have e : q.wy jn = 1 := by simpa [cmpB] using hc'
      refine r_seq ?_
      refine r_exp ?_
      refine r_app ?_
      refine r_loc g153 ?_
      refine ⟨⟨_, _, rfl, hf.f2⟩, ?_⟩
      refine r_loc j1 ?_
      refine ⟨_, _, rfl, hf.f2, by omega, ?_⟩
      refine r_next ?_
      refine r_nil ?_
      refine r_next ?_
      refine if3 hf.s2 (by simpa using hl) fun σ' hf' hl' => kk σ' ?_ hl'
      rw [if_pos e]
      exact hf'
    · have e : ¬ q.wy jn = 1 := by simpa [cmpB] using hc'
      refine r_nil ?_
      refine r_next ?_
      refine if3 hf hl fun σ' hf' hl' => kk σ' ?_ hl'
      rw [if_neg e, List.append_nil]
      exact hf'
  refine r_seq ?_
  refine r_if ?_
  repeat (first | with_reducible refine r_loc z1 ?_ | walk_at "mst")
  refine r_mod (by decide) ?_
  rw [← hwy]
  repeat (first | walk_at "mst")
  refine r_knew rfl ?_
  refine r_intup g_last rfl ?_
  rw [any023]
  have h4 := h3.ex (.push (r := [O.tup [V.int 0, V.int 2, V.int 3]]))
  have len4 : n + 6 ≤ (σ3 ++ [O.tup [V.int 0, V.int 2, V.int 3]]).length := by simp; omega
  cases hY : isY (q.wy jn) with
  | true =>
    refine r_ift ?_ rfl
    refine r_seq ?_
    refine r_exp ?_
    refine r_app ?_
    refine r_loc g221 ?_
    refine ⟨⟨_, _, rfl, h4.f1⟩, ?_⟩
    refine r_loc j1 ?_
    refine ⟨_, _, rfl, h4.f1, by omega, ?_⟩
    refine r_next ?_
    refine r_nil ?_
    refine r_next ?_
    refine if2 h4.s1 (by simpa using len4) fun σ' hf' hl' => k mm σ' wi ?_ lo1 hl'
    rw [hY, if_pos rfl]
    exact hf'
  | false =>
    refine r_iff ?_ rfl
    refine r_nil ?_
    refine r_next ?_
    refine if2 h4 len4 fun σ' hf' hl' => k mm σ' wi ?_ lo1 hl'
    rw [hY, if_neg (by decide), List.append_nil]
    exact hf'
end
end



noncomputable def locsA (q : Wp) (ia ib inu : Nat) : List (Nat × V) := [(106, .obj q.ih), (124, .obj q.la), (150, .int q.md), (166, .bool q.pre), (177, .obj q.ir), (200, .int q.t), (209, .int q.v), (79, .obj ia), (103, .obj ib), (156, .obj inu)]
noncomputable def LA (q : Wp) (ia ib inu : Nat) (m : Loc) : Prop := ∀ a ∈ locsA q ia ib inu, lk m a.1 = some a.2
section
variable {q : Wp} {ia ib inu n : Nat} {ns : List Int} {m m' : Loc} {σ σ' : Hp} {Qs : Fl → Loc → Hp → Prop}
theorem LA.l (h : LA q ia ib inu m) {y : Nat} {v : V} (hy : (y, v) ∈ locsA q ia ib inu) : lk m y = some v := h (y, v) hy
theorem yes_list (wy : Int → Int) : ((([V.int 1] ++ if isY (wy 2) then [V.int 2] else []) ++ if isY (wy 3) then [V.int 3] else []) ++ if isY (wy 4) then [V.int 4] else []) = (yesL wy).map V.int := by
  unfold yesL
  simp only [List.filter_cons, List.filter_nil]
  cases isY (wy 2) <;> cases isY (wy 3) <;> cases isY (wy 4) <;> rfl
theorem no_list (wy : Int → Int) : ((([] ++ if wy 2 = 1 then [V.int 2] else []) ++ if wy 3 = 1 then [V.int 3] else []) ++ if wy 4 = 1 then [V.int 4] else []) = (noL wy).map V.int := by
  unfold noL
  simp only [List.filter_cons, List.filter_nil, beq_iff_eq]
  by_cases h2 : wy 2 = 1 <;> by_cases h3 : wy 3 = 1 <;> by_cases h4 : wy 4 = 1 <;> simp [h2, h3, h4]
theorem hi_list (t : Int) (wy fr : Int → Int) : ((([] ++ if wy 2 = 5 then [V.int (t + 2 + fr 2)] else []) ++ if wy 3 = 5 then [V.int (t + 2 + fr 3)] else []) ++ if wy 4 = 5 then [V.int (t + 2 + fr 4)] else []) = (higherL t wy fr).map V.int := by
  unfold higherL
  simp only [List.filter_cons, List.filter_nil, beq_iff_eq]
  by_cases h2 : wy 2 = 5 <;> by_cases h3 : wy 3 = 5 <;> by_cases h4 : wy 4 = 5 <;> simp [h2, h3, h4]
theorem l_words (w : Wa q ia ib inu ns σ) (lo : LA q ia ib inu m) (h0 : 0 < ns.length) (h1 : ns.length ≤ 5) (hwy : ∀ jn : Nat, q.wy (jn : Int) = (drawZ ns jn).fmod 7) (hfr : ∀ jn : Nat, q.fr (jn : Int) = ((drawZ ns jn).fdiv 7).fmod 3)
    (hh : Hvs q.A q.B q.H) (t0 : 0 < q.t) (pre : q.pre = decide (q.md = 1)) (ry : ∀ j, 0 ≤ q.wy j ∧ q.wy j ≤ 6) (rf : ∀ j, 0 ≤ q.fr j) (one : (1 : Int) ∈ q.A ∨ (1 : Int) ∈ q.B) (la : q.A.length ≤ 4) (lb : q.B.length ≤ 4)
    (k : ∀ m' σ', Qs (.ret (.bool true)) m' σ') : L_words m σ Qs := by
  delta L_words
  repeat (first | walk_at "mst" | refine r_knew rfl ?_)
  have e1 : ∀ a b c d e f : O, σ ++ [a] ++ [b] ++ [c] ++ [d] ++ [e] ++ [f] = σ ++ [a, b, c, d, e, f] := fun _ _ _ _ _ _ => by simp
  have g : ∀ (n i : Nat) (l : Hp) (o : O), i = σ.length + n → l[n]? = some o → (σ ++ l)[i]? = some o := fun n i l o hi h => by rw [hi, List.getElem?_append_right (by omega)]; simpa using h
  have k5 : (σ ++ [O.list []] ++ [O.list [V.int 1]] ++ [O.list []] ++ [O.list []] ++ [O.list []]).length = σ.length + 5 := by simp
  have k4 : (σ ++ [O.list []] ++ [O.list [V.int 1]] ++ [O.list []] ++ [O.list []]).length = σ.length + 4 := by simp
  have k3 : (σ ++ [O.list []] ++ [O.list [V.int 1]] ++ [O.list []]).length = σ.length + 3 := by simp
  have k2 : (σ ++ [O.list []] ++ [O.list [V.int 1]]).length = σ.length + 2 := by simp
  have k1 : (σ ++ [O.list []]).length = σ.length + 1 := by simp
  rw [k5, k4, k3, k2, k1, e1]
  refine ⟨_, _, _, rfl, g 5 _ _ _ rfl rfl, .inr rfl, ?_⟩
  have w0 : Wa q ia ib inu ns ((σ ++ [O.list [], O.list [V.int 1], O.list [], O.list [], O.list [], O.tup [V.int 2, V.int 3, V.int 4]]).take σ.length) := w.keep fun j o hj => take_get.mpr ⟨lt_of_get hj, g_app hj⟩
  have f0 : F5 q ia ib inu ns σ.length [] [] [V.int 1] [] [] [] ((σ ++ [O.list [], O.list [V.int 1], O.list [], O.list [], O.list [], O.tup [V.int 2, V.int 3, V.int 4]]).set (σ.length + 5) .gone) :=
    ⟨Wa.set w0 (by omega), g_ne (g 0 _ _ _ rfl rfl) (by omega), g_ne (g 1 _ _ _ rfl rfl) (by omega), g_ne (g 2 _ _ _ rfl rfl) (by omega), g_ne (g 3 _ _ _ rfl rfl) (by omega), g_ne (g 4 _ _ _ rfl rfl) (by omega), g_set (g 5 _ _ _ rfl rfl), .nil⟩
  have l0 : σ.length + 6 ≤ ((σ ++ [O.list [], O.list [V.int 1], O.list [], O.list [], O.list [], O.tup [V.int 2, V.int 3, V.int 4]]).set (σ.length + 5) .gone).length := by simp
  have lw : LW q ia ib inu σ.length (put (put (put (put (put m 218 (.obj σ.length)) 221 (.obj (σ.length + 1))) 153 (.obj (σ.length + 2))) 110 (.obj (σ.length + 3))) 215 (.obj (σ.length + 4))) := by
    intro a ha
    simp only [locsW, List.mem_cons, List.not_mem_nil, or_false] at ha
    rcases ha with rfl | rfl | rfl | rfl | rfl | rfl | rfl | rfl | rfl | rfl | rfl | rfl | rfl | rfl | rfl
    all_goals repeat (first | exact lk_eq | refine lk_ne rfl ?_)
    all_goals exact lo.l (by walk_at "mm")
  generalize (σ ++ [O.list [], O.list [V.int 1], O.list [], O.list [], O.list [], O.tup [V.int 2, V.int 3, V.int 4]]).set (σ.length + 5) .gone = τ at f0 l0
  generalize put (put (put (put (put m 218 (.obj σ.length)) 221 (.obj (σ.length + 1))) 153 (.obj (σ.length + 2))) 110 (.obj (σ.length + 3))) 215 (.obj (σ.length + 4)) = mm at lw
  have il : ∀ (b : Bool) (v : V), (if b then [v] else []).length ≤ 1 := fun b v => by cases b <;> simp
  have ip : ∀ (P : Prop) [Decidable P] (v : V), (if P then [v] else []).length ≤ 1 := fun P _ v => by split <;> simp
  show B_words _ _ _
  refine k_bword (jn := 2) f0 (lw.put (x := 117) (v := .int 2) rfl) l0 (by rw [lk_put, if_pos rfl]; rfl) (by decide) h0 h1 (hwy 2) (hfr 2) (by simp) fun m1 σ1 wi1 f1 lw1 ll1 => ?_
  show B_words _ _ _
  refine k_bword (jn := 3) f1 (lw1.put (x := 117) (v := .int 3) rfl) ll1 (by rw [lk_put, if_pos rfl]; rfl) (by decide) h0 h1 (hwy 3) (hfr 3) ?_ fun m2 σ2 wi2 f2 lw2 ll2 => ?_
  · have a1 := il (isY (q.wy ((2 : Nat) : Int))) (.int ((2 : Nat) : Int))
    have a2 := ip (q.wy ((2 : Nat) : Int) = 1) (.int ((2 : Nat) : Int))
    have a3 := ip (q.wy ((2 : Nat) : Int) = 5) (.int (q.t + 2 + q.fr ((2 : Nat) : Int)))
    simp only [List.length_append, List.length_cons, List.length_nil]
    omega
  show B_words _ _ _
  refine k_bword (jn := 4) f2 (lw2.put (x := 117) (v := .int 4) rfl) ll2 (by rw [lk_put, if_pos rfl]; rfl) (by decide) h0 h1 (hwy 4) (hfr 4) ?_ fun m3 σ3 wi3 f3 lw3 ll3 => ?_
  · have a1 := il (isY (q.wy ((2 : Nat) : Int))) (.int ((2 : Nat) : Int))
    have a2 := ip (q.wy ((2 : Nat) : Int) = 1) (.int ((2 : Nat) : Int))
    have a3 := ip (q.wy ((2 : Nat) : Int) = 5) (.int (q.t + 2 + q.fr ((2 : Nat) : Int)))
    have b1 := il (isY (q.wy ((3 : Nat) : Int))) (.int ((3 : Nat) : Int))
    have b2 := ip (q.wy ((3 : Nat) : Int) = 1) (.int ((3 : Nat) : Int))
    have b3 := ip (q.wy ((3 : Nat) : Int) = 5) (.int (q.t + 2 + q.fr ((3 : Nat) : Int)))
    simp only [List.length_append, List.length_cons, List.length_nil]
    omega
  refine ⟨f3.g, ?_⟩
  refine r_next ?_
  -- the loop is through
  have hg := f3.g
  have wf := f3.wd
  let q' : Wp := { q with wl := σ.length, ys := σ.length + 1, no := σ.length + 2, yl := σ.length + 4, ws := [wi1, wi2, wi3] }
  have W : W0 q' ia ib (σ.length + 3) σ3 := by
    refine ⟨wf.hv, wf.la, f3.f0, ?_, f3.f4, ?_, ?_, wf.a, wf.b, wf.r, ?_⟩
    · exact f3.al.mono fun i j h => h.2
    · rw [f3.f1]; exact congrArg (fun z => some (O.list z)) (yes_list q.wy)
    · rw [f3.f2]; exact congrArg (fun z => some (O.list z)) (no_list q.wy)
    · rw [f3.f3]; exact congrArg (fun z => some (O.list z)) (hi_list q.t q.wy q.fr)
  have gn : ∀ (j : Nat) (o : O), σ3[j]? = some o → o.tag ≠ 0 → (σ3.set (σ.length + 5) (.tup [V.int 2, V.int 3, V.int 4]))[j]? = some o := fun j o hj ho => g_ne hj (tag_ne hg hj (Ne.symm ho))
  have L : ∀ {i : Nat} {A : List Int}, Li σ3 i A → Li (σ3.set (σ.length + 5) (.tup [V.int 2, V.int 3, V.int 4])) i A := fun h => ⟨gn _ _ h.at' (by walk_at "mt"), h.lt, h.so⟩
  have W' : W0 q' ia ib (σ.length + 3) (σ3.set (σ.length + 5) (.tup [V.int 2, V.int 3, V.int 4])) :=
    ⟨⟨gn _ _ W.hv.at' (by walk_at "mt"), W.hv.all.mono fun _ _ h => gn _ _ h (by walk_at "mt"), W.hv.off, W.hv.sz⟩, gn _ _ W.la (by walk_at "mt"), gn _ _ W.wl (by walk_at "mt"), W.ws.mono fun i j ⟨ids, a, b⟩ => ⟨ids, gn _ _ a (by walk_at "mt"), b.mono fun k mg ⟨en, e⟩ => ⟨en, gn _ _ e (by walk_at "mt")⟩⟩,
      gn _ _ W.yl (by walk_at "mt"), gn _ _ W.ys (by walk_at "mt"), gn _ _ W.no (by walk_at "mt"), L W.a, L W.b, L W.r, gn _ _ W.hg (by walk_at "mt")⟩
  have lo' : L0 q' ia ib (σ.length + 3) m3 := by
    intro a ha
    simp only [locs0, List.mem_cons, List.not_mem_nil, or_false] at ha
    rcases ha with rfl | rfl | rfl | rfl | rfl | rfl | rfl | rfl | rfl | rfl | rfl | rfl | rfl | rfl
    all_goals exact lw3 _ (by walk_at "mm")
  have lir := lt_of_get w.r.at'
  refine l_make W' lo' pre (fun e en mi cv co cl cn hM hm => ⟨hh, t0, pre, hm, ry, rf, one, la, lb⟩) ⟨by show σ.length + 1 ≠ q.ir; omega, by show σ.length + 2 ≠ q.ir; omega⟩ (w.hv.fresh (i := σ.length + 1) (Nat.le_succ _)) k
end



noncomputable def bit (z j r : Int) : Bool := decide ((z.fdiv (2 ^ (j - 1).toNat)).fmod 2 = r)
noncomputable def comeL (y : Int) : List Int := 1 :: [2, 3, 4].filter fun j => bit y j 0
noncomputable def come3 (y : Int) : List Int := (comeL y).filter fun j => decide (j < 4)
noncomputable def goesL (y : Int) : List Int := [1, 2, 3].filter fun j => bit (1 + (y.fdiv 8).fmod 7) j 1
structure Gd (A : List Int) : Prop where
  so : A.Pairwise (· < ·)
  rg : ∀ x ∈ A, 1 ≤ x ∧ x ≤ 4
  ln : A.length ≤ 4
  ne : A ≠ []
theorem gd_come (y : Int) : Gd (comeL y) := by
  unfold comeL
  refine ⟨?_, ?_, ?_, by simp⟩
  · rw [List.pairwise_cons]
    refine ⟨fun a ha => ?_, List.Pairwise.filter _ (by decide)⟩
    have := (List.mem_filter.mp ha).1
    simp at this
    omega
  · intro x hx
    rcases List.mem_cons.mp hx with rfl | hx
    · decide
    · have := (List.mem_filter.mp hx).1
      simp at this
      omega
  · have := List.length_filter_le (fun j => bit y j 0) [2, 3, 4]
    simp only [List.length_cons, List.length_nil] at this ⊢
    omega
theorem one_come3 (y : Int) : (1 : Int) ∈ come3 y := List.mem_filter.mpr ⟨List.mem_cons_self, by decide⟩
theorem gd_come3 (y : Int) : Gd (come3 y) := by
  have h := gd_come y
  exact ⟨List.Pairwise.filter _ h.so, fun x hx => h.rg x (List.mem_filter.mp hx).1, Nat.le_trans (List.length_filter_le _ _) h.ln, List.ne_nil_of_mem (one_come3 y)⟩
theorem gd_goes (y : Int) : Gd (goesL y) := by
  unfold goesL
  refine ⟨List.Pairwise.filter _ (by decide), fun x hx => ?_, Nat.le_trans (List.length_filter_le _ _) (by decide), ?_⟩
  · have := (List.mem_filter.mp hx).1
    simp at this
    omega
  · have h1 : 0 ≤ (y.fdiv 8).fmod 7 := Int.fmod_nonneg_of_pos _ (by decide)
    have h2 : (y.fdiv 8).fmod 7 < 7 := Int.fmod_lt_of_pos _ (by decide)
    generalize (y.fdiv 8).fmod 7 = r at h1 h2
    have : r = 0 ∨ r = 1 ∨ r = 2 ∨ r = 3 ∨ r = 4 ∨ r = 5 ∨ r = 6 := by omega
    rcases this with rfl | rfl | rfl | rfl | rfl | rfl | rfl <;> decide
noncomputable def locsB (inu la : Nat) (md t v : Int) : List (Nat × V) := [(156, .obj inu), (150, .int md), (166, .bool (decide (md = 1))), (200, .int t), (209, .int v), (124, .obj la)]
noncomputable def LKB : List Nat := [156, 150, 166, 200, 209, 124]
noncomputable def LB (inu la : Nat) (md t v : Int) (m : Loc) : Prop := ∀ a ∈ locsB inu la md t v, lk m a.1 = some a.2
section
variable {inu la ia ib ih : Nat} {md t v : Int} {ns : List Int} {m m' : Loc} {σ σ' : Hp} {Qs : Fl → Loc → Hp → Prop} {A B : List Int} {H : List (List Int)} {hs : List Nat} {Q : V → Hp → Prop}
theorem LB.put {x : Nat} {u : V} (h : LB inu la md t v m) (hx : LKB.contains x = false) : LB inu la md t v (put m x u) := fun a ha => by
  have hk : a.1 ∈ LKB := by
    have : (locsB inu la md t v).map (·.1) = LKB := rfl
    rw [← this]
    exact List.mem_map.mpr ⟨a, ha, rfl⟩
  rw [lk_put, if_neg fun e => ?_]
  · exact h a ha
  · rw [← e] at hk
    rw [List.contains_iff_mem.mpr hk] at hx
    cases hx
theorem LB.l (h : LB inu la md t v m) {y : Nat} {u : V} (hy : (y, u) ∈ locsB inu la md t v) : lk m y = some u := h (y, u) hy
noncomputable def qOf (ih ir la : Nat) (hs : List Nat) (A B : List Int) (H : List (List Int)) (md t v li : Int) (ns : List Int) : Wp :=
  ⟨0, ih, ir, la, 0, 0, 0, 0, 0, 0, 0, 0, 0, 0, hs, [], A, B, H, decide (md = 1), md, t, v, li, 1, fun j => (drawZ ns j.toNat).fmod 7, fun j => ((drawZ ns j.toNat).fdiv 7).fmod 3, Option.none⟩
/-- the rest of the members, and on -/
noncomputable def L_rest : SW := (sSeq (sAsg 177 (eComp 117 [79, 103] (eTup (esCons (eV (.int 2)) (esCons (eV (.int 3)) (esCons (eV (.int 4)) esNil)))) (tAnd [(tIn true (eLoc 117) (eLoc 79)), (tIn true (eLoc 117) (eLoc 103))]) (eLoc 117)))
  L_words)
theorem l_rest {li : Int} (lo : LB inu la md t v m) (hnu : σ[inu]? = some (.list (ns.map V.int))) (hla : σ[la]? = some (.tup [.int li, .int 1])) (hv : Hv σ ih hs H) (a : σ[ia]? = some (.list (A.map V.int))) (b : σ[ib]? = some (.list (B.map V.int)))
    (m79 : lk m 79 = some (.obj ia)) (m103 : lk m 103 = some (.obj ib)) (m106 : lk m 106 = some (.obj ih)) (h0 : 0 < ns.length) (h1 : ns.length ≤ 5) (t0 : 0 < t) (gA : Gd A) (gB : Gd B ∨ B = []) (hh : Hvs A B H) (one : (1 : Int) ∈ A ∨ (1 : Int) ∈ B)
    (k : ∀ m' σ', Qs (.ret (.bool true)) m' σ') : L_rest m σ Qs := by
  delta L_rest
  have lenB : B.length ≤ 4 := by
    rcases gB with h | h
    · exact h.ln
    · rw [h]; decide
  have soB : B.Pairwise (· < ·) := by
    rcases gB with h | h
    · exact h.so
    · rw [h]; exact .nil
  refine r_seq ?_
  refine r_asg ?_
  refine r_comp ?_
  repeat (first | walk_at "mst")
  refine r_knew rfl ?_
  have E0 : Ex σ (σ ++ [O.tup [V.int 2, V.int 3, V.int 4]]) := .push
  refine k_compf (A := [2, 3, 4]) (f := fun j => !(A.any (· == j)) && !(B.any (· == j))) g_last (.inr rfl) ?_ ?_
  · intro n hn σ1 K hE hK
    have a1 : σ1[ia]? = some (.list (A.map V.int)) := hE.keep _ _ (g_ne (E0.keep _ _ a) (by have := lt_of_get a; omega))
    have b1 : σ1[ib]? = some (.list (B.map V.int)) := hE.keep _ _ (g_ne (E0.keep _ _ b) (by have := lt_of_get b; omega))
    have key := hK σ1 .refl
    refine r_and ?_
    refine r_tin ?_
    refine r_loc lk_inner0 ?_
    refine r_loc (lk_inner rfl (by decide) m79) ?_
    refine r_inlist a1 (intsOf_map A) ?_
    cases hA : A.any (· == n) with
    | true =>
      rw [hA] at key
      exact r_andf key rfl
    | false =>
      rw [hA] at key
      refine r_andt ?_ rfl
      refine r_and ?_
      refine r_tin ?_
      refine r_loc lk_inner0 ?_
      refine r_loc (lk_inner rfl (by decide) m103) ?_
      refine r_inlist b1 (intsOf_map B) ?_
      cases hB : B.any (· == n) with
      | true =>
        rw [hB] at key
        exact r_andf key rfl
      | false =>
        rw [hB] at key
        refine r_andt ?_ rfl
        exact r_and0 key
  · intro σ1 hE
    refine r_next ?_
    have E1 : Ex σ (σ1 ++ [O.list ((restL A B).map V.int)]) := (E0.trans hE).trans .push
    have rsz : (restL A B).length < 64 := by
      unfold restL
      exact Nat.lt_of_le_of_lt (List.length_filter_le _ _) (by decide)
    have la79 : lk (put m 177 (.obj σ1.length)) 79 = some (.obj ia) := lk_ne rfl m79
    have la103 : lk (put m 177 (.obj σ1.length)) 103 = some (.obj ib) := lk_ne rfl m103
    have la106 : lk (put m 177 (.obj σ1.length)) 106 = some (.obj ih) := lk_ne rfl m106
    have la177 : lk (put m 177 (.obj σ1.length)) 177 = some (.obj σ1.length) := lk_eq
    have lo1 := lo.put (x := 177) (u := .obj σ1.length) rfl
    refine l_words (q := qOf ih σ1.length la hs A B H md t v li ns) (ia := ia) (ib := ib) (inu := inu) ⟨hv.ex E1, E1.keep _ _ hla, ⟨E1.keep _ _ a, Nat.lt_of_le_of_lt gA.ln (by decide), gA.so⟩, ⟨E1.keep _ _ b, Nat.lt_of_le_of_lt lenB (by decide), soB⟩, ⟨g_last, rsz, List.Pairwise.filter _ (by decide)⟩, E1.keep _ _ hnu⟩ ?_ h0 h1
      (fun jn => rfl) (fun jn => rfl) hh t0 rfl (fun j => ?_) (fun j => Int.fmod_nonneg_of_pos _ (by decide)) one gA.ln lenB k
    · intro x hx
      simp only [locsA, List.mem_cons, List.not_mem_nil, or_false] at hx
      rcases hx with rfl | rfl | rfl | rfl | rfl | rfl | rfl | rfl | rfl | rfl
      · exact la106
      · exact lo1.l (by walk_at "mm")
      · exact lo1.l (by walk_at "mm")
      · exact lo1.l (by walk_at "mm")
      · exact la177
      · exact lo1.l (by walk_at "mm")
      · exact lo1.l (by walk_at "mm")
      · exact la79
      · exact la103
      · exact lo1.l (by walk_at "mm")
    · have h1 : 0 ≤ (drawZ ns j.toNat).fmod 7 := Int.fmod_nonneg_of_pos _ (by decide)
      have h2 : (drawZ ns j.toNat).fmod 7 < 7 := Int.fmod_lt_of_pos _ (by decide)
      exact ⟨h1, by show (drawZ ns j.toNat).fmod 7 ≤ 6; omega⟩
end



section
variable {inu la ia ib ih : Nat} {md t v li : Int} {ns : List Int} {m m' : Loc} {σ σ' : Hp} {Qs : Fl → Loc → Hp → Prop} {A B : List Int} {H : List (List Int)} {hs : List Nat} {Q : V → Hp → Prop} {Qt : Bool → Hp → Prop}
theorem t_bit {Wz : EW} {z n r : Int} (hn : 1 ≤ n ∧ n ≤ 4) (hz : ∀ K : V → Hp → Prop, K (.int z) σ → Wz m σ K) (h : lk m 117 = some (.int n)) (k : Qt (bit z n r) σ) :
    tCmp .Eq (eBin .Mod (eBin .FloorDiv Wz (eBin .Pow (eV (.int 2)) (eBin .Sub (eLoc 117) (eV (.int 1))))) (eV (.int 2))) (eV (.int r)) m σ Qt := by
  refine r_tcmp ?_
  refine r_bin ?_
  refine r_bin ?_
  refine hz _ ?_
  refine r_bin ?_
  refine r_V ?_
  refine r_bin ?_
  refine r_loc h ?_
  refine r_V ?_
  refine r_sub ?_
  refine r_pow ⟨by omega, by omega, by decide⟩ ?_
  have hp : (2 : Int) ^ (n - 1).toNat ≠ 0 ∧ ((2 : Int) ^ (n - 1).toNat).natAbs < 1073741824 := by
    have : n = 1 ∨ n = 2 ∨ n = 3 ∨ n = 4 := by omega
    rcases this with rfl | rfl | rfl | rfl <;> decide
  refine r_div hp ?_
  refine r_V ?_
  refine r_mod (by decide) ?_
  refine r_V ?_
  exact r_kcmp k
/-- the halves, when there are two -/
noncomputable def S_two : SW := (sSeq (sAsg 79 (eComp 117 [] (eLoc 79) (tCmp .Lt (eLoc 117) (eV (.int 4))) (eLoc 117))) (sSeq (sAsg 103 (eComp 117 [220] (eTup (esCons (eV (.int 1)) (esCons (eV (.int 2)) (esCons (eV (.int 3)) esNil)))) (tCmp .Eq (eBin .Mod (eBin .FloorDiv (eBin .Add (eV (.int 1)) (eBin .Mod (eBin .FloorDiv (eLoc 220) (eV (.int 8))) (eV (.int 7)))) (eBin .Pow (eV (.int 2)) (eBin .Sub (eLoc 117) (eV (.int 1))))) (eV (.int 2))) (eV (.int 1))) (eLoc 117))) (sSeq (sIf (tCmp .Eq (eBin .Mod (eBin .FloorDiv (eLoc 220) (eV (.int 56))) (eV (.int 2))) (eV (.int 1))) (sSeq (sUnp2 79 103 (eTup (esCons (eLoc 103) (esCons (eLoc 79) esNil)))) sNil) sNil) (sSeq (sAsg 106 (eList (esCons (eLoc 79) (esCons (eLoc 103) esNil)))) sNil))))
theorem s_two {y : Int} (lo : LB inu la md t v m) (m220 : lk m 220 = some (.int y)) (m79 : lk m 79 = some (.obj ia)) (a : σ[ia]? = some (.list ((comeL y).map V.int)))
    (k : ∀ m' σ' ia ib ih A B, Ex σ σ' → LB inu la md t v m' → lk m' 79 = some (.obj ia) → lk m' 103 = some (.obj ib) → lk m' 106 = some (.obj ih) → σ'[ia]? = some (.list (A.map V.int)) → σ'[ib]? = some (.list (B.map V.int)) → Hv σ' ih [ia, ib] [A, B] → Gd A → Gd B → ((1 : Int) ∈ A ∨ (1 : Int) ∈ B) → Qs .next m' σ') : S_two m σ Qs := by
  delta S_two
  refine r_seq ?_
  refine r_asg ?_
  refine r_comp ?_
  refine r_loc m79 ?_
  refine k_compf (f := fun j => decide (j < 4)) a (.inl rfl) ?_ ?_
  · intro n hn σ1 K hE hK
    refine r_tcmp ?_
    refine r_loc lk_inner0 ?_
    refine r_V ?_
    exact r_kcmp (hK σ1 .refl)
  intro σ1 hE1
  refine r_next ?_
  have E1 : Ex σ (σ1 ++ [O.list ((come3 y).map V.int)]) := hE1.trans .push
  have a1 : (σ1 ++ [O.list ((come3 y).map V.int)])[σ1.length]? = some (.list ((come3 y).map V.int)) := g_last
  have lo1 := lo.put (x := 79) (u := .obj σ1.length) rfl
  have n79 : lk (put m 79 (.obj σ1.length)) 79 = some (.obj σ1.length) := lk_eq
  have n220 : lk (put m 79 (.obj σ1.length)) 220 = some (.int y) := lk_ne rfl m220
  change sSeq _ _ (put m 79 (.obj σ1.length)) (σ1 ++ [O.list ((come3 y).map V.int)]) _
  generalize σ1 ++ [O.list ((come3 y).map V.int)] = τ at E1 a1
  generalize put m 79 (.obj σ1.length) = mm at lo1 n79 n220
  generalize σ1.length = i1 at a1 n79
  refine r_seq ?_
  refine r_asg ?_
  refine r_comp ?_
  repeat (first | walk_at "mst")
  refine r_knew rfl ?_
  have E2 : Ex τ (τ ++ [O.tup [V.int 1, V.int 2, V.int 3]]) := .push
  refine k_compf (A := [1, 2, 3]) (f := fun j => bit (1 + (y.fdiv 8).fmod 7) j 1) g_last (.inr rfl) ?_ ?_
  · intro n hn σ3 K hE hK
    refine t_bit (by simp at hn; omega) (fun K2 hK2 => ?_) lk_inner0 (hK σ3 .refl)
    refine r_bin ?_
    refine r_V ?_
    refine r_bin ?_
    refine r_bin ?_
    refine r_loc (lk_inner rfl (by decide) n220) ?_
    refine r_V ?_
    refine r_div ⟨by decide, by decide⟩ ?_
    refine r_V ?_
    refine r_mod (by decide) ?_
    exact r_add hK2
  intro σ3 hE3
  refine r_next ?_
  have E3 : Ex σ (σ3 ++ [O.list ((goesL y).map V.int)]) := (E1.trans (E2.trans hE3)).trans .push
  have a3 : (σ3 ++ [O.list ((goesL y).map V.int)])[i1]? = some (.list ((come3 y).map V.int)) := ((E2.trans hE3).trans .push).keep _ _ a1
  have b3 : (σ3 ++ [O.list ((goesL y).map V.int)])[σ3.length]? = some (.list ((goesL y).map V.int)) := g_last
  have lo3 := lo1.put (x := 103) (u := .obj σ3.length) rfl
  have k79 : lk (put mm 103 (.obj σ3.length)) 79 = some (.obj i1) := lk_ne rfl n79
  have k103 : lk (put mm 103 (.obj σ3.length)) 103 = some (.obj σ3.length) := lk_eq
  have k220 : lk (put mm 103 (.obj σ3.length)) 220 = some (.int y) := lk_ne rfl n220
  change sSeq _ _ (put mm 103 (.obj σ3.length)) (σ3 ++ [O.list ((goesL y).map V.int)]) _
  generalize σ3 ++ [O.list ((goesL y).map V.int)] = τ3 at E3 a3 b3
  generalize put mm 103 (.obj σ3.length) = m3 at lo3 k79 k103 k220
  generalize σ3.length = i3 at b3 k103
  -- the last name
  have fin : ∀ (mz : Loc) (τz : Hp) (ja jb : Nat) (A B : List Int), Ex σ τz → LB inu la md t v mz → lk mz 79 = some (.obj ja) → lk mz 103 = some (.obj jb) → τz[ja]? = some (.list (A.map V.int)) → τz[jb]? = some (.list (B.map V.int)) → Gd A → Gd B → ((1 : Int) ∈ A ∨ (1 : Int) ∈ B) →
      (sSeq (sAsg 106 (eList (esCons (eLoc 79) (esCons (eLoc 103) esNil)))) sNil) mz τz Qs := by
    intro mz τz ja jb A B E lz z79 z103 za zb gA gB one
    refine r_seq ?_
    refine r_asg ?_
    refine r_list ?_
    refine r_esc ?_
    refine r_loc z79 ?_
    refine r_esc ?_
    refine r_loc z103 ?_
    refine r_esn ?_
    refine r_knew rfl ?_
    refine r_next ?_
    refine r_nil ?_
    have la := lt_of_get za
    have lb := lt_of_get zb
    refine k _ _ ja jb τz.length A B (E.trans .push) (lz.put rfl) (lk_ne rfl z79) (lk_ne rfl z103) (lk_eq) (g_app za) (g_app zb) ⟨g_last, .cons (g_app za) (.cons (g_app zb) .nil), fun i hi => ?_, fun C hC => ?_⟩ gA gB one
    · simp at hi; omega
    · simp at hC
      rcases hC with rfl | rfl
      · exact gA.ln
      · exact gB.ln
  refine r_seq ?_
  refine r_if ?_
  refine r_tcmp ?_
  refine r_bin ?_
  refine r_bin ?_
  refine r_loc k220 ?_
  refine r_V ?_
  refine r_div ⟨by decide, by decide⟩ ?_
  refine r_V ?_
  refine r_mod (by decide) ?_
  refine r_V ?_
  refine r_kcmp ?_
  refine r_ifc (fun _ => ?_) (fun _ => ?_)
  · refine r_seq ?_
    refine r_unp2 ?_
    refine r_tup ?_
    refine r_esc ?_
    refine r_loc k103 ?_
    refine r_esc ?_
    refine r_loc k79 ?_
    refine r_esn ?_
    refine r_knew rfl ⟨_, _, _, rfl, g_last, ?_⟩
    refine r_next ?_
    refine r_nil ?_
    refine r_next ?_
    exact fin _ _ i3 i1 (goesL y) (come3 y) (E3.trans .push) ((lo3.put rfl).put rfl) (lk_ne rfl lk_eq) (lk_eq) (g_app b3) (g_app a3) (gd_goes y) (gd_come3 y) (.inr (one_come3 y))
  · refine r_nil ?_
    refine r_next ?_
    exact fin _ _ i1 i3 (come3 y) (goesL y) E3 lo3 k79 k103 a3 b3 (gd_come3 y) (gd_goes y) (.inl (one_come3 y))
theorem hvs_one (gA : Gd A) : Hvs A [] [A] := ⟨gA.rg, fun _ h => absurd h List.not_mem_nil, gA.ne, .inl ⟨rfl, rfl⟩⟩
theorem hvs_two (gA : Gd A) (gB : Gd B) : Hvs A B [A, B] := ⟨gA.rg, gB.rg, gA.ne, .inr ⟨gB.ne, rfl⟩⟩
theorem l_half (lo : LB inu la md t v m) (hnu : σ[inu]? = some (.list (ns.map V.int))) (hla : σ[la]? = some (.tup [.int li, .int 1])) (h0 : 0 < ns.length) (h1 : ns.length ≤ 5) (t0 : 0 < t) (k : ∀ m' σ', Qs (.ret (.bool true)) m' σ') : L_half m σ Qs := by
  delta L_half
  refine r_seq ?_
  refine r_asg ?_
  refine r_call ?_
  refine r_esc ?_
  refine r_loc (lo.l (y := 156) (u := .obj inu) (by walk_at "mm")) ?_
  refine r_esc ?_
  refine r_V ?_
  refine r_esn ?_
  refine c_lawdraw (n := 1) hnu h0 h1 (by decide) ?_
  refine r_next ?_
  generalize drawZ ns 1 = y
  have lo1 := lo.put (x := 220) (u := .int y) rfl
  have m220 : lk (put m 220 (.int y)) 220 = some (.int y) := lk_eq
  generalize put m 220 (.int y) = m1 at lo1 m220
  refine r_seq ?_
  refine r_asg ?_
  refine r_cat ?_
  refine r_list ?_
  refine r_esc ?_
  refine r_V ?_
  refine r_esn ?_
  refine r_knew rfl ?_
  refine r_comp ?_
  repeat (first | walk_at "mst")
  refine r_knew rfl ?_
  have E2 : Ex σ (σ ++ [O.list [V.int 1]] ++ [O.tup [V.int 2, V.int 3, V.int 4]]) := (Ex.push).trans .push
  have one2 : (σ ++ [O.list [V.int 1]] ++ [O.tup [V.int 2, V.int 3, V.int 4]])[σ.length]? = some (.list [V.int 1]) := g_app g_last
  refine k_compf (A := [2, 3, 4]) (f := fun j => bit y j 0) g_last (.inr rfl) ?_ ?_
  · intro n hn σ3 K hE hK
    exact t_bit (by simp at hn; omega) (fun K2 hK2 => r_loc (lk_inner rfl (by decide) m220) hK2) lk_inner0 (hK σ3 .refl)
  intro σ3 hE3
  have E3 := (E2.trans hE3).trans (.push (r := [O.list (([2, 3, 4].filter fun j => bit y j 0).map V.int)]))
  refine ⟨_, _, _, _, rfl, rfl, g_app (hE3.keep _ _ one2), g_last, ?_, ?_⟩
  · have := List.length_filter_le (fun j => bit y j 0) [2, 3, 4]
    simp only [List.length_append, List.length_map, List.length_cons, List.length_nil] at this ⊢
    omega
  refine r_next ?_
  have E4 := E3.trans (.push (r := [O.list ([V.int 1] ++ ([2, 3, 4].filter fun j => bit y j 0).map V.int)]))
  have a4 : (σ3 ++ [O.list (([2, 3, 4].filter fun j => bit y j 0).map V.int)] ++ [O.list ([V.int 1] ++ ([2, 3, 4].filter fun j => bit y j 0).map V.int)])[(σ3 ++ [O.list (([2, 3, 4].filter fun j => bit y j 0).map V.int)]).length]? = some (.list ((comeL y).map V.int)) := g_last
  generalize σ3 ++ [O.list (([2, 3, 4].filter fun j => bit y j 0).map V.int)] ++ [O.list ([V.int 1] ++ ([2, 3, 4].filter fun j => bit y j 0).map V.int)] = τ at E4 a4
  generalize (σ3 ++ [O.list (([2, 3, 4].filter fun j => bit y j 0).map V.int)]).length = i4 at a4
  refine r_seq ?_
  refine r_asg ?_
  refine r_list ?_
  refine r_esn ?_
  refine r_knew rfl ?_
  refine r_next ?_
  refine r_seq ?_
  refine r_asg ?_
  refine r_list ?_
  refine r_esc ?_
  refine r_loc (v := .obj i4) (lk_ne rfl lk_eq) ?_
  refine r_esn ?_
  refine r_knew rfl ?_
  refine r_next ?_
  have E5 := (E4.trans (.push (r := [O.list []]))).trans (.push (r := [O.list [V.obj i4]]))
  have a5 : (τ ++ [O.list []] ++ [O.list [V.obj i4]])[i4]? = some (.list ((comeL y).map V.int)) := g_app (g_app a4)
  have b5 : (τ ++ [O.list []] ++ [O.list [V.obj i4]])[τ.length]? = some (.list []) := g_app g_last
  have h5 : (τ ++ [O.list []] ++ [O.list [V.obj i4]])[(τ ++ [O.list []]).length]? = some (.list [V.obj i4]) := g_last
  have off : i4 ≠ (τ ++ [O.list []]).length := by have := lt_of_get a4; simp; omega
  have lo5 := ((lo1.put (x := 79) (u := .obj i4) rfl).put (x := 103) (u := .obj τ.length) rfl).put (x := 106) (u := .obj (τ ++ [O.list []]).length) rfl
  have q79 : lk (put (put (put m1 79 (.obj i4)) 103 (.obj τ.length)) 106 (.obj (τ ++ [O.list []]).length)) 79 = some (.obj i4) := lk_ne rfl (lk_ne rfl lk_eq)
  have q103 : lk (put (put (put m1 79 (.obj i4)) 103 (.obj τ.length)) 106 (.obj (τ ++ [O.list []]).length)) 103 = some (.obj τ.length) := lk_ne rfl lk_eq
  have q106 : lk (put (put (put m1 79 (.obj i4)) 103 (.obj τ.length)) 106 (.obj (τ ++ [O.list []]).length)) 106 = some (.obj (τ ++ [O.list []]).length) := lk_eq
  have q220 : lk (put (put (put m1 79 (.obj i4)) 103 (.obj τ.length)) 106 (.obj (τ ++ [O.list []]).length)) 220 = some (.int y) := lk_ne rfl (lk_ne rfl (lk_ne rfl m220))
  generalize put (put (put m1 79 (.obj i4)) 103 (.obj τ.length)) 106 (.obj (τ ++ [O.list []]).length) = m5 at lo5 q79 q103 q106 q220
  generalize τ ++ [O.list []] ++ [O.list [V.obj i4]] = τ5 at E5 a5 b5 h5
  generalize (τ ++ [O.list []]).length = i6 at q106 h5 off
  generalize τ.length = i5 at q103 b5
  refine r_seq ?_
  refine r_if ?_
  refine r_tcmp ?_
  refine r_bin ?_
  refine r_loc q220 ?_
  refine r_V ?_
  refine r_mod (by decide) ?_
  refine r_V ?_
  refine r_kcmp ?_
  refine r_ifc (fun _ => ?_) (fun _ => ?_)
  · refine s_two lo5 q220 q79 a5 fun m' σ' ia ib ih A B E lo' k79 k103 k106 ha hb hv gA gB one => ?_
    refine r_next ?_
    have EE := E5.trans E
    exact l_rest lo' (EE.keep _ _ hnu) (EE.keep _ _ hla) hv ha hb k79 k103 k106 h0 h1 t0 gA (.inl gB) (hvs_two gA gB) one k
  · refine r_nil ?_
    refine r_next ?_
    refine l_rest lo5 (E5.keep _ _ hnu) (E5.keep _ _ hla) (hs := [i4]) ⟨h5, .cons a5 .nil, fun i hi => ?_, fun C hC => ?_⟩ a5 b5 q79 q103 q106 h0 h1 t0 (gd_come y) (.inr rfl) (hvs_one (gd_come y)) (.inl List.mem_cons_self) k
    · simp at hi; omega
    · simp at hC; rw [hC]; exact (gd_come y).ln
end



noncomputable def L_head2 : SW := (sSeq (sAsg 219 (eIdx (eLoc 156) (eV (.int 0))))
  (sSeq (sAsg 150 (eBin .Mod (eLoc 219) (eV (.int 4))))
  (sSeq (sAsg 166 (eCmp .Eq (eLoc 150) (eV (.int 1))))
  (sSeq (sAsg 200 (eBin .Add (eV (.int 1)) (eBin .Mod (eBin .FloorDiv (eLoc 219) (eV (.int 4))) (eV (.int 3)))))
  (sSeq (sAsg 209 (eBin .Mult (eV (.int 3)) (eBin .Mod (eBin .FloorDiv (eLoc 219) (eV (.int 12))) (eV (.int 2)))))
  (sSeq (sAsg 124 (eTup (esCons (eBin .Add (eV (.int 2)) (eBin .Mod (eBin .FloorDiv (eLoc 219) (eV (.int 24))) (eV (.int 3)))) (esCons (eV (.int 1)) esNil))))
  L_half))))))
section
variable {inu : Nat} {ns : List Int} {m : Loc} {σ : Hp} {Qs : Fl → Loc → Hp → Prop}
theorem l_head2 (m156 : lk m 156 = some (.obj inu)) (hnu : σ[inu]? = some (.list (ns.map V.int))) (h0 : 0 < ns.length) (h1 : ns.length ≤ 5) (k : ∀ m' σ', Qs (.ret (.bool true)) m' σ') : L_head2 m σ Qs := by
  delta L_head2
  refine r_seq ?_
  refine r_asg ?_
  refine r_idx ?_
  refine r_loc m156 ?_
  refine r_V ?_
  refine r_idxlist (q := 0) (v := .int ns[0]) hnu (by rw [List.length_map]; exact seqIndex_nat h0) (by rw [List.getElem?_map, List.getElem?_eq_getElem h0]; rfl) ?_
  refine r_next ?_
  generalize ns[0] = x
  have a0 : lk (put m 219 (.int x)) 219 = some (.int x) := lk_eq
  have a1 : lk (put m 219 (.int x)) 156 = some (.obj inu) := lk_ne rfl m156
  generalize put m 219 (.int x) = m1 at a0 a1
  refine r_seq ?_
  refine r_asg ?_
  refine r_bin ?_
  refine r_loc a0 ?_
  refine r_V ?_
  refine r_mod (by decide) ?_
  refine r_next ?_
  generalize x.fmod 4 = md
  refine r_seq ?_
  refine r_asg ?_
  refine r_ecmp ?_
  refine r_loc (v := .int md) (lk_eq) ?_
  refine r_V ?_
  refine r_kcmp ?_
  refine r_next ?_
  refine r_seq ?_
  refine r_asg ?_
  refine r_bin ?_
  refine r_V ?_
  refine r_bin ?_
  refine r_bin ?_
  refine r_loc (v := .int x) (by simp only [lk_put, Nat.reduceEqDiff, reduceIte]; exact a0) ?_
  refine r_V ?_
  refine r_div ⟨by decide, by decide⟩ ?_
  refine r_V ?_
  refine r_mod (by decide) ?_
  refine r_add ?_
  refine r_next ?_
  have ht : 0 ≤ (x.fdiv 4).fmod 3 := Int.fmod_nonneg_of_pos _ (by decide)
  have t0 : 0 < 1 + (x.fdiv 4).fmod 3 := by omega
  generalize 1 + (x.fdiv 4).fmod 3 = t at t0
  refine r_seq ?_
  refine r_asg ?_
  refine r_bin ?_
  refine r_V ?_
  refine r_bin ?_
  refine r_bin ?_
  refine r_loc (v := .int x) (by simp only [lk_put, Nat.reduceEqDiff, reduceIte]; exact a0) ?_
  refine r_V ?_
  refine r_div ⟨by decide, by decide⟩ ?_
  refine r_V ?_
  refine r_mod (by decide) ?_
  have hv1 : 0 ≤ (x.fdiv 12).fmod 2 := Int.fmod_nonneg_of_pos _ (by decide)
  have hv2 : (x.fdiv 12).fmod 2 < 2 := Int.fmod_lt_of_pos _ (by decide)
  refine r_mul ⟨by decide, by omega⟩ ?_
  refine r_next ?_
  generalize 3 * (x.fdiv 12).fmod 2 = v
  refine r_seq ?_
  refine r_asg ?_
  refine r_tup ?_
  refine r_esc ?_
  refine r_bin ?_
  refine r_V ?_
  refine r_bin ?_
  refine r_bin ?_
  refine r_loc (v := .int x) (by simp only [lk_put, Nat.reduceEqDiff, reduceIte]; exact a0) ?_
  refine r_V ?_
  refine r_div ⟨by decide, by decide⟩ ?_
  refine r_V ?_
  refine r_mod (by decide) ?_
  refine r_add ?_
  refine r_esc ?_
  refine r_V ?_
  refine r_esn ?_
  refine r_knew rfl ?_
  refine r_next ?_
  refine l_half (inu := inu) (md := md) (t := t) (v := v) ?_ (g_app hnu) g_last h0 h1 t0 k
  intro a ha
  simp only [locsB, List.mem_cons, List.not_mem_nil, or_false] at ha
  rcases ha with rfl | rfl | rfl | rfl | rfl | rfl
  · simp only [lk_put, Nat.reduceEqDiff, reduceIte]; exact a1
  · simp only [lk_put, Nat.reduceEqDiff, reduceIte]
  · simp only [lk_put, Nat.reduceEqDiff, reduceIte]; rfl
  · simp only [lk_put, Nat.reduceEqDiff, reduceIte]
  · simp only [lk_put, Nat.reduceEqDiff, reduceIte]
  · simp only [lk_put, Nat.reduceEqDiff, reduceIte]
/-- the law, behind its first statement, ends in True -/
theorem law_true (m156 : lk m 156 = some (.obj inu)) (hnu : σ[inu]? = some (.list (ns.map V.int))) (h1 : ns.length ≤ 5) (k : ∀ m' σ', Qs (.ret (.bool true)) m' σ') : W_law m σ Qs := by
  rw [W_law_cut]
  show sSeq _ L_head2 m σ Qs
  refine r_seq ?_
  refine r_if ?_
  refine r_tcmp ?_
  refine r_len ?_
  refine r_loc m156 ?_
  refine r_lenlist hnu ?_
  refine r_V ?_
  refine r_kcmp ?_
  refine r_ifc (fun _ => ?_) (fun hc => ?_)
  · refine r_seq ?_
    refine r_asg ?_
    refine r_list ?_
    refine r_esc ?_
    refine r_V ?_
    refine r_esn ?_
    refine r_knew rfl ?_
    refine r_next ?_
    refine r_nil ?_
    refine r_next ?_
    exact l_head2 (ns := [2]) (lk_eq) g_last (by decide) (by decide) k
  · refine r_nil ?_
    refine r_next ?_
    refine l_head2 m156 hnu ?_ h1 k
    rw [List.length_map] at hc
    simp only [cmpB, decide_eq_false_iff_not] at hc
    omega
end

set_option maxRecDepth 100000
section
variable {prog : Program} {w : World} {A : Around} {s : Shared} {h₀ : Heap} {L a : Addr} {mr : Str → Option Value} {news : List (Addr × Obj)} {env : Env} {vs : List Value} {ns : List Int} {Er : Value → Shared → Prop}
/-- the first items of a list that stood before -/
theorem slice_ev {nm : Str} {p p2 p3 pos : Pos} {j k : Nat} {Q : Value → Shared → Prop} (hek : env.scope.kind = .function) (hk : env.kindOf nm = some .local) (hloc : env.locals = L) (hm : mr nm = some (.ref a)) (hdb : (nm == ("__debug__" : Str)) = false) (F : Fr h₀ L s.heap mr) (N : News h₀ L s.heap news)
    (hl : h₀.IsList a vs.toArray) (hI : IntsAre vs ns) (hsz : vs.length ≤ 4096) (h : ∀ D ws h' tk, Fr h₀ L h' mr → News h₀ L h' ((D, listOf (List.toArray ws) 0) :: news) → IntsAre ws (ns.take j) → Q (.ref D) { s with heap := h', toks := tk }) :
    wpAny (model prog w) A (eval (.Subscript (.Name nm p) (.Slice none (some (.Constant (.int (j : Int)) k p2)) none p3) pos) env) Q Er s := by
  refine Subscript_ ?_
  refine wpAny_Name ?_ hdb
  refine wpAny_loadName_local hek hk (hloc ▸ F.ns) hm ?_
  refine wpAny_Slice ?_
  rw [evalPart_none]
  refine wpAny_pure ?_
  rw [evalPart_some]
  show wpAny _ _ (mkInt _) _ _ _
  refine wpAny_mkInt ?_
  refine wpAny_pure ?_
  refine kmk_slice_ints (s := { s with toks := s.toks + 1 }) (ms := ns.take j) (ns := ns) F N (F.lst hl) .none (.int _ _) hI ?_ rfl (fun D ws h' F' N' _ hws _ _ => h D ws h' _ F' N' hws) ?_ ?_ ?_
  · have := kmk_upto (y := (j : Int)) hI (by omega)
    simpa using this
  · with_unfolding_all rfl
  · intro r; with_unfolding_all rfl
  · rw [List.size_toArray, sizeLine_eq]
    omega
theorem ints_abs {α : AdMap} {k : Nat} : ∀ {vs : List Value} {ns : List Int}, IntsAre vs ns → All2 (VR α k) (ns.map V.int) vs
  | _, _, .nil => .nil
  | _, _, .cons i t r => .cons (.int i t) (ints_abs r)
theorem ints_get : ∀ {vs : List Value} {ns : List Int} {i : Nat} {v : Value}, IntsAre vs ns → vs[i]? = some v → ∃ z t, v = .int z t
  | _, _, 0, _, .cons i t _, h => by simp at h; exact ⟨i, t, h.symm⟩
  | _, _, i + 1, _, .cons _ _ r, h => ints_get r (by simpa using h)
theorem ints_paired {f : Int → Int} : ∀ {vs ys : List Value} {ns : List Int}, IntsAre vs ns → Paired (fun v y => ∃ z t t', v = Value.int z t ∧ y = Value.int (f z) t') vs ys → IntsAre ys (ns.map f)
  | _, _, _, .nil, .nil => .nil
  | _, _, _, .cons i t r, .cons h q => by
    obtain ⟨z, t1, t2, e1, rfl⟩ := h
    cases e1
    exact .cons _ _ (ints_paired r q)
noncomputable def compSc : Scope := { kind := .function, names := [(Str.ofString ".0", .local), (Str.ofString "x", .local)], isGenerator := false, isCoroutine := false, more := [] }
noncomputable def compEx : Expr := .ListComp (.BinOp (.Name (Str.ofString "x") ⟨584, 12, 584, 13⟩) .Mod (.Constant (.int 999983) 0 ⟨584, 16, 584, 22⟩) ⟨584, 12, 584, 22⟩)
  [⟨.Name (Str.ofString "x") ⟨584, 27, 584, 28⟩, .Subscript (.Name (Str.ofString "script") ⟨584, 32, 584, 38⟩) (.Slice none (some (.Constant (.int ((5 : Nat) : Int)) 0 ⟨584, 40, 584, 41⟩)) none ⟨584, 39, 584, 41⟩) ⟨584, 32, 584, 42⟩, [], 0⟩] compSc ⟨584, 11, 584, 43⟩
/-- the law's first statement -/
theorem first_stmt {Q : Flow → Shared → Prop} {ps pn : Pos} (hA : A.handled = none) (hek : env.scope.kind = .function) (hk : env.kindOf (Str.ofString "script") = some .local) (hkn : env.kindOf (Str.ofString "nums") = some .local) (hloc : env.locals = L) (hm : mr (Str.ofString "script") = some (.ref a))
    (hsw : swapsWith compEx (some (.Name (Str.ofString "nums") pn)) ps.line env = pure true) (F : Fr h₀ L s.heap mr) (N : News h₀ L s.heap news) (hl : h₀.IsList a vs.toArray) (hI : IntsAre vs ns) (hsz : vs.length ≤ 4096)
    (hQ : ∀ D ys k h' tk, Fr h₀ L h' (fun z => if z = Str.ofString "nums" then some (.ref D) else mr z) → News h₀ L h' ((D, listOf (List.toArray ys) k) :: news) → (∀ p ∈ news, p.1 ≠ D) → IntsAre ys ((ns.take 5).map fun z => z.fmod 999983) → Q .next { s with heap := h', toks := tk }) :
    wpAny (model prog w) A (exec (.Assign [.Name (Str.ofString "nums") pn] compEx ps) env) Q Er s := by
  have hn2 : ∀ z ∈ compSc.names, z.2 = .local ∧ compSc.names.lookup z.1 = some .local := by
    intro z hz
    simp only [compSc, List.mem_cons, List.not_mem_nil, or_false] at hz
    rcases hz with rfl | rfl
    · exact ⟨rfl, by kernel_rfl⟩
    · exact ⟨rfl, by kernel_rfl⟩
  have hx : compSc.names.lookup (Str.ofString "x") = some .local := by kernel_rfl
  refine wpAny_Assign_ListComp_free (cl := []) (fun _ => true) (fun v y => ∃ z t t', v = Value.int z t ∧ y = Value.int (z.fmod 999983) t') hsw rfl (fun z hz => by rw [(hn2 z hz).1]; decide) rfl (fun z hz _ => (hn2 z hz).2) hx hkn (by rw [hek]; rfl) ?_ (fun _ => fo_Subscript)
  refine slice_ev hek hk hloc hm (by kernel_rfl) F N hl hI hsz fun D ws h1 tk1 F1 N1 hws => ?_
  have hD : h1.get? D = some (listOf (List.toArray ws) 0) := (N1 _ List.mem_cons_self).1
  have hlD : h1.IsList D ws.toArray := ⟨_, hD, rfl, 0, rfl⟩
  have hDlt : D < h1.objs.size := Heap.lt_size hD
  have wsz : ws.length ≤ 5 := by rw [hws.length, List.length_take]; omega
  refine wpAny_pyIter_list hlD ?_
  have up : ∀ b o, h1.get? b = some o → (h1.push { cls := .type "list_iterator", data := .fields #[.ref D, .int 0 0] }).get? b = some o := fun b o e => Heap.get?_push_of_some _ e
  refine ⟨h1.objs.size, [h1.objs.size, D], [h1.objs.size], ws.toArray.size, fun i v => ws.toArray[i]? = some v, fun i h => h.IsListIter h1.objs.size D i ∧ h.IsList D ws.toArray, mr, rfl, Walks.list hA _ _ (Nat.ne_of_lt hDlt) _, ?_, ⟨⟨_, Heap.get?_push_size _ rfl, rfl, rfl⟩, hlD.push _⟩, ?_, ?_, hloc ▸ (F1.keeps up).ns, ⟨?_, ?_⟩, ?_⟩
  · rw [List.size_toArray, sizeLine_eq]; omega
  · intro b hb
    rw [Heap.size_push]
    simp only [List.mem_cons, List.not_mem_nil, or_false] at hb
    rcases hb with rfl | rfl
    · exact Nat.lt_succ_self _
    · exact Nat.lt_succ_of_lt hDlt
  · rw [hloc]
    simp only [List.mem_cons, List.not_mem_nil, or_false]
    exact Nat.ne_of_lt F1.ns.lt
  · intro C i v s₃ m₃ E' _ _ _ _ _ _
    exact wpAny_tests_nil ⟨rfl, s₃.heap, s₃.toks, rfl, fun _ _ h => h⟩
  · intro C i v s₃ m₃ E' _ hv _ hC hx3 _ _
    obtain ⟨z, tz, rfl⟩ := ints_get hws (by simpa using hv)
    have kx : (compEnvC compSc [] C env).kindOf (Str.ofString "x") = some .local := lookup_relabel_local hx
    refine wpAny_BinOp (wpAny_Name (wpAny_loadName_local rfl kx hC hx3 ?_) (by kernel_rfl))
    show wpAny _ _ (mkInt _) _ _ _
    refine wpAny_mkInt ?_
    refine mod_int (by decide) ?_
    exact ⟨⟨z, tz, _, rfl, rfl⟩, s₃.heap, _, rfl, fun _ _ h => h⟩
  · intro D2 h2 tk2 ys vs2 hD2 hl2 hp2 hlen hP hF hns hkeep
    have e2 : vs2 = ws := by
      apply List.ext_getElem?
      intro j
      by_cases hj : j < vs2.length
      · have := hP j vs2[j] (List.getElem?_eq_getElem hj)
        rw [List.getElem?_eq_getElem hj]
        simpa using this.symm
      · rw [List.getElem?_eq_none (by omega), List.getElem?_eq_none (by rw [List.size_toArray] at hlen; omega)]
    subst e2
    rw [List.filter_eq_self.mpr (fun _ _ => rfl)] at hF

    have hn0 : h₀.get? h1.objs.size = none := by
      cases e : h₀.get? h1.objs.size with
      | none => rfl
      | some o => exact absurd (Heap.lt_size (F1.keep _ _ e)) (Nat.lt_irrefl _)
    obtain ⟨kk, hk3⟩ := hp2
    have hDn : h1.get? D2 = none := by
      cases e : h1.get? D2 with
      | none => rfl
      | some o => rw [up _ _ e] at hD2; cases hD2
    have kp : ∀ b o, b ≠ L → h1.get? b = some o → h2.get? b = some o := fun b o hb e => hkeep b o (hloc ▸ hb) (by simp only [List.mem_cons, List.not_mem_nil, or_false]; exact Nat.ne_of_lt (Heap.lt_size e)) (up b o e)
    refine hQ D2 ys.toList kk h2 tk2 ⟨hloc ▸ hns, fun b o e => kp b o (Nat.ne_of_lt (Nat.lt_of_lt_of_le (Heap.lt_size e) F.above)) (F1.keep b o e), F.above⟩ (fun p hp => ?_) (fun p hp e => ?_) (ints_paired hws hF)
    · rcases List.mem_cons.mp hp with rfl | hp
      · refine ⟨by rw [Array.toArray_toList]; exact hk3, fun e => ?_, ?_⟩
        · obtain ⟨o, _, _, ho, _⟩ := F1.ns
          rw [show D2 = L from e, ho] at hDn
          cases hDn
        · cases e : h₀.get? D2 with
          | none => rfl
          | some o => rw [F1.keep _ _ e] at hDn; cases hDn
      · have q := N1 p (List.mem_cons_of_mem _ hp)
        exact ⟨kp _ _ q.2.1 q.1, q.2⟩
    · have q := N1 p (List.mem_cons_of_mem _ hp)
      rw [e, hDn] at q
      cases q.1
end

set_option maxRecDepth 100000
theorem law_body : stBody (topSt 66) = .Assign [.Name (Str.ofString "nums") ⟨584, 4, 584, 8⟩] compEx ⟨584, 4, 584, 43⟩ :: (stBody (topSt 66)).tail := by kernel_rfl
section
variable {u : Un}
/-- the law's run, from its frame on -/
theorem law_run {prog : Program} {w : World} {p : Program} {loose : List Str} {mean : ExcName → Option Value} {mg mb : Str → Option Value} {h₀ h₁ : Heap} {fa L a : Addr} {cd : Value} {tk : Nat} {s₁ : Shared} {vs : List Value} {ns : List Int} {cells : List (Addr × Obj)}
    {Q : Flow → Shared → Prop} {Er : Value → Shared → Prop} {scope : Scope} {body : List Stmt} {l : List (Str × Value)} (hsc : scope = stScope (topSt 66)) (hb : body = stBody (topSt 66)) (hll : l = [(Str.ofString "script", .ref a)])
    (B : Below callerA h₀ [] h₀) (X : (KK w.params).In h₀) (T : Top p loose mean mg mb h₀)
    (F : Fr h₀ L h₁ (bindL (envOfC "law" scope L fa cd).kindOf l fun _ => none)) (N : News h₀ L h₁ cells) {cm : Str → Option Value} (Y : CellsAre cm (cellsFrom (L + 1) scope.names []) cells)
    (hl : h₀.IsList a vs.toArray) (hI : IntsAre vs ns) (hsz : vs.length ≤ 4096)
    (hQ : ∀ h tk, (∀ b o, h₀.get? b = some o → h.get? b = some o) → Q (.ret (.bool true)) { s₁ with heap := h, toks := tk }) :
    wpAny (model prog w) (callerA.deeper (envOfC "law" scope L fa cd)) (execs body (envOfC "law" scope L fa cd)) Q Er { s₁ with heap := h₁, toks := tk } := by
  subst hsc hb hll
  let u : Un := ⟨prog, w, p, loose, mean, mg, mb⟩
  let env : Env := envOfC "law" (stScope (topSt 66)) L fa cd
  let c : Cx := { A := callerA.deeper env, env := env, fenv := env, outer := [], A₀ := callerA, base := h₀, h₀ := h₀, L := L, s₀ := { s₁ with heap := h₁, toks := tk } }
  have hcl : ∀ x, (stScope (topSt 66)).names.lookup x = some .cell → (env.cells.lookup x).isSome = true := fun x hx => cellsFrom_some _ _ _ (.inl hx)
  have hfree : ∀ x ∈ (stScope (topSt 66)).names, x.2 ≠ .free := by
    have : ((stScope (topSt 66)).names.all fun x => x.2 != .free) = true := by kernel_rfl
    intro x hx
    simpa using List.all_eq_true.mp this x hx
  have hkd : (stScope (topSt 66)).kind = .function := by kernel_rfl
  have hc : c.Ok (ZZ u) (stScope (topSt 66)) 11 := ⟨B, X, T, rfl, rfl, hkd, (show Room callerA 12 from ⟨rfl, by decide +kernel, by decide +kernel⟩).deeper, hkd, rfl, rfl, fun x hx => hx, fun x hx => hx.elim (fun q => ⟨.inl q, hcl x q⟩) fun q => absurd rfl (hfree _ (lookup_mem q))⟩
  have hf : FnSt c (stScope (topSt 66)) := ⟨rfl, rfl, rfl, hcl⟩
  obtain ⟨ap1, ap2⟩ := cellsFrom_ap (stScope (topSt 66)).names (L + 1) [] (fun p hp => absurd hp List.not_mem_nil) List.Pairwise.nil
  obtain ⟨y1, y2⟩ := cellsAre_get Y
  have nd : (cells.map (·.1)).Nodup := by
    rw [y1]
    exact List.pairwise_map.mpr ap1
  have hcs : CellsOk c.env cells [] := ⟨fun x a q => by
      obtain ⟨o, h1, h2⟩ := y2 x a (mem_of_lookup q)
      exact ⟨o, _, h1, h2⟩, fun x y a h1 h2 => name_of_addr ap1 (mem_of_lookup h1) (mem_of_lookup h2), fun p _ q hq => absurd hq List.not_mem_nil⟩
  have hks : env.kindOf (Str.ofString "script") = some .local := by
    show (stScope (topSt 66)).names.lookup (Str.ofString "script") = some .local
    kernel_rfl
  have hkn : env.kindOf (Str.ofString "nums") = some .local := by
    show (stScope (topSt 66)).names.lookup (Str.ofString "nums") = some .local
    kernel_rfl
  have hmr : (bindL env.kindOf [(Str.ofString "script", .ref a)] fun _ => none) (Str.ofString "script") = some (.ref a) := bindL_mem hks (by simp) (by simp)
  rw [law_body]
  refine wpAny_execs_cons ?_
  refine first_stmt (env := env) (L := L) rfl hkd hks hkn rfl hmr (by kernel_rfl) F N hl hI hsz fun D ys k h2 tk2 F2 N2 hfr hys => ?_
  have nd2 : (((D, listOf (List.toArray ys) k) :: cells).map (·.1)).Nodup := by
    rw [List.map_cons, List.nodup_cons]
    exact ⟨fun q => by obtain ⟨p, hp, e⟩ := List.mem_map.mp q; exact hfr p hp e, nd⟩
  have len5 : (((ns.take 5).map fun z => z.fmod 999983).map V.int).length ≤ 5 := by simp; omega
  have R2 : Rl TT prog w (fun _ _ => D) [.list (((ns.take 5).map fun z => z.fmod 999983).map V.int)] (cells ++ []) ((D, listOf (List.toArray ys) k) :: cells) := by
    have one : ∀ {i : Nat} {o : O}, ([O.list (((ns.take 5).map fun z => z.fmod 999983).map V.int)] : Hp)[i]? = some o → i = 0 ∧ o = .list (((ns.take 5).map fun z => z.fmod 999983).map V.int) := by
      intro i o h
      cases i with
      | zero => exact ⟨rfl, (Option.some.inj h).symm⟩
      | succ i => simp at h
    refine ⟨nd2, fun i o h => ?_, fun i b j c h1 h2 _ => ?_, fun p hp => ?_, fun p hp i b h e => ?_⟩
    · obtain ⟨rfl, rfl⟩ := one h
      exact ⟨Nat.le_trans len5 (by decide), ys, k, List.mem_cons_self, ints_abs hys⟩
    · obtain ⟨o1, e1, b1⟩ := h1
      obtain ⟨o2, e2, b2⟩ := h2
      obtain ⟨rfl, rfl⟩ := one e1
      obtain ⟨rfl, rfl⟩ := one e2
      exact ⟨rfl, b1.trans b2.symm⟩
    · exact List.mem_cons_of_mem _ (by simpa using hp)
    · exact hfr p (by simpa using hp) e
  let mr2 : Str → Option Value := fun z => if z = Str.ofString "nums" then some (.ref D) else (bindL env.kindOf [(Str.ofString "script", .ref a)] fun _ => none) z
  have H2 : HI (ZZ u) c mr2 (fun _ _ => D) [.list (((ns.take 5).map fun z => z.fmod 999983).map V.int)] (cells ++ []) { c.s₀ with heap := h2, toks := tk2 } := ⟨F2, ⟨_, N2, R2⟩, ⟨h2, tk2, rfl⟩⟩
  have NR2 : NR (ZZ u) c mr2 (fun _ _ => D) 1 (cells ++ []) [(156, .obj 0)] := by
    intro x v hx
    by_cases h : 156 = x
    · subst h
      have hv : V.obj 0 = v := by simpa [lk] using hx
      subst hv
      refine ⟨lt (by decide), .ref D, .obj 0 Nat.zero_lt_one, .inl ⟨?_, rfl, ?_⟩⟩
      · rw [n_156]; exact hkn
      · rw [n_156]; exact if_pos rfl
    · simp [lk, h] at hx
  refine s_law c hc hf mr2 _ [(156, .obj 0)] _ cells [] _ (fun fl _ _ => fl = .ret (.bool true)) Q Er hcs H2 NR2 (law_true (inu := 0) (ns := (ns.take 5).map fun z => z.fmod 999983) rfl rfl (by simpa using len5) fun _ _ => rfl) ?_
  rintro fl m3 σ3 mr3 Cs3 α3 s3 f rfl _ _ H3 _ hfl
  cases hfl with
  | ret hv =>
    cases hv
    obtain ⟨hh, tk3, he⟩ := H3.ex
    rw [he]
    exact hQ hh tk3 fun b o hb => by
      have := H3.F.keep b o hb
      rw [he] at this
      exact this
end

theorem law_good {cl : Str → Option Addr} {mean : ExcName → Option Value} {args : List WData} {s₁ : Shared} {h : Heap} {tk : Nat} (hk : ∀ b o, s₁.heap.get? b = some o → h.get? b = some o) (hg : s₁.gens = #[]) :
    GoodW PySem.Challenge.rw_nz0373_01.row.claim cl mean args s₁ (.ok (.ret (.bool true))) { s₁ with heap := h, toks := tk } := by
  refine ⟨.inl ⟨.bool true, .bool true, [], rfl, fun _ => rfl, .bool true, postW_of (X := true) ?_ ?_ rfl, fun _ => ⟨.nil, fun _ h => absurd h List.not_mem_nil⟩⟩, hk, rfl, hg⟩
  · first | rfl | (trace_state; fail "a")
  · first | rfl | wtm_val | (trace_state; fail "b")
end Mine
open PySem PySem.W PySem.W.X PyProof.Rows
namespace Mine.main
theorem tw1961872053669016626:True:=⟨⟩
theorem tw6511307449729867502:True:=⟨⟩
theorem tw3285133870324970274:True:=⟨⟩
theorem tw12769457292038728915:True:=⟨⟩
theorem tw9658885295015712986:True:=⟨⟩
theorem tw4411106372489854205:True:=⟨⟩
theorem tw1804186740414315822:True:=⟨⟩
theorem tw1094616529103628490:True:=⟨⟩
theorem tw14792103822371098674:True:=⟨⟩
theorem tw9369660151273674066:True:=⟨⟩
theorem tw10988349151246609537:True:=⟨⟩
theorem tw5684232945270242834:True:=⟨⟩
theorem tw12844863241530012109:True:=⟨⟩
theorem tw17262041522474090127:True:=⟨⟩
theorem tw2278972029675796859:True:=⟨⟩
theorem tw16502563530920929011:True:=⟨⟩
theorem tw15852131098959596157:True:=⟨⟩
theorem tw2127038452521536779:True:=⟨⟩
theorem tw13892077903350267210:True:=⟨⟩
theorem tw9360745474812902239:True:=⟨⟩
theorem tw3557749057250611081:True:=⟨⟩
theorem tw4916484176355187965:True:=⟨⟩
theorem tw17275981670299983581:True:=⟨⟩
theorem tw3562595001068472590:True:=⟨⟩
theorem tw17052023290607921161:True:=⟨⟩
theorem tw4990475226369331113:True:=⟨⟩
theorem tw9274054859765456524:True:=⟨⟩
theorem tw12839114828313443825:True:=⟨⟩
theorem tw3626430660855392483:True:=⟨⟩
theorem tw11735423636902730196:True:=⟨⟩
theorem tw9191982752017346530:True:=⟨⟩
theorem tw765107192605250810:True:=⟨⟩
theorem tw9730157408454304684:True:=⟨⟩
theorem tw14437343929415594154:True:=⟨⟩
theorem tw12130321265151566525:True:=⟨⟩
theorem tw2399826469436781019:True:=⟨⟩
theorem tw6880717277089553138:True:=⟨⟩
theorem tw10652863235454686790:True:=⟨⟩
theorem tw470481871638761223:True:=⟨⟩
theorem tw17864028415675338326:True:=⟨⟩
theorem tw9392487213469676918:True:=⟨⟩
theorem tw4681395471914393968:True:=⟨⟩
theorem tw8645133422005227894:True:=⟨⟩
theorem tw17146568849442343683:True:=⟨⟩
theorem tw11218778669853930896:True:=⟨⟩
theorem tw13306352142949925410:True:=⟨⟩
theorem tw18287795668848337631:True:=⟨⟩
theorem tw12346658559823942425:True:=⟨⟩
theorem tw2647654807098235363:True:=⟨⟩
theorem tw1645717771770832407:True:=⟨⟩
theorem tw1319676515408343850:True:=⟨⟩
theorem tw4258463428174104133:True:=⟨⟩
theorem tw4020083893523227988:True:=⟨⟩
theorem tw9381886862466946253:True:=⟨⟩
theorem tw10665469846841522134:True:=⟨⟩
theorem tw8090509862211737132:True:=⟨⟩
theorem tw12245857906982125569:True:=⟨⟩
theorem tw11041547156204584376:True:=⟨⟩
theorem tw12564604832814323664:True:=⟨⟩
theorem tw6635558491612396129:True:=⟨⟩
theorem tw15672986146971166658:True:=⟨⟩
theorem tw11273777480241942364:True:=⟨⟩
theorem tw8567518541235275850:True:=⟨⟩
theorem tw3136416535801588117:True:=⟨⟩
theorem tw6788530277367551627:True:=⟨⟩
theorem tw11125538497796368324:True:=⟨⟩
theorem tw365850788961202214:True:=⟨⟩
theorem tw10426263469143463485:True:=⟨⟩
theorem tw15595112118272840620:True:=⟨⟩
theorem tw14489535830319231195:True:=⟨⟩
theorem tw11409991511011244131:True:=⟨⟩
theorem tw18178676814319149831:True:=⟨⟩
theorem tw5104194264097766351:True:=⟨⟩
theorem tw3748114642381145586:True:=⟨⟩
theorem tw17563168436475441343:True:=⟨⟩
theorem tw13974046611088194958:True:=⟨⟩
theorem tw5252631529969781882:True:=⟨⟩
theorem tw4637267157515435788:True:=⟨⟩
theorem tw12298629886278197574:True:=⟨⟩
theorem tw495442525896006271:True:=⟨⟩
theorem tw1469836325065767749:True:=⟨⟩
theorem tw12014785543569010823:True:=⟨⟩
theorem tw11692516046256081784:True:=⟨⟩
theorem tw15540984915698410164:True:=⟨⟩
theorem tw12747388180105724736:True:=⟨⟩
theorem tw6404898279339705064:True:=⟨⟩
theorem tw12987577155417789579:True:=⟨⟩
theorem tw15136431859952498927:True:=⟨⟩
theorem tw5436791530062809996:True:=⟨⟩
theorem tw14313061170024940013:True:=⟨⟩
theorem tw1046443281632482020:True:=⟨⟩
theorem tw7904437144335635152:True:=⟨⟩
theorem tw3464709057266567092:True:=⟨⟩
theorem tw10363585996791799541:True:=⟨⟩
theorem tw15465920861327815835:True:=⟨⟩
theorem tw3666031411492125599:True:=⟨⟩
theorem tw8762221988292496505:True:=⟨⟩
theorem tw6389877041954997217:True:=⟨⟩
theorem tw17016820405989369747:True:=⟨⟩
theorem tw14439473939278146460:True:=⟨⟩
theorem tw12170992721606120685:True:=⟨⟩
theorem tw5677329702179833609:True:=⟨⟩
theorem tw7761410557224570781:True:=⟨⟩
theorem tw6660377722381337597:True:=⟨⟩
theorem tw3635900802997115186:True:=⟨⟩
theorem tw11001617756164336837:True:=⟨⟩
theorem tw7268301785047649679:True:=⟨⟩
theorem tw15356762974548107741:True:=⟨⟩
theorem tw8879939841973710529:True:=⟨⟩
theorem tw3370842686811476594:True:=⟨⟩
theorem tw15410482203810522393:True:=⟨⟩
theorem tw6788695710022549768:True:=⟨⟩
theorem tw4193505271845495863:True:=⟨⟩
theorem tw12106859168716417752:True:=⟨⟩
theorem tw15485851114877660061:True:=⟨⟩
theorem tw9656510801202774680:True:=⟨⟩
theorem tw16187894506366716058:True:=⟨⟩
theorem tw10665089971535097683:True:=⟨⟩
theorem tw12959741745000181155:True:=⟨⟩
theorem tw18418235949754561950:True:=⟨⟩
theorem tw451873465583785326:True:=⟨⟩
theorem tw16357356043003861740:True:=⟨⟩
theorem tw6519269512792494810:True:=⟨⟩
theorem tw2965820268544440810:True:=⟨⟩
theorem tw372505627349444580:True:=⟨⟩
theorem tw1372806426800153423:True:=⟨⟩
theorem tw5797031442667253490:True:=⟨⟩
theorem tw10101900104965146230:True:=⟨⟩
theorem tw2900998541784483753:True:=⟨⟩
theorem tw18165044119631177899:True:=⟨⟩
theorem tw17477492558424962760:True:=⟨⟩
theorem tw4573282807186111410:True:=⟨⟩
theorem tw12909650291622432550:True:=⟨⟩
theorem tw6697339332421208802:True:=⟨⟩
theorem tw6334894449686545209:True:=⟨⟩
theorem tw14849204138880929251:True:=⟨⟩
theorem tw2714283472998740243:True:=⟨⟩
theorem tw2238316416991798583:True:=⟨⟩
theorem tw8947760058931562597:True:=⟨⟩
theorem tw656089360051881306:True:=⟨⟩
theorem tw7332330508316399935:True:=⟨⟩
theorem tw2750411421705246143:True:=⟨⟩
theorem tw5638201095994319732:True:=⟨⟩
theorem tw5004366561265856203:True:=⟨⟩
theorem tw11388154006635350966:True:=⟨⟩
theorem tw12885673836220544336:True:=⟨⟩
theorem tw17438294365789470252:True:=⟨⟩
theorem tw17272174723667511238:True:=⟨⟩
theorem tw6234934611588079204:True:=⟨⟩
theorem tw16305672181175384284:True:=⟨⟩
theorem tw5396188567872606041:True:=⟨⟩
theorem tw1277820614484962519:True:=⟨⟩
theorem tw6535589618603614281:True:=⟨⟩
theorem tw9563168847844234846:True:=⟨⟩
theorem tw6862268138105152660:True:=⟨⟩
theorem tw4156125974679941130:True:=⟨⟩
theorem tw3299218664060906527:True:=⟨⟩
theorem tw3613476055612923068:True:=⟨⟩
theorem tw10149618387772673413:True:=⟨⟩
theorem tw7623509227018997848:True:=⟨⟩
theorem tw2921621734765799159:True:=⟨⟩
theorem tw16026485685270457870:True:=⟨⟩
theorem tw5400957986263281647:True:=⟨⟩
theorem tw7591743695986301205:True:=⟨⟩
theorem tw10231336680788121439:True:=⟨⟩
theorem tw6699429414147090832:True:=⟨⟩
theorem tw9716624006974247489:True:=⟨⟩
theorem tw6164561884633627433:True:=⟨⟩
theorem tw11311155076762098589:True:=⟨⟩
theorem tw11374851513655246148:True:=⟨⟩
theorem tw16721930046160240684:True:=⟨⟩
theorem tw7173623326730630234:True:=⟨⟩
theorem tw8528285597010949478:True:=⟨⟩
theorem tw3491332818749588091:True:=⟨⟩
theorem tw10177057350305019805:True:=⟨⟩
theorem tw7972779244933481256:True:=⟨⟩
theorem tw11716418206903941319:True:=⟨⟩
theorem tw17510229520200029679:True:=⟨⟩
theorem tw16819838333489098493:True:=⟨⟩
theorem tw6385024630547198690:True:=⟨⟩
theorem tw17767330081159143506:True:=⟨⟩
theorem tw14814594519894181452:True:=⟨⟩
theorem tw3234112476842188716:True:=⟨⟩
theorem tw5061512775090418087:True:=⟨⟩
theorem tw9272984997812220495:True:=⟨⟩
theorem tw9682133043923132273:True:=⟨⟩
theorem tw14864641218109852296:True:=⟨⟩
theorem tw4072190877284726289:True:=⟨⟩
theorem tw16452447596832230105:True:=⟨⟩
theorem tw17402982504261768225:True:=⟨⟩
theorem tw14639212616227390028:True:=⟨⟩
theorem tw5995161000843957690:True:=⟨⟩
theorem tw5127751686995613262:True:=⟨⟩
theorem tw4047586217144654443:True:=⟨⟩
theorem tw14909365282108701170:True:=⟨⟩
theorem tw12483276189755474720:True:=⟨⟩
theorem tw11501822485730972192:True:=⟨⟩
theorem tw18325589031809861271:True:=⟨⟩
theorem tw15491723280356408159:True:=⟨⟩
theorem tw1306636233014830658:True:=⟨⟩
theorem tw1453356044741674121:True:=⟨⟩
theorem tw13465503431842376007:True:=⟨⟩
theorem tw14907226015203709474:True:=⟨⟩
theorem tw14646587721710459877:True:=⟨⟩
theorem tw17091655785135471103:True:=⟨⟩
theorem tw7751025194823839400:True:=⟨⟩
theorem tw5871769198996169552:True:=⟨⟩
theorem tw5181119749688162637:True:=⟨⟩
theorem tw16965079339398995527:True:=⟨⟩
theorem tw17904854198161793398:True:=⟨⟩
theorem tw8681388529863501421:True:=⟨⟩
theorem tw11261727412033496967:True:=⟨⟩
theorem tw8211959896082780389:True:=⟨⟩
theorem tw9964214247947446159:True:=⟨⟩
theorem tw14492832472218066102:True:=⟨⟩
theorem tw6455149578367423246:True:=⟨⟩
theorem tw6886502059237256666:True:=⟨⟩
theorem tw7639352225515584698:True:=⟨⟩
theorem tw7884273913378172499:True:=⟨⟩
theorem tw4766233809647381661:True:=⟨⟩
theorem tw5571399437266216444:True:=⟨⟩
theorem tw18421580907717582127:True:=⟨⟩
theorem tw18403998269306519403:True:=⟨⟩
theorem tw5450094653865882931:True:=⟨⟩
theorem tw785246043732427063:True:=⟨⟩
theorem tw1900339198761634783:True:=⟨⟩
theorem tw16832360635688203351:True:=⟨⟩
theorem tw14635473669698735251:True:=⟨⟩
theorem tw480701840831765632:True:=⟨⟩
theorem tw48596604365144762:True:=⟨⟩
theorem tw9670510015898674028:True:=⟨⟩
theorem tw15062679425460387418:True:=⟨⟩
theorem tw9369988214560726041:True:=⟨⟩
theorem tw12077450504624328385:True:=⟨⟩
theorem tw1270039299266317192:True:=⟨⟩
theorem tw10953687544409504101:True:=⟨⟩
theorem tw6075091234017535682:True:=⟨⟩
theorem tw11221353774195762014:True:=⟨⟩
theorem tw15514936471743626214:True:=⟨⟩
theorem tw4775608329324902142:True:=⟨⟩
theorem tw15928290008803537013:True:=⟨⟩
theorem tw796168687070700412:True:=⟨⟩
theorem tw17096532924672817327:True:=⟨⟩
theorem tw2456247091588846565:True:=⟨⟩
theorem tw3958507339218470045:True:=⟨⟩
theorem tw17057053908230417247:True:=⟨⟩
theorem tw1242282695825638017:True:=⟨⟩
theorem tw10334261112615635914:True:=⟨⟩
theorem tw15734660467963936456:True:=⟨⟩
theorem tw16049902774474827687:True:=⟨⟩
theorem tw4039676971129161736:True:=⟨⟩
theorem tw11544348965984651327:True:=⟨⟩
theorem tw3288582142898991060:True:=⟨⟩
theorem tw13989496423458381343:True:=⟨⟩
theorem tw16641786646906312760:True:=⟨⟩
theorem tw5790326737455844299:True:=⟨⟩
theorem tw5243159528196176124:True:=⟨⟩
theorem tw18425317256667529438:True:=⟨⟩
theorem tw2921958311620399285:True:=⟨⟩
theorem tw6981815665589151136:True:=⟨⟩
theorem tw14640416626631428029:True:=⟨⟩
theorem tw5517759331935216279:True:=⟨⟩
theorem tw15097543051748444868:True:=⟨⟩
theorem tw13110970153573199417:True:=⟨⟩
theorem tw7298748307773712898:True:=⟨⟩
theorem tw3343439749351644125:True:=⟨⟩
theorem tw1092785777240315536:True:=⟨⟩
theorem tw10924716458440934090:True:=⟨⟩
theorem tw11403851563620829512:True:=⟨⟩
theorem tw8060562821785662972:True:=⟨⟩
theorem tw4749052000479324790:True:=⟨⟩
theorem tw1850612553970854742:True:=⟨⟩
theorem tw3549514262204291990:True:=⟨⟩
theorem tw11857135199678951331:True:=⟨⟩
theorem tw12941917028564957548:True:=⟨⟩
theorem tw5378808338967829844:True:=⟨⟩
theorem tw2058021452347087232:True:=⟨⟩
theorem tw5921134243170700561:True:=⟨⟩
theorem tw7411558596216406370:True:=⟨⟩
theorem tw5203219222101121401:True:=⟨⟩
theorem tw3394367416137920725:True:=⟨⟩
theorem tw10813080517026676716:True:=⟨⟩
theorem tw6801380410627298636:True:=⟨⟩
theorem tw7308723440029596264:True:=⟨⟩
theorem tw10707853282979444102:True:=⟨⟩
theorem tw16778611742570070204:True:=⟨⟩
theorem tw15955573374722617477:True:=⟨⟩
theorem tw17275675667316583603:True:=⟨⟩
theorem tw13777938177461255882:True:=⟨⟩
theorem tw6545385358150927430:True:=⟨⟩
theorem tw15806524323241146399:True:=⟨⟩
theorem tw14027531716089632829:True:=⟨⟩
theorem tw13348322127785295214:True:=⟨⟩
theorem tw2019394398466159022:True:=⟨⟩
theorem tw14060465935940456498:True:=⟨⟩
theorem tw17495560712657236704:True:=⟨⟩
theorem tw4605139254293405059:True:=⟨⟩
theorem tw6511744376749373798:True:=⟨⟩
theorem tw8260724100714396741:True:=⟨⟩
theorem tw31828345220925962:True:=⟨⟩
theorem tw9303439499767911484:True:=⟨⟩
theorem tw13110577991587790113:True:=⟨⟩
theorem tw17147588175821073265:True:=⟨⟩
theorem tw1156462466702112376:True:=⟨⟩
theorem tw2544328076492683441:True:=⟨⟩
theorem tw18392154025008590481:True:=⟨⟩
theorem tw8546124895413445307:True:=⟨⟩
theorem tw16544489699163171333:True:=⟨⟩
theorem tw6449824600675878752:True:=⟨⟩
theorem tw14759895335926876869:True:=⟨⟩
theorem tw12732289081945773324:True:=⟨⟩
theorem tw5309058905264134205:True:=⟨⟩
theorem tw7010351842590255796:True:=⟨⟩
theorem tw5831584030425509755:True:=⟨⟩
theorem tw7297187181890747607:True:=⟨⟩
theorem tw13313126695403321540:True:=⟨⟩
theorem tw17453503289922162039:True:=⟨⟩
theorem tw11614107205274993552:True:=⟨⟩
theorem tw10283388844273144081:True:=⟨⟩
theorem tw7332552209862256014:True:=⟨⟩
theorem tw1084220662915027778:True:=⟨⟩
theorem tw4216741518440994707:True:=⟨⟩
theorem tw14562738103837258888:True:=⟨⟩
theorem tw13157206579259725088:True:=⟨⟩
theorem tw9394770849952503311:True:=⟨⟩
theorem tw12543713266681445118:True:=⟨⟩
theorem tw13962693860625380366:True:=⟨⟩
theorem tw8265370782698574782:True:=⟨⟩
theorem tw6508729118710982530:True:=⟨⟩
theorem tw1118068078248606362:True:=⟨⟩
theorem tw1236483940969888574:True:=⟨⟩
theorem tw17298425922696826006:True:=⟨⟩
theorem tw15059693217772790739:True:=⟨⟩
theorem tw588950844065142505:True:=⟨⟩
theorem tw13547569757486424058:True:=⟨⟩
theorem tw17336282652733537790:True:=⟨⟩
theorem tw1054321117371714560:True:=⟨⟩
theorem tw15510692781650021527:True:=⟨⟩
theorem tw5502569546826302122:True:=⟨⟩
theorem tw11410963132546700228:True:=⟨⟩
theorem tw1587290215689348708:True:=⟨⟩
theorem tw17128291446047057950:True:=⟨⟩
theorem tw8844999433837080629:True:=⟨⟩
theorem tw13693970394777133609:True:=⟨⟩
theorem tw2428412748925179849:True:=⟨⟩
theorem tw6868236387235032019:True:=⟨⟩
theorem tw8627561154394265716:True:=⟨⟩
theorem tw799486724532869496:True:=⟨⟩
theorem tw8046773169563483271:True:=⟨⟩
theorem tw12255313618399501761:True:=⟨⟩
theorem tw12450111651097656602:True:=⟨⟩
theorem tw8905464785575363620:True:=⟨⟩
theorem tw11399646045708457374:True:=⟨⟩
theorem tw4585930131862741453:True:=⟨⟩
theorem tw11135027115929721415:True:=⟨⟩
theorem tw9848185148710128376:True:=⟨⟩
theorem tw15017983477296125989:True:=⟨⟩
theorem tw8809968196449919288:True:=⟨⟩
theorem tw1261021989165538067:True:=⟨⟩
theorem tw18190005008629794160:True:=⟨⟩
theorem tw3627144658338631552:True:=⟨⟩
theorem tw5287059835090251167:True:=⟨⟩
theorem tw9957550378297406723:True:=⟨⟩
theorem tw5781596087445459943:True:=⟨⟩
theorem tw18302796317244248524:True:=⟨⟩
theorem tw13406003279186336099:True:=⟨⟩
theorem tw17431719831054627609:True:=⟨⟩
theorem tw16022572192331126682:True:=⟨⟩
theorem tw4491334807805099456:True:=⟨⟩
theorem tw4126091431370883743:True:=⟨⟩
theorem tw1496695287857109588:True:=⟨⟩
theorem tw8207831470162742035:True:=⟨⟩
theorem tw4948327476702027199:True:=⟨⟩
theorem tw5518243967957118194:True:=⟨⟩
theorem tw3848698983108048278:True:=⟨⟩
theorem tw13113777628852026922:True:=⟨⟩
theorem tw2629084897520917108:True:=⟨⟩
theorem tw11476092923266045095:True:=⟨⟩
theorem tw7273056430967151046:True:=⟨⟩
theorem tw5838101520590548733:True:=⟨⟩
theorem tw14406990849044604362:True:=⟨⟩
theorem tw16790050636404226231:True:=⟨⟩
theorem tw9756827057097773860:True:=⟨⟩
theorem tw6565609875121592624:True:=⟨⟩
theorem tw10418042200766032776:True:=⟨⟩
theorem tw4088224383575840552:True:=⟨⟩
theorem tw12608185968620612914:True:=⟨⟩
theorem tw892681787802806017:True:=⟨⟩
theorem tw1390771862084280389:True:=⟨⟩
theorem tw15387884906608193903:True:=⟨⟩
theorem tw452746233719593009:True:=⟨⟩
theorem tw2337230598321646361:True:=⟨⟩
theorem tw5396361742852586263:True:=⟨⟩
theorem tw15277975159832343749:True:=⟨⟩
theorem tw6898400011967081535:True:=⟨⟩
theorem tw1826329307503635854:True:=⟨⟩
theorem tw13270728482189477470:True:=⟨⟩
theorem tw6862492499505807319:True:=⟨⟩
theorem tw14457758005677747962:True:=⟨⟩
theorem tw2906824675625879941:True:=⟨⟩
theorem tw834873547066669988:True:=⟨⟩
theorem tw14662554035588321541:True:=⟨⟩
theorem tw7153082081811710619:True:=⟨⟩
theorem tw9573086628692744296:True:=⟨⟩
theorem tw12574995316784493246:True:=⟨⟩
theorem tw17737603089517620647:True:=⟨⟩
theorem tw2583023086579268501:True:=⟨⟩
theorem tw11752208632293872130:True:=⟨⟩
theorem tw14336716466608126219:True:=⟨⟩
theorem tw17201416709059790184:True:=⟨⟩
theorem tw9470667924834194258:True:=⟨⟩
theorem tw4365514962571936147:True:=⟨⟩
theorem tw2794983428953441941:True:=⟨⟩
theorem tw6112859857366181021:True:=⟨⟩
theorem tw11923525502935528744:True:=⟨⟩
theorem tw11183452524601008856:True:=⟨⟩
theorem tw11789403723227289746:True:=⟨⟩
theorem tw11531331273489700057:True:=⟨⟩
theorem tw1142173933681417890:True:=⟨⟩
theorem tw3960113756560652017:True:=⟨⟩
theorem tw1628013610222277130:True:=⟨⟩
theorem tw9121559901702372667:True:=⟨⟩
theorem tw3454311308915712629:True:=⟨⟩
theorem tw15131278010643852716:True:=⟨⟩
theorem tw16755849432154420019:True:=⟨⟩
theorem tw15312394840280087653:True:=⟨⟩
theorem tw15342904991969174519:True:=⟨⟩
theorem tw52199770228462824:True:=⟨⟩
theorem tw14504180641510445567:True:=⟨⟩
theorem tw11463369355524808266:True:=⟨⟩
theorem tw9376575566392132001:True:=⟨⟩
theorem tw14788915703135433725:True:=⟨⟩
theorem tw14722489848711283861:True:=⟨⟩
theorem tw15608450976537380609:True:=⟨⟩
theorem tw3220561703981169602:True:=⟨⟩
theorem tw10669944970481658594:True:=⟨⟩
theorem tw13667920496262714385:True:=⟨⟩
theorem tw11101190512080308003:True:=⟨⟩
theorem tw7380652910202371479:True:=⟨⟩
theorem tw13350764725976880583:True:=⟨⟩
theorem tw10204856939554784155:True:=⟨⟩
theorem tw11987853993630220354:True:=⟨⟩
theorem tw10123989817122485451:True:=⟨⟩
theorem tw14161465996007527954:True:=⟨⟩
theorem tw4500915450034043215:True:=⟨⟩
theorem tw9361300454564663673:True:=⟨⟩
theorem tw9703084557020090508:True:=⟨⟩
theorem tw15580989882048331800:True:=⟨⟩
theorem tw11712081513822626495:True:=⟨⟩
theorem tw3796207824708393856:True:=⟨⟩
theorem tw2895952525429962455:True:=⟨⟩
theorem tw7186131708394509389:True:=⟨⟩
theorem tw18134284020713443437:True:=⟨⟩
theorem tw15593309334025535782:True:=⟨⟩
theorem tw7929128423345735474:True:=⟨⟩
theorem tw7647378279178456250:True:=⟨⟩
theorem tw3752486804209808556:True:=⟨⟩
theorem tw7884331609784382070:True:=⟨⟩
theorem tw3466206800631347469:True:=⟨⟩
theorem tw12361340156312767134:True:=⟨⟩
theorem tw17665120845849184447:True:=⟨⟩
theorem tw5944296511389562796:True:=⟨⟩
theorem tw8496204741378502239:True:=⟨⟩
theorem tw832900586485598795:True:=⟨⟩
theorem tw6877560268529008848:True:=⟨⟩
theorem tw14009396871252706886:True:=⟨⟩
theorem tw6053611964639427726:True:=⟨⟩
theorem tw5363903885879670357:True:=⟨⟩
theorem tw7846812961960373227:True:=⟨⟩
theorem tw1178595665728414349:True:=⟨⟩
theorem tw66260789543402106:True:=⟨⟩
theorem tw6907636171062424033:True:=⟨⟩
theorem tw15554039934745177238:True:=⟨⟩
theorem tw3314904115985164895:True:=⟨⟩
theorem tw4261964983698606537:True:=⟨⟩
theorem tw1519992759497675636:True:=⟨⟩
theorem tw16102231251864390963:True:=⟨⟩
theorem tw16923884221124529275:True:=⟨⟩
theorem tw2729793432009153956:True:=⟨⟩
theorem tw16193401482309157537:True:=⟨⟩
theorem tw15734200111481486640:True:=⟨⟩
theorem tw15558288988949320067:True:=⟨⟩
theorem tw7074144079889050967:True:=⟨⟩
theorem tw1216228984421328439:True:=⟨⟩
theorem tw12205347405646519318:True:=⟨⟩
theorem tw14218914174604095658:True:=⟨⟩
theorem tw16806246253224384389:True:=⟨⟩
theorem tw7083192437325867461:True:=⟨⟩
theorem tw962032349192862916:True:=⟨⟩
theorem tw16952715711813285254:True:=⟨⟩
theorem tw13219505800766818778:True:=⟨⟩
theorem tw4038153913678941442:True:=⟨⟩
theorem tw1027651156746619712:True:=⟨⟩
theorem tw11982392923317675503:True:=⟨⟩
theorem tw9808303207383738048:True:=⟨⟩
theorem tw13187166440333854079:True:=⟨⟩
theorem tw1198661942849946583:True:=⟨⟩
theorem tw5289026146741335887:True:=⟨⟩
theorem tw3911810758690780188:True:=⟨⟩
theorem tw9880953963774564861:True:=⟨⟩
theorem tw7358942708152152329:True:=⟨⟩
theorem tw8281396171620568247:True:=⟨⟩
theorem tw15060185592220127646:True:=⟨⟩
theorem tw17600866488970185278:True:=⟨⟩
theorem tw1615045767204293396:True:=⟨⟩
theorem tw17699438841360665129:True:=⟨⟩
theorem tw10210597933619972095:True:=⟨⟩
theorem tw6214117541549086881:True:=⟨⟩
theorem tw12139096438432415106:True:=⟨⟩
theorem tw7974275031393228247:True:=⟨⟩
theorem tw12646911602827044314:True:=⟨⟩
theorem tw9903775340124721222:True:=⟨⟩
theorem tw5234446048077146213:True:=⟨⟩
theorem tw10234815189450012239:True:=⟨⟩
theorem tw3570300971023340979:True:=⟨⟩
theorem tw12692632004510240207:True:=⟨⟩
theorem tw8496349624203035976:True:=⟨⟩
theorem tw13803360072150633466:True:=⟨⟩
theorem tw9558744834307401277:True:=⟨⟩
theorem tw7624293977416268664:True:=⟨⟩
theorem tw3137596982192898869:True:=⟨⟩
theorem tw8467378866343419333:True:=⟨⟩
theorem tw16008252555379753968:True:=⟨⟩
theorem tw12927740378394474205:True:=⟨⟩
theorem tw244467455267321384:True:=⟨⟩
theorem tw4036238207498611232:True:=⟨⟩
theorem tw49674306023711395:True:=⟨⟩
theorem tw3583811862363856187:True:=⟨⟩
theorem tw1255815211270559930:True:=⟨⟩
theorem tw17297283025540448806:True:=⟨⟩
theorem tw6140287776057189764:True:=⟨⟩
theorem tw16035907590883218939:True:=⟨⟩
theorem tw5372645768047454471:True:=⟨⟩
theorem tw6674386428176565332:True:=⟨⟩
theorem tw10450603732522932521:True:=⟨⟩
theorem tw10199874654664476236:True:=⟨⟩
theorem tw7691172733374981047:True:=⟨⟩
theorem tw961187720498965250:True:=⟨⟩
theorem tw16480584520131690045:True:=⟨⟩
theorem tw12252054271945606052:True:=⟨⟩
theorem tw6183352029847204284:True:=⟨⟩
theorem tw14027650596787315314:True:=⟨⟩
theorem tw8118072479153026202:True:=⟨⟩
theorem tw13980345723018547825:True:=⟨⟩
theorem tw11962923498438245051:True:=⟨⟩
theorem tw10453263994017694363:True:=⟨⟩
theorem tw14168887731352723522:True:=⟨⟩
theorem tw16451033083921036709:True:=⟨⟩
theorem tw14390754486103292620:True:=⟨⟩
theorem tw11003572833241299968:True:=⟨⟩
theorem tw2279707942289718827:True:=⟨⟩
theorem tw6632538468102435922:True:=⟨⟩
theorem tw11349898740250378076:True:=⟨⟩
theorem tw10750994468655217958:True:=⟨⟩
theorem tw358491910552652209:True:=⟨⟩
theorem tw8652556701797213591:True:=⟨⟩
theorem tw65644731488775911:True:=⟨⟩
theorem tw14064073609400967072:True:=⟨⟩
theorem tw6741292078354696603:True:=⟨⟩
theorem tw9368617206455126095:True:=⟨⟩
theorem tw8484041278411425421:True:=⟨⟩
theorem tw13597483153833180358:True:=⟨⟩
theorem tw14097447854668400296:True:=⟨⟩
theorem tw6702130215012162313:True:=⟨⟩
theorem tw7214478077546791972:True:=⟨⟩
theorem tw1130211791997205004:True:=⟨⟩
theorem tw10298723112805639129:True:=⟨⟩
theorem tw6696893160125735727:True:=⟨⟩
theorem tw12057704586751987240:True:=⟨⟩
theorem tw9190990891756207365:True:=⟨⟩
theorem tw6912675738884088206:True:=⟨⟩
theorem tw15649996292582860464:True:=⟨⟩
theorem tw9268297945177815525:True:=⟨⟩
theorem tw5585478044538960755:True:=⟨⟩
theorem tw1615956725737779560:True:=⟨⟩
theorem tw1409966394225722968:True:=⟨⟩
theorem tw5418533224930618480:True:=⟨⟩
theorem tw7165207203227711834:True:=⟨⟩
theorem tw17561526911342447988:True:=⟨⟩
theorem tw5649967823195072380:True:=⟨⟩
theorem tw13838900630717943254:True:=⟨⟩
theorem tw8478376212529829071:True:=⟨⟩
theorem tw7875838824674609581:True:=⟨⟩
theorem tw1253437644075932092:True:=⟨⟩
theorem tw16519101796099990279:True:=⟨⟩
theorem tw8729708805864041840:True:=⟨⟩
theorem tw2007339730380871907:True:=⟨⟩
theorem tw12915833801598196605:True:=⟨⟩
theorem tw4544244032028310869:True:=⟨⟩
theorem tw12518504611687188807:True:=⟨⟩
theorem tw15768048840197415361:True:=⟨⟩
theorem tw14771111431291430275:True:=⟨⟩
theorem tw104360540948158410:True:=⟨⟩
theorem tw2852251193174398662:True:=⟨⟩
theorem tw387501639795913443:True:=⟨⟩
theorem tw1150287232629052791:True:=⟨⟩
theorem tw13224007501803129859:True:=⟨⟩
theorem tw16798622893749714585:True:=⟨⟩
theorem tw16046730324260685337:True:=⟨⟩
theorem tw12343854547171428336:True:=⟨⟩
theorem tw12702744160499308131:True:=⟨⟩
theorem tw1777545030009416734:True:=⟨⟩
theorem tw6541472054586571296:True:=⟨⟩
theorem tw1099256609624015869:True:=⟨⟩
theorem tw12741544251441588921:True:=⟨⟩
theorem tw16135426469972691074:True:=⟨⟩
theorem tw18162592725011693541:True:=⟨⟩
theorem tw12338497608069007261:True:=⟨⟩
theorem tw10044588960856096794:True:=⟨⟩
theorem tw545269030811804461:True:=⟨⟩
theorem tw9512817274939609580:True:=⟨⟩
theorem tw5623159541915647742:True:=⟨⟩
theorem tw7299474751278700455:True:=⟨⟩
theorem tw15803610866087392283:True:=⟨⟩
theorem tw1429040668314091153:True:=⟨⟩
theorem tw13148611719377898607:True:=⟨⟩
theorem tw3370190323706015969:True:=⟨⟩
theorem tw12463224122652932544:True:=⟨⟩
theorem tw18238007617527299592:True:=⟨⟩
theorem tw9508770018378322450:True:=⟨⟩
theorem tw14798791472264738832:True:=⟨⟩
theorem tw8436210846270712021:True:=⟨⟩
theorem tw14554314840745968623:True:=⟨⟩
theorem tw11092141859048813250:True:=⟨⟩
theorem tw6663778134991626487:True:=⟨⟩
theorem tw2225956059507018244:True:=⟨⟩
theorem tw7293298908176781663:True:=⟨⟩
theorem tw16922381011570985944:True:=⟨⟩
theorem tw7563215957194029611:True:=⟨⟩
theorem tw15467891735981029475:True:=⟨⟩
theorem tw8249873531624179374:True:=⟨⟩
theorem tw3203809635103463919:True:=⟨⟩
theorem tw16689149305811164139:True:=⟨⟩
theorem tw16320215318167395912:True:=⟨⟩
theorem tw8440099810896429113:True:=⟨⟩
theorem tw5671064798259553346:True:=⟨⟩
theorem tw12800608258095302798:True:=⟨⟩
theorem tw9189880136782149556:True:=⟨⟩
theorem tw17708487481403421675:True:=⟨⟩
theorem tw4812270449578504274:True:=⟨⟩
theorem tw14080665800827857628:True:=⟨⟩
theorem tw8989776476301544223:True:=⟨⟩
theorem tw9942282790977331292:True:=⟨⟩
theorem tw8127475511531132179:True:=⟨⟩
theorem tw11933201153402537488:True:=⟨⟩
theorem tw10896356407431480244:True:=⟨⟩
theorem tw2704602940660078815:True:=⟨⟩
theorem tw13154001654789283132:True:=⟨⟩
theorem tw5240779543111244032:True:=⟨⟩
theorem tw9557352009045844224:True:=⟨⟩
theorem tw13355152605343272895:True:=⟨⟩
theorem tw2402762420636078793:True:=⟨⟩
theorem tw13532707612510029741:True:=⟨⟩
theorem tw221909299271738847:True:=⟨⟩
theorem tw4650958065196391918:True:=⟨⟩
theorem tw17353955331779342651:True:=⟨⟩
theorem tw7113585516715319716:True:=⟨⟩
theorem tw8905992674379837232:True:=⟨⟩
theorem tw8557395850702784662:True:=⟨⟩
theorem tw4719957520787936630:True:=⟨⟩
theorem tw5456330333991267789:True:=⟨⟩
theorem tw12653679108036650311:True:=⟨⟩
theorem tw4034048572721927537:True:=⟨⟩
theorem tw18120430973489738927:True:=⟨⟩
theorem tw6542085627976250192:True:=⟨⟩
theorem tw302440914744352476:True:=⟨⟩
theorem tw16651728564920304373:True:=⟨⟩
theorem tw6162249291895867263:True:=⟨⟩
theorem tw8707812797481193996:True:=⟨⟩
theorem tw9381277316556691805:True:=⟨⟩
theorem tw5102693214775723256:True:=⟨⟩
theorem tw7221758910455160077:True:=⟨⟩
theorem tw3045742163950154196:True:=⟨⟩
theorem tw979501456738626862:True:=⟨⟩
theorem tw9840939614602229412:True:=⟨⟩
theorem tw13293747886898857621:True:=⟨⟩
theorem tw12273490649430754879:True:=⟨⟩
theorem tw3706830351922483016:True:=⟨⟩
theorem tw13180746182150919023:True:=⟨⟩
theorem tw7019240024125815769:True:=⟨⟩
theorem tw18332899500509843999:True:=⟨⟩
theorem tw7697417962357392202:True:=⟨⟩
theorem tw10094358506670053839:True:=⟨⟩
theorem tw18031918436515192882:True:=⟨⟩
theorem tw4413345314126155841:True:=⟨⟩
theorem tw8952462522180670554:True:=⟨⟩
theorem tw8828626079734051433:True:=⟨⟩
theorem tw4458048076830672230:True:=⟨⟩
theorem tw13591255225166038476:True:=⟨⟩
theorem tw11181722664286889309:True:=⟨⟩
theorem tw9994787619460420439:True:=⟨⟩
theorem tw14106445559736802775:True:=⟨⟩
theorem tw453184122279072053:True:=⟨⟩
theorem tw9483120023164983764:True:=⟨⟩
theorem tw18063282731904131703:True:=⟨⟩
theorem tw3160845607165458772:True:=⟨⟩
theorem tw3305931106042330821:True:=⟨⟩
theorem tw7108953243070827183:True:=⟨⟩
theorem tw15023316991559800185:True:=⟨⟩
theorem tw13876859957761632879:True:=⟨⟩
theorem tw161903638078081290:True:=⟨⟩
theorem tw2406621943657119228:True:=⟨⟩
theorem tw10987386120367425466:True:=⟨⟩
theorem tw3867218068155391060:True:=⟨⟩
theorem tw4946776927847147119:True:=⟨⟩
theorem tw2744014450722944760:True:=⟨⟩
theorem tw14666387041718499266:True:=⟨⟩
theorem tw13227692790652741651:True:=⟨⟩
theorem tw10455743928339290457:True:=⟨⟩
theorem tw1519927702969063271:True:=⟨⟩
theorem tw2190695567426971638:True:=⟨⟩
theorem tw2702614204127132176:True:=⟨⟩
theorem tw9155575984036265788:True:=⟨⟩
theorem tw6768520987592691376:True:=⟨⟩
theorem tw4330594992337426955:True:=⟨⟩
theorem tw16008457594558532635:True:=⟨⟩
theorem tw7943094425149488825:True:=⟨⟩
theorem tw10047389527955405517:True:=⟨⟩
theorem tw10663580350406149668:True:=⟨⟩
theorem tw1886080085820668685:True:=⟨⟩
theorem tw474381771622712015:True:=⟨⟩
theorem tw15957597259013190341:True:=⟨⟩
theorem tw15970538086172389420:True:=⟨⟩
theorem tw6910295442248876197:True:=⟨⟩
theorem tw7675930258259734528:True:=⟨⟩
theorem tw15303317825217679618:True:=⟨⟩
theorem tw10825838108423173272:True:=⟨⟩
theorem tw18315214858253571532:True:=⟨⟩
theorem tw12304082900475741265:True:=⟨⟩
theorem tw16320729459185622934:True:=⟨⟩
theorem tw12431561837914552411:True:=⟨⟩
theorem tw16136984950599521427:True:=⟨⟩
theorem tw9626384672669237482:True:=⟨⟩
theorem tw1714950047550659301:True:=⟨⟩
theorem tw11710404883906591787:True:=⟨⟩
theorem tw341453280667917650:True:=⟨⟩
theorem tw11120327062377616369:True:=⟨⟩
theorem tw73751810991705359:True:=⟨⟩
theorem tw2538046985915079169:True:=⟨⟩
theorem tw4333880214566435006:True:=⟨⟩
theorem tw12675357926760492328:True:=⟨⟩
theorem tw9417822746687237092:True:=⟨⟩
theorem tw15565075772751903193:True:=⟨⟩
theorem tw4838787530573997063:True:=⟨⟩
theorem tw17871620999419790863:True:=⟨⟩
theorem tw8748973510418095054:True:=⟨⟩
theorem tw6655696309031964122:True:=⟨⟩
theorem tw13260870731297125680:True:=⟨⟩
theorem tw833945537157984683:True:=⟨⟩
theorem tw16629339528299215175:True:=⟨⟩
theorem tw471287901995484742:True:=⟨⟩
theorem tw9925469786538053656:True:=⟨⟩
theorem tw9321267617633783869:True:=⟨⟩
theorem tw962193829226610041:True:=⟨⟩
theorem tw13503263706703578961:True:=⟨⟩
theorem tw12027323910402764344:True:=⟨⟩
theorem tw7590696779544312186:True:=⟨⟩
theorem tw16817993663026736274:True:=⟨⟩
theorem tw6584820252761975732:True:=⟨⟩
theorem tw11774690029378154688:True:=⟨⟩
theorem tw13642826006792871662:True:=⟨⟩
theorem tw3934531018447913466:True:=⟨⟩
theorem tw2110754180369666209:True:=⟨⟩
theorem tw10092017014551392330:True:=⟨⟩
theorem tw10642606787283503386:True:=⟨⟩
theorem tw6596593509180878263:True:=⟨⟩
theorem tw10877679251791092727:True:=⟨⟩
theorem tw17958375852430007124:True:=⟨⟩
theorem tw14672674291997333471:True:=⟨⟩
theorem tw16551855485269240956:True:=⟨⟩
theorem tw4908570168794737769:True:=⟨⟩
theorem tw8634654232796393261:True:=⟨⟩
theorem tw15438212644395081984:True:=⟨⟩
theorem tw14235155234550121937:True:=⟨⟩
theorem tw15579395750891953841:True:=⟨⟩
theorem tw18431692314602308842:True:=⟨⟩
theorem tw6418098437765475518:True:=⟨⟩
theorem tw6674893403203295414:True:=⟨⟩
theorem tw5665735395497279834:True:=⟨⟩
theorem tw7698036289167662538:True:=⟨⟩
theorem tw6559806142732475569:True:=⟨⟩
theorem tw5084117380071580128:True:=⟨⟩
theorem tw15270170921892066516:True:=⟨⟩
theorem tw3222223853247747169:True:=⟨⟩
theorem tw2759098988195820126:True:=⟨⟩
theorem tw14161005256144132680:True:=⟨⟩
theorem tw11554813239044494598:True:=⟨⟩
theorem tw14368271195830560734:True:=⟨⟩
theorem tw10864377008497418100:True:=⟨⟩
theorem tw12681957500809781501:True:=⟨⟩
theorem tw13724616953566380437:True:=⟨⟩
theorem tw14313897822631088780:True:=⟨⟩
theorem tw8079908401900000222:True:=⟨⟩
theorem tw12974819211118642341:True:=⟨⟩
theorem tw6557543464795787104:True:=⟨⟩
theorem tw917386388269078853:True:=⟨⟩
theorem tw18288009448212308685:True:=⟨⟩
theorem tw1545906260438175962:True:=⟨⟩
theorem tw5842977544298395883:True:=⟨⟩
theorem tw14443092014599818573:True:=⟨⟩
theorem tw14216407083858561409:True:=⟨⟩
theorem tw1454224541498743561:True:=⟨⟩
theorem tw12751799325998411230:True:=⟨⟩
theorem tw10463206416058312583:True:=⟨⟩
theorem tw9302470337196694018:True:=⟨⟩
theorem tw4900431672193113347:True:=⟨⟩
theorem tw6237627108579964202:True:=⟨⟩
theorem tw14510055921401542917:True:=⟨⟩
theorem tw13590572293223372214:True:=⟨⟩
theorem tw15350898050860989542:True:=⟨⟩
theorem tw17268439761433841065:True:=⟨⟩
theorem tw12992176717851604617:True:=⟨⟩
theorem tw4475767826048309731:True:=⟨⟩
theorem tw15737690656516749961:True:=⟨⟩
theorem tw8883465813499100731:True:=⟨⟩
theorem tw17974016328880235120:True:=⟨⟩
theorem tw1318968915056948652:True:=⟨⟩
theorem tw6855474311058116810:True:=⟨⟩
theorem tw854977524454699277:True:=⟨⟩
theorem tw8102450764968551371:True:=⟨⟩
theorem tw5613160597433933154:True:=⟨⟩
theorem tw12922898485456448571:True:=⟨⟩
theorem tw4651154628705390771:True:=⟨⟩
theorem tw5473700226181020891:True:=⟨⟩
theorem tw5890889631881817875:True:=⟨⟩
theorem tw6087835443962453003:True:=⟨⟩
theorem tw12590340796369385619:True:=⟨⟩
theorem tw13972245371655741198:True:=⟨⟩
theorem tw16508919721030705984:True:=⟨⟩
theorem tw15624239662980076321:True:=⟨⟩
theorem tw3864431920445960829:True:=⟨⟩
theorem tw4310270188432123100:True:=⟨⟩
theorem tw16292202817602668162:True:=⟨⟩
theorem tw16676564476587882173:True:=⟨⟩
theorem tw10992214633131536827:True:=⟨⟩
theorem tw9561784451562097942:True:=⟨⟩
theorem tw8834365191522931223:True:=⟨⟩
theorem tw12222963475772708484:True:=⟨⟩
theorem tw12900284412222446716:True:=⟨⟩
theorem tw3829396358689915599:True:=⟨⟩
theorem tw17456035664235451855:True:=⟨⟩
theorem tw2173562974560187446:True:=⟨⟩
theorem tw12885385263037960081:True:=⟨⟩
theorem tw17403364634526059139:True:=⟨⟩
theorem tw5160751907100791332:True:=⟨⟩
theorem tw12748397558918655664:True:=⟨⟩
theorem tw332842708815166614:True:=⟨⟩
theorem tw3884239624115115886:True:=⟨⟩
theorem tw3477168479485107808:True:=⟨⟩
theorem tw15364806604128597733:True:=⟨⟩
theorem tw14490783859744100741:True:=⟨⟩
theorem tw11102211075282905558:True:=⟨⟩
theorem tw4816591812421909578:True:=⟨⟩
theorem tw5893016063293617520:True:=⟨⟩
end Mine.main
set_option Elab.async true
set_option maxRecDepth 100000 in
set_option maxHeartbeats 0 in
theorem Mine.main : PySem.Challenge.rw_nz0373_01.Holds := by
  w_on; o_law; o_head (kHook Mine.KK Mine.KKa (fun P => Mine.KKa_eq P)); (case hw => w_witness2)
  intro w s₀ s₁ mg mb G Y fa o pm cd doc dV kV ho hd hcd hD hmg hg args vals as hpre hlay hrd hwl hlo
  have KX := kIn_of Y
  k_behind G ho hd hcd hD hmg hpre hlay hrd hwl hlo cd
  all_goals (clear hcd)
  rename IntsAre _ _ => hI'
  rename Fr _ _ _ _ => F'
  rename News _ _ _ _ => N'
  rename CellsAre _ _ _ => Y'
  rename Below _ _ _ _ => B'
  rename Top _ _ _ _ _ _ => T'
  rename Heap.IsList _ _ _ => L'
  rename ¬(_ < _) => hc'
  have hz' := hI'.length
  refine Mine.law_run ?hsc ?hb ?hll B' KX T' F' N' Y' L' hI' ?hsz fun h tk hk => Mine.law_good hk hg
  case hsz => omega
  case hsc => kernel_rfl
  case hb => kernel_rfl
  case hll => kernel_rfl

theorem PySem.Challenge.cw_nz0373_01_holds : PySem.Challenge.rw_nz0373_01.Holds :=
  Mine.main
