import PyProof.Rows.All
import Wide.All
import OpenK.AllK
import Wide.FinOn
import KE.LcTurns
import KE.KLcTest
import KE.KTup
import Lean
import PySem.Challenge.RW_pf0278_01
set_option Elab.async false
set_option autoImplicit false
set_option linter.unusedVariables false
set_option linter.unusedSimpArgs false
set_option maxRecDepth 100000
set_option maxHeartbeats 0
set_option genSizeOf false
set_option genSizeOfSpec false
set_option genInjectivity false
set_option bootstrap.genMatcherCode false
set_option backward.match.sparseCases false
section
namespace Mine
open PySem PySem.W PyProof.Rows PySem.Calls


inductive VV where
  | none | bool (b : Bool) | int (i : Int) | str (x : Nat) | bytes (bs : List Int) | ref (n : Nat)
  deriving DecidableEq, Inhabited

structure VH where
  cls : Nat → Option Nat
  fld : Nat → Nat → Option VV
  lst : Nat → Option (List VV)
  tup : Nat → Option (List VV)
  sd : Nat → Option (List (Nat × VV))
  ic : Nat → Option (List (Int × VV))
  ver : Nat → Nat
  nxt : Nat

noncomputable def upd {α : Type} (f : Nat → α) (n : Nat) (v : α) : Nat → α := fun k => if k = n then v else f k

namespace VH
noncomputable def setF (h : VH) (n f : Nat) (v : VV) : VH := { h with fld := upd h.fld n (upd (h.fld n) f (some v)) }
noncomputable def setL (h : VH) (n : Nat) (vs : List VV) : VH := { h with lst := upd h.lst n (some vs), ver := upd h.ver n (h.ver n + 1) }
noncomputable def setS (h : VH) (n : Nat) (es : List (Nat × VV)) : VH := { h with sd := upd h.sd n (some es), ver := upd h.ver n (h.ver n + 1) }
noncomputable def setI (h : VH) (n : Nat) (es : List (Int × VV)) : VH := { h with ic := upd h.ic n (some es), ver := upd h.ver n (h.ver n + 1) }
noncomputable def newC (h : VH) (c : Nat) : VH := { h with cls := upd h.cls h.nxt (some c), fld := upd h.fld h.nxt (fun _ => none), nxt := h.nxt + 1 }
noncomputable def newL (h : VH) (vs : List VV) : VH := { h with lst := upd h.lst h.nxt (some vs), nxt := h.nxt + 1 }
noncomputable def newT (h : VH) (vs : List VV) : VH := { h with tup := upd h.tup h.nxt (some vs), nxt := h.nxt + 1 }
noncomputable def newS (h : VH) (es : List (Nat × VV)) : VH := { h with sd := upd h.sd h.nxt (some es), nxt := h.nxt + 1 }
noncomputable def newI (h : VH) (es : List (Int × VV)) : VH := { h with ic := upd h.ic h.nxt (some es), nxt := h.nxt + 1 }
end VH

mutual
inductive PE where
  | none | bool (b : Bool) | int (i : Int) | str (x : Nat) | bytes (bs : List Int)
  | loc (x : Nat) | glb (x : Nat)
  | attr (e : PE) (f : Nat)
  | fn (g : Nat) (args : PEs)
  | new (c : Nat) (args : PEs)
  | meth (o : PE) (m : Nat) (args : PEs)
  | bm (o : PE) (m : Nat) (args : PEs)
  | bf (b : Nat) (args : PEs)
  | lrange (a b : PE)
  | bin (op : Nat) (a b : PE)
  | cmp (op : Nat) (a b : PE)
  | and (es : PEs) | or (es : PEs) | not (e : PE)
  | ife (t a b : PE)
  | tup (es : PEs) | list (es : PEs)
  | sdict (ks : List Nat) (vs : PEs) | idict (ks : List Int) (vs : PEs)
  | sub (e i : PE)
  | slc (e : PE) (lo hi : Option Int)
inductive PEs where
  | nil | cons (e : PE) (es : PEs)
end

inductive PT where
  | name (x : Nat) | attr (e : PE) (f : Nat) | sub (e i : PE)

mutual
inductive PS where
  | asg (t : PT) (e : PE)
  | asgT (ts : List PT) (e : PE)
  | augA (o : PE) (f : Nat) (op : Nat) (e : PE)
  | ifs (t : PE) (a b : PSs)
  | ret (e : PE)
  | retN
  | forL (x : Nat) (it : PE) (body : PSs)
  | forD (x : Nat) (it : PE) (body : PSs)
  | forR (x : Nat) (a b : PE) (body : PSs)
  | expr (e : PE)
  | dead
inductive PSs where
  | nil | cons (s : PS) (ss : PSs)
end

noncomputable def nmL : List String := ["datagram", "window", "threshold", "recovery_at", "in_flight", "credit", "since", "latest", "least", "smoothed8", "variance4", "first_at", "control", "rtt", "way", "elder", "came_by", "limit", "known", "current", "used", "retire_prior", "told", "to_retire", "is_empty", "address", "state", "is_free", "received", "sent", "challenges", "deadline", "wants_more", "role", "may_move", "active", "last_proven", "highest", "answers", "name", "next_number", "largest_acked", "acked", "last_eliciting_time", "loss_time", "largest_seen", "largest_time", "floor", "first_unacked", "unacked", "wants_now", "has_new", "ecn", "is_gone", "paths", "remote", "owed", "events", "config", "?0", "?1", "?2", "?3", "?4", "away", "home", "third", "initial_window", "min", "max", "LEAST_PACKETS", "INITIAL_OCTETS", "INITIAL_PACKETS", "self", "__init__", "NewReno", "Rtt", "INITIAL_RTT", "conn", "now", "begin_anew", "out", "renew_way", "is_proven", "path", "number", "is_probing", "note_move", "on_packet", "change", "extend", "frames", "append", "moved", "ahead", "data", "take_answer", "take_response", "first", "token", "RemoteIds", "len", "cid", "check_new", "other", "prior", "on_new", "retire_below", "sorted", "retire", "use", "pop", "present", "fresh", "Path", "PATH_PROVEN", "PATH_UNPROVEN", "size", "on_received", "prove", "wait", "challenge", "PATH_TRYING", "renew", "PATH_FAILED", "Paths", "path_of", "opened", "found", "on_datagram", "client", "is_newest", "wants_challenge", "is_tried", "Space", "box", "many", "_law_take", "abs", "spare", "_law_state", "bytes", "server", "world", "_law_renews", "here", "proven", "turn", "_law_packet", "renews", "source", "by", "is_probe", "is_new", "retire_connection_id", "left", "newest", "_law_answer", "some", "fits", "at", "tried", "_law_is_alike", "places", "marks", "script", "law", "wants", "update", "list", "PROTOCOL_VIOLATION", "FRAME_NEW", "CONNECTION_ID_LIMIT_ERROR", "unproven", "trying", "failed"]
noncomputable def nm (i : Nat) : Str := Str.ofString (nmL.getD i "")
noncomputable abbrev n_datagram : Nat := 0
noncomputable abbrev n_window : Nat := 1
noncomputable abbrev n_threshold : Nat := 2
noncomputable abbrev n_recovery_at : Nat := 3
noncomputable abbrev n_in_flight : Nat := 4
noncomputable abbrev n_credit : Nat := 5
noncomputable abbrev n_since : Nat := 6
noncomputable abbrev n_latest : Nat := 7
noncomputable abbrev n_least : Nat := 8
noncomputable abbrev n_smoothed8 : Nat := 9
noncomputable abbrev n_variance4 : Nat := 10
noncomputable abbrev n_first_at : Nat := 11
noncomputable abbrev n_control : Nat := 12
noncomputable abbrev n_rtt : Nat := 13
noncomputable abbrev n_way : Nat := 14
noncomputable abbrev n_elder : Nat := 15
noncomputable abbrev n_came_by : Nat := 16
noncomputable abbrev n_limit : Nat := 17
noncomputable abbrev n_known : Nat := 18
noncomputable abbrev n_current : Nat := 19
noncomputable abbrev n_used : Nat := 20
noncomputable abbrev n_retire_prior : Nat := 21
noncomputable abbrev n_told : Nat := 22
noncomputable abbrev n_to_retire : Nat := 23
noncomputable abbrev n_is_empty : Nat := 24
noncomputable abbrev n_address : Nat := 25
noncomputable abbrev n_state : Nat := 26
noncomputable abbrev n_is_free : Nat := 27
noncomputable abbrev n_received : Nat := 28
noncomputable abbrev n_sent : Nat := 29
noncomputable abbrev n_challenges : Nat := 30
noncomputable abbrev n_deadline : Nat := 31
noncomputable abbrev n_wants_more : Nat := 32
noncomputable abbrev n_role : Nat := 33
noncomputable abbrev n_may_move : Nat := 34
noncomputable abbrev n_active : Nat := 35
noncomputable abbrev n_last_proven : Nat := 36
noncomputable abbrev n_highest : Nat := 37
noncomputable abbrev n_answers : Nat := 38
noncomputable abbrev n_name : Nat := 39
noncomputable abbrev n_next_number : Nat := 40
noncomputable abbrev n_largest_acked : Nat := 41
noncomputable abbrev n_acked : Nat := 42
noncomputable abbrev n_last_eliciting_time : Nat := 43
noncomputable abbrev n_loss_time : Nat := 44
noncomputable abbrev n_largest_seen : Nat := 45
noncomputable abbrev n_largest_time : Nat := 46
noncomputable abbrev n_floor : Nat := 47
noncomputable abbrev n_first_unacked : Nat := 48
noncomputable abbrev n_unacked : Nat := 49
noncomputable abbrev n_wants_now : Nat := 50
noncomputable abbrev n_has_new : Nat := 51
noncomputable abbrev n_ecn : Nat := 52
noncomputable abbrev n_is_gone : Nat := 53
noncomputable abbrev n_paths : Nat := 54
noncomputable abbrev n_remote : Nat := 55
noncomputable abbrev n_owed : Nat := 56
noncomputable abbrev n_events : Nat := 57
noncomputable abbrev n_config : Nat := 58
noncomputable abbrev n_away : Nat := 64
noncomputable abbrev n_home : Nat := 65
noncomputable abbrev n_third : Nat := 66
noncomputable abbrev n_initial_window : Nat := 67
noncomputable abbrev n_min : Nat := 68
noncomputable abbrev n_max : Nat := 69
noncomputable abbrev n_LEAST_PACKETS : Nat := 70
noncomputable abbrev n_INITIAL_OCTETS : Nat := 71
noncomputable abbrev n_INITIAL_PACKETS : Nat := 72
noncomputable abbrev n_self : Nat := 73
noncomputable abbrev n_init_ : Nat := 74
noncomputable abbrev n_NewReno : Nat := 75
noncomputable abbrev n_Rtt : Nat := 76
noncomputable abbrev n_INITIAL_RTT : Nat := 77
noncomputable abbrev n_conn : Nat := 78
noncomputable abbrev n_now : Nat := 79
noncomputable abbrev n_begin_anew : Nat := 80
noncomputable abbrev n_out : Nat := 81
noncomputable abbrev n_renew_way : Nat := 82
noncomputable abbrev n_is_proven : Nat := 83
noncomputable abbrev n_path : Nat := 84
noncomputable abbrev n_number : Nat := 85
noncomputable abbrev n_is_probing : Nat := 86
noncomputable abbrev n_note_move : Nat := 87
noncomputable abbrev n_on_packet : Nat := 88
noncomputable abbrev n_change : Nat := 89
noncomputable abbrev n_extend : Nat := 90
noncomputable abbrev n_frames : Nat := 91
noncomputable abbrev n_append : Nat := 92
noncomputable abbrev n_moved : Nat := 93
noncomputable abbrev n_ahead : Nat := 94
noncomputable abbrev n_data : Nat := 95
noncomputable abbrev n_take_answer : Nat := 96
noncomputable abbrev n_take_response : Nat := 97
noncomputable abbrev n_first : Nat := 98
noncomputable abbrev n_token : Nat := 99
noncomputable abbrev n_RemoteIds : Nat := 100
noncomputable abbrev n_len : Nat := 101
noncomputable abbrev n_cid : Nat := 102
noncomputable abbrev n_check_new : Nat := 103
noncomputable abbrev n_other : Nat := 104
noncomputable abbrev n_prior : Nat := 105
noncomputable abbrev n_on_new : Nat := 106
noncomputable abbrev n_retire_below : Nat := 107
noncomputable abbrev n_sorted : Nat := 108
noncomputable abbrev n_retire : Nat := 109
noncomputable abbrev n_use : Nat := 110
noncomputable abbrev n_pop : Nat := 111
noncomputable abbrev n_present : Nat := 112
noncomputable abbrev n_fresh : Nat := 113
noncomputable abbrev n_Path : Nat := 114
noncomputable abbrev n_PATH_PROVEN : Nat := 115
noncomputable abbrev n_PATH_UNPROVEN : Nat := 116
noncomputable abbrev n_size : Nat := 117
noncomputable abbrev n_on_received : Nat := 118
noncomputable abbrev n_prove : Nat := 119
noncomputable abbrev n_wait : Nat := 120
noncomputable abbrev n_challenge : Nat := 121
noncomputable abbrev n_PATH_TRYING : Nat := 122
noncomputable abbrev n_renew : Nat := 123
noncomputable abbrev n_PATH_FAILED : Nat := 124
noncomputable abbrev n_Paths : Nat := 125
noncomputable abbrev n_path_of : Nat := 126
noncomputable abbrev n_opened : Nat := 127
noncomputable abbrev n_found : Nat := 128
noncomputable abbrev n_on_datagram : Nat := 129
noncomputable abbrev n_client : Nat := 130
noncomputable abbrev n_is_newest : Nat := 131
noncomputable abbrev n_wants_challenge : Nat := 132
noncomputable abbrev n_is_tried : Nat := 133
noncomputable abbrev n_Space : Nat := 134
noncomputable abbrev n_box : Nat := 135
noncomputable abbrev n_many : Nat := 136
noncomputable abbrev n_law_take : Nat := 137
noncomputable abbrev n_abs : Nat := 138
noncomputable abbrev n_spare : Nat := 139
noncomputable abbrev n_law_state : Nat := 140
noncomputable abbrev n_bytes : Nat := 141
noncomputable abbrev n_server : Nat := 142
noncomputable abbrev n_world : Nat := 143
noncomputable abbrev n_law_renews : Nat := 144
noncomputable abbrev n_here : Nat := 145
noncomputable abbrev n_proven : Nat := 146
noncomputable abbrev n_turn : Nat := 147
noncomputable abbrev n_law_packet : Nat := 148
noncomputable abbrev n_renews : Nat := 149
noncomputable abbrev n_source : Nat := 150
noncomputable abbrev n_by : Nat := 151
noncomputable abbrev n_is_probe : Nat := 152
noncomputable abbrev n_is_new : Nat := 153
noncomputable abbrev n_retire_connection_id : Nat := 154
noncomputable abbrev n_left : Nat := 155
noncomputable abbrev n_newest : Nat := 156
noncomputable abbrev n_law_answer : Nat := 157
noncomputable abbrev n_some : Nat := 158
noncomputable abbrev n_fits : Nat := 159
noncomputable abbrev n_at : Nat := 160
noncomputable abbrev n_tried : Nat := 161
noncomputable abbrev n_law_is_alike : Nat := 162
noncomputable abbrev n_places : Nat := 163
noncomputable abbrev n_marks : Nat := 164
noncomputable abbrev n_script : Nat := 165
noncomputable abbrev n_law : Nat := 166
noncomputable abbrev n_wants : Nat := 167
noncomputable abbrev n_update : Nat := 168
noncomputable abbrev n_list : Nat := 169
noncomputable abbrev n_PROTOCOL_VIOLATION : Nat := 170
noncomputable abbrev n_FRAME_NEW : Nat := 171
noncomputable abbrev n_CONNECTION_ID_LIMIT_ERROR : Nat := 172
noncomputable abbrev n_unproven : Nat := 173
noncomputable abbrev n_trying : Nat := 174
noncomputable abbrev n_failed : Nat := 175

noncomputable def lkN {α : Type} (k : Nat) : List (Nat × α) → Option α
  | [] => none
  | (a, v) :: r => cond (Nat.beq a k) (some v) (lkN k r)
set_option tactic.hygienic false
theorem lkN_mem {α : Type} {k : Nat} {v : α} : ∀ {L : List (Nat × α)}, lkN k L = some v → (k, v) ∈ L
  | (a, w) :: r, h => by
    unfold lkN at h
    cases e : Nat.beq a k with
    | true =>
      rw [e] at h
      cases h
      rw [Nat.eq_of_beq_eq_true e]
      exact .head _
    | false =>
      rw [e] at h
      exact .tail _ (lkN_mem h)
noncomputable def gfnL : List (Nat × Nat) := [(67, 0), (80, 3), (82, 4), (87, 5), (96, 6), (137, 31), (140, 32), (144, 33), (148, 34), (157, 35), (162, 36), (166, 37)]
noncomputable def gfn (g : Nat) : Option Nat := lkN g gfnL
noncomputable def mtbL : List (Nat × Nat × Nat) := [(100, 103, 8), (100, 106, 9), (100, 107, 10), (100, 109, 11), (100, 110, 12), (100, 112, 13), (100, 113, 14), (100, 89, 15), (100, 91, 16), (114, 83, 18), (114, 118, 19), (114, 119, 20), (114, 121, 21), (114, 123, 22), (125, 126, 24), (125, 127, 25), (125, 129, 26), (125, 88, 27), (125, 132, 28), (125, 97, 29)]
noncomputable def lkP (c m : Nat) : List (Nat × Nat × Nat) → Option Nat
  | [] => none
  | (a, b, v) :: r => cond (Nat.beq a c && Nat.beq b m) (some v) (lkP c m r)
theorem lkP_mem {c m v : Nat} : ∀ {L : List (Nat × Nat × Nat)}, lkP c m L = some v → (c, m, v) ∈ L
  | (a, b, w) :: r, h => by
    unfold lkP at h
    cases e : (Nat.beq a c && Nat.beq b m) with
    | true =>
      rw [e] at h
      cases h
      obtain ⟨e1, e2⟩ := Bool.and_eq_true_iff.mp e
      rw [Nat.eq_of_beq_eq_true e1, Nat.eq_of_beq_eq_true e2]
      exact .head _
    | false =>
      rw [e] at h
      exact .tail _ (lkP_mem h)
noncomputable def mtb (c m : Nat) : Option Nat := lkP c m mtbL
noncomputable def iniL : List (Nat × Nat) := [(75, 1), (76, 2), (100, 7), (114, 17), (125, 23), (134, 30)]
noncomputable def ini (c : Nat) : Option Nat := lkN c iniL
noncomputable def fpsL : List (List Nat) := [[0], [73, 0], [73, 6], [78, 79], [78, 79], [78, 16, 84, 85, 86, 79], [78, 95, 79], [73, 98, 99, 17], [73, 85, 102, 99], [73, 85, 105, 102, 99], [73, 105], [73, 85], [73, 85], [73], [73], [73], [73], [73, 25, 83], [73], [73, 117], [73], [73, 95, 79, 120], [73], [73, 33, 25, 83, 34], [73, 25], [73, 25], [73, 25, 117], [73, 25, 85, 86], [73], [73, 95], [73, 39], [135, 136], [139], [143], [135, 78, 143, 147], [135, 78, 143, 147], [78, 143, 149, 147], [165]]
noncomputable def fps (f : Nat) : List Nat := fpsL.getD f []
noncomputable def gvalL : List (Nat × VV) := [(72, .int 10), (71, .int 14720), (70, .int 2), (77, .int 333000), (116, .str 173), (122, .str 174), (115, .str 146), (124, .str 175)]
noncomputable def gval (i : Nat) : Option VV := lkN i gvalL

noncomputable def b_initial_window : PSs := (.cons (.ret (.bf 68 (.cons (.bin 2 (.glb 72) (.loc 0)) (.cons (.bf 69 (.cons (.glb 71) (.cons (.bin 2 (.glb 70) (.loc 0)) .nil))) .nil)))) .nil)
noncomputable def b_NewReno_init : PSs := (.cons (.asg (.attr (.loc 73) 0) (.loc 0)) (.cons (.asg (.attr (.loc 73) 1) (.fn 67 (.cons (.loc 0) .nil))) (.cons (.asg (.attr (.loc 73) 2) (.none)) (.cons (.asg (.attr (.loc 73) 3) (.none)) (.cons (.asg (.attr (.loc 73) 4) (.int 0)) (.cons (.asg (.attr (.loc 73) 5) (.int 0)) .nil))))))
noncomputable def b_Rtt_init : PSs := (.cons (.asg (.attr (.loc 73) 6) (.loc 6)) (.cons (.asg (.attr (.loc 73) 7) (.int 0)) (.cons (.asg (.attr (.loc 73) 8) (.int 0)) (.cons (.asg (.attr (.loc 73) 9) (.bin 2 (.int 8) (.glb 77))) (.cons (.asg (.attr (.loc 73) 10) (.bin 2 (.int 2) (.glb 77))) (.cons (.asg (.attr (.loc 73) 11) (.none)) .nil))))))
noncomputable def b_begin_anew : PSs := (.cons (.asg (.name 81) (.attr (.attr (.loc 78) 12) 4)) (.cons (.asgT [.attr (.loc 78) 12, .attr (.loc 78) 13] (.tup (.cons (.new 75 (.cons (.sub (.attr (.loc 78) 58) (.str 0)) .nil)) (.cons (.new 76 (.cons (.loc 79) .nil)) .nil)))) (.cons (.asgT [.attr (.attr (.loc 78) 12) 4, .attr (.attr (.loc 78) 12) 3] (.tup (.cons (.loc 81) (.cons (.loc 79) .nil)))) .nil)))
noncomputable def b_renew_way : PSs := (.cons (.asg (.name 35) (.attr (.attr (.loc 78) 54) 35)) (.cons (.ifs (.and (.cons (.meth (.loc 35) 83 .nil) (.cons (.cmp 1 (.attr (.loc 35) 25) (.attr (.loc 78) 14)) .nil))) (.cons (.asg (.attr (.loc 78) 14) (.attr (.loc 35) 25)) (.cons (.expr (.fn 80 (.cons (.loc 78) (.cons (.loc 79) .nil)))) .nil)) .nil) .nil))
noncomputable def b_note_move : PSs := (.cons (.asg (.name 94) (.attr (.attr (.loc 78) 54) 35)) (.cons (.ifs (.meth (.attr (.loc 78) 54) 88 (.cons (.loc 84) (.cons (.loc 85) (.cons (.loc 86) .nil)))) (.cons (.asg (.attr (.loc 78) 15) (.ife (.meth (.loc 94) 83 .nil) (.loc 94) (.attr (.loc 78) 15))) (.cons (.expr (.bm (.attr (.loc 78) 57) 92 (.cons (.tup (.cons (.str 93) (.cons (.loc 84) .nil))) .nil))) (.cons (.ifs (.and (.cons (.cmp 1 (.loc 16) (.attr (.loc 78) 16)) (.cons (.meth (.attr (.loc 78) 55) 89 .nil) .nil))) (.cons (.expr (.bm (.attr (.loc 78) 56) 90 (.cons (.meth (.attr (.loc 78) 55) 91 .nil) .nil))) .nil) .nil) (.cons (.expr (.fn 82 (.cons (.loc 78) (.cons (.loc 79) .nil)))) .nil)))) .nil) (.cons (.ifs (.cmp 0 (.loc 84) (.attr (.attr (.attr (.loc 78) 54) 35) 25)) (.cons (.asg (.attr (.loc 78) 16) (.loc 16)) .nil) .nil) .nil)))
noncomputable def b_take_answer : PSs := (.cons (.expr (.meth (.attr (.loc 78) 54) 97 (.cons (.loc 95) .nil))) (.cons (.expr (.fn 82 (.cons (.loc 78) (.cons (.loc 79) .nil)))) .nil))
noncomputable def b_RemoteIds_init : PSs := (.cons (.asg (.attr (.loc 73) 17) (.loc 17)) (.cons (.asg (.attr (.loc 73) 18) (.idict [0] (.cons (.tup (.cons (.loc 98) (.cons (.loc 99) .nil))) .nil))) (.cons (.asg (.attr (.loc 73) 19) (.int 0)) (.cons (.asg (.attr (.loc 73) 20) (.list (.cons (.int 0) .nil))) (.cons (.asg (.attr (.loc 73) 21) (.int 0)) (.cons (.asg (.attr (.loc 73) 22) (.idict [0] (.cons (.tup (.cons (.loc 98) (.cons (.loc 99) .nil))) .nil))) (.cons (.asg (.attr (.loc 73) 23) (.list .nil)) (.cons (.asg (.attr (.loc 73) 24) (.cmp 0 (.bf 101 (.cons (.loc 98) .nil)) (.int 0))) .nil))))))))
noncomputable def b_RemoteIds_check_new : PSs := (.cons (.ifs (.attr (.loc 73) 24) (.cons (.dead) .nil) .nil) (.cons (.ifs (.cmp 8 (.loc 85) (.attr (.loc 73) 22)) (.cons (.ifs (.cmp 1 (.sub (.attr (.loc 73) 22) (.loc 85)) (.tup (.cons (.loc 102) (.cons (.loc 99) .nil)))) (.cons (.dead) .nil) .nil) (.cons (.ret (.bool true)) .nil)) .nil) (.cons (.forD 104 (.attr (.loc 73) 22) (.cons (.ifs (.cmp 0 (.sub (.sub (.attr (.loc 73) 22) (.loc 104)) (.int 0)) (.loc 102)) (.cons (.dead) .nil) .nil) .nil)) (.cons (.ret (.bool false)) .nil))))
noncomputable def b_RemoteIds_on_new : PSs := (.cons (.ifs (.meth (.loc 73) 103 (.cons (.loc 85) (.cons (.loc 102) (.cons (.loc 99) .nil)))) (.cons (.ifs (.cmp 8 (.loc 85) (.attr (.loc 73) 18)) (.cons (.expr (.meth (.loc 73) 107 (.cons (.loc 105) .nil))) .nil) .nil) (.cons (.retN) .nil)) .nil) (.cons (.asg (.sub (.attr (.loc 73) 22) (.loc 85)) (.tup (.cons (.loc 102) (.cons (.loc 99) .nil)))) (.cons (.ifs (.cmp 2 (.loc 85) (.attr (.loc 73) 21)) (.cons (.expr (.bm (.attr (.loc 73) 23) 92 (.cons (.loc 85) .nil))) (.cons (.retN) .nil)) .nil) (.cons (.asg (.sub (.attr (.loc 73) 18) (.loc 85)) (.tup (.cons (.loc 102) (.cons (.loc 99) .nil)))) (.cons (.expr (.meth (.loc 73) 107 (.cons (.loc 105) .nil))) (.cons (.ifs (.cmp 4 (.bf 101 (.cons (.attr (.loc 73) 18) .nil)) (.attr (.loc 73) 17)) (.cons (.dead) .nil) .nil) .nil))))))
noncomputable def b_RemoteIds_retire_below : PSs := (.cons (.asg (.attr (.loc 73) 21) (.bf 69 (.cons (.attr (.loc 73) 21) (.cons (.loc 105) .nil)))) (.cons (.forL 85 (.bf 108 (.cons (.attr (.loc 73) 18) .nil)) (.cons (.ifs (.cmp 2 (.loc 85) (.attr (.loc 73) 21)) (.cons (.expr (.meth (.loc 73) 109 (.cons (.loc 85) .nil))) .nil) .nil) .nil)) .nil))
noncomputable def b_RemoteIds_retire : PSs := (.cons (.expr (.bm (.attr (.loc 73) 18) 111 (.cons (.loc 85) .nil))) (.cons (.expr (.bm (.attr (.loc 73) 23) 92 (.cons (.loc 85) .nil))) (.cons (.ifs (.and (.cons (.cmp 0 (.loc 85) (.attr (.loc 73) 19)) (.cons (.cmp 4 (.bf 101 (.cons (.attr (.loc 73) 18) .nil)) (.int 0)) .nil))) (.cons (.expr (.meth (.loc 73) 110 (.cons (.bf 68 (.cons (.attr (.loc 73) 18) .nil)) .nil))) .nil) .nil) .nil)))
noncomputable def b_RemoteIds_use : PSs := (.cons (.asg (.attr (.loc 73) 19) (.loc 85)) (.cons (.ifs (.cmp 9 (.loc 85) (.attr (.loc 73) 20)) (.cons (.expr (.bm (.attr (.loc 73) 20) 92 (.cons (.loc 85) .nil))) .nil) .nil) .nil))
noncomputable def b_RemoteIds_present : PSs := (.cons (.ret (.sub (.sub (.attr (.loc 73) 18) (.attr (.loc 73) 19)) (.int 0))) .nil)
noncomputable def b_RemoteIds_change : PSs := (.cons (.asgT [.name 85, .name 15] (.tup (.cons (.meth (.loc 73) 113 .nil) (.cons (.attr (.loc 73) 19) .nil)))) (.cons (.ifs (.cmp 6 (.loc 85) (.none)) (.cons (.ret (.bool false)) .nil) .nil) (.cons (.expr (.meth (.loc 73) 110 (.cons (.loc 85) .nil))) (.cons (.expr (.meth (.loc 73) 109 (.cons (.loc 15) .nil))) (.cons (.ret (.bool true)) .nil)))))
noncomputable def b_Path_init : PSs := (.cons (.asg (.attr (.loc 73) 25) (.loc 25)) (.cons (.asg (.attr (.loc 73) 26) (.ife (.loc 83) (.glb 115) (.glb 116))) (.cons (.asg (.attr (.loc 73) 27) (.loc 83)) (.cons (.asg (.attr (.loc 73) 28) (.int 0)) (.cons (.asg (.attr (.loc 73) 29) (.int 0)) (.cons (.asg (.attr (.loc 73) 30) (.list .nil)) (.cons (.asg (.attr (.loc 73) 31) (.none)) (.cons (.asg (.attr (.loc 73) 32) (.bool false)) .nil))))))))
noncomputable def b_Path_is_proven : PSs := (.cons (.ret (.cmp 0 (.attr (.loc 73) 26) (.glb 115))) .nil)
noncomputable def b_Path_on_received : PSs := (.cons (.augA (.loc 73) 28 0 (.loc 117)) .nil)
noncomputable def b_Path_prove : PSs := (.cons (.asg (.attr (.loc 73) 26) (.glb 115)) (.cons (.asg (.attr (.loc 73) 27) (.bool true)) (.cons (.asg (.attr (.loc 73) 30) (.list .nil)) (.cons (.asg (.attr (.loc 73) 31) (.none)) (.cons (.asg (.attr (.loc 73) 32) (.bool false)) .nil)))))
noncomputable def b_Path_challenge : PSs := (.cons (.ifs (.cmp 1 (.attr (.loc 73) 26) (.glb 122)) (.cons (.asg (.attr (.loc 73) 26) (.glb 122)) (.cons (.asg (.attr (.loc 73) 30) (.list .nil)) (.cons (.asg (.attr (.loc 73) 31) (.bin 0 (.loc 79) (.loc 120))) .nil))) .nil) (.cons (.expr (.bm (.attr (.loc 73) 30) 92 (.cons (.loc 95) .nil))) (.cons (.asg (.attr (.loc 73) 32) (.bool false)) .nil)))
noncomputable def b_Path_renew : PSs := (.cons (.ifs (.cmp 0 (.attr (.loc 73) 26) (.glb 124)) (.cons (.asg (.attr (.loc 73) 26) (.glb 116)) .nil) .nil) .nil)
noncomputable def b_Paths_init : PSs := (.cons (.asg (.attr (.loc 73) 33) (.loc 33)) (.cons (.asg (.attr (.loc 73) 34) (.loc 34)) (.cons (.asg (.attr (.loc 73) 18) (.list (.cons (.new 114 (.cons (.loc 25) (.cons (.loc 83) .nil))) .nil))) (.cons (.asg (.attr (.loc 73) 35) (.sub (.attr (.loc 73) 18) (.int 0))) (.cons (.asg (.attr (.loc 73) 36) (.ife (.loc 83) (.attr (.loc 73) 35) (.none))) (.cons (.asg (.attr (.loc 73) 37) (.int (-1))) (.cons (.asg (.attr (.loc 73) 38) (.list .nil)) .nil)))))))
noncomputable def b_Paths_path_of : PSs := (.cons (.forL 84 (.attr (.loc 73) 18) (.cons (.ifs (.cmp 0 (.attr (.loc 84) 25) (.loc 25)) (.cons (.ret (.loc 84)) .nil) .nil) .nil)) (.cons (.ret (.none)) .nil))
noncomputable def b_Paths_opened : PSs := (.cons (.asg (.name 128) (.meth (.loc 73) 126 (.cons (.loc 25) .nil))) (.cons (.ifs (.cmp 6 (.loc 128) (.none)) (.cons (.asg (.name 128) (.new 114 (.cons (.loc 25) (.cons (.bool false) .nil)))) (.cons (.expr (.bm (.attr (.loc 73) 18) 92 (.cons (.loc 128) .nil))) .nil)) .nil) (.cons (.ret (.loc 128)) .nil)))
noncomputable def b_Paths_on_datagram : PSs := (.cons (.ifs (.and (.cons (.cmp 6 (.meth (.loc 73) 126 (.cons (.loc 25) .nil)) (.none)) (.cons (.or (.cons (.cmp 0 (.attr (.loc 73) 33) (.str 130)) (.cons (.not (.attr (.loc 73) 34)) .nil))) .nil))) (.cons (.dead) .nil) .nil) (.cons (.asg (.name 84) (.meth (.loc 73) 127 (.cons (.loc 25) .nil))) (.cons (.expr (.meth (.loc 84) 118 (.cons (.loc 117) .nil))) (.cons (.ret (.loc 84)) .nil))))
noncomputable def b_Paths_on_packet : PSs := (.cons (.asg (.name 131) (.cmp 4 (.loc 85) (.attr (.loc 73) 37))) (.cons (.asg (.attr (.loc 73) 37) (.bf 69 (.cons (.attr (.loc 73) 37) (.cons (.loc 85) .nil)))) (.cons (.asg (.name 84) (.meth (.loc 73) 126 (.cons (.loc 25) .nil))) (.cons (.ifs (.or (.cons (.cmp 0 (.attr (.loc 73) 33) (.str 130)) (.cons (.loc 86) (.cons (.not (.loc 131)) (.cons (.cmp 0 (.attr (.loc 84) 25) (.attr (.attr (.loc 73) 35) 25)) .nil))))) (.cons (.ret (.bool false)) .nil) .nil) (.cons (.ifs (.meth (.attr (.loc 73) 35) 83 .nil) (.cons (.asg (.attr (.loc 73) 36) (.attr (.loc 73) 35)) .nil) .nil) (.cons (.expr (.meth (.loc 84) 123 .nil)) (.cons (.asg (.attr (.loc 73) 35) (.loc 84)) (.cons (.ret (.bool true)) .nil))))))))
noncomputable def b_Paths_wants_challenge : PSs := (.cons (.asg (.name 133) (.and (.cons (.cmp 0 (.attr (.attr (.loc 73) 35) 26) (.glb 122)) (.cons (.attr (.attr (.loc 73) 35) 32) .nil)))) (.cons (.ret (.ife (.or (.cons (.cmp 0 (.attr (.attr (.loc 73) 35) 26) (.glb 116)) (.cons (.loc 133) .nil))) (.attr (.loc 73) 35) (.none))) .nil))
noncomputable def b_Paths_take_response : PSs := (.cons (.forL 84 (.attr (.loc 73) 18) (.cons (.ifs (.cmp 8 (.loc 95) (.attr (.loc 84) 30)) (.cons (.expr (.meth (.loc 84) 119 .nil)) (.cons (.ifs (.cmp 0 (.attr (.loc 84) 25) (.attr (.attr (.loc 73) 35) 25)) (.cons (.asg (.attr (.loc 73) 36) (.loc 84)) .nil) .nil) (.cons (.ret (.loc 84)) .nil))) .nil) .nil)) (.cons (.ret (.none)) .nil))
noncomputable def b_Space_init : PSs := (.cons (.asg (.attr (.loc 73) 39) (.loc 39)) (.cons (.asg (.attr (.loc 73) 40) (.int 0)) (.cons (.asg (.attr (.loc 73) 29) (.sdict [] .nil)) (.cons (.asg (.attr (.loc 73) 41) (.none)) (.cons (.asg (.attr (.loc 73) 42) (.list .nil)) (.cons (.asg (.attr (.loc 73) 43) (.none)) (.cons (.asg (.attr (.loc 73) 44) (.none)) (.cons (.asg (.attr (.loc 73) 28) (.list .nil)) (.cons (.asg (.attr (.loc 73) 45) (.none)) (.cons (.asg (.attr (.loc 73) 46) (.none)) (.cons (.asg (.attr (.loc 73) 47) (.int 0)) (.cons (.asg (.attr (.loc 73) 48) (.none)) (.cons (.asg (.attr (.loc 73) 49) (.int 0)) (.cons (.asg (.attr (.loc 73) 50) (.bool false)) (.cons (.asg (.attr (.loc 73) 51) (.bool false)) (.cons (.asg (.attr (.loc 73) 52) (.list (.cons (.int 0) (.cons (.int 0) (.cons (.int 0) .nil))))) (.cons (.asg (.attr (.loc 73) 53) (.bool false)) .nil)))))))))))))))))
noncomputable def b_law_take : PSs := (.cons (.asg (.sub (.loc 135) (.int 1)) (.bin 0 (.sub (.loc 135) (.int 1)) (.int 1))) (.cons (.ifs (.cmp 3 (.sub (.loc 135) (.int 1)) (.bf 101 (.cons (.sub (.loc 135) (.int 0)) .nil))) (.cons (.ret (.bin 4 (.bf 138 (.cons (.sub (.sub (.loc 135) (.int 0)) (.bin 1 (.sub (.loc 135) (.int 1)) (.int 1))) .nil)) (.loc 136))) .nil) .nil) (.cons (.ret (.bin 4 (.bin 0 (.bin 2 (.int 7) (.sub (.loc 135) (.int 1))) (.bin 3 (.sub (.loc 135) (.int 1)) (.int 4))) (.loc 136))) .nil)))
noncomputable def b_law_state : PSs := (.cons (.asg (.name 78) (.new 134 (.cons (.str 26) .nil))) (.cons (.asgT [.attr (.loc 78) 54, .attr (.loc 78) 55, .attr (.loc 78) 12, .attr (.loc 78) 13] (.tup (.cons (.new 125 (.cons (.str 142) (.cons (.str 65) (.cons (.bool true) (.cons (.bool true) .nil))))) (.cons (.new 100 (.cons (.bytes [122, 101, 114, 111]) (.cons (.none) (.cons (.int 4) .nil)))) (.cons (.new 75 (.cons (.int 1200) .nil)) (.cons (.new 76 .nil) .nil)))))) (.cons (.forR 85 (.int 1) (.bin 0 (.loc 139) (.int 1)) (.cons (.expr (.meth (.attr (.loc 78) 55) 106 (.cons (.loc 85) (.cons (.int 0) (.cons (.bf 141 (.cons (.bin 2 (.list (.cons (.loc 85) .nil)) (.int 4)) .nil)) (.cons (.bf 141 (.cons (.bin 2 (.list (.cons (.loc 85) .nil)) (.int 16)) .nil)) .nil)))))) .nil)) (.cons (.asgT [.attr (.loc 78) 56, .attr (.loc 78) 57, .attr (.loc 78) 58, .attr (.loc 78) 16, .attr (.loc 78) 14] (.tup (.cons (.list .nil) (.cons (.list .nil) (.cons (.sdict [0] (.cons (.int 1200) .nil)) (.cons (.bytes [111, 110, 101]) (.cons (.str 65) .nil))))))) (.cons (.asg (.attr (.loc 78) 15) (.none)) (.cons (.asg (.attr (.attr (.loc 78) 12) 4) (.int 700)) (.cons (.ret (.loc 78)) .nil)))))))
noncomputable def b_law_renews : PSs := (.cons (.ifs (.or (.cons (.cmp 9 (.sub (.loc 143) (.str 145)) (.sub (.loc 143) (.str 146))) (.cons (.cmp 0 (.sub (.loc 143) (.str 145)) (.sub (.loc 143) (.str 14))) .nil))) (.cons (.ret (.bool false)) .nil) .nil) (.cons (.asg (.sub (.loc 143) (.str 14)) (.sub (.loc 143) (.str 145))) (.cons (.ret (.bool true)) .nil)))
noncomputable def b_law_packet : PSs := (.cons (.asgT [.name 150, .name 85] (.tup (.cons (.sub (.list (.cons (.str 65) (.cons (.str 64) (.cons (.str 66) .nil)))) (.fn 137 (.cons (.loc 135) (.cons (.int 3) .nil)))) (.cons (.bin 0 (.bin 2 (.int 2) (.loc 147)) (.fn 137 (.cons (.loc 135) (.cons (.int 4) .nil)))) .nil)))) (.cons (.asgT [.name 152, .name 102] (.tup (.cons (.cmp 0 (.fn 137 (.cons (.loc 135) (.cons (.int 4) .nil))) (.int 3)) (.cons (.sub (.list (.cons (.bytes [111, 110, 101]) (.cons (.bytes [116, 119, 111]) .nil))) (.fn 137 (.cons (.loc 135) (.cons (.int 2) .nil)))) .nil)))) (.cons (.expr (.meth (.attr (.loc 78) 54) 129 (.cons (.loc 150) (.cons (.int 100) .nil)))) (.cons (.expr (.fn 87 (.cons (.loc 78) (.cons (.loc 102) (.cons (.loc 150) (.cons (.loc 85) (.cons (.loc 152) (.cons (.bin 0 (.int 50) (.loc 147)) .nil)))))))) (.cons (.asgT [.name 153, .name 149] (.tup (.cons (.cmp 4 (.loc 85) (.sub (.loc 143) (.str 156))) (.cons (.bool false) .nil)))) (.cons (.asg (.sub (.loc 143) (.str 156)) (.bf 69 (.cons (.loc 85) (.cons (.sub (.loc 143) (.str 156)) .nil)))) (.cons (.ifs (.and (.cons (.loc 153) (.cons (.not (.loc 152)) (.cons (.cmp 1 (.loc 150) (.sub (.loc 143) (.str 145))) .nil)))) (.cons (.asg (.sub (.loc 143) (.str 155)) (.ife (.cmp 8 (.sub (.loc 143) (.str 145)) (.sub (.loc 143) (.str 146))) (.sub (.loc 143) (.str 145)) (.sub (.loc 143) (.str 155)))) (.cons (.asg (.sub (.loc 143) (.str 145)) (.loc 150)) (.cons (.expr (.bm (.sub (.loc 143) (.str 57)) 92 (.cons (.tup (.cons (.str 93) (.cons (.loc 150) .nil))) .nil))) (.cons (.ifs (.and (.cons (.cmp 1 (.loc 102) (.sub (.loc 143) (.str 151))) (.cons (.cmp 1 (.sub (.loc 143) (.str 139)) (.list .nil)) .nil))) (.cons (.expr (.bm (.sub (.loc 143) (.str 56)) 92 (.cons (.tup (.cons (.str 154) (.cons (.sub (.loc 143) (.str 102)) .nil))) .nil))) (.cons (.asgT [.sub (.loc 143) (.str 102), .sub (.loc 143) (.str 139)] (.tup (.cons (.sub (.sub (.loc 143) (.str 139)) (.int 0)) (.cons (.slc (.sub (.loc 143) (.str 139)) (some 1) none) .nil)))) .nil)) .nil) (.cons (.asg (.name 149) (.fn 144 (.cons (.loc 143) .nil))) .nil))))) .nil) (.cons (.ifs (.cmp 0 (.loc 150) (.sub (.loc 143) (.str 145))) (.cons (.asg (.sub (.loc 143) (.str 151)) (.loc 102)) .nil) .nil) (.cons (.ret (.loc 149)) .nil)))))))))
noncomputable def b_law_answer : PSs := (.cons (.asg (.name 158) (.bf 108 (.cons (.sub (.loc 143) (.str 161)) .nil))) (.cons (.asgT [.name 159, .name 160] (.tup (.cons (.cmp 1 (.fn 137 (.cons (.loc 135) (.cons (.int 3) .nil))) (.int 0)) (.cons (.fn 137 (.cons (.loc 135) (.cons (.int 2) .nil))) .nil)))) (.cons (.asg (.name 95) (.ife (.and (.cons (.loc 159) (.cons (.cmp 1 (.loc 158) (.list .nil)) .nil))) (.sub (.sub (.loc 143) (.str 161)) (.sub (.loc 158) (.bin 4 (.loc 160) (.bf 101 (.cons (.loc 158) .nil))))) (.bf 141 (.cons (.bin 2 (.list (.cons (.int 99) .nil)) (.int 8)) .nil)))) (.cons (.expr (.fn 96 (.cons (.loc 78) (.cons (.loc 95) (.cons (.bin 0 (.int 50) (.loc 147)) .nil))))) (.cons (.ifs (.and (.cons (.loc 159) (.cons (.cmp 1 (.loc 158) (.list .nil)) .nil))) (.cons (.expr (.bm (.sub (.loc 143) (.str 161)) 111 (.cons (.sub (.loc 158) (.bin 4 (.loc 160) (.bf 101 (.cons (.loc 158) .nil)))) .nil))) (.cons (.expr (.bm (.sub (.loc 143) (.str 146)) 92 (.cons (.sub (.loc 158) (.bin 4 (.loc 160) (.bf 101 (.cons (.loc 158) .nil)))) .nil))) .nil)) .nil) (.cons (.ret (.fn 144 (.cons (.loc 143) .nil))) .nil))))))
noncomputable def b_law_is_alike : PSs := (.cons (.asg (.name 164) (.tup (.cons (.attr (.attr (.loc 78) 12) 1) (.cons (.attr (.attr (.loc 78) 12) 2) (.cons (.attr (.attr (.loc 78) 12) 3) (.cons (.attr (.attr (.loc 78) 12) 4) .nil)))))) (.cons (.ifs (.cmp 1 (.loc 164) (.ife (.loc 149) (.tup (.cons (.int 12000) (.cons (.none) (.cons (.bin 0 (.int 50) (.loc 147)) (.cons (.int 700) .nil))))) (.tup (.cons (.bin 0 (.int 3000) (.loc 147)) (.cons (.int 2000) (.cons (.none) (.cons (.int 700) .nil))))))) (.cons (.ret (.bool false)) .nil) .nil) (.cons (.ifs (.cmp 1 (.tup (.cons (.attr (.attr (.loc 78) 13) 9) (.cons (.attr (.attr (.loc 78) 13) 6) .nil))) (.ife (.loc 149) (.tup (.cons (.bin 2 (.int 8) (.int 333000)) (.cons (.bin 0 (.int 50) (.loc 147)) .nil))) (.tup (.cons (.bin 0 (.int 8000) (.loc 147)) (.cons (.none) .nil))))) (.cons (.ret (.bool false)) .nil) .nil) (.cons (.ifs (.cmp 1 (.tup (.cons (.attr (.loc 78) 56) (.cons (.attr (.loc 78) 57) (.cons (.attr (.loc 78) 14) .nil)))) (.tup (.cons (.sub (.loc 143) (.str 56)) (.cons (.sub (.loc 143) (.str 57)) (.cons (.sub (.loc 143) (.str 14)) .nil))))) (.cons (.ret (.bool false)) .nil) .nil) (.cons (.ifs (.cmp 1 (.ife (.cmp 6 (.attr (.loc 78) 15) (.none)) (.none) (.attr (.attr (.loc 78) 15) 25)) (.sub (.loc 143) (.str 155))) (.cons (.ret (.bool false)) .nil) .nil) (.cons (.asg (.name 163) (.tup (.cons (.attr (.attr (.attr (.loc 78) 54) 35) 25) (.cons (.attr (.loc 78) 16) (.cons (.meth (.attr (.loc 78) 55) 112 .nil) .nil))))) (.cons (.ret (.cmp 0 (.loc 163) (.tup (.cons (.sub (.loc 143) (.str 145)) (.cons (.sub (.loc 143) (.str 151)) (.cons (.ife (.cmp 0 (.sub (.loc 143) (.str 102)) (.int 0)) (.bytes [122, 101, 114, 111]) (.bf 141 (.cons (.bin 2 (.list (.cons (.sub (.loc 143) (.str 102)) .nil)) (.int 4)) .nil))) .nil)))))) .nil)))))))
noncomputable def b_law : PSs := (.cons (.asg (.name 135) (.list (.cons (.bf 169 (.cons (.slc (.loc 165) none (some 40)) .nil)) (.cons (.int 0) .nil)))) (.cons (.asg (.name 139) (.bin 1 (.int 2) (.fn 137 (.cons (.loc 135) (.cons (.int 3) .nil))))) (.cons (.asg (.name 78) (.fn 140 (.cons (.loc 139) .nil))) (.cons (.asg (.name 143) (.sdict [145, 14, 146, 161, 156, 151, 102] (.cons (.str 65) (.cons (.str 65) (.cons (.list (.cons (.str 65) .nil)) (.cons (.sdict [] .nil) (.cons (.int (-1)) (.cons (.bytes [111, 110, 101]) (.cons (.int 0) .nil))))))))) (.cons (.expr (.bm (.loc 143) 168 (.cons (.sdict [139, 56, 57, 155] (.cons (.lrange (.int 1) (.bin 0 (.loc 139) (.int 1))) (.cons (.list .nil) (.cons (.list .nil) (.cons (.none) .nil))))) .nil))) (.cons (.forR 147 (.none) (.int 6) (.cons (.asg (.name 167) (.and (.cons (.cmp 9 (.sub (.loc 143) (.str 145)) (.sub (.loc 143) (.str 146))) (.cons (.cmp 9 (.sub (.loc 143) (.str 145)) (.sub (.loc 143) (.str 161))) .nil)))) (.cons (.asg (.name 84) (.meth (.attr (.loc 78) 54) 132 .nil)) (.cons (.ifs (.cmp 1 (.cmp 7 (.loc 84) (.none)) (.loc 167)) (.cons (.ret (.bool false)) .nil) .nil) (.cons (.ifs (.loc 167) (.cons (.asg (.sub (.sub (.loc 143) (.str 161)) (.sub (.loc 143) (.str 145))) (.bf 141 (.cons (.bin 2 (.list (.cons (.loc 147) .nil)) (.int 8)) .nil))) (.cons (.expr (.meth (.loc 84) 121 (.cons (.bf 141 (.cons (.bin 2 (.list (.cons (.loc 147) .nil)) (.int 8)) .nil)) (.cons (.bin 0 (.int 50) (.loc 147)) (.cons (.int 900) .nil))))) .nil)) .nil) (.cons (.asgT [.attr (.attr (.loc 78) 12) 1, .attr (.attr (.loc 78) 12) 2, .attr (.attr (.loc 78) 12) 3] (.tup (.cons (.bin 0 (.int 3000) (.loc 147)) (.cons (.int 2000) (.cons (.none) .nil))))) (.cons (.asgT [.attr (.attr (.loc 78) 13) 9, .attr (.attr (.loc 78) 13) 6] (.tup (.cons (.bin 0 (.int 8000) (.loc 147)) (.cons (.none) .nil)))) (.cons (.ifs (.cmp 0 (.fn 137 (.cons (.loc 135) (.cons (.int 3) .nil))) (.int 2)) (.cons (.asg (.name 149) (.fn 157 (.cons (.loc 135) (.cons (.loc 78) (.cons (.loc 143) (.cons (.loc 147) .nil)))))) .nil) (.cons (.asg (.name 149) (.fn 148 (.cons (.loc 135) (.cons (.loc 78) (.cons (.loc 143) (.cons (.loc 147) .nil)))))) .nil)) (.cons (.ifs (.not (.fn 162 (.cons (.loc 78) (.cons (.loc 143) (.cons (.loc 149) (.cons (.loc 147) .nil)))))) (.cons (.ret (.bool false)) .nil) .nil) .nil))))))))) (.cons (.ret (.bool true)) .nil)))))))
noncomputable def fbdL : List (Nat × PSs) := [(0, b_initial_window), (1, b_NewReno_init), (2, b_Rtt_init), (3, b_begin_anew), (4, b_renew_way), (5, b_note_move), (6, b_take_answer), (7, b_RemoteIds_init), (8, b_RemoteIds_check_new), (9, b_RemoteIds_on_new), (10, b_RemoteIds_retire_below), (11, b_RemoteIds_retire), (12, b_RemoteIds_use), (13, b_RemoteIds_present), (15, b_RemoteIds_change), (17, b_Path_init), (18, b_Path_is_proven), (19, b_Path_on_received), (20, b_Path_prove), (21, b_Path_challenge), (22, b_Path_renew), (23, b_Paths_init), (24, b_Paths_path_of), (25, b_Paths_opened), (26, b_Paths_on_datagram), (27, b_Paths_on_packet), (28, b_Paths_wants_challenge), (29, b_Paths_take_response), (30, b_Space_init), (31, b_law_take), (32, b_law_state), (33, b_law_renews), (34, b_law_packet), (35, b_law_answer), (36, b_law_is_alike), (37, b_law)]
noncomputable def fbd (f : Nat) : Option PSs := lkN f fbdL
noncomputable abbrev f_initial_window : Nat := 0
noncomputable abbrev f_NewReno_init : Nat := 1
noncomputable abbrev f_Rtt_init : Nat := 2
noncomputable abbrev f_begin_anew : Nat := 3
noncomputable abbrev f_renew_way : Nat := 4
noncomputable abbrev f_note_move : Nat := 5
noncomputable abbrev f_take_answer : Nat := 6
noncomputable abbrev f_RemoteIds_init : Nat := 7
noncomputable abbrev f_RemoteIds_check_new : Nat := 8
noncomputable abbrev f_RemoteIds_on_new : Nat := 9
noncomputable abbrev f_RemoteIds_retire_below : Nat := 10
noncomputable abbrev f_RemoteIds_retire : Nat := 11
noncomputable abbrev f_RemoteIds_use : Nat := 12
noncomputable abbrev f_RemoteIds_present : Nat := 13
noncomputable abbrev f_RemoteIds_fresh : Nat := 14
noncomputable abbrev f_RemoteIds_change : Nat := 15
noncomputable abbrev f_RemoteIds_frames : Nat := 16
noncomputable abbrev f_Path_init : Nat := 17
noncomputable abbrev f_Path_is_proven : Nat := 18
noncomputable abbrev f_Path_on_received : Nat := 19
noncomputable abbrev f_Path_prove : Nat := 20
noncomputable abbrev f_Path_challenge : Nat := 21
noncomputable abbrev f_Path_renew : Nat := 22
noncomputable abbrev f_Paths_init : Nat := 23
noncomputable abbrev f_Paths_path_of : Nat := 24
noncomputable abbrev f_Paths_opened : Nat := 25
noncomputable abbrev f_Paths_on_datagram : Nat := 26
noncomputable abbrev f_Paths_on_packet : Nat := 27
noncomputable abbrev f_Paths_wants_challenge : Nat := 28
noncomputable abbrev f_Paths_take_response : Nat := 29
noncomputable abbrev f_Space_init : Nat := 30
noncomputable abbrev f_law_take : Nat := 31
noncomputable abbrev f_law_state : Nat := 32
noncomputable abbrev f_law_renews : Nat := 33
noncomputable abbrev f_law_packet : Nat := 34
noncomputable abbrev f_law_answer : Nat := 35
noncomputable abbrev f_law_is_alike : Nat := 36
noncomputable abbrev f_law : Nat := 37


noncomputable def veqsW (f : VV → VV → Option Bool) : List VV → List VV → Option Bool
  | [], ys => (match ys with
    | [] => some true
    | _ :: _ => none)
  | x :: xs, ys => (match ys with
    | [] => none
    | y :: ys => (f x y).bind fun b => (veqsW f xs ys).map fun c => b && c)
noncomputable def veqL (f : VV → VV → Option Bool) (xs : List VV) (no : Option Bool) (o : Option (List VV)) : Option Bool := match o with
  | some ys => if xs.length = ys.length then veqsW f xs ys else no
  | none => none
noncomputable def veqR (f : VV → VV → Option Bool) (h : VH) (n m : Nat) : Option Bool := if n = m then some true else match h.lst n with
  | some xs => veqL f xs (some false) (h.lst m)
  | none => (match h.lst m with
    | some _ => none
    | none => (match h.tup n with
      | some xs => veqL f xs none (h.tup m)
      | none => none))
noncomputable def veq : Nat → VH → VV → VV → Option Bool
  | 0, _, _, _ => none
  | d + 1, h, a, b => match a with
    | .none => (match b with
      | .none => some true
      | .int _ => some false
      | .str _ => some false
      | _ => none)
    | .int x => (match b with
      | .none => some false
      | .int y => some (x == y)
      | _ => none)
    | .str x => (match b with
      | .none => some false
      | .str y => some (x == y)
      | _ => none)
    | .bool x => (match b with
      | .bool y => some (x == y)
      | _ => none)
    | .bytes x => (match b with
      | .bytes y => some (x == y)
      | _ => none)
    | .ref n => (match b with
      | .ref m => veqR (veq d h) h n m
      | _ => none)
noncomputable def veqT (h : VH) (a b : VV) : Option Bool := match a with
  | .ref n => (match b with
    | .ref m => if n = m then none else veq 6 h (.ref n) (.ref m)
    | _ => none)
  | _ => veq 6 h a b
noncomputable def asI : VV → Option Int
  | .int i => some i
  | _ => none
noncomputable def asS : VV → Option Nat
  | .str i => some i
  | _ => none
noncomputable def asB : VV → Option (List Int)
  | .bytes i => some i
  | _ => none
noncomputable def asR : Option VV → Option Nat
  | some (.ref n) => some n
  | _ => none
theorem asI_ok {v : VV} {i : Int} (h : asI v = some i) : v = .int i := by (cases v <;> cases h); rfl
theorem asS_ok {v : VV} {i : Nat} (h : asS v = some i) : v = .str i := by (cases v <;> cases h); rfl
theorem asB_ok {v : VV} {i : List Int} (h : asB v = some i) : v = .bytes i := by (cases v <;> cases h); rfl
theorem asR_ok : ∀ {v : Option VV} {i : Nat}, asR v = some i → v = some (.ref i)
  | some v, _, h => by (cases v <;> cases h); rfl
theorem asS_str {k : Nat} : asS (.str k) = some k := rfl
theorem asI_int {k : Int} : asI (.int k) = some k := rfl
theorem asB_bytes {k : List Int} : asB (.bytes k) = some k := rfl
noncomputable def atom : VV → Bool
  | .none | .int _ | .str _ | .bytes _ => true
  | _ => false
noncomputable def aeq (x y : VV) : Option Bool := match x with
  | .int a => (asI y).map fun b => a == b
  | .str a => (asS y).map fun b => a == b
  | .bytes a => (asB y).map fun b => a == b
  | _ => none
noncomputable def inL (x : VV) : List VV → Option Bool
  | [] => some false
  | y :: ys => match aeq y x, inL x ys with
    | some b, some c => some (b || c)
    | _, _ => none

noncomputable def look {α : Type} [DecidableEq α] (k : α) : List (α × VV) → Option VV
  | [] => none
  | (a, v) :: r => if a = k then some v else look k r
noncomputable def hasK {α : Type} [DecidableEq α] (k : α) : List (α × VV) → Bool
  | [] => false
  | (a, _) :: r => if a = k then true else hasK k r
noncomputable def put {α : Type} [DecidableEq α] (k : α) (v : VV) : List (α × VV) → List (α × VV)
  | [] => [(k, v)]
  | (a, w) :: r => if a = k then (a, v) :: r else (a, w) :: put k v r
noncomputable def drp {α : Type} [DecidableEq α] (k : α) : List (α × VV) → List (α × VV)
  | [] => []
  | (a, w) :: r => if a = k then r else (a, w) :: drp k r

noncomputable def isMem (x : VV) (n : Nat) (h : VH) : Option Bool :=
  match h.lst n with
  | some vs => inL x vs
  | none => match h.sd n, x with
    | some es, .str k => some (hasK k es)
    | some _, _ => none
    | none, .int k => (h.ic n).map fun es => hasK k es
    | none, _ => none

noncomputable def intCmp (f : Int → Int → Bool) (a b : VV) : Option Bool := match a with
  | .int x => (match b with
    | .int y => some (f x y)
    | _ => none)
  | _ => none
noncomputable def isN (a b : VV) : Option Bool := match b with
  | .none => (match a with
    | .none => some true
    | .ref _ => some false
    | .int _ => some false
    | _ => none)
  | _ => none
noncomputable def inV (a b : VV) (h : VH) : Option Bool := match b with
  | .ref n => isMem a n h
  | _ => none
noncomputable def vCmp (op : Nat) (a b : VV) (h : VH) : Option Bool :=
  if op = 0 then veqT h a b else if op = 1 then (veqT h a b).map (!·) else if op = 2 then intCmp (fun x y => decide (x < y)) a b else if op = 3 then intCmp (fun x y => decide (x ≤ y)) a b
  else if op = 4 then intCmp (fun x y => decide (y < x)) a b else if op = 5 then intCmp (fun x y => decide (y ≤ x)) a b else if op = 6 then isN a b else if op = 7 then (isN a b).map (!·)
  else if op = 8 then inV a b h else if op = 9 then (inV a b h).map (!·) else none

noncomputable def repL : Nat → List VV → List VV
  | 0, _ => []
  | k + 1, vs => vs ++ repL k vs

noncomputable def intOp (f : Int → Int → Option Int) (a b : VV) (h : VH) : Option (VV × VH) := match a with
  | .int x => (match b with
    | .int y => (f x y).map fun z => (.int z, h)
    | _ => none)
  | _ => none
noncomputable def repV (a b : VV) (h : VH) : Option (VV × VH) := match b with
  | .int k => (match a with
    | .ref n => (match h.lst n with
      | some [v] => if 0 ≤ k ∧ k ≤ 64 then some (.ref h.nxt, h.newL (List.replicate k.toNat v)) else none
      | _ => none)
    | _ => none)
  | _ => none
noncomputable def isInt : VV → Bool
  | .int _ => true
  | _ => false
noncomputable def vBin (op : Nat) (a b : VV) (h : VH) : Option (VV × VH) :=
  if op = 0 then intOp (fun x y => some (x + y)) a b h else if op = 1 then intOp (fun x y => some (x - y)) a b h
  else if op = 2 then (cond (isInt a) (intOp (fun x y => if 0 ≤ x ∧ x ≤ 1000 then some (x * y) else none) a b h) (repV a b h))
  else if op = 3 then intOp (fun x y => if 0 < y ∧ y ≤ 1000 then some (x / y) else none) a b h
  else if op = 4 then intOp (fun x y => if 0 < y then some (x % y) else none) a b h else none

noncomputable def intsOf : List VV → Option (List Int)
  | [] => some []
  | .int i :: r => (intsOf r).map (i :: ·)
  | _ => none

noncomputable def insI (x : Int) : List Int → List Int
  | [] => [x]
  | y :: r => if x ≤ y then x :: y :: r else y :: insI x r
noncomputable def insS (x : Nat) : List Nat → List Nat
  | [] => [x]
  | y :: r => if x ≤ y then x :: y :: r else y :: insS x r
noncomputable def sortI (l : List Int) : List Int := l.foldr insI []
noncomputable def sortS (l : List Nat) : List Nat := l.foldr insS []

noncomputable def bf1 (b : Nat) (x : Int) (h : VH) : Option (VV × VH) := if b = n_abs then some (.int x.natAbs, h) else none
noncomputable def bf2 (b : Nat) (x y : Int) (h : VH) : Option (VV × VH) := if b = n_min then some (.int (min x y), h) else if b = n_max then some (.int (max x y), h) else none
noncomputable def bfB (b : Nat) (bs : List Int) (h : VH) : Option (VV × VH) := if b = n_len then (if bs.length ≤ 64 then some (.int bs.length, h) else none) else none
noncomputable def lenR (n : Nat) (h : VH) : Option (VV × VH) := match h.lst n with
  | some vs => some (.int vs.length, h)
  | none => (h.ic n).map fun es => (.int es.length, h)
noncomputable def srtS (es : List (Nat × VV)) (h : VH) : Option (VV × VH) := match es with
  | [] => some (.ref h.nxt, h.newL [])
  | a :: r => match r with
    | [] => some (.ref h.nxt, h.newL [.str a.1])
    | b :: r2 => match r2 with
      | [] => if a.1 = n_away ∧ b.1 = n_third ∨ a.1 = n_third ∧ b.1 = n_away then some (.ref h.nxt, h.newL [.str n_away, .str n_third]) else none
      | _ :: _ => none
noncomputable def srtR (n : Nat) (h : VH) : Option (VV × VH) := match h.ic n with
  | some es => if es.length < 64 then some (.ref h.nxt, h.newL ((sortI (es.map (·.1))).map .int)) else none
  | none => (h.sd n).bind fun es => srtS es h
noncomputable def bytR (n : Nat) (h : VH) : Option (VV × VH) := match h.lst n with
  | some vs => (intsOf vs).bind fun is => if is.length ≤ 64 ∧ ∀ i ∈ is, 0 ≤ i ∧ i < 256 then some (.bytes is, h) else none
  | none => none
noncomputable def bfR (b n : Nat) (h : VH) : Option (VV × VH) := if b = n_len then lenR n h else if b = n_sorted then srtR n h else if b = n_bytes then bytR n h else none
noncomputable def vBf (b : Nat) (vs : List VV) (h : VH) : Option (VV × VH) := match vs with
  | [] => none
  | v :: r => match r with
    | [] => (match v with
      | .int x => bf1 b x h
      | .bytes bs => bfB b bs h
      | .ref n => bfR b n h
      | _ => none)
    | w :: r2 => match r2 with
      | [] => (match v with
        | .int x => (asI w).bind fun y => bf2 b x y h
        | _ => none)
      | _ :: _ => none

noncomputable def apV (n : Nat) (v : VV) (h : VH) : Option (VV × VH) := (h.lst n).bind fun xs => if xs.length < 1000 then some (.none, h.setL n (xs ++ [v])) else none
noncomputable def exV (n : Nat) (v : VV) (h : VH) : Option (VV × VH) := match v with
  | .ref k => if k = n then none else (h.lst n).bind fun xs => (h.lst k).bind fun ys => if xs.length + ys.length < 1000 ∧ ys.isEmpty = false then some (.none, h.setL n (xs ++ ys)) else none
  | _ => none
noncomputable def popV (n : Nat) (v : VV) (h : VH) : Option (VV × VH) := match v with
  | .int k => (h.ic n).bind fun es => (look k es).map fun w => (w, h.setI n (drp k es))
  | .str k => (h.sd n).bind fun es => (look k es).map fun w => (w, h.setS n (drp k es))
  | _ => none
noncomputable def updV (n : Nat) (v : VV) (h : VH) : Option (VV × VH) := match v with
  | .ref k => if k = n then none else (h.sd n).bind fun xs => (h.sd k).bind fun ys => if xs.length + ys.length ≤ 1000 then some (.none, h.setS n (ys.foldl (fun l e => put e.1 e.2 l) xs)) else none
  | _ => none
noncomputable def vBm (m : Nat) (n : Nat) (vs : List VV) (h : VH) : Option (VV × VH) := match vs with
  | [v] => if m = n_append then apV n v h else if m = n_extend then exV n v h else if m = n_pop then popV n v h else if m = n_update then updV n v h else none
  | _ => none

noncomputable def bmOk (m n : Nat) (h : VH) : Bool :=
  if m = n_append ∨ m = n_extend then (h.lst n).isSome else (h.sd n).isSome || (h.ic n).isSome
noncomputable def vSub (n : Nat) (i : VV) (h : VH) : Option VV :=
  match i with
  | .int k => (match h.lst n with
    | some vs => if 0 ≤ k ∧ k < 1000 then vs[k.toNat]? else none
    | none => match h.tup n with
      | some vs => if 0 ≤ k ∧ k < 1000 then vs[k.toNat]? else none
      | none => (h.ic n).bind fun es => look k es)
  | .str x => (h.sd n).bind fun es => look x es
  | _ => none

noncomputable abbrev Loc := Nat → Option VV
noncomputable abbrev Caller := Nat → List VV → VH → Option (VV × VH)

noncomputable def nodupN : List Nat → Bool
  | [] => true
  | x :: r => !r.contains x && nodupN r

mutual
noncomputable def vE (cl : Caller) (l : Loc) : PE → VH → Option (VV × VH)
  | .none, h => some (.none, h)
  | .bool b, h => some (.bool b, h)
  | .int i, h => some (.int i, h)
  | .str x, h => some (.str x, h)
  | .bytes bs, h => some (.bytes bs, h)
  | .loc x, h => (l x).map fun v => (v, h)
  | .glb x, h => (gval x).map fun v => (v, h)
  | .attr e f, h => (vE cl l e h).bind fun (v, h) => match v with
    | .ref n => match h.cls n with
      | some _ => (h.fld n f).map fun v => (v, h)
      | none => none
    | _ => none
  | .fn g args, h => match gfn g with
    | some f => (vEs cl l args h).bind fun (vs, h) => cl f vs h
    | none => none
  | .new c args, h => match ini c with
    | some f => (vEs cl l args h).bind fun (vs, h) => (cl f (.ref h.nxt :: vs) (h.newC c)).bind fun (r, h') => match r with
      | .none => some (.ref h.nxt, h')
      | _ => none
    | none => none
  | .meth o m args, h => (vE cl l o h).bind fun (v, h) => match v with
    | .ref n => match h.cls n with
      | some c => match mtb c m with
        | some f => (vEs cl l args h).bind fun (vs, h) => cl f (.ref n :: vs) h
        | none => none
      | none => none
    | _ => none
  | .bm o m args, h => (vE cl l o h).bind fun (v, h) => match v with
    | .ref n => if bmOk m n h then (vEs cl l args h).bind fun (vs, h) => vBm m n vs h else none
    | _ => none
  | .bf b args, h => (vEs cl l args h).bind fun (vs, h) => vBf b vs h
  | .lrange a b, h => (vE cl l a h).bind fun (x, h) => (vE cl l b h).bind fun (y, h) => match x, y with
    | .int i, .int j => if -1000 ≤ i ∧ i ≤ 1000 ∧ -1000 ≤ j ∧ j ≤ 1000 ∧ j - i ≤ 64 then some (.ref h.nxt, h.newL ((List.range (j - i).toNat).map fun k : Nat => .int (i + (k : Int)))) else none
    | _, _ => none
  | .bin op a b, h => (vE cl l a h).bind fun (x, h) => (vE cl l b h).bind fun (y, h) => vBin op x y h
  | .cmp op a b, h => (vE cl l a h).bind fun (x, h) => (vE cl l b h).bind fun (y, h) => (vCmp op x y h).map fun c => (.bool c, h)
  | .and es, h => (vAnd cl l true es h).map fun (b, h) => (.bool b, h)
  | .or es, h => (vAnd cl l false es h).map fun (b, h) => (.bool b, h)
  | .not e, h => (vE cl l e h).bind fun (v, h) => match v with
    | .bool b => some (.bool !b, h)
    | _ => none
  | .ife t a b, h => (vE cl l t h).bind fun (v, h) => match v with
    | .bool true => vE cl l a h
    | .bool false => vE cl l b h
    | _ => none
  | .tup es, h => (vEs cl l es h).bind fun (vs, h) => some (.ref h.nxt, h.newT vs)
  | .list es, h => (vEs cl l es h).bind fun (vs, h) => some (.ref h.nxt, h.newL vs)
  | .sdict ks es, h => (vEs cl l es h).bind fun (vs, h) => if ks.length = vs.length ∧ nodupN ks then some (.ref h.nxt, h.newS (ks.zip vs)) else none
  | .idict ks es, h => (vEs cl l es h).bind fun (vs, h) => if ks.length = 1 ∧ vs.length = 1 then some (.ref h.nxt, h.newI (ks.zip vs)) else none
  | .sub e i, h => (vE cl l e h).bind fun (v, h) => (vE cl l i h).bind fun (w, h) => match v with
    | .ref n => (vSub n w h).map fun r => (r, h)
    | _ => none
  | .slc e lo hi, h => (vE cl l e h).bind fun (v, h) => match v, lo, hi with
    | .ref n, some 1, none => (h.lst n).map fun vs => (.ref h.nxt, h.newL (vs.drop 1))
    | _, _, _ => none
noncomputable def vEs (cl : Caller) (l : Loc) : PEs → VH → Option (List VV × VH)
  | .nil, h => some ([], h)
  | .cons e es, h => (vE cl l e h).bind fun (v, h) => (vEs cl l es h).map fun (vs, h) => (v :: vs, h)
noncomputable def vAnd (cl : Caller) (l : Loc) (go : Bool) : PEs → VH → Option (Bool × VH)
  | .nil, _ => none
  | .cons e .nil, h => (vE cl l e h).bind fun (v, h) => match v with
    | .bool b => some (b, h)
    | _ => none
  | .cons e es, h => (vE cl l e h).bind fun (v, h) => match v with
    | .bool b => if b = go then vAnd cl l go es h else some (b, h)
    | _ => none
end

inductive VFl where
  | next | ret (v : VV)

noncomputable def vAsg (cl : Caller) (l : Loc) (v : VV) : PT → VH → Option (Loc × VH)
  | .name x, h => some (upd l x (some v), h)
  | .attr e f, h => (vE cl l e h).bind fun (o, h) => match o with
    | .ref n => (h.cls n).bind fun _ => if f < 64 then some (l, h.setF n f v) else none
    | _ => none
  | .sub e i, h => (vE cl l e h).bind fun (o, h) => (vE cl l i h).bind fun (k, h) => match o, k with
    | .ref n, .int k => (match h.lst n with
      | some vs => if 0 ≤ k ∧ k < vs.length ∧ k < 1000 then some (l, h.setL n (vs.set k.toNat v)) else none
      | none => (h.ic n).bind fun es => if es.length < 1000 then some (l, h.setI n (put k v es)) else none)
    | .ref n, .str k => (h.sd n).bind fun es => if es.length < 1000 then some (l, h.setS n (put k v es)) else none
    | _, _ => none
noncomputable def vAsgs (cl : Caller) : List (PT × VV) → Loc → VH → Option (Loc × VH)
  | [], l, h => some (l, h)
  | (t, v) :: r, l, h => (vAsg cl l v t h).bind fun (l, h) => vAsgs cl r l h

noncomputable def PT.isName : PT → Bool
  | .name _ => true
  | _ => false

noncomputable def loopV (f : Loc → VH → Option (VFl × Loc × VH)) (chk : VH → Bool) (x : Nat) : List VV → Loc → VH → Option (VFl × Loc × VH)
  | [], l, h => some (.next, l, h)
  | v :: vs, l, h => (f (upd l x (some v)) h).bind fun (fl, l, h) => match fl with
    | .next => if chk h then loopV f chk x vs l h else none
    | .ret r => some (.ret r, l, h)

mutual
noncomputable def vS (cl : Caller) : PS → Loc → VH → Option (VFl × Loc × VH)
  | .asg t e, l, h => (vE cl l e h).bind fun (v, h) => (vAsg cl l v t h).map fun (l, h) => (.next, l, h)
  | .asgT ts e, l, h => (vE cl l e h).bind fun (v, h) => match v with
    | .ref n => (h.tup n).bind fun vs => if ts.length = vs.length then
        (vAsgs cl (if ts.all PT.isName then (ts.zip vs).reverse else ts.zip vs) l h).map fun (l, h) => (.next, l, h) else none
    | _ => none
  | .augA o f op e, l, h => (vE cl l o h).bind fun (v, h) => match v with
    | .ref n => (h.cls n).bind fun _ => (h.fld n f).bind fun old => (vE cl l e h).bind fun (w, h) => match op, old, w with
      | 0, .int x, .int y => if f < 64 ∧ (h.cls n).isSome then some (.next, l, h.setF n f (.int (x + y))) else none
      | _, _, _ => none
    | _ => none
  | .ifs t a b, l, h => (vE cl l t h).bind fun (v, h) => match v with
    | .bool true => vSs cl a l h
    | .bool false => vSs cl b l h
    | _ => none
  | .ret e, l, h => (vE cl l e h).map fun (v, h) => (.ret v, l, h)
  | .retN, l, h => some (.ret .none, l, h)
  | .forL x e body, l, h => (vE cl l e h).bind fun (v, h) => match v with
    | .ref n => (h.lst n).bind fun vs => loopV (vSs cl body) (fun h' => h'.ver n == h.ver n) x vs l h
    | _ => none
  | .forD x e body, l, h => (vE cl l e h).bind fun (v, h) => match v with
    | .ref n => (h.ic n).bind fun es => loopV (vSs cl body) (fun h' => h'.ver n == h.ver n) x (es.map fun e => .int e.1) l h
    | _ => none
  | .forR x a b body, l, h => (vE cl l a h).bind fun (u, h) => (vE cl l b h).bind fun (v, h) => match u, v with
    | .int i, .int j => if -1000 ≤ i ∧ i ≤ 1000 ∧ -1000 ≤ j ∧ j ≤ 1000 ∧ j - i ≤ 64 then loopV (vSs cl body) (fun _ => true) x ((List.range (j - i).toNat).map fun k : Nat => .int (i + (k : Int))) l h else none
    | .none, .int j => if 0 ≤ j ∧ j ≤ 64 then loopV (vSs cl body) (fun _ => true) x ((List.range j.toNat).map fun k : Nat => .int (k : Int)) l h else none
    | _, _ => none
  | .expr e, l, h => (vE cl l e h).map fun (_, h) => (.next, l, h)
  | .dead, _, _ => none
noncomputable def vSs (cl : Caller) : PSs → Loc → VH → Option (VFl × Loc × VH)
  | .nil, l, h => some (.next, l, h)
  | .cons s ss, l, h => (vS cl s l h).bind fun (fl, l, h) => match fl with
    | .next => vSs cl ss l h
    | .ret v => some (.ret v, l, h)
end

noncomputable def vFresh (n : Nat) (h : VH) : Option (VV × VH) :=
  (h.cls n).bind fun _ => (asR (h.fld n n_known)).bind fun k => (asR (h.fld n n_used)).bind fun u => (h.ic k).bind fun es => (h.lst u).bind fun us => if es.length < 64 then (intsOf us).map fun us =>
        ((match (sortI (es.map (·.1))).filter fun x => !us.contains x with
          | [] => VV.none
          | x :: _ => .int x), (h.newL ((sortI (es.map (·.1))).map .int)).newL (((sortI (es.map (·.1))).filter fun x => !us.contains x).map .int)) else none
noncomputable def mkTups (h : VH) : List VV → List VV × VH
  | [] => ([], h)
  | v :: vs => let r := mkTups (h.newT [.str n_retire_connection_id, v]) vs
    (.ref h.nxt :: r.1, r.2)
noncomputable def vFrames (n : Nat) (h : VH) : Option (VV × VH) :=
  (h.cls n).bind fun _ => (asR (h.fld n n_to_retire)).bind fun k => (h.lst k).map fun vs =>
    (.ref (mkTups h vs).2.nxt, (((mkTups h vs).2.newL (mkTups h vs).1).newL []).setF n n_to_retire (.ref ((mkTups h vs).2.nxt + 1)))

noncomputable def bindL (ps : List Nat) (vs : List VV) : Loc := fun x => look x (ps.zip vs)

noncomputable def vF : Nat → Caller
  | 0, _, _, _ => none
  | d + 1, f, vs, h =>
    if f = f_RemoteIds_fresh then (match vs with | [.ref n] => vFresh n h | _ => none)
    else if f = f_RemoteIds_frames then (match vs with | [.ref n] => vFrames n h | _ => none)
    else
      let vs := if f = f_Rtt_init ∧ vs.length = 1 then vs ++ [.none] else vs
      match fbd f with
      | some b => if (fps f).length = vs.length then
          (vSs (vF d) b (bindL (fps f) vs) h).map fun (fl, _, h) => (match fl with | .ret v => v | .next => .none, h)
        else none
      | none => none

end Mine
end
section
namespace Mine
open PySem PySem.W PyProof.Rows PySem.Calls


structure SE where
  prog : Program
  w : World
  p : Program
  loose : List Str
  mean : ExcName → Option Value
  mg : Str → Option Value
  mb : Str → Option Value
  K : Frag
  ca : Nat → Addr
  fa : Nat → Addr

noncomputable abbrev Rho := List (Addr × Addr)
noncomputable abbrev Led := List (Addr × Obj)

noncomputable def toU8 (bs : List Int) : Array UInt8 := (bs.map fun i => UInt8.ofNat i.toNat).toArray
noncomputable def byteOk (bs : List Int) : Prop := ∀ i ∈ bs, 0 ≤ i ∧ i < 256

noncomputable def VR (ρ : Rho) : VV → Value → Prop
  | .none, u => u = .none
  | .bool b, u => u = .bool b
  | .int i, u => ∃ t, u = .int i t
  | .str x, u => x < 176 ∧ ∃ t, u = .str (nm x) t
  | .bytes bs, u => (∃ t, u = .bytes (toU8 bs) t) ∧ byteOk bs
  | .ref n, u => ∃ a d, u = .ref a ∧ ρ[n]? = some (a, d)

noncomputable def VRs (ρ : Rho) : List VV → List Value → Prop
  | [], us => us = []
  | v :: vs, us => ∃ u us', us = u :: us' ∧ VR ρ v u ∧ VRs ρ vs us'

noncomputable def DEnt (P : Params) (ρ : Rho) (f : Nat → Option VV) : List Nat → List DictEntry → Prop
  | [], es => es = []
  | i :: ks, es => ∃ e es', es = e :: es' ∧ (∃ t v x, e = ⟨PyData.keyHash P (nm i), .str (nm i) t, x⟩ ∧ f i = some v ∧ VR ρ v x) ∧ DEnt P ρ f ks es'

noncomputable def SRel (ρ : Rho) : List (Nat × VV) → List (Str × Value) → Prop
  | [], kvs => kvs = []
  | (i, v) :: es, kvs => i < 176 ∧ ∃ x r, kvs = (nm i, x) :: r ∧ VR ρ v x ∧ SRel ρ es r
noncomputable def IRel (ρ : Rho) : List (Int × VV) → List (Int × Value) → Prop
  | [], kvs => kvs = []
  | (i, v) :: es, kvs => ∃ x r, kvs = (i, x) :: r ∧ VR ρ v x ∧ IRel ρ es r

noncomputable abbrev tupOf (xs : List Value) : Obj := { cls := .type "tuple", data := .seq xs.toArray }

structure HR (S : SE) (ρ : Rho) (led : Led) (h : VH) : Prop where
  len : ρ.length = h.nxt
  dom : ∀ (n : Nat) (a d : Addr), ρ[n]? = some (a, d) → (∃ o, (a, o) ∈ led) ∧ ∃ o, (d, o) ∈ led
  co : ∀ (n c : Nat), h.cls n = some c → (ini c).isSome = true
  sx : ∀ (n : Nat) es, h.sd n = some es → h.ic n = none
  inj : ∀ (n m : Nat) (p q : Addr × Addr), ρ[n]? = some p → ρ[m]? = some q → n ≠ m → p.1 ≠ q.1 ∧ p.1 ≠ q.2 ∧ p.2 ≠ q.1 ∧ p.2 ≠ q.2
  ins : ∀ n c, h.cls n = some c → ∃ a d ks es k, ρ[n]? = some (a, d) ∧ (a, instObj (S.ca c) d) ∈ led ∧ (d, dictOf es k) ∈ led ∧ ks.Nodup ∧ (∀ i ∈ ks, i < 64) ∧
    DEnt S.w.params ρ (h.fld n) ks es ∧ ∀ i, (h.fld n i).isSome = true → i ∈ ks
  lst : ∀ n vs, h.lst n = some vs → ∃ a d xs k, ρ[n]? = some (a, d) ∧ (a, listOf xs.toArray k) ∈ led ∧ VRs ρ vs xs ∧ vs.length ≤ 1000
  tup : ∀ n vs, h.tup n = some vs → ∃ a d xs, ρ[n]? = some (a, d) ∧ (a, tupOf xs) ∈ led ∧ VRs ρ vs xs ∧ vs.length ≤ 1000
  sd : ∀ n es, h.sd n = some es → ∃ a d o kvs, ρ[n]? = some (a, d) ∧ (a, o) ∈ led ∧ Obj.IsDictOf (PySem.strKind S.prog S.w) o kvs ∧ SRel ρ es kvs ∧ (a == sysModules) = false ∧ es.length ≤ 1000
  ic : ∀ n es, h.ic n = some es → ∃ a d o kvs, ρ[n]? = some (a, d) ∧ (a, o) ∈ led ∧ Obj.IsDictOf (intKind S.prog S.w) o kvs ∧ IRel ρ es kvs ∧ (a == sysModules) = false ∧ es.length ≤ 1000

structure FX where
  A : Around
  q : Str
  sc : Scope
  L : Addr
  a : Addr
  cd : Value
  cl : List (Str × Addr)
  h₀ : Heap
noncomputable abbrev FX.env (x : FX) : Env := envX x.q x.sc x.L x.a x.cd x.cl

structure FX.Ok (S : SE) (x : FX) (d : Nat) : Prop where
  below : ∃ A₀ base outer, Below A₀ base outer x.h₀ ∧ x.A.frames = some (x.env :: outer)
  X : S.K.In x.h₀
  T : Top S.p S.loose S.mean S.mg S.mb x.h₀
  kind : x.sc.kind = .function
  hd : x.A.handled = none
  dep : x.A.depth + 2 * d < recursionLimit
  un : x.A.units + 8 * d + 100 < cLine

noncomputable def LR (ρ : Rho) (l : Loc) (m : Str → Option Value) : Prop := ∀ i v, l i = some v → ∃ u, m (nm i) = some u ∧ VR ρ v u

structure St (S : SE) (x : FX) (hp : Heap) (ρ : Rho) (led ex : Led) (l : Loc) (h : VH) : Prop where
  fr : ∃ m, Fr x.h₀ x.L hp m ∧ LR ρ l m
  news : News x.h₀ x.L hp (led ++ ex)
  nod : ((led ++ ex).map (·.1)).Nodup
  hr : HR S ρ led h

structure Ext (ρ ρ' : Rho) (led led' : Led) (h h' : VH) : Prop where
  pre : ∃ r, ρ' = ρ ++ r
  ver : ∀ n, h.ver n ≤ h'.ver n
  keep : ∀ n a d o, ρ[n]? = some (a, d) → h'.ver n = h.ver n → (a, o) ∈ led → (a, o) ∈ led'

set_option tactic.hygienic false
theorem Ext.refl {ρ : Rho} {led : Led} {h : VH} : Ext ρ ρ led led h h := ⟨⟨[], by simp⟩, fun _ => Nat.le_refl _, fun _ _ _ _ _ _ m => m⟩
theorem Ext.get {ρ ρ' : Rho} {led led' : Led} {h h' : VH} (e : Ext ρ ρ' led led' h h') {n : Nat} {p : Addr × Addr} (q : ρ[n]? = some p) : ρ'[n]? = some p := by
  obtain ⟨r, rfl⟩ := e.pre
  rw [List.getElem?_append_left (List.getElem?_eq_some_iff.mp q).1]; exact q
theorem Ext.trans {ρ ρ' ρ'' : Rho} {led led' led'' : Led} {h h' h'' : VH} (e : Ext ρ ρ' led led' h h') (f : Ext ρ' ρ'' led' led'' h' h'') : Ext ρ ρ'' led led'' h h'' := by
  refine ⟨?_, fun n => Nat.le_trans (e.ver n) (f.ver n), fun n a d o q hv m => ?_⟩
  · obtain ⟨r, rfl⟩ := e.pre
    obtain ⟨r', rfl⟩ := f.pre
    exact ⟨r ++ r', by simp⟩
  · have h1 := e.ver n
    have h2 := f.ver n
    exact f.keep n a d o (e.get q) (by omega) (e.keep n a d o q (by omega) m)

theorem VR.ext {ρ ρ' : Rho} {led led' : Led} {h h' : VH} (e : Ext ρ ρ' led led' h h') {v : VV} {u : Value} (q : VR ρ v u) : VR ρ' v u := by
  cases v <;> first | exact q | skip
  obtain ⟨a, d, rfl, r⟩ := q
  exact ⟨a, d, rfl, e.get r⟩
theorem VR.app {ρ : Rho} (r : Rho) {v : VV} {u : Value} (q : VR ρ v u) : VR (ρ ++ r) v u := by
  cases v <;> first | exact q | skip
  obtain ⟨a, d, rfl, z⟩ := q
  exact ⟨a, d, rfl, by rw [List.getElem?_append_left (List.getElem?_eq_some_iff.mp z).1]; exact z⟩
theorem VRs.app {ρ : Rho} (r : Rho) : ∀ {vs : List VV} {us : List Value}, VRs ρ vs us → VRs (ρ ++ r) vs us
  | [], _, q => q
  | _ :: _, _, ⟨u, us', e, q, r'⟩ => ⟨u, us', e, q.app r, VRs.app r r'⟩
theorem VRs.ext {ρ ρ' : Rho} {led led' : Led} {h h' : VH} (e : Ext ρ ρ' led led' h h') {vs : List VV} {us : List Value} (q : VRs ρ vs us) : VRs ρ' vs us := by
  obtain ⟨r, rfl⟩ := e.pre
  exact q.app r
theorem VRs.length {ρ : Rho} : ∀ {vs : List VV} {us : List Value}, VRs ρ vs us → us.length = vs.length
  | [], _, q => by rw [show _ = _ from q]; rfl
  | _ :: _, _, ⟨u, us', e, _, r'⟩ => by subst e; simp [VRs.length r']
theorem VRs.get {ρ : Rho} : ∀ {vs : List VV} {us : List Value} {i : Nat} {v : VV}, VRs ρ vs us → vs[i]? = some v → ∃ u, us[i]? = some u ∧ VR ρ v u
  | _ :: _, _, 0, _, ⟨u, us', e, q, _⟩, h => by subst e; simp at h; subst h; exact ⟨u, by simp, q⟩
  | _ :: _, _, i + 1, _, ⟨u, us', e, _, r'⟩, h => by subst e; simp at h; simpa using VRs.get r' h
theorem VRs.append {ρ : Rho} : ∀ {vs ws : List VV} {us ts : List Value}, VRs ρ vs us → VRs ρ ws ts → VRs ρ (vs ++ ws) (us ++ ts)
  | [], _, _, _, q, r => by rw [show _ = _ from q]; exact r
  | _ :: _, _, _, _, ⟨u, us', e, q, r'⟩, r => by subst e; exact ⟨u, _, rfl, q, VRs.append r' r⟩
theorem VRs.set {ρ : Rho} : ∀ {vs : List VV} {us : List Value} {i : Nat} {v : VV} {u : Value}, VRs ρ vs us → VR ρ v u → VRs ρ (vs.set i v) (us.set i u)
  | [], _, _, _, _, q, _ => by rw [show _ = _ from q]; exact rfl
  | _ :: _, _, 0, _, _, ⟨u, us', e, _, r'⟩, q => by subst e; exact ⟨_, _, rfl, q, r'⟩
  | _ :: _, _, i + 1, _, _, ⟨u, us', e, q', r'⟩, q => by subst e; exact ⟨_, _, rfl, q', VRs.set r' q⟩
theorem VRs.drop1 {ρ : Rho} : ∀ {vs : List VV} {us : List Value}, VRs ρ vs us → VRs ρ (vs.drop 1) (us.drop 1)
  | [], _, q => by rw [show _ = _ from q]; exact rfl
  | _ :: _, _, ⟨u, us', e, _, r'⟩ => by subst e; exact r'
theorem LR.ext {ρ ρ' : Rho} {led led' : Led} {h h' : VH} (e : Ext ρ ρ' led led' h h') {l : Loc} {m : Str → Option Value} (q : LR ρ l m) : LR ρ' l m :=
  fun i v hi => let ⟨u, a, b⟩ := q i v hi; ⟨u, a, b.ext e⟩
theorem LR.app {ρ : Rho} (r : Rho) {l : Loc} {m : Str → Option Value} (q : LR ρ l m) : LR (ρ ++ r) l m :=
  fun i v hi => let ⟨u, a, b⟩ := q i v hi; ⟨u, a, b.app r⟩
theorem DEnt.app {P : Params} {ρ : Rho} (r : Rho) {f : Nat → Option VV} : ∀ {ks : List Nat} {es : List DictEntry}, DEnt P ρ f ks es → DEnt P (ρ ++ r) f ks es
  | [], _, q => q
  | _ :: _, _, ⟨e, es', h, ⟨t, v, x, a, b, c⟩, r'⟩ => ⟨e, es', h, ⟨t, v, x, a, b, c.app r⟩, DEnt.app r r'⟩
theorem SRel.app {ρ : Rho} (r : Rho) : ∀ {es : List (Nat × VV)} {kvs : List (Str × Value)}, SRel ρ es kvs → SRel (ρ ++ r) es kvs
  | [], _, q => q
  | (_, _) :: _, _, ⟨hi, x, r', e, q, z⟩ => ⟨hi, x, r', e, q.app r, SRel.app r z⟩
theorem IRel.app {ρ : Rho} (r : Rho) : ∀ {es : List (Int × VV)} {kvs : List (Int × Value)}, IRel ρ es kvs → IRel (ρ ++ r) es kvs
  | [], _, q => q
  | (_, _) :: _, _, ⟨x, r', e, q, z⟩ => ⟨x, r', e, q.app r, IRel.app r z⟩

theorem nm_nodup : (nmL.map Str.ofString).Nodup := by decide +kernel
theorem nm_inj {i j : Nat} (hi : i < nmL.length) (hj : j < nmL.length) (e : nm i = nm j) : i = j := by
  have h := List.pairwise_iff_getElem.mp nm_nodup
  have hi' : i < (nmL.map Str.ofString).length := by simpa using hi
  have hj' : j < (nmL.map Str.ofString).length := by simpa using hj
  have e' : (nmL.map Str.ofString)[i] = (nmL.map Str.ofString)[j] := by
    simp only [List.getElem_map]
    unfold nm at e
    simp only [List.getD_eq_getElem?_getD, List.getElem?_eq_getElem hi, List.getElem?_eq_getElem hj, Option.getD_some] at e
    exact e
  rcases Nat.lt_trichotomy i j with q | q | q
  · exact absurd e' (h i j hi' hj' q)
  · exact q
  · exact absurd e'.symm (h j i hj' hi' q)
theorem nm_len : 176 ≤ nmL.length := by decide
theorem nm_inj' {i j : Nat} (hi : i < 176) (hj : j < 176) (e : nm i = nm j) : i = j := nm_inj (Nat.lt_of_lt_of_le hi nm_len) (Nat.lt_of_lt_of_le hj nm_len) e
end Mine
end
section
namespace Mine
open PySem PySem.W PyProof.Rows PySem.Calls

noncomputable def rep (a : Addr) (o' : Obj) (l : Led) : Led := l.map fun p => if p.1 = a then (a, o') else p
set_option tactic.hygienic false
theorem rep_fst (a : Addr) (o' : Obj) (l : Led) : (rep a o' l).map (·.1) = l.map (·.1) := by
  unfold rep
  rw [List.map_map]
  apply List.map_congr_left
  intro p _
  by_cases h : p.1 = a <;> simp [h]
theorem rep_app (a : Addr) (o' : Obj) (l m : Led) : rep a o' (l ++ m) = rep a o' l ++ rep a o' m := by simp [rep]
theorem rep_off {a : Addr} {o' : Obj} {l : Led} (h : ∀ p ∈ l, p.1 ≠ a) : rep a o' l = l := by
  unfold rep
  conv => rhs; rw [← List.map_id l]
  apply List.map_congr_left
  intro p hp
  simp [h p hp]
theorem mem_rep_ne {a b : Addr} {o o' : Obj} {l : Led} (h : (b, o) ∈ l) (n : b ≠ a) : (b, o) ∈ rep a o' l :=
  List.mem_map.mpr ⟨(b, o), h, by simp [n]⟩
theorem mem_rep_self {a : Addr} {o o' : Obj} {l : Led} (h : (a, o) ∈ l) : (a, o') ∈ rep a o' l :=
  List.mem_map.mpr ⟨(a, o), h, by simp⟩
theorem upd_rep {a : Addr} {o o' : Obj} : ∀ {l : Led}, (a, o) ∈ l → (l.map (·.1)).Nodup → Upd a o o' l (rep a o' l)
  | p :: r, h, n => by
    rw [List.map_cons, List.nodup_cons] at n
    rcases List.mem_cons.mp h with e | h
    · subst e
      have off : ∀ p ∈ r, p.1 ≠ a := fun p hp e => n.1 (List.mem_map.mpr ⟨p, hp, e⟩)
      have : rep a o' ((a, o) :: r) = (a, o') :: r := by
        show (if a = a then (a, o') else (a, o)) :: rep a o' r = _
        rw [if_pos rfl, rep_off off]
      rw [this]
      exact .head off
    · have ne : p.1 ≠ a := fun e => n.1 (List.mem_map.mpr ⟨(a, o), h, e.symm⟩)
      have : rep a o' (p :: r) = p :: rep a o' r := by
        show (if p.1 = a then (a, o') else p) :: rep a o' r = _
        rw [if_neg ne]
      rw [this]
      exact .tail ne (upd_rep h n.2)
theorem led_fun {l : Led} {a : Addr} {o o' : Obj} (n : (l.map (·.1)).Nodup) (h : (a, o) ∈ l) (h' : (a, o') ∈ l) : o = o' := by
  induction l with
  | nil => cases h
  | cons p r ih =>
    rw [List.map_cons, List.nodup_cons] at n
    have off : ∀ x, (p.1, x) ∉ r := fun x hx => n.1 (List.mem_map.mpr ⟨_, hx, rfl⟩)
    rcases List.mem_cons.mp h with e | h1
    · rcases List.mem_cons.mp h' with e' | h2
      · rw [← e'] at e; exact (Prod.mk.inj e).2
      · rw [← e] at off; exact absurd h2 (off _)
    · rcases List.mem_cons.mp h' with e' | h2
      · rw [← e'] at off; exact absurd h1 (off _)
      · exact ih n.2 h1 h2

section
variable {S : SE} {ρ : Rho} {led : Led} {h : VH}

set_option tactic.hygienic false
theorem HR.none_nxt (H : HR S ρ led h) : h.cls h.nxt = none ∧ h.lst h.nxt = none ∧ h.tup h.nxt = none ∧ h.sd h.nxt = none ∧ h.ic h.nxt = none := by
  have z : ∀ p : Addr × Addr, ρ[h.nxt]? ≠ some p := fun p e => by
    have := (List.getElem?_eq_some_iff.mp e).1
    rw [H.len] at this; exact Nat.lt_irrefl _ this
  refine ⟨?_, ?_, ?_, ?_, ?_⟩
  · cases q : h.cls h.nxt with
    | none => rfl
    | some c => obtain ⟨a, d, _, _, _, e, _⟩ := H.ins _ _ q; exact absurd e (z _)
  · cases q : h.lst h.nxt with
    | none => rfl
    | some c => obtain ⟨a, d, _, _, e, _⟩ := H.lst _ _ q; exact absurd e (z _)
  · cases q : h.tup h.nxt with
    | none => rfl
    | some c => obtain ⟨a, d, _, e, _⟩ := H.tup _ _ q; exact absurd e (z _)
  · cases q : h.sd h.nxt with
    | none => rfl
    | some c => obtain ⟨a, d, _, _, e, _⟩ := H.sd _ _ q; exact absurd e (z _)
  · cases q : h.ic h.nxt with
    | none => rfl
    | some c => obtain ⟨a, d, _, _, e, _⟩ := H.ic _ _ q; exact absurd e (z _)

structure Grown (ρ : Rho) (led new : Led) (a d : Addr) : Prop where
  a_in : ∃ o, (a, o) ∈ new
  d_in : ∃ o, (d, o) ∈ new
  off : ∀ q ∈ led, q.1 ≠ a ∧ q.1 ≠ d

theorem get_app {ρ : Rho} {n : Nat} {p q : Addr × Addr} (e : (ρ ++ [p])[n]? = some q) : (ρ[n]? = some q) ∨ (n = ρ.length ∧ q = p) := by
  rcases Nat.lt_trichotomy n ρ.length with h | h | h
  · rw [List.getElem?_append_left h] at e; exact .inl e
  · subst h; simp at e; exact .inr ⟨rfl, e.symm⟩
  · rw [List.getElem?_eq_none (by simp; omega)] at e; cases e
theorem get_app_old {ρ : Rho} {n : Nat} {p q : Addr × Addr} (e : ρ[n]? = some q) : (ρ ++ [p])[n]? = some q := by
  rw [List.getElem?_append_left (List.getElem?_eq_some_iff.mp e).1]; exact e

theorem Grown.inj {new : Led} {a d : Addr} (G : Grown ρ led new a d) (H : HR S ρ led h) : ∀ (n m : Nat) (p q : Addr × Addr), (ρ ++ [(a, d)])[n]? = some p → (ρ ++ [(a, d)])[m]? = some q → n ≠ m → p.1 ≠ q.1 ∧ p.1 ≠ q.2 ∧ p.2 ≠ q.1 ∧ p.2 ≠ q.2 := by
  have old : ∀ (n : Nat) (p : Addr × Addr), ρ[n]? = some p → p.1 ≠ a ∧ p.1 ≠ d ∧ p.2 ≠ a ∧ p.2 ≠ d := fun n p e => by
    obtain ⟨⟨o, h1⟩, ⟨o', h2⟩⟩ := H.dom n p.1 p.2 e
    exact ⟨(G.off _ h1).1, (G.off _ h1).2, (G.off _ h2).1, (G.off _ h2).2⟩
  intro n m p q hp hq hne
  rcases get_app hp with e | ⟨e, rfl⟩ <;> rcases get_app hq with e' | ⟨e', rfl⟩
  · exact H.inj n m p q e e' hne
  · exact old n p e
  · have z := old m q e'
    exact ⟨z.1.symm, z.2.2.1.symm, z.2.1.symm, z.2.2.2.symm⟩
  · exact absurd (e.trans e'.symm) hne

theorem Grown.dom {new : Led} {a d : Addr} (G : Grown ρ led new a d) (H : HR S ρ led h) : ∀ (n : Nat) (a' d' : Addr), (ρ ++ [(a, d)])[n]? = some (a', d') → (∃ o, (a', o) ∈ new ++ led) ∧ ∃ o, (d', o) ∈ new ++ led := by
  intro n a' d' e
  rcases get_app e with e | ⟨_, e⟩
  · obtain ⟨⟨o, h1⟩, ⟨o', h2⟩⟩ := H.dom _ _ _ e
    exact ⟨⟨o, List.mem_append_right _ h1⟩, ⟨o', List.mem_append_right _ h2⟩⟩
  · cases e
    obtain ⟨o, h1⟩ := G.a_in
    obtain ⟨o', h2⟩ := G.d_in
    exact ⟨⟨o, List.mem_append_left _ h1⟩, ⟨o', List.mem_append_left _ h2⟩⟩

theorem HR.grow {new : Led} {a d : Addr} (G : Grown ρ led new a d) (H : HR S ρ led h) : HR S (ρ ++ [(a, d)]) (new ++ led) { h with nxt := h.nxt + 1 } where
  len := by simp [H.len]
  dom := G.dom H
  co := H.co
  sx := H.sx
  inj := G.inj H
  ins n c e := by
    obtain ⟨a', d', ks, es, k, e1, e2, e3, e4, e5, e6, e7⟩ := H.ins n c e
    exact ⟨a', d', ks, es, k, get_app_old e1, List.mem_append_right _ e2, List.mem_append_right _ e3, e4, e5, e6.app _, e7⟩
  lst n vs e := by
    obtain ⟨a', d', xs, k, e1, e2, e3, e4⟩ := H.lst n vs e
    exact ⟨a', d', xs, k, get_app_old e1, List.mem_append_right _ e2, e3.app _, e4⟩
  tup n vs e := by
    obtain ⟨a', d', xs, e1, e2, e3, e4⟩ := H.tup n vs e
    exact ⟨a', d', xs, get_app_old e1, List.mem_append_right _ e2, e3.app _, e4⟩
  sd n es e := by
    obtain ⟨a', d', o, kvs, e1, e2, e3, e4, e5⟩ := H.sd n es e
    exact ⟨a', d', o, kvs, get_app_old e1, List.mem_append_right _ e2, e3, e4.app _, e5⟩
  ic n es e := by
    obtain ⟨a', d', o, kvs, e1, e2, e3, e4, e5⟩ := H.ic n es e
    exact ⟨a', d', o, kvs, get_app_old e1, List.mem_append_right _ e2, e3, e4.app _, e5⟩

theorem upd_some {α : Type} {f : Nat → Option α} {n m : Nat} {v w : α} (e : upd f n (some v) m = some w) : (m = n ∧ w = v) ∨ (m ≠ n ∧ f m = some w) := by
  unfold upd at e
  by_cases q : m = n
  · rw [if_pos q] at e; exact .inl ⟨q, (Option.some.inj e).symm⟩
  · rw [if_neg q] at e; exact .inr ⟨q, e⟩

theorem HR.newL (H : HR S ρ led h) {a : Addr} {vs : List VV} {xs : List Value} {k : Nat} (off : ∀ q ∈ led, q.1 ≠ a) (r : VRs ρ vs xs) (hl : vs.length ≤ 1000) :
    HR S (ρ ++ [(a, a)]) ((a, listOf xs.toArray k) :: led) (h.newL vs) := by
  have G : Grown ρ led [(a, listOf xs.toArray k)] a a := ⟨⟨_, .head _⟩, ⟨_, .head _⟩, fun q hq => ⟨off q hq, off q hq⟩⟩
  have B := H.grow G
  exact { B with
    lst := fun n ws e => by
      rcases upd_some e with ⟨rfl, rfl⟩ | ⟨_, e⟩
      · exact ⟨a, a, xs, k, by rw [← H.len]; simp, .head _, r.app _, hl⟩
      · exact B.lst n ws e }
theorem HR.newT (H : HR S ρ led h) {a : Addr} {vs : List VV} {xs : List Value} (off : ∀ q ∈ led, q.1 ≠ a) (r : VRs ρ vs xs) (hl : vs.length ≤ 1000) :
    HR S (ρ ++ [(a, a)]) ((a, tupOf xs) :: led) (h.newT vs) := by
  have G : Grown ρ led [(a, tupOf xs)] a a := ⟨⟨_, .head _⟩, ⟨_, .head _⟩, fun q hq => ⟨off q hq, off q hq⟩⟩
  have B := H.grow G
  exact { B with
    tup := fun n ws e => by
      rcases upd_some e with ⟨rfl, rfl⟩ | ⟨_, e⟩
      · exact ⟨a, a, xs, by rw [← H.len]; simp, .head _, r.app _, hl⟩
      · exact B.tup n ws e }
theorem HR.newS (H : HR S ρ led h) {a : Addr} {es : List (Nat × VV)} {kvs : List (Str × Value)} {o : Obj} (off : ∀ q ∈ led, q.1 ≠ a) (ho : Obj.IsDictOf (PySem.strKind S.prog S.w) o kvs) (r : SRel ρ es kvs) (hs : (a == sysModules) = false) (hl : es.length ≤ 1000) :
    HR S (ρ ++ [(a, a)]) ((a, o) :: led) (h.newS es) := by
  have G : Grown ρ led [(a, o)] a a := ⟨⟨_, .head _⟩, ⟨_, .head _⟩, fun q hq => ⟨off q hq, off q hq⟩⟩
  have B := H.grow G
  exact { B with
    sx := fun n ws e => by
      rcases upd_some e with ⟨rfl, rfl⟩ | ⟨_, e⟩
      · exact H.none_nxt.2.2.2.2
      · exact B.sx n ws e
    sd := fun n ws e => by
      rcases upd_some e with ⟨rfl, rfl⟩ | ⟨_, e⟩
      · exact ⟨a, a, o, kvs, by rw [← H.len]; simp, .head _, ho, r.app _, hs, hl⟩
      · exact B.sd n ws e }
theorem HR.newI (H : HR S ρ led h) {a : Addr} {es : List (Int × VV)} {kvs : List (Int × Value)} {o : Obj} (off : ∀ q ∈ led, q.1 ≠ a) (ho : Obj.IsDictOf (intKind S.prog S.w) o kvs) (r : IRel ρ es kvs) (hs : (a == sysModules) = false) (hl : es.length ≤ 1000) :
    HR S (ρ ++ [(a, a)]) ((a, o) :: led) (h.newI es) := by
  have G : Grown ρ led [(a, o)] a a := ⟨⟨_, .head _⟩, ⟨_, .head _⟩, fun q hq => ⟨off q hq, off q hq⟩⟩
  have B := H.grow G
  exact { B with
    sx := fun n ws e => by
      have hn : n ≠ h.nxt := fun q => by subst q; exact nomatch (H.none_nxt.2.2.2.1).symm.trans e
      show upd h.ic h.nxt (some es) n = none
      unfold upd
      rw [if_neg hn]; exact B.sx n ws e
    ic := fun n ws e => by
      rcases upd_some e with ⟨rfl, rfl⟩ | ⟨_, e⟩
      · exact ⟨a, a, o, kvs, by rw [← H.len]; simp, .head _, ho, r.app _, hs, hl⟩
      · exact B.ic n ws e }
theorem HR.newC (H : HR S ρ led h) {a d : Addr} {c : Nat} (off : ∀ q ∈ led, q.1 ≠ a ∧ q.1 ≠ d) (hc : (ini c).isSome = true) :
    HR S (ρ ++ [(a, d)]) ((a, instObj (S.ca c) d) :: (d, dictOf [] 0) :: led) (h.newC c) := by
  have G : Grown ρ led [(a, instObj (S.ca c) d), (d, dictOf [] 0)] a d := ⟨⟨_, .head _⟩, ⟨_, .tail _ (.head _)⟩, fun q hq => off q hq⟩
  have B := H.grow G
  have ne : ∀ n c', h.cls n = some c' → n ≠ h.nxt := fun n c' e q => by
    subst q
    exact nomatch H.none_nxt.1.symm.trans e
  exact { B with
    co := fun n c' e => by
      rcases upd_some e with ⟨rfl, rfl⟩ | ⟨_, e⟩
      · exact hc
      · exact H.co n c' e
    ins := fun n c' e => by
      rcases upd_some e with ⟨rfl, rfl⟩ | ⟨q, e⟩
      · refine ⟨a, d, [], [], 0, by rw [← H.len]; simp, .head _, .tail _ (.head _), .nil, (fun _ hi => nomatch hi), rfl, fun i hi => ?_⟩
        have : (h.newC c').fld h.nxt i = none := by
          show upd h.fld h.nxt (fun _ => none) h.nxt i = none
          unfold upd; rw [if_pos rfl]
        rw [this] at hi; cases hi
      · obtain ⟨a', d', ks, es, k, e1, e2, e3, e4, e5, e6, e7⟩ := B.ins n c' e
        have : (h.newC c).fld n = h.fld n := by
          show upd h.fld h.nxt (fun _ => none) n = h.fld n
          unfold upd; rw [if_neg q]
        exact ⟨a', d', ks, es, k, e1, e2, e3, e4, e5, by rw [this]; exact e6, by rw [this]; exact e7⟩ }

theorem HR.obj_ne {a b : Addr} {o o' : Obj} (nod : (led.map (·.1)).Nodup) (h1 : (a, o) ∈ led) (h2 : (b, o') ∈ led) (hne : o ≠ o') : a ≠ b := fun e => by
  subst e; exact hne (led_fun nod h1 h2)
theorem inst_ne_list {C d : Addr} {its : Array Value} {k : Nat} : instObj C d ≠ listOf its k := fun e => by cases congrArg Obj.cls e
theorem inst_ne_tup {C d : Addr} {xs : List Value} : instObj C d ≠ tupOf xs := fun e => by cases congrArg Obj.cls e
theorem list_ne_tup {xs : List Value} {its : Array Value} {k : Nat} : listOf its k ≠ tupOf xs := fun e => by
  have := congrArg Obj.cls e
  simp at this
theorem IsDictOf.cls {prog : Program} {w : World} {K : Type} [DecidableEq K] {knd : KeyKind prog w K} {o : Obj} {kvs : List (K × Value)} (h : Obj.IsDictOf knd o kvs) : o.cls = .type "dict" := by
  obtain ⟨es, ep, h1, _⟩ := h
  exact h1.1
end
end Mine
end
section
namespace Mine
open PySem PySem.W PyProof.Rows PySem.Calls

section
variable {S : SE} {ρ : Rho} {led : Led} {h : VH}

set_option tactic.hygienic false
theorem rep_dom {A : Addr} {o' : Obj} (H : HR S ρ led h) : ∀ (n : Nat) (a' d' : Addr), ρ[n]? = some (a', d') → (∃ o, (a', o) ∈ rep A o' led) ∧ ∃ o, (d', o) ∈ rep A o' led := by
  have one : ∀ b : Addr, (∃ o, (b, o) ∈ led) → ∃ o, (b, o) ∈ rep A o' led := fun b ⟨o, hb⟩ => by
    by_cases q : b = A
    · subst q; exact ⟨o', mem_rep_self hb⟩
    · exact ⟨o, mem_rep_ne hb q⟩
  intro n a' d' e
  exact ⟨one _ (H.dom n a' d' e).1, one _ (H.dom n a' d' e).2⟩

section
variable {n : Nat} {A D : Addr} {O o' : Obj} (H : HR S ρ led h) (nod : (led.map (·.1)).Nodup) (hr : ρ[n]? = some (A, D))
include H nod hr

set_option tactic.hygienic false
theorem HR.insKeep (ho : (A, O) ∈ led) (hi : ∀ C, O.cls ≠ .ref C) : ∀ m c, h.cls m = some c →
    ∃ a d ks es k, ρ[m]? = some (a, d) ∧ (a, instObj (S.ca c) d) ∈ rep A o' led ∧ (d, dictOf es k) ∈ rep A o' led ∧ ks.Nodup ∧ (∀ i ∈ ks, i < 64) ∧
    DEnt S.w.params ρ (h.fld m) ks es ∧ ∀ i, (h.fld m i).isSome = true → i ∈ ks := by
  intro m c e
  obtain ⟨a, d, ks, es, k, e1, e2, e3, r⟩ := H.ins m c e
  by_cases q : m = n
  · subst q
    obtain ⟨rfl, rfl⟩ := Prod.mk.inj (Option.some.inj (e1.symm.trans hr))
    have := led_fun nod e2 ho
    exact absurd (congrArg Obj.cls this).symm (hi _)
  · have z := H.inj m n _ _ e1 hr q
    exact ⟨a, d, ks, es, k, e1, mem_rep_ne e2 z.1, mem_rep_ne e3 z.2.2.1, r⟩
theorem HR.tupKeep (ho : (A, O) ∈ led) (hi : O.cls ≠ .type "tuple") : ∀ m vs, h.tup m = some vs → ∃ a d xs, ρ[m]? = some (a, d) ∧ (a, tupOf xs) ∈ rep A o' led ∧ VRs ρ vs xs ∧ vs.length ≤ 1000 := by
  intro m c e
  obtain ⟨a, d, xs, e1, e2, r⟩ := H.tup m c e
  by_cases q : m = n
  · subst q
    obtain ⟨rfl, rfl⟩ := Prod.mk.inj (Option.some.inj (e1.symm.trans hr))
    have := led_fun nod e2 ho
    exact absurd (congrArg Obj.cls this).symm hi
  · exact ⟨a, d, xs, e1, mem_rep_ne e2 (H.inj m n _ _ e1 hr q).1, r⟩
theorem HR.lstKeep (ho : (A, O) ∈ led) : ∀ m vs, (m ≠ n ∨ O.cls ≠ .type "list") → h.lst m = some vs → ∃ a d xs k, ρ[m]? = some (a, d) ∧ (a, listOf xs.toArray k) ∈ rep A o' led ∧ VRs ρ vs xs ∧ vs.length ≤ 1000 := by
  intro m c hc e
  obtain ⟨a, d, xs, k, e1, e2, r⟩ := H.lst m c e
  by_cases q : m = n
  · subst q
    obtain ⟨rfl, rfl⟩ := Prod.mk.inj (Option.some.inj (e1.symm.trans hr))
    have := led_fun nod e2 ho
    exact absurd (congrArg Obj.cls this).symm (hc.resolve_left fun z => z rfl)
  · exact ⟨a, d, xs, k, e1, mem_rep_ne e2 (H.inj m n _ _ e1 hr q).1, r⟩
theorem HR.sdKeep (ho : (A, O) ∈ led) : ∀ m es, (m ≠ n ∨ O.cls ≠ .type "dict") → h.sd m = some es → ∃ a d o kvs, ρ[m]? = some (a, d) ∧ (a, o) ∈ rep A o' led ∧ Obj.IsDictOf (PySem.strKind S.prog S.w) o kvs ∧ SRel ρ es kvs ∧ (a == sysModules) = false ∧ es.length ≤ 1000 := by
  intro m c hc e
  obtain ⟨a, d, o, kvs, e1, e2, e3, r⟩ := H.sd m c e
  by_cases q : m = n
  · subst q
    obtain ⟨rfl, rfl⟩ := Prod.mk.inj (Option.some.inj (e1.symm.trans hr))
    have := led_fun nod e2 ho
    exact absurd (this ▸ IsDictOf.cls e3) (hc.resolve_left fun z => z rfl)
  · exact ⟨a, d, o, kvs, e1, mem_rep_ne e2 (H.inj m n _ _ e1 hr q).1, e3, r⟩
theorem HR.icKeep (ho : (A, O) ∈ led) : ∀ m es, (m ≠ n ∨ O.cls ≠ .type "dict") → h.ic m = some es → ∃ a d o kvs, ρ[m]? = some (a, d) ∧ (a, o) ∈ rep A o' led ∧ Obj.IsDictOf (intKind S.prog S.w) o kvs ∧ IRel ρ es kvs ∧ (a == sysModules) = false ∧ es.length ≤ 1000 := by
  intro m c hc e
  obtain ⟨a, d, o, kvs, e1, e2, e3, r⟩ := H.ic m c e
  by_cases q : m = n
  · subst q
    obtain ⟨rfl, rfl⟩ := Prod.mk.inj (Option.some.inj (e1.symm.trans hr))
    have := led_fun nod e2 ho
    exact absurd (this ▸ IsDictOf.cls e3) (hc.resolve_left fun z => z rfl)
  · exact ⟨a, d, o, kvs, e1, mem_rep_ne e2 (H.inj m n _ _ e1 hr q).1, e3, r⟩

theorem HR.setL {vs : List VV} {xs : List Value} {k k' : Nat} {its : Array Value} (ho : (A, listOf its k) ∈ led) (r : VRs ρ vs xs) (hl : vs.length ≤ 1000) :
    HR S ρ (rep A (listOf xs.toArray k') led) (h.setL n vs) where
  len := H.len
  dom := rep_dom H
  co := H.co
  sx := H.sx
  inj := H.inj
  ins := H.insKeep nod hr ho (fun C e => by cases e)
  tup := H.tupKeep nod hr ho (fun e => by simp at e)
  sd := fun m es e => H.sdKeep nod hr ho m es (.inr fun e => by simp at e) e
  ic := fun m es e => H.icKeep nod hr ho m es (.inr fun e => by simp at e) e
  lst := fun m ws e => by
    rcases upd_some e with ⟨rfl, rfl⟩ | ⟨q, e⟩
    · exact ⟨A, D, xs, k', hr, mem_rep_self ho, r, hl⟩
    · exact H.lstKeep nod hr ho m ws (.inl q) e
theorem HR.setS {es : List (Nat × VV)} {kvs : List (Str × Value)} {o : Obj} (ho : (A, O) ∈ led) (hc : O.cls = .type "dict") (hd : Obj.IsDictOf (PySem.strKind S.prog S.w) o kvs) (r : SRel ρ es kvs) (hs : (A == sysModules) = false) (hl : es.length ≤ 1000) (hx : h.ic n = none) :
    HR S ρ (rep A o led) (h.setS n es) where
  len := H.len
  dom := rep_dom H
  co := H.co
  sx := fun m ws e => by
    rcases upd_some e with ⟨rfl, rfl⟩ | ⟨q, e⟩
    · exact hx
    · exact H.sx m ws e
  inj := H.inj
  ins := H.insKeep nod hr ho (fun C e => by rw [hc] at e; cases e)
  tup := H.tupKeep nod hr ho (by rw [hc]; decide)
  lst := fun m ws e => H.lstKeep nod hr ho m ws (.inr (by rw [hc]; decide)) e
  ic := fun m ws e => H.icKeep nod hr ho m ws (by
    by_cases q : m = n
    · subst q; exact nomatch hx.symm.trans e
    · exact .inl q) e
  sd := fun m ws e => by
    rcases upd_some e with ⟨rfl, rfl⟩ | ⟨q, e⟩
    · exact ⟨A, D, o, kvs, hr, mem_rep_self ho, hd, r, hs, hl⟩
    · exact H.sdKeep nod hr ho m ws (.inl q) e
theorem HR.setI {es : List (Int × VV)} {kvs : List (Int × Value)} {o : Obj} (ho : (A, O) ∈ led) (hc : O.cls = .type "dict") (hd : Obj.IsDictOf (intKind S.prog S.w) o kvs) (r : IRel ρ es kvs) (hs : (A == sysModules) = false) (hl : es.length ≤ 1000) (hx : h.sd n = none) :
    HR S ρ (rep A o led) (h.setI n es) where
  len := H.len
  dom := rep_dom H
  co := H.co
  sx := fun m ws e => by
    show upd h.ic n (some es) m = none
    have q : m ≠ n := fun q => by subst q; exact nomatch hx.symm.trans e
    unfold upd
    rw [if_neg q]; exact H.sx m ws e
  inj := H.inj
  ins := H.insKeep nod hr ho (fun C e => by rw [hc] at e; cases e)
  tup := H.tupKeep nod hr ho (by rw [hc]; decide)
  lst := fun m ws e => H.lstKeep nod hr ho m ws (.inr (by rw [hc]; decide)) e
  sd := fun m ws e => H.sdKeep nod hr ho m ws (by
    by_cases q : m = n
    · subst q; exact nomatch hx.symm.trans e
    · exact .inl q) e
  ic := fun m ws e => by
    rcases upd_some e with ⟨rfl, rfl⟩ | ⟨q, e⟩
    · exact ⟨A, D, o, kvs, hr, mem_rep_self ho, hd, r, hs, hl⟩
    · exact H.icKeep nod hr ho m ws (.inl q) e

theorem HR.setF {c f : Nat} {v : VV} {es es' : List DictEntry} {k k' : Nat} {ks' : List Nat} (hcl : h.cls n = some c) (hi : (A, instObj (S.ca c) D) ∈ led) (ho : (D, dictOf es k) ∈ led) (hn : ks'.Nodup) (hk : ∀ i ∈ ks', i < 64)
    (hd : DEnt S.w.params ρ (upd (h.fld n) f (some v)) ks' es') (hall : ∀ i, (upd (h.fld n) f (some v) i).isSome = true → i ∈ ks') :
    HR S ρ (rep D (dictOf es' k') led) (h.setF n f v) where
  len := H.len
  dom := rep_dom H
  co := H.co
  sx := H.sx
  inj := H.inj
  ins := fun m c' e => by
    have e : h.cls m = some c' := e
    by_cases q : m = n
    · subst q
      obtain rfl := Option.some.inj (hcl.symm.trans e)
      refine ⟨A, D, ks', es', k', hr, mem_rep_ne hi ?_, mem_rep_self ho, hn, hk, ?_, ?_⟩
      · intro e; subst e
        have := congrArg Obj.cls (led_fun nod hi ho)
        cases this
      · show DEnt S.w.params ρ (upd h.fld m _ m) ks' es'
        unfold upd; rw [if_pos rfl]; exact hd
      · intro i
        show (upd h.fld m _ m i).isSome = true → _
        unfold upd; rw [if_pos rfl]; exact hall i
    · obtain ⟨a, d, ks1, es1, k1, e1, e2, e3, r1, r2, r3, r4⟩ := H.ins m c' e
      have z := H.inj m n _ _ e1 hr q
      refine ⟨a, d, ks1, es1, k1, e1, mem_rep_ne e2 z.2.1, mem_rep_ne e3 z.2.2.2, r1, r2, ?_, ?_⟩
      · show DEnt S.w.params ρ (upd h.fld n _ m) ks1 es1
        unfold upd; rw [if_neg q]; exact r3
      · intro i
        show (upd h.fld n _ m i).isSome = true → _
        unfold upd; rw [if_neg q]; exact r4 i
  tup := fun m ws e => by
    obtain ⟨a, d, xs, e1, e2, r⟩ := H.tup m ws e
    refine ⟨a, d, xs, e1, mem_rep_ne e2 fun q => ?_, r⟩
    subst q
    have := congrArg Obj.cls (led_fun nod e2 ho)
    simp at this
  lst := fun m ws e => by
    obtain ⟨a, d, xs, k1, e1, e2, r⟩ := H.lst m ws e
    refine ⟨a, d, xs, k1, e1, mem_rep_ne e2 fun q => ?_, r⟩
    subst q
    have := congrArg Obj.cls (led_fun nod e2 ho)
    simp at this
  sd := fun m ws e => by
    obtain ⟨a, d, o, kvs, e1, e2, e3, r⟩ := H.sd m ws e
    refine ⟨a, d, o, kvs, e1, mem_rep_ne e2 fun q => ?_, e3, r⟩
    by_cases qq : m = n
    · subst qq
      obtain ⟨rfl, rfl⟩ := Prod.mk.inj (Option.some.inj (e1.symm.trans hr))
      have := congrArg Obj.cls (led_fun nod e2 hi)
      rw [IsDictOf.cls e3] at this; cases this
    · exact (H.inj m n _ _ e1 hr qq).2.1 q
  ic := fun m ws e => by
    obtain ⟨a, d, o, kvs, e1, e2, e3, r⟩ := H.ic m ws e
    refine ⟨a, d, o, kvs, e1, mem_rep_ne e2 fun q => ?_, e3, r⟩
    by_cases qq : m = n
    · subst qq
      obtain ⟨rfl, rfl⟩ := Prod.mk.inj (Option.some.inj (e1.symm.trans hr))
      have := congrArg Obj.cls (led_fun nod e2 hi)
      rw [IsDictOf.cls e3] at this; cases this
    · exact (H.inj m n _ _ e1 hr qq).2.1 q
end
end
end Mine
end
section
namespace Mine
open PySem PySem.W PyProof.Rows PySem.Calls

set_option tactic.hygienic false
theorem isStr_nm {i j : Nat} {t : Tok} (hi : i < 176) (hj : j < 176) : Value.isStr (.str (nm i) t) (nm j) = decide (i = j) := by
  show (nm i == nm j) = _
  by_cases h : i = j
  · subst h; simp
  · rw [decide_eq_false h]
    exact beq_eq_false_iff_ne.mpr fun e => h (nm_inj' hi hj e)

section
variable {P : Params} {ρ : Rho}
set_option tactic.hygienic false
theorem DEnt.length {f : Nat → Option VV} : ∀ {ks : List Nat} {es : List DictEntry}, DEnt P ρ f ks es → es.length = ks.length
  | [], _, q => by rw [show _ = _ from q]; rfl
  | _ :: _, _, ⟨e, es', h, _, r⟩ => by subst h; simp [DEnt.length r]
theorem DEnt.find {f : Nat → Option VV} {i : Nat} (hi : i < 176) : ∀ {ks : List Nat} {es : List DictEntry}, DEnt P ρ f ks es → (∀ j ∈ ks, j < 64) →
    (i ∈ ks → ∃ e v, es.find? (·.key.isStr (nm i)) = some e ∧ f i = some v ∧ VR ρ v e.val) ∧ (i ∉ ks → es.find? (·.key.isStr (nm i)) = none ∧ es.any (·.refKey) = false)
  | [], _, q, _ => by
    rw [show _ = _ from q]
    exact ⟨(fun h => nomatch h), fun _ => ⟨rfl, rfl⟩⟩
  | j :: ks, _, ⟨e, es', h, ⟨t, v, x, a, b, c⟩, r⟩, hk => by
    subst h
    have hj : j < 176 := Nat.lt_trans (hk j (.head _)) (by decide)
    have ih := DEnt.find hi r fun m hm => hk m (.tail _ hm)
    have ek : e.key.isStr (nm i) = decide (j = i) := by rw [a]; exact isStr_nm hj hi
    rw [List.find?_cons, ek]
    by_cases q : j = i
    · subst q
      rw [decide_eq_true rfl]
      refine ⟨fun _ => ⟨e, v, rfl, b, by rw [a]; exact c⟩, fun h => absurd (.head _) h⟩
    · rw [decide_eq_false q]
      refine ⟨fun h => ?_, fun h => ?_⟩
      · rcases List.mem_cons.mp h with e' | h
        · exact absurd e'.symm q
        · exact ih.1 h
      · have z := ih.2 fun hm => h (.tail _ hm)
        refine ⟨z.1, ?_⟩
        rw [List.any_cons, z.2, Bool.or_false, a]
        rfl
theorem DEnt.getHit {f : Nat → Option VV} {i : Nat} {v : VV} {ks : List Nat} {es : List DictEntry} (D : DEnt P ρ f ks es) (hk : ∀ j ∈ ks, j < 64) (hall : ∀ j, (f j).isSome = true → j ∈ ks) (e : f i = some v) :
    ∃ x, getL (nm i) es = some (some x) ∧ VR ρ v x := by
  have hm := hall i (by rw [e]; rfl)
  obtain ⟨en, v', h1, h2, h3⟩ := (D.find (Nat.lt_trans (hk i hm) (by decide)) hk).1 hm
  rw [e] at h2; cases h2
  exact ⟨en.val, by unfold getL; rw [h1], h3⟩
theorem DEnt.getMiss {f : Nat → Option VV} {i : Nat} {ks : List Nat} {es : List DictEntry} (D : DEnt P ρ f ks es) (hk : ∀ j ∈ ks, j < 64) (hi : i < 176) (hm : i ∉ ks) : getL (nm i) es = some none := by
  have z := (D.find hi hk).2 hm
  unfold getL
  rw [z.1, z.2]; rfl
theorem DEnt.getAny {f : Nat → Option VV} {i : Nat} {ks : List Nat} {es : List DictEntry} (D : DEnt P ρ f ks es) (hk : ∀ j ∈ ks, j < 64) (hi : i < 176) : (getL (nm i) es).isSome = true := by
  by_cases hm : i ∈ ks
  · obtain ⟨en, v', h1, h2, h3⟩ := (D.find hi hk).1 hm
    unfold getL; rw [h1]; rfl
  · rw [D.getMiss hk hi hm]; rfl
theorem DEnt.other {f : Nat → Option VV} {i : Nat} {w : VV} : ∀ {ks : List Nat} {es : List DictEntry}, i ∉ ks → DEnt P ρ f ks es → DEnt P ρ (upd f i (some w)) ks es
  | [], _, _, q => q
  | j :: ks, _, hn, ⟨e, es', h, ⟨t, v, x, a, b, c⟩, r⟩ => by
    refine ⟨e, es', h, ⟨t, v, x, a, ?_, c⟩, DEnt.other (fun q => hn (.tail _ q)) r⟩
    unfold upd
    rw [if_neg fun q : j = i => hn (q ▸ List.Mem.head _)]; exact b
theorem DEnt.putHit {f : Nat → Option VV} {i : Nat} {w : VV} {x : Value} {t : Tok} (hx : VR ρ w x) (hi : i < 176) : ∀ {ks : List Nat} {es : List DictEntry}, DEnt P ρ f ks es → (∀ j ∈ ks, j < 64) → ks.Nodup → i ∈ ks →
    DEnt P ρ (upd f i (some w)) ks (putL (nm i) (PyData.keyHash P (nm i)) (.str (nm i) t) x es) ∧ es.any (·.key.isStr (nm i)) = true
  | j :: ks, _, ⟨e, es', h, ⟨t', v, y, a, b, c⟩, r⟩, hk, hn, hm => by
    subst h
    have hj : j < 176 := Nat.lt_trans (hk j (.head _)) (by decide)
    rw [List.nodup_cons] at hn
    have ek : e.key.isStr (nm i) = decide (j = i) := by rw [a]; exact isStr_nm hj hi
    unfold putL
    rw [List.any_cons, ek]
    by_cases q : j = i
    · subst q
      rw [decide_eq_true rfl, if_pos rfl]
      refine ⟨⟨_, es', rfl, ⟨t', w, x, by rw [a], by unfold upd; rw [if_pos rfl], hx⟩, DEnt.other hn.1 r⟩, rfl⟩
    · rw [decide_eq_false q, if_neg (by decide)]
      have hm' := (List.mem_cons.mp hm).resolve_left fun e' => q e'.symm
      have ih := DEnt.putHit (t := t) hx hi r (fun m hm => hk m (.tail _ hm)) hn.2 hm'
      exact ⟨⟨e, _, rfl, ⟨t', v, y, a, by unfold upd; rw [if_neg q]; exact b, c⟩, ih.1⟩, by rw [ih.2]; rfl⟩
theorem DEnt.putMiss {f : Nat → Option VV} {i : Nat} {w : VV} {x : Value} {t : Tok} (hx : VR ρ w x) (hi : i < 176) : ∀ {ks : List Nat} {es : List DictEntry}, DEnt P ρ f ks es → (∀ j ∈ ks, j < 64) → i ∉ ks →
    DEnt P ρ (upd f i (some w)) (ks ++ [i]) (putL (nm i) (PyData.keyHash P (nm i)) (.str (nm i) t) x es) ∧ es.any (·.key.isStr (nm i)) = false
  | [], _, q, _, _ => by
    rw [show _ = _ from q]
    exact ⟨⟨_, [], rfl, ⟨t, w, x, rfl, by unfold upd; rw [if_pos rfl], hx⟩, rfl⟩, rfl⟩
  | j :: ks, _, ⟨e, es', h, ⟨t', v, y, a, b, c⟩, r⟩, hk, hm => by
    subst h
    have hj : j < 176 := Nat.lt_trans (hk j (.head _)) (by decide)
    have q : j ≠ i := fun q => hm (q ▸ List.Mem.head _)
    have ek : e.key.isStr (nm i) = false := by rw [a, isStr_nm hj hi]; exact decide_eq_false q
    unfold putL
    rw [List.any_cons, ek, if_neg (by decide)]
    have ih := DEnt.putMiss (t := t) hx hi r (fun m hm => hk m (.tail _ hm)) fun z => hm (.tail _ z)
    exact ⟨⟨e, _, rfl, ⟨t', v, y, a, by unfold upd; rw [if_neg q]; exact b, c⟩, ih.1⟩, by rw [ih.2]; rfl⟩
end

noncomputable def FF : Value → Shared → Prop := fun _ _ => False
noncomputable abbrev SE.M (S : SE) : Model := model S.prog S.w

noncomputable def Den (S : SE) (x : FX) (l : Loc) (t : Sem Value) (h : VH) (v : VV) (h' : VH) : Prop :=
  ∀ (s : Shared) (ρ : Rho) (led ex : Led) (Q : Value → Shared → Prop), St S x s.heap ρ led ex l h →
    (∀ u ρ' led' hp tk, St S x hp ρ' led' ex l h' → Ext ρ ρ' led led' h h' → VR ρ' v u → Q u { s with heap := hp, toks := tk }) → wpAny S.M x.A t Q FF s
noncomputable def Dens (S : SE) (x : FX) (l : Loc) (ts : List (Bool × Sem Value)) (h : VH) (vs : List VV) (h' : VH) : Prop :=
  ∀ (s : Shared) (ρ : Rho) (led ex : Led) (Q : List Value → Shared → Prop), St S x s.heap ρ led ex l h →
    (∀ us ρ' led' hp tk, St S x hp ρ' led' ex l h' → Ext ρ ρ' led led' h h' → VRs ρ' vs us → Q us { s with heap := hp, toks := tk }) → wpAny S.M x.A (spliced ts) Q FF s
noncomputable def DenB (S : SE) (x : FX) (l : Loc) (t : Sem Bool) (h : VH) (b : Bool) (h' : VH) : Prop :=
  ∀ (s : Shared) (ρ : Rho) (led ex : Led) (Q : Bool → Shared → Prop), St S x s.heap ρ led ex l h →
    (∀ ρ' led' hp tk, St S x hp ρ' led' ex l h' → Ext ρ ρ' led led' h h' → Q b { s with heap := hp, toks := tk }) → wpAny S.M x.A t Q FF s

section
variable {S : SE} {x : FX} {d : Nat} {l : Loc} {h : VH}

set_option tactic.hygienic false
theorem den_none {k pos} : Den S x l (eval (.Constant .none k pos) x.env) h .none h := fun s ρ led ex Q st c => by
  refine wpAny_pure ?_
  exact c .none ρ led s.heap s.toks st .refl rfl
theorem den_bool {b k pos} : Den S x l (eval (.Constant (.bool b) k pos) x.env) h (.bool b) h := fun s ρ led ex Q st c => by
  refine wpAny_pure ?_
  exact c (.bool b) ρ led s.heap s.toks st .refl rfl
theorem den_int {i k pos} : Den S x l (eval (.Constant (.int i) k pos) x.env) h (.int i) h := fun s ρ led ex Q st c =>
  wpAny_Constant_int (c _ ρ led s.heap (s.toks + 1) st .refl ⟨_, rfl⟩)
theorem den_str {i k pos} (hi : i < 176) : Den S x l (eval (.Constant (.str (nm i)) k pos) x.env) h (.str i) h := fun s ρ led ex Q st c =>
  Constant_str (c _ ρ led s.heap (s.toks + 1) st .refl ⟨hi, _, rfl⟩)
theorem den_loc (ok : x.Ok S d) {i : Nat} {v : VV} {pos} (hk : x.sc.names.lookup (nm i) = some .local) (hd : (nm i == ("__debug__" : Str)) = false) (e : l i = some v) : Den S x l (eval (.Name (nm i) pos) x.env) h v h := fun s ρ led ex Q st c => by
  obtain ⟨m, F, L⟩ := st.fr
  obtain ⟨u, hu, r⟩ := L i v e
  exact nameX_L F hu (c u ρ led s.heap s.toks st .refl r) ok.kind hk hd
end
end Mine
end
section
namespace Mine
open PySem PySem.W PyProof.Rows PySem.Calls PySem.SeqAt

noncomputable def Has (hp : Heap) (led : Led) : Prop := ∀ p ∈ led, hp.get? p.1 = some p.2
set_option tactic.hygienic false
theorem St.has {S : SE} {x : FX} {hp : Heap} {ρ : Rho} {led ex : Led} {l : Loc} {h : VH} (st : St S x hp ρ led ex l h) : Has hp led :=
  fun p hp => (st.news p (List.mem_append_left _ hp)).1
theorem St.nodl {S : SE} {x : FX} {hp : Heap} {ρ : Rho} {led ex : Led} {l : Loc} {h : VH} (st : St S x hp ρ led ex l h) : (led.map (·.1)).Nodup := by
  have := st.nod
  rw [List.map_append, List.nodup_append] at this
  exact this.1

theorem u8_inj {i j : Int} (hi : 0 ≤ i ∧ i < 256) (hj : 0 ≤ j ∧ j < 256) (e : UInt8.ofNat i.toNat = UInt8.ofNat j.toNat) : i = j := by
  have := congrArg UInt8.toNat e
  simp only [UInt8.toNat_ofNat'] at this
  omega
theorem toU8_inj : ∀ {bs cs : List Int}, byteOk bs → byteOk cs → toU8 bs = toU8 cs → bs = cs
  | [], [], _, _, _ => rfl
  | [], _ :: _, _, _, e => by have := congrArg Array.size e; simp [toU8] at this
  | _ :: _, [], _, _, e => by have := congrArg Array.size e; simp [toU8] at this
  | i :: bs, j :: cs, hb, hc, e => by
    have e := congrArg Array.toList e
    simp only [toU8, List.map_cons, List.cons.injEq] at e
    have h1 := u8_inj (hb i (.head _)) (hc j (.head _)) e.1
    have h2 := toU8_inj (bs := bs) (cs := cs) (fun k hk => hb k (.tail _ hk)) (fun k hk => hc k (.tail _ hk)) (by unfold toU8; rw [e.2])
    rw [h1, h2]
theorem toU8_beq {bs cs : List Int} (hb : byteOk bs) (hc : byteOk cs) : ((toU8 bs).toList == (toU8 cs).toList) = (bs == cs) := by
  rw [Bool.eq_iff_iff, beq_iff_eq, beq_iff_eq]
  exact ⟨fun h => toU8_inj hb hc (Array.toList_inj.mp h), fun h => by rw [h]⟩
theorem nm_beq {x y : Nat} (hx : x < 176) (hy : y < 176) : (nm x == nm y) = (x == y) := by
  rw [Bool.eq_iff_iff, beq_iff_eq, beq_iff_eq]
  exact ⟨nm_inj' hx hy, fun h => by rw [h]⟩

section
variable {A : Around} {s : Shared}
set_option tactic.hygienic false
theorem RcAt.bytes {bs cs : List Int} {t u : Tok} (hb : byteOk bs) (hc : byteOk cs) : RcAt A s (.bytes (toU8 bs) t) (.bytes (toU8 cs) u) (bs == cs) := fun prog w E Q h =>
  (show wpAny (model prog w) A (compareOp .Eq (.bytes (toU8 bs) t) (.bytes (toU8 cs) u)) Q E s from eq_bytes (by rw [toU8_beq hb hc]; exact h))
theorem RcNeAt.bytes {bs cs : List Int} {t u : Tok} (hb : byteOk bs) (hc : byteOk cs) : RcNeAt A s (.bytes (toU8 bs) t) (.bytes (toU8 cs) u) (!(bs == cs)) := fun prog w E Q h =>
  (show wpAny (model prog w) A (compareOp .NotEq (.bytes (toU8 bs) t) (.bytes (toU8 cs) u)) Q E s from ne_bytes (by
    have : ((toU8 bs).toList != (toU8 cs).toList) = !(bs == cs) := by rw [← toU8_beq hb hc]; rfl
    rw [this]; exact h))
theorem EqAt.bytes {bs cs : List Int} {t u : Tok} (hb : byteOk bs) (hc : byteOk cs) : EqAt A s (.bytes (toU8 bs) t) (.bytes (toU8 cs) u) (bs == cs) := fun prog w E Q h => by
  unfold eqBool
  refine wpAny_holding ?_
  refine wpAny_ite_split (fun hab => ?_) (fun _ => ?_)
  · have e : toU8 bs = toU8 cs := by have := eq_of_beq hab; injection this
    have e' := toU8_inj hb hc e
    subst e'
    exact wpAny_bind (wpAny_rule (wpAny_pure (by simpa using h)))
  · exact wpAny_bind (RcAt.bytes hb hc prog w E _ (wpAny_truthy_bool h))
end

set_option tactic.hygienic false
theorem all_succ (e : Nat → Bool) (n : Nat) : (List.range (n + 1)).all e = (e 0 && (List.range n).all fun j => e (j + 1)) := by
  rw [List.range_succ_eq_map, List.all_cons, List.all_map]; rfl

section
variable {S : SE} {ρ : Rho} {led : Led} {h : VH}

set_option tactic.hygienic false
theorem eqs_of {A : Around} {s : Shared} {d : Nat} (ih : ∀ {a b : VV} {r : Bool} {u w : Value}, veq d h a b = some r → VR ρ a u → VR ρ b w → EqAt A.in1 s u w r) :
    ∀ {xs ys : List VV} {us ws : List Value} {r : Bool}, veqsW (veq d h) xs ys = some r → VRs ρ xs us → VRs ρ ys ws →
      ∃ e : Nat → Bool, (∀ j (h1 : j < us.length) (h2 : j < ws.length), EqAt A.in1 s us[j] ws[j] (e j)) ∧ (List.range us.length).all e = r
  | [], [], _, _, r, hv, hx, hy => by
    rw [show _ = _ from hx]
    exact ⟨fun _ => true, fun j h1 => absurd h1 (Nat.not_lt_zero _), Option.some.inj hv⟩
  | [], _ :: _, _, _, r, hv, _, _ => by cases hv
  | _ :: _, [], _, _, r, hv, _, _ => by cases hv
  | a :: xs, b :: ys, _, _, r, hv, ⟨u, us, e1, q1, r1⟩, ⟨w, ws, e2, q2, r2⟩ => by
    subst e1; subst e2
    obtain ⟨b', h1, hv⟩ := Option.bind_eq_some_iff.mp (show (veq d h a b).bind _ = _ from hv)
    obtain ⟨c', h2, hv⟩ := Option.map_eq_some_iff.mp hv
    cases hv
    obtain ⟨e, he, ha⟩ := eqs_of ih h2 r1 r2
    refine ⟨fun j => match j with | 0 => b' | j + 1 => e j, fun j h1' h2' => ?_, ?_⟩
    · cases j with
      | zero => exact ih h1 q1 q2
      | succ j => exact he j (Nat.lt_of_succ_lt_succ h1') (Nat.lt_of_succ_lt_succ h2')
    · rw [List.length_cons, all_succ, ← ha]

set_option tactic.hygienic true
theorem rc_refs {A : Around} {s : Shared} {d : Nat} (H : HR S ρ led h) (hh : Has s.heap led) (hu : A.units + d + 1 < cLine)
    (ih : ∀ {a b : VV} {r : Bool} {u w : Value}, veq d h a b = some r → VR ρ a u → VR ρ b w → EqAt A.in1 s u w r)
    {n m : Nat} {r : Bool} {a d1 b d2 : Addr} (ha : ρ[n]? = some (a, d1)) (hb : ρ[m]? = some (b, d2)) (hne : n ≠ m) (hv : veq (d + 1) h (.ref n) (.ref m) = some r) :
    a ≠ b ∧ RcAt A s (.ref a) (.ref b) r ∧ RcNeAt A s (.ref a) (.ref b) (!r) := by
  have hab : a ≠ b := (H.inj n m _ _ ha hb hne).1
  refine ⟨hab, ?_⟩
  have hv : veqR (veq d h) h n m = some r := hv
  unfold veqR at hv
  rw [if_neg hne] at hv
  have hu' : A.units < cLine := by omega
  split at hv
  · rename_i xs e1
    unfold veqL at hv
    split at hv <;> try cases hv
    rename_i ys e2
    obtain ⟨a', d', us, k, r1, r2, r3, _⟩ := H.lst n xs e1
    obtain ⟨b', d'', ws, k', r1', r2', r3', _⟩ := H.lst m ys e2
    obtain ⟨rfl, rfl⟩ := Prod.mk.inj (Option.some.inj (r1.symm.trans ha))
    obtain ⟨rfl, rfl⟩ := Prod.mk.inj (Option.some.inj (r1'.symm.trans hb))
    have hl : s.heap.IsList a' us.toArray := ⟨_, hh _ r2, rfl, _, rfl⟩
    have hb : s.heap.IsList b' ws.toArray := ⟨_, hh _ r2', rfl, _, rfl⟩
    split at hv
    · rename_i hlen
      obtain ⟨e, he, ha⟩ := eqs_of ih hv r3 r3'
      have hsz : us.toArray.size = ws.toArray.size := by simp [r3.length, r3'.length, hlen]
      have R := RcAt.lists (e := e) hl hb hsz hu' fun j h1 h2 => he j (by simpa using h1) (by simpa using h2)
      have R' := RcNeAt.lists (e := e) hl hb hsz hu' fun j h1 h2 => he j (by simpa using h1) (by simpa using h2)
      have : (List.range us.toArray.size).all e = r := by simpa using ha
      rw [this] at R R'
      exact ⟨R, R'⟩
    · rename_i hlen
      cases hv
      have hsz : (us.toArray.size != ws.toArray.size) = true := by simp [r3.length, r3'.length, hlen]
      exact ⟨RcAt.lists_lengths hl hb hsz hu', RcNeAt.lists_lengths hl hb hsz hu'⟩
  · split at hv <;> try cases hv
    split at hv <;> try cases hv
    · rename_i xs e1
      unfold veqL at hv
      split at hv <;> try cases hv
      rename_i ys e2
      split at hv
      · rename_i hlen
        obtain ⟨a', d', us, r1, r2, r3, _⟩ := H.tup n xs e1
        obtain ⟨b', d'', ws, r1', r2', r3', _⟩ := H.tup m ys e2
        obtain ⟨rfl, rfl⟩ := Prod.mk.inj (Option.some.inj (r1.symm.trans ha))
        obtain ⟨rfl, rfl⟩ := Prod.mk.inj (Option.some.inj (r1'.symm.trans hb))
        have hl : s.heap.IsTuple a' us.toArray := ⟨_, hh _ r2, rfl, _, rfl⟩
        have hb : s.heap.IsTuple b' ws.toArray := ⟨_, hh _ r2', rfl, _, rfl⟩
        obtain ⟨e, he, ha⟩ := eqs_of ih hv r3 r3'
        have hsz : us.toArray.size = ws.toArray.size := by simp [r3.length, r3'.length, hlen]
        have R := RcAt.tuples (e := e) hl hb hu' fun j h1 h2 => he j (by simpa using h1) (by simpa using h2)
        have R' := RcNeAt.tuples (e := e) hl hb hu' fun j h1 h2 => he j (by simpa using h1) (by simpa using h2)
        have : ((List.range (min us.toArray.size ws.toArray.size)).all e && us.toArray.size == ws.toArray.size) = r := by
          rw [← hsz, Nat.min_self]; simpa using ha
        rw [this] at R R'
        exact ⟨R, R'⟩
      · cases hv

set_option tactic.hygienic false
theorem eqAt_of (H : HR S ρ led h) : ∀ (d : Nat) {A : Around} {s : Shared} {a b : VV} {r : Bool} {u w : Value}, veq d h a b = some r → Has s.heap led → A.units + d < cLine → VR ρ a u → VR ρ b w → EqAt A s u w r
  | 0, _, _, _, _, _, _, _, hv, _, _, _, _ => by cases hv
  | d + 1, A, s, a, b, r, u, w, hv, hh, hu, ha, hb => by
    have ih : ∀ {a b : VV} {r : Bool} {u w : Value}, veq d h a b = some r → VR ρ a u → VR ρ b w → EqAt A.in1 s u w r := fun hv' ha' hb' =>
      eqAt_of H d hv' hh (by show A.units + 1 + d < cLine; omega) ha' hb'
    cases a with
    | none =>
      subst ha
      cases b with
      | none => subst hb; cases hv; exact EqAt.same _
      | int i => obtain ⟨t, rfl⟩ := hb; cases hv; exact EqAt.none_int _ _
      | str i => obtain ⟨_, t, rfl⟩ := hb; cases hv; exact EqAt.none_str _ _
      | _ => cases hv
    | bool x =>
      subst ha
      cases b with
      | bool y => subst hb; cases hv; exact EqAt.bool_bool _ _
      | _ => cases hv
    | int i =>
      obtain ⟨t, rfl⟩ := ha
      cases b with
      | none => subst hb; cases hv; exact EqAt.int_none _ _
      | int j => obtain ⟨t', rfl⟩ := hb; cases hv; exact EqAt.int_int _ _ _ _
      | _ => cases hv
    | str i =>
      obtain ⟨hi, t, rfl⟩ := ha
      cases b with
      | none => subst hb; cases hv; exact EqAt.str_none _ _
      | str j =>
        obtain ⟨hj, t', rfl⟩ := hb
        have hv : (i == j) = r := Option.some.inj hv
        rw [← nm_beq hi hj] at hv
        subst hv; exact EqAt.str_str _ _ _ _
      | _ => cases hv
    | bytes i =>
      obtain ⟨⟨t, rfl⟩, hi⟩ := ha
      cases b with
      | bytes j =>
        obtain ⟨⟨t', rfl⟩, hj⟩ := hb
        cases hv
        exact EqAt.bytes hi hj
      | _ => cases hv
    | ref n =>
      obtain ⟨a', d', rfl, ha⟩ := ha
      cases b with
      | ref m =>
        obtain ⟨b', d'', rfl, hb⟩ := hb
        by_cases hnm : n = m
        · subst hnm
          obtain ⟨rfl, rfl⟩ := Prod.mk.inj (Option.some.inj (ha.symm.trans hb))
          have hv : (if n = n then some true else _) = some r := hv
          rw [if_pos rfl] at hv
          cases hv
          exact EqAt.same _
        · obtain ⟨z1, z2, _⟩ := rc_refs H hh (by omega) ih ha hb hnm hv
          exact EqAt.of_refs z1 z2
      | _ => cases hv

theorem rc_of (H : HR S ρ led h) {A : Around} {s : Shared} {a b : VV} {r : Bool} {u w : Value} (hv : veqT h a b = some r) (hh : Has s.heap led) (hu : A.units + 10 < cLine) (ha : VR ρ a u) (hb : VR ρ b w) : RcAt A s u w r ∧ RcNeAt A s u w (!r) := by
  have ih : ∀ {a b : VV} {r : Bool} {u w : Value}, veq 5 h a b = some r → VR ρ a u → VR ρ b w → EqAt A.in1 s u w r := fun hv' ha' hb' =>
    eqAt_of H 5 hv' hh (by show A.units + 1 + 5 < cLine; omega) ha' hb'
  cases a with
  | none =>
    subst ha
    cases b with
    | none => subst hb; cases hv; exact ⟨RcAt.none_none, RcNeAt.none_none⟩
    | int i => obtain ⟨t, rfl⟩ := hb; cases hv; exact ⟨RcAt.none_int _ _, RcNeAt.none_int _ _⟩
    | str i => obtain ⟨_, t, rfl⟩ := hb; cases hv; exact ⟨RcAt.none_str _ _, RcNeAt.none_str _ _⟩
    | _ => cases hv
  | bool x =>
    subst ha
    cases b with
    | bool y => subst hb; cases hv; exact ⟨RcAt.bool_bool _ _, RcNeAt.bool_bool _ _⟩
    | _ => cases hv
  | int i =>
    obtain ⟨t, rfl⟩ := ha
    cases b with
    | none => subst hb; cases hv; exact ⟨RcAt.int_none _ _, RcNeAt.int_none _ _⟩
    | int j => obtain ⟨t', rfl⟩ := hb; cases hv; exact ⟨RcAt.int_int _ _ _ _, RcNeAt.int_int _ _ _ _⟩
    | _ => cases hv
  | str i =>
    obtain ⟨hi, t, rfl⟩ := ha
    cases b with
    | none => subst hb; cases hv; exact ⟨RcAt.str_none _ _, RcNeAt.str_none _ _⟩
    | str j =>
      obtain ⟨hj, t', rfl⟩ := hb
      have hv : (i == j) = r := Option.some.inj hv
      rw [← nm_beq hi hj] at hv
      subst hv; exact ⟨RcAt.str_str _ _ _ _, RcNeAt.str_str _ _ _ _⟩
    | _ => cases hv
  | bytes i =>
    obtain ⟨⟨t, rfl⟩, hi⟩ := ha
    cases b with
    | bytes j =>
      obtain ⟨⟨t', rfl⟩, hj⟩ := hb
      cases hv
      exact ⟨RcAt.bytes hi hj, RcNeAt.bytes hi hj⟩
    | _ => cases hv
  | ref n =>
    obtain ⟨a', d', rfl, ha⟩ := ha
    cases b with
    | ref m =>
      obtain ⟨b', d'', rfl, hb⟩ := hb
      by_cases hnm : n = m
      · subst hnm; have hv : (if n = n then none else veq 6 h (.ref n) (.ref n)) = some r := hv; rw [if_pos rfl] at hv; cases hv
      · have hv : (if n = m then none else veq 6 h (.ref n) (.ref m)) = some r := hv
        rw [if_neg hnm] at hv
        exact (rc_refs H hh (by omega) ih ha hb hnm hv).2
    | _ => cases hv
end
end Mine
end
section
namespace Mine
open PySem PySem.W PyProof.Rows PySem.Calls PySem.SeqAt

structure SE.Good (S : SE) : Prop where
  glb : ∀ i v, gval i = some v → i < 176 ∧ ∃ u, nsIn S.K mainGlobals (nm i) = some (some u) ∧ VR [] v u
  fn : ∀ g f, gfn g = some f → g < 176 ∧ nsIn S.K mainGlobals (nm g) = some (some (.ref (S.fa f))) ∧ keepIn S.K (.ref (S.fa f)) = true
  cls : ∀ c f, ini c = some f → c < 176 ∧ nsIn S.K mainGlobals (nm c) = some (some (.ref (S.ca c))) ∧ keepIn S.K (.ref (S.ca c)) = true ∧ makesIn S.K (S.ca c) = true ∧
    findIn S.K (.ref (S.ca c)) "__init__" = some (some (.ref (S.fa f))) ∧ typeIn S.K (.ref (S.fa f)) = some (.type "function") ∧ hasDictIn S.K (S.ca c) = true ∧
    findIn S.K (.ref (S.ca c)) "__setattr__" = some (some (.builtin "object.__setattr__")) ∧ plainOver S.K (S.ca c) = true ∧ (∀ name, plainGet S.K (S.ca c) name = true)
  fld : ∀ c, (ini c).isSome = true → ∀ i, i < 64 → findIn S.K (.ref (S.ca c)) (nm i) = some none
  mth : ∀ c m f, mtb c m = some f → 64 ≤ m ∧ m < 176 ∧ findIn S.K (.ref (S.ca c)) (nm m) = some (some (.ref (S.fa f))) ∧ isFn S.K (.ref (S.fa f)) = true ∧ keepIn S.K (.ref (S.fa f)) = true
  bi : ∀ b, b ∈ [n_len, n_abs, n_min, n_max, n_sorted, n_bytes, n_list] → nsIn S.K mainGlobals (nm b) = some none
  rng : nsIn S.K mainGlobals "range" = some none

set_option tactic.hygienic false
theorem FX.Ok.TR {S : SE} {x : FX} {d : Nat} (ok : x.Ok S d) : TopRead S.p S.loose S.mg S.mb x.h₀ := topRead_of ok.T

noncomputable def fnObj (oc : Value) (od : Option Addr) (osl : Array (Option Value)) (name qual : Str) (params : Arguments) (body : List Stmt) (scope : Scope) (dV kV doc pm : Value) (an : Option Addr) (cdv ct : Value) : Obj :=
  ⟨oc, od, .func (fnOf name qual params body scope dV kV doc pm an cdv ct), osl⟩

theorem VR.handed {ρ : Rho} {v : VV} {u : Value} (q : VR ρ v u) : handedIn u = true := by
  cases v with
  | none => rw [show u = .none from q]; rfl
  | bool b => rw [show u = .bool b from q]; rfl
  | int i => obtain ⟨t, rfl⟩ := q; rfl
  | str i => obtain ⟨_, t, rfl⟩ := q; rfl
  | bytes i => obtain ⟨⟨t, rfl⟩, _⟩ := q; rfl
  | ref n => obtain ⟨a, d, rfl, _⟩ := q; rfl

section
variable {S : SE} {x : FX} {d : Nat} {l : Loc} {h h1 h2 h3 : VH}

set_option tactic.hygienic false
theorem HR.inst {ρ : Rho} {led ex : Led} {hp h₀ : Heap} {L : Addr} (H : HR S ρ led h) (N : News h₀ L hp (led ++ ex)) {n c : Nat} (hc : h.cls n = some c) :
    ∃ a dd ks es k, ρ[n]? = some (a, dd) ∧ W.InstAt hp a (instObj (S.ca c) dd) (S.ca c) (some (dictOf es k)) ∧ (a, instObj (S.ca c) dd) ∈ led ∧ (dd, dictOf es k) ∈ led ∧ ks.Nodup ∧ (∀ i ∈ ks, i < 64) ∧
      DEnt S.w.params ρ (h.fld n) ks es ∧ ∀ i, (h.fld n i).isSome = true → i ∈ ks := by
  obtain ⟨a, dd, ks, es, k, e1, e2, e3, e4, e5, e6, e7⟩ := H.ins n c hc
  exact ⟨a, dd, ks, es, k, e1, InstAt.of_news N (List.mem_append_left _ e2) (List.mem_append_left _ e3), e2, e3, e4, e5, e6, e7⟩

theorem den_glb (G : S.Good) (ok : x.Ok S d) {i : Nat} {v : VV} {pos} (hv : gval i = some v) (hk : x.sc.names.lookup (nm i) = some .globalImplicit) (hd : (nm i == ("__debug__" : Str)) = false) :
    Den S x l (eval (.Name (nm i) pos) x.env) h v h := fun s ρ led ex Q st c => by
  obtain ⟨m, F, L⟩ := st.fr
  obtain ⟨_, u, hu, r⟩ := G.glb i v hv
  exact nameX_K F ok.X ok.TR hu (c u ρ led s.heap s.toks st .refl (r.app ρ)) ok.kind hk hd

theorem nm_global (ok : x.Ok S d) {s : Shared} {ρ : Rho} {led ex : Led} (st : St S x s.heap ρ led ex l h) {i : Nat} {u : Value} {pos} {Q : Value → Shared → Prop} (e : nsIn S.K mainGlobals (nm i) = some (some u))
    (hk : x.sc.names.lookup (nm i) = some .globalImplicit) (hd : (nm i == ("__debug__" : Str)) = false) (q : Q u s) : wpAny S.M x.A (eval (.Name (nm i) pos) x.env) Q FF s := by
  obtain ⟨m, F, L⟩ := st.fr
  exact nameX_K F ok.X ok.TR e q ok.kind hk hd
theorem nm_builtin (ok : x.Ok S d) {s : Shared} {ρ : Rho} {led ex : Led} (st : St S x s.heap ρ led ex l h) {y : Str} {u : Value} {pos} {Q : Value → Shared → Prop} (e : nsIn S.K mainGlobals y = some none)
    (hu : bootBuiltins y = some u) (hn : y ≠ ("__name__" : Str))
    (hk : x.sc.names.lookup y = some .globalImplicit) (hd : (y == ("__debug__" : Str)) = false) (q : Q u s) : wpAny S.M x.A (eval (.Name y pos) x.env) Q FF s := by
  obtain ⟨m, F, L⟩ := st.fr
  exact nameX_B F ok.X ok.TR e hu hn q ok.kind hk hd

noncomputable def plainX : Expr → Bool
  | .Constant .. | .Name .. | .Attribute .. | .Subscript .. | .BinOp .. | .Compare .. | .BoolOp .. | .UnaryOp .. | .IfExp .. | .Tuple .. | .List .. | .Dict .. | .Slice .. => true
  | .Call (.Name id _) _ _ _ => id != "super"
  | .Call _ _ _ _ => true
  | _ => false

set_option tactic.hygienic true
theorem base_plain {X : Expr} {attr : Str} {env : Env} {t : Sem Value} (p : plainX X = true) : attributeBase X attr env t = t := by
  cases X <;> first | rfl | skip
  rename_i f as ks pos
  cases f <;> first | rfl | skip
  rename_i id np
  cases as <;> first | rfl | skip
  cases ks <;> first | rfl | skip
  have : (id != "super") = true := p
  unfold attributeBase
  simp only [this, Bool.true_or, if_true]

set_option tactic.hygienic false
theorem den_attr (G : S.Good) (ok : x.Ok S d) {X : Expr} {n c f : Nat} {v : VV} {pos} (px : plainX X = true) (De : Den S x l (eval X x.env) h (.ref n) h1) (hc : h1.cls n = some c) (hf : h1.fld n f = some v) :
    Den S x l (eval (.Attribute X (nm f) pos) x.env) h v h1 := fun s ρ led ex Q st k => by
  refine Attribute_any_ (De s ρ led ex _ st fun u ρ' led' hp tk st' ext vr => ?_) ?_
  · obtain ⟨m, F, L⟩ := st'.fr
    obtain ⟨a, dd, ks, es, kk, e1, I, _, _, e4, e5, e6, e7⟩ := st'.hr.inst st'.news hc
    obtain ⟨a', d', rfl, e1'⟩ := vr
    obtain ⟨rfl, rfl⟩ := Prod.mk.inj (Option.some.inj (e1.symm.trans e1'))
    obtain ⟨fi, hi⟩ := Option.isSome_iff_exists.mp (st'.hr.co _ _ hc)
    have g := G.cls c fi hi
    obtain ⟨y, hy, vr⟩ := e6.getHit e5 e7 hf
    exact get_own F ok.X I (g.2.2.2.2.2.2.2.2.2 _) g.2.2.2.2.2.2.1 (G.fld c (st'.hr.co _ _ hc) f (e5 f (e7 f (by rw [hf]; rfl)))) rfl hy vr.handed (k y ρ' led' hp (tk + 1) st' ext vr)
  · show (attributeBase X (nm f) x.env (eval X x.env) >>= _) = _
    rw [base_plain px]
end
end Mine
end
section
namespace Mine
open PySem PySem.W PyProof.Rows PySem.Calls PySem.SeqAt

noncomputable def CallS (S : SE) (d f : Nat) (vs : List VV) (h : VH) (v : VV) (h' : VH) : Prop :=
  ∀ (x : FX) (l : Loc), x.Ok S d → ∀ (s : Shared) (ρ : Rho) (led ex : Led) (us : List Value) (R : Result → Shared → Prop), St S x s.heap ρ led ex l h → VRs ρ vs us →
    (∀ u ρ' led' hp tk, St S x hp ρ' led' ex l h' → Ext ρ ρ' led led' h h' → VR ρ' v u → R (.ok (.ret u)) { s with heap := hp, toks := tk }) →
    codeAny S.M x.A (.call (.ref (S.fa f)) ⟨us, []⟩) R s
noncomputable def DensX (S : SE) (x : FX) (l : Loc) (Xs : List Expr) (h : VH) (vs : List VV) (h' : VH) : Prop :=
  ∀ (pos : Pos) (s : Shared) (ρ : Rho) (led ex : Led) (Q : List Value → Shared → Prop), St S x s.heap ρ led ex l h →
    (∀ us ρ' led' hp tk, St S x hp ρ' led' ex l h' → Ext ρ ρ' led led' h h' → VRs ρ' vs us → Q us { s with heap := hp, toks := tk }) → wpAny S.M x.A (spliced (backTo pos (starEach Xs x.env))) Q FF s

set_option tactic.hygienic false
theorem star_plain {X : Expr} {rest : List Expr} {env : Env} (p : plainX X = true) : starEach (X :: rest) env = (false, eval X env) :: starEach rest env := by
  cases X <;> first | rfl | cases p
theorem star_any {env : Env} {pos : Pos} : ∀ {Xs : List Expr}, Xs.all plainX = true → (backTo pos (starEach Xs env)).any (·.1) = false
  | [], _ => rfl
  | X :: r, p => by
    obtain ⟨p1, p2⟩ := Bool.and_eq_true_iff.mp (List.all_cons ▸ p)
    rw [star_plain p1]
    show (false || (backTo pos (starEach r env)).any (·.1)) = false
    rw [star_any p2]; rfl
theorem star_len {env : Env} {pos : Pos} : ∀ {Xs : List Expr}, Xs.all plainX = true → (backTo pos (starEach Xs env)).all (!·.1) = true
  | [], _ => rfl
  | X :: r, p => by
    obtain ⟨p1, p2⟩ := Bool.and_eq_true_iff.mp (List.all_cons ▸ p)
    rw [star_plain p1]
    show (true && (backTo pos (starEach r env)).all (!·.1)) = true
    rw [star_len p2]; rfl

section
variable {S : SE} {x : FX} {d : Nat} {l : Loc} {h h1 h2 h3 : VH}

set_option tactic.hygienic false
theorem dens_nil : DensX S x l [] h [] h := fun pos s ρ led ex Q st k => spliced_none (k [] ρ led s.heap s.toks st .refl rfl)
theorem dens_cons {X : Expr} {Xs : List Expr} {v : VV} {vs : List VV} (px : plainX X = true) (D : Den S x l (eval X x.env) h v h1) (Ds : DensX S x l Xs h1 vs h2) : DensX S x l (X :: Xs) h (v :: vs) h2 := fun pos s ρ led ex Q st k => by
  refine spliced_more (D s ρ led ex _ st fun u ρ' led' hp tk st' ext vr => ?_) (star_plain px)
  refine Ds pos _ ρ' led' ex _ st' fun us ρ'' led'' hp' tk' st'' ext' vrs => ?_
  exact k (u :: us) ρ'' led'' hp' tk' st'' (ext.trans ext') ⟨u, us, rfl, vr.ext ext', vrs⟩

theorem St.KIn (ok : x.Ok S d) {s : Shared} {ρ : Rho} {led ex : Led} (st : St S x s.heap ρ led ex l h) : S.K.In s.heap := by
  obtain ⟨m, F, _⟩ := st.fr
  exact ok.X.keeps F.keep

theorem args_call (ok : x.Ok S d) {f : Value} {first : List Value} {Xs : List Expr} {pos : Pos} {vs : List VV} {s : Shared} {ρ : Rho} {led ex : Led} {Q : Value → Shared → Prop}
    (hk : keepIn S.K f = true) (pl : Xs.all plainX = true) (Ds : DensX S x l Xs h vs h1) (st : St S x s.heap ρ led ex l h)
    (k : ∀ us ρ' led' hp tk, St S x hp ρ' led' ex l h1 → Ext ρ ρ' led led' h h1 → VRs ρ' vs us → wpAny S.M x.A (call f (first ++ us)) Q FF { s with heap := hp, toks := tk }) :
    wpAny S.M x.A (callWith pos f first (backTo pos (starEach Xs x.env)) []) Q FF s := by
  cases Xs with
  | nil =>
    refine callWith_K0 (st.KIn ok) hk ?_
    have z := Ds pos s ρ led ex (fun us s' => wpAny S.M x.A (call f (first ++ us)) Q FF s') st fun us ρ' led' hp tk st' ext vr => k us ρ' led' hp tk st' ext vr
    have : spliced (backTo pos (starEach [] x.env)) = pure [] := rfl
    rw [this] at z
    exact fun Γ p hΓ => (show wpAny S.M x.A (call f (first ++ [])) Q FF s from z Γ p hΓ) Γ p hΓ
  | cons X r =>
    obtain ⟨p1, p2⟩ := Bool.and_eq_true_iff.mp (List.all_cons ▸ pl)
    refine callWith_K ok.X hk (Ds pos s ρ led ex _ st fun us ρ' led' hp tk st' ext vr => ⟨St.KIn (s := { s with heap := hp, toks := tk }) ok st', k us ρ' led' hp tk st' ext vr⟩) (star_plain p1) (star_any p2)
theorem den_fn (G : S.Good) (ok : x.Ok S d) {g f : Nat} {Xs : List Expr} {vs : List VV} {v : VV} {np pos : Pos} (hg : gfn g = some f) (hk : x.sc.names.lookup (nm g) = some .globalImplicit) (hd : (nm g == ("__debug__" : Str)) = false)
    (pl : Xs.all plainX = true) (Ds : DensX S x l Xs h vs h1) (C : CallS S d f vs h1 v h2) : Den S x l (eval (.Call (.Name (nm g) np) Xs [] pos) x.env) h v h2 := fun s ρ led ex Q st k => by
  obtain ⟨_, g1, g2⟩ := G.fn g f hg
  refine Call_ (nm_global ok st g1 hk hd ?_)
  refine args_call ok g2 pl Ds st fun us ρ' led' hp tk st' ext vrs => wpAny_call ?_
  refine C x l ok _ ρ' led' ex us _ st' vrs fun u ρ'' led'' hp' tk' st'' ext' vr => ?_
  exact k u ρ'' led'' hp' tk' st'' (ext.trans ext') vr

theorem method_eq {o : Expr} {name : Str} {apos pos : Pos} {Xs : List Expr} {env : Env} (p : plainX o = true) (pl : Xs.all plainX = true) (hl : Xs.length < 30) (hp : (apos.endLine == pos.line) = true) :
    eval (.Call (.Attribute o name apos) Xs [] pos) env = (do
      let ov ← eval o env
      standAt apos.atName
      let (f, first) ← holding [ov] (getMethod ov name (do return (← importBound o env).getD true))
      callWith pos f first (backTo pos (starEach Xs env)) []) := by
  show (attributeBase o name env (eval o env) >>= _) = _
  rw [base_plain p]
  have e : methodCallForm (Xs.length + 0) (backTo pos (starEach Xs env)) [] = true := by
    unfold methodCallForm
    rw [star_len pl]
    simp [hl]
  congr 1
  funext ov
  congr 1
  funext _
  show methodCall o name apos pos env ov (Xs.length + 0) (backTo pos (starEach Xs env)) [] = _
  unfold methodCall
  rw [e]
  congr 1
  funext fx
  obtain ⟨f, first⟩ := fx
  show (methodCallPos true o env apos pos >>= _) = _
  unfold methodCallPos
  rw [hp]
  rfl

theorem den_meth (G : S.Good) (ok : x.Ok S d) {o : Expr} {n c m f : Nat} {Xs : List Expr} {vs : List VV} {v : VV} {apos pos : Pos} (po : plainX o = true) (pl : Xs.all plainX = true) (hl : Xs.length < 30) (hp : (apos.endLine == pos.line) = true)
    (De : Den S x l (eval o x.env) h (.ref n) h1) (hc : h1.cls n = some c) (hm : mtb c m = some f) (Ds : DensX S x l Xs h1 vs h2) (C : CallS S d f (.ref n :: vs) h2 v h3) :
    Den S x l (eval (.Call (.Attribute o (nm m) apos) Xs [] pos) x.env) h v h3 := fun s ρ led ex Q st k => by
  refine MethodCall_ (pl := do return (← importBound o x.env).getD true) (De s ρ led ex _ st fun u ρ' led' hp tk st' ext vr => ?_) (method_eq po pl hl hp)
  obtain ⟨mm, F, L⟩ := st'.fr
  obtain ⟨a, dd, ks, es, kk, e1, I, _, _, e4, e5, e6, e7⟩ := st'.hr.inst st'.news hc
  obtain ⟨a', d', rfl, e1'⟩ := vr
  obtain ⟨rfl, rfl⟩ := Prod.mk.inj (Option.some.inj (e1.symm.trans e1'))
  obtain ⟨fi, hi⟩ := Option.isSome_iff_exists.mp (st'.hr.co _ _ hc)
  have g := G.cls c fi hi
  obtain ⟨m1, m2, m3, m4, m5⟩ := G.mth c m f hm
  have miss := e6.getMiss e5 m2 (fun q => absurd (e5 m q) (by omega))
  refine method_inst F ok.X I (g.2.2.2.2.2.2.2.2.2 _) m3 m4 miss ?_
  refine args_call ok m5 pl Ds st' fun us ρ'' led'' hp' tk' st'' ext' vrs => wpAny_call ?_
  refine C x l ok _ ρ'' led'' ex (.ref a :: us) _ st'' ⟨_, _, rfl, ⟨a, dd, rfl, ext'.get e1⟩, vrs⟩ fun u ρ₃ led₃ hp₃ tk₃ st₃ ext₃ vr₃ => ?_
  exact k u ρ₃ led₃ hp₃ tk₃ st₃ ((ext.trans ext').trans ext₃) vr₃

theorem FX.Ok.made (ok : x.Ok S d) (C : Addr) (us : List Value) (hd : 0 < d) : ({ x with A := x.A.under (.builtin "type.__call__" ⟨.ref C :: us, []⟩) } : FX).Ok S (d - 1) where
  below := by
    obtain ⟨A₀, base, outer, b, e⟩ := ok.below
    exact ⟨A₀, base, outer, b, by show pushEnvs [] x.A.frames = _; exact e⟩
  X := ok.X
  T := ok.T
  kind := ok.kind
  hd := ok.hd
  dep := by
    have := ok.dep
    show x.A.depth + 1 + 2 * (d - 1) < recursionLimit
    omega
  un := by
    have := ok.un
    show x.A.units + 1 + 8 * (d - 1) + 100 < cLine
    omega
theorem Ext.newC {S : SE} {ρ : Rho} {led : Led} {a dd : Addr} {c : Nat} {o o' : Obj} : Ext ρ (ρ ++ [(a, dd)]) led ((a, o) :: (dd, o') :: led) h (h.newC c) :=
  ⟨⟨_, rfl⟩, fun _ => Nat.le_refl _, fun _ _ _ _ _ _ m => .tail _ (.tail _ m)⟩

theorem den_new (G : S.Good) (ok : x.Ok S d) (hd0 : 0 < d) {c f : Nat} {Xs : List Expr} {vs : List VV} {np pos : Pos} (hi : ini c = some f) (hk : x.sc.names.lookup (nm c) = some .globalImplicit) (hd : (nm c == ("__debug__" : Str)) = false)
    (pl : Xs.all plainX = true) (Ds : DensX S x l Xs h vs h1) (C : CallS S (d - 1) f (.ref h1.nxt :: vs) (h1.newC c) .none h2) : Den S x l (eval (.Call (.Name (nm c) np) Xs [] pos) x.env) h (.ref h1.nxt) h2 := fun s ρ led ex Q st k => by
  have g := G.cls c f hi
  refine Call_ (nm_global ok st g.2.1 hk hd ?_)
  refine args_call ok g.2.2.1 pl Ds st fun us ρ' led' hp tk st' ext vrs => wpAny_call ?_
  obtain ⟨m, F, L⟩ := st'.fr
  refine make_K F st'.news (St.KIn (s := { s with heap := hp, toks := tk }) ok st') g.2.2.2.1 g.2.2.2.2.1 g.2.2.2.2.2.1 fun xa dx h' F' N' lt1 lt2 => ?_
  have ne : dx ≠ xa := Nat.ne_of_lt lt2
  have lt : ∀ p ∈ led' ++ ex, p.1 ≠ xa ∧ p.1 ≠ dx := fun p hp => by exact ⟨Nat.ne_of_lt (Nat.lt_trans (lt1 p hp) lt2), Nat.ne_of_lt (lt1 p hp)⟩
  have H' := st'.hr.newC (a := xa) (d := dx) (c := c) (fun q hq => lt q (List.mem_append_left _ hq)) (by rw [hi]; rfl)
  have hlen : ρ'.length = h1.nxt := st'.hr.len
  have x1 : Ext ρ' (ρ' ++ [(xa, dx)]) led' ((xa, instObj (S.ca c) dx) :: (dx, dictOf [] 0) :: led') h1 (h1.newC c) := Ext.newC (S := S)
  have st2 : St S { x with A := x.A.under (.builtin "type.__call__" ⟨.ref (S.ca c) :: us, []⟩) } h' (ρ' ++ [(xa, dx)]) ((xa, instObj (S.ca c) dx) :: (dx, dictOf [] 0) :: led') ex l (h1.newC c) :=
    ⟨⟨m, F', L.app _⟩, N', by
      show ((xa :: dx :: (led' ++ ex).map (·.1)) : List Addr).Nodup
      refine List.nodup_cons.mpr ⟨?_, List.nodup_cons.mpr ⟨?_, st'.nod⟩⟩
      · intro q
        rcases List.mem_cons.mp q with q | q
        · exact ne q.symm
        · obtain ⟨p, hp, e⟩ := List.mem_map.mp q
          exact (lt p hp).1 e
      · intro q
        obtain ⟨p, hp, e⟩ := List.mem_map.mp q
        exact (lt p hp).2 e, H'⟩
  refine C { x with A := x.A.under (.builtin "type.__call__" ⟨.ref (S.ca c) :: us, []⟩) } l (ok.made _ _ hd0) { s with heap := h', toks := tk } _ _ ex (.ref xa :: us) _ st2 ⟨_, _, rfl, ⟨xa, dx, rfl, by rw [← hlen]; simp⟩, vrs.app _⟩ fun u ρ₃ led₃ hp₃ tk₃ st₃ ext₃ vr₃ => ?_
  refine ⟨vr₃, ?_⟩
  exact k (.ref xa) ρ₃ led₃ hp₃ tk₃ ⟨st₃.fr, st₃.news, st₃.nod, st₃.hr⟩ ((ext.trans x1).trans ext₃) ⟨xa, dx, rfl, ext₃.get (by rw [← hlen]; simp)⟩
end
end Mine
end
section
namespace Mine
open PySem PySem.W PyProof.Rows PySem.Calls PySem.SeqAt

noncomputable def opNo : Operator → Nat
  | .Add => 0
  | .Sub => 1
  | .Mult => 2
  | .FloorDiv => 3
  | .Mod => 4
  | _ => 9
noncomputable def mOp (op : Nat) (o : Operator) : Bool := op == opNo o
noncomputable def cmpNo : CmpOp → Nat
  | .Eq => 0
  | .NotEq => 1
  | .Lt => 2
  | .LtE => 3
  | .Gt => 4
  | .GtE => 5
  | .Is => 6
  | .IsNot => 7
  | .In => 8
  | .NotIn => 9
noncomputable def mCmp (op : Nat) (o : CmpOp) : Bool := op == cmpNo o

set_option tactic.hygienic true
theorem intBits_small {x : Int} (h0 : 0 ≤ x) (h1 : x ≤ 1000) : Builtin.Int.intBits x ≤ 64 := by
  unfold Builtin.Int.intBits
  split
  · omega
  · rename_i hz
    have hz : x ≠ 0 := fun e => hz (by rw [e]; rfl)
    have : x.natAbs < 2 ^ 10 := by omega
    have := Nat.log2_lt (n := x.natAbs) (k := 10) (by omega) |>.mpr this
    omega

section
variable {S : SE} {x : FX} {d : Nat} {l : Loc} {h h1 h2 h3 : VH}

set_option tactic.hygienic false
theorem VRs.rep {ρ : Rho} {v : VV} {u : Value} (q : VR ρ v u) : ∀ k : Nat, VRs ρ (List.replicate k v) (List.replicate k u)
  | 0 => rfl
  | k + 1 => ⟨u, _, rfl, q, VRs.rep q k⟩
theorem flat_rep {α : Type} (u : α) : ∀ k : Nat, (List.replicate k [u]).flatten = List.replicate k u
  | 0 => rfl
  | k + 1 => by rw [List.replicate_succ, List.flatten_cons, flat_rep u k]; rfl

theorem Ext.newL {ρ : Rho} {led : Led} {a : Addr} {o : Obj} {vs : List VV} : Ext ρ (ρ ++ [(a, a)]) led ((a, o) :: led) h (h.newL vs) :=
  ⟨⟨_, rfl⟩, fun _ => Nat.le_refl _, fun _ _ _ _ _ _ m => .tail _ m⟩
theorem Ext.newT {ρ : Rho} {led : Led} {a : Addr} {o : Obj} {vs : List VV} : Ext ρ (ρ ++ [(a, a)]) led ((a, o) :: led) h (h.newT vs) :=
  ⟨⟨_, rfl⟩, fun _ => Nat.le_refl _, fun _ _ _ _ _ _ m => .tail _ m⟩
theorem Ext.newS {ρ : Rho} {led : Led} {a : Addr} {o : Obj} {vs : List (Nat × VV)} : Ext ρ (ρ ++ [(a, a)]) led ((a, o) :: led) h (h.newS vs) :=
  ⟨⟨_, rfl⟩, fun _ => Nat.le_refl _, fun _ _ _ _ _ _ m => .tail _ m⟩
theorem Ext.newI {ρ : Rho} {led : Led} {a : Addr} {o : Obj} {vs : List (Int × VV)} : Ext ρ (ρ ++ [(a, a)]) led ((a, o) :: led) h (h.newI vs) :=
  ⟨⟨_, rfl⟩, fun _ => Nat.le_refl _, fun _ _ _ _ _ _ m => .tail _ m⟩
theorem nod_cons {led ex : Led} {a : Addr} {o : Obj} (nod : ((led ++ ex).map (·.1)).Nodup) (lt : ∀ p ∈ led ++ ex, p.1 < a) : ((((a, o) :: led) ++ ex).map (·.1)).Nodup := by
  refine List.nodup_cons.mpr ⟨fun q => ?_, nod⟩
  obtain ⟨p, hp, e⟩ := List.mem_map.mp q
  exact absurd e (Nat.ne_of_lt (lt p hp))
theorem St.newL {hp h' : Heap} {ρ : Rho} {led ex : Led} {m : Str → Option Value} {a : Addr} {k : Nat} {vs : List VV} {xs : List Value} (st : St S x hp ρ led ex l h) (LL : LR ρ l m) (F' : Fr x.h₀ x.L h' m)
    (N' : News x.h₀ x.L h' ((a, W.listOf xs.toArray k) :: (led ++ ex))) (lt : ∀ p ∈ led ++ ex, p.1 < a) (r : VRs ρ vs xs) (hl : vs.length ≤ 1000) :
    St S x h' (ρ ++ [(a, a)]) ((a, W.listOf xs.toArray k) :: led) ex l (h.newL vs) :=
  ⟨⟨m, F', LL.app _⟩, N', nod_cons st.nod lt, st.hr.newL (fun q hq => Nat.ne_of_lt (lt q (List.mem_append_left _ hq))) r hl⟩
theorem St.newT {hp h' : Heap} {ρ : Rho} {led ex : Led} {m : Str → Option Value} {a : Addr} {vs : List VV} {xs : List Value} (st : St S x hp ρ led ex l h) (LL : LR ρ l m) (F' : Fr x.h₀ x.L h' m)
    (N' : News x.h₀ x.L h' ((a, tupOf xs) :: (led ++ ex))) (lt : ∀ p ∈ led ++ ex, p.1 < a) (r : VRs ρ vs xs) (hl : vs.length ≤ 1000) :
    St S x h' (ρ ++ [(a, a)]) ((a, tupOf xs) :: led) ex l (h.newT vs) :=
  ⟨⟨m, F', LL.app _⟩, N', nod_cons st.nod lt, st.hr.newT (fun q hq => Nat.ne_of_lt (lt q (List.mem_append_left _ hq))) r hl⟩
theorem vr_new {ρ : Rho} {a : Addr} (hlen : ρ.length = h.nxt) : VR (ρ ++ [(a, a)]) (.ref h.nxt) (.ref a) := ⟨a, a, rfl, by rw [← hlen]; simp⟩

theorem intOp_ok {f : Int → Int → Option Int} {a b : VV} {h h1 : VH} {v : VV} (e : intOp f a b h = some (v, h1)) : ∃ i j z, a = .int i ∧ b = .int j ∧ f i j = some z ∧ some (VV.int z, h) = some (v, h1) := by
  cases a with
  | int i => cases b with
    | int j =>
      obtain ⟨z, e1, e2⟩ := Option.map_eq_some_iff.mp (show (f i j).map _ = _ from e)
      exact ⟨i, j, z, rfl, rfl, e1, congrArg some e2⟩
    | _ => cases e
  | _ => cases e
theorem repV_ok {a b : VV} {h h1 : VH} {v : VV} (e : repV a b h = some (v, h1)) : ∃ n k y, a = .ref n ∧ b = .int k ∧ h.lst n = some [y] ∧ (0 ≤ k ∧ k ≤ 64) ∧ some (VV.ref h.nxt, h.newL (List.replicate k.toNat y)) = some (v, h1) := by
  cases b with
  | int k => cases a with
    | ref n =>
      have e : (match h.lst n with
        | some [y] => if 0 ≤ k ∧ k ≤ 64 then some (VV.ref h.nxt, h.newL (List.replicate k.toNat y)) else none
        | _ => none) = some (v, h1) := e
      cases q : h.lst n with
      | none => rw [q] at e; cases e
      | some ys => cases ys with
        | nil => rw [q] at e; cases e
        | cons y r => cases r with
          | cons z r => rw [q] at e; cases e
          | nil =>
            rw [q] at e
            have e : (if 0 ≤ k ∧ k ≤ 64 then some (VV.ref h.nxt, h.newL (List.replicate k.toNat y)) else none) = some (v, h1) := e
            by_cases c : 0 ≤ k ∧ k ≤ 64
            · rw [if_pos c] at e
              exact ⟨n, k, y, rfl, rfl, q, c, e⟩
            · rw [if_neg c] at e
              cases e
    | _ => cases e
  | _ => cases e
noncomputable def KK (S : SE) (x : FX) (l : Loc) (h h1 : VH) (ρ : Rho) (led ex : Led) (v : VV) (Q : Value → Shared → Prop) (s : Shared) : Prop :=
  ∀ u ρ' led' hp tk, St S x hp ρ' led' ex l h1 → Ext ρ ρ' led led' h h1 → VR ρ' v u → Q u { s with heap := hp, toks := tk }
theorem itS {c : Prop} [Decidable c] {α : Type} {a b : α} (h : (if c then some a else none) = some b) : c ∧ a = b := by
  by_cases q : c
  · rw [if_pos q] at h; exact ⟨q, Option.some.inj h⟩
  · rw [if_neg q] at h; cases h

theorem intOp_e {f : Int → Int → Option Int} {a b : VV} {h h1 : VH} {v : VV} {ρ : Rho} {u w : Value} {G : Value → Value → Prop} (e : intOp f a b h = some (v, h1)) (va : VR ρ a u) (vb : VR ρ b w)
    (k : ∀ i j z t t', f i j = some z → some (VV.int z, h) = some (v, h1) → G (.int i t) (.int j t')) : G u w := by
  obtain ⟨i, j, z, rfl, rfl, e1, e2⟩ := intOp_ok e
  obtain ⟨t, rfl⟩ := va
  obtain ⟨t', rfl⟩ := vb
  exact k i j z t t' e1 e2
theorem bin_rule (ok : x.Ok S d) {op : Nat} {o : Operator} (ho : mOp op o = true) {a b v : VV} {u w : Value} {s : Shared} {ρ : Rho} {led ex : Led} {Q : Value → Shared → Prop} (st : St S x s.heap ρ led ex l h)
    (hv : vBin op a b h = some (v, h1)) (va : VR ρ a u) (vb : VR ρ b w)
    (k : KK S x l h h1 ρ led ex v Q s) : wpAny S.M x.A (binaryOp o u w) Q FF s := by
  have fin : ∀ i : Int, some (VV.int i, h) = some (v, h1) → Q (.int i s.toks) { s with toks := s.toks + 1 } := fun i e => by
    cases e
    exact k _ ρ led s.heap (s.toks + 1) st .refl ⟨_, rfl⟩
  obtain rfl := eq_of_beq ho
  cases o with
  | Add =>
    exact intOp_e (G := fun u w => wpAny S.M x.A (binaryOp .Add u w) Q FF s) hv va vb fun i j z t t' e1 e2 => by
      cases e1
      exact add_int (fin _ e2)
  | Sub =>
    exact intOp_e (G := fun u w => wpAny S.M x.A (binaryOp .Sub u w) Q FF s) hv va vb fun i j z t t' e1 e2 => by
      cases e1
      exact sub_int (fin _ e2)
  | Mult =>
    cases hi : isInt a with
    | true =>
      have hv : cond (isInt a) (intOp _ a b h) (repV a b h) = some (v, h1) := hv
      rw [hi] at hv
      exact intOp_e (G := fun u w => wpAny S.M x.A (binaryOp .Mult u w) Q FF s) hv va vb fun i j z t t' e1 e2 => by
        obtain ⟨hb, rfl⟩ := itS e1
        exact mul_int (fin _ e2) (IntMulOk.of_left (intBits_small hb.1 hb.2))
    | false =>
      have hv : cond (isInt a) (intOp _ a b h) (repV a b h) = some (v, h1) := hv
      rw [hi] at hv
      obtain ⟨n, kk, y, rfl, rfl, hn, hb, hv⟩ := repV_ok hv
      cases hv
      obtain ⟨a', d', rfl, ha⟩ := va
      obtain ⟨t', rfl⟩ := vb
      obtain ⟨a2, d2, xs, c, e1, e2, e3, e4⟩ := st.hr.lst n _ hn
      obtain ⟨rfl, rfl⟩ := Prod.mk.inj (Option.some.inj (e1.symm.trans ha))
      obtain ⟨z, xs', rfl, r1, r2⟩ := e3
      have : xs' = [] := r2
      subst this
      obtain ⟨m, F, LL⟩ := st.fr
      refine KMa.mul F st.news ((st.news _ (List.mem_append_left _ e2)).1 |> fun g => ⟨_, g, rfl, _, rfl⟩) (by omega) (by omega) (by simp; omega) rfl fun D h' F' N' lt => ?_
      rw [flat_rep] at N'
      have hl : (List.replicate kk.toNat y).length ≤ 1000 := by simp; omega
      exact k _ _ _ h' s.toks (st.newL LL F' N' lt (VRs.rep r1 _) hl) Ext.newL (vr_new st.hr.len)
  | FloorDiv =>
    exact intOp_e (G := fun u w => wpAny S.M x.A (binaryOp .FloorDiv u w) Q FF s) hv va vb fun i j z t t' e1 e2 => by
      obtain ⟨hb, rfl⟩ := itS e1
      refine floordiv_int_or ok.hd (fun e => ?_) (fun _ => ?_) (fun _ => .inl (PyProof.noPylong_small (by omega)))
      · rw [e] at hb; exact absurd hb.1 (by decide)
      · rw [Int.fdiv_eq_ediv_of_nonneg _ (by omega)]
        exact fin _ e2
  | Mod =>
    exact intOp_e (G := fun u w => wpAny S.M x.A (binaryOp .Mod u w) Q FF s) hv va vb fun i j z t t' e1 e2 => by
      obtain ⟨hb, rfl⟩ := itS e1
      refine mod_int_or ok.hd (fun e => ?_) (fun _ => ?_)
      · rw [e] at hb; exact absurd hb (by decide)
      · rw [Int.fmod_eq_emod_of_nonneg _ (by omega)]
        exact fin _ e2
  | _ => cases hv

theorem den_bin (ok : x.Ok S d) {op : Nat} {o : Operator} (ho : mOp op o = true) {X Y : Expr} {a b v : VV} {pos : Pos} (D1 : Den S x l (eval X x.env) h a h1) (D2 : Den S x l (eval Y x.env) h1 b h2) (hv : vBin op a b h2 = some (v, h3)) :
    Den S x l (eval (.BinOp X o Y pos) x.env) h v h3 := fun s ρ led ex Q st k => by
  refine wpAny_BinOp (D1 s ρ led ex _ st fun u ρ' led' hp tk st' ext vr => D2 _ ρ' led' ex _ st' fun w ρ₂ led₂ hp₂ tk₂ st₂ ext₂ vr₂ => ?_)
  exact bin_rule ok ho st₂ hv (vr.ext ext₂) vr₂ fun u₃ ρ₃ led₃ hp₃ tk₃ st₃ ext₃ vr₃ => k u₃ ρ₃ led₃ hp₃ tk₃ st₃ ((ext.trans ext₂).trans ext₃) vr₃
theorem den_neg {i : Int} {k1 : Nat} {p1 pos : Pos} : Den S x l (eval (.UnaryOp .USub (.Constant (.int i) k1 p1) pos) x.env) h (.int (-i)) h := fun s ρ led ex Q st k =>
  UnaryOp_ (wpAny_Constant_int (neg_int (k _ ρ led s.heap (s.toks + 1 + 1) st .refl ⟨_, rfl⟩)))
end
end Mine
end
section
namespace Mine
open PySem PySem.W PyProof.Rows PySem.Calls PySem.SeqAt

section
variable {S : SE} {x : FX} {d : Nat} {l : Loc} {h h1 h2 h3 : VH}

set_option tactic.hygienic false
theorem aeq_veq {a b : VV} {r : Bool} {h : VH} {n : Nat} (e : aeq a b = some r) : veq (n + 1) h a b = some r := by
  cases a with
  | int x => obtain ⟨y, e1, rfl⟩ := Option.map_eq_some_iff.mp e; cases asI_ok e1; rfl
  | str x => obtain ⟨y, e1, rfl⟩ := Option.map_eq_some_iff.mp e; cases asS_ok e1; rfl
  | bytes x => obtain ⟨y, e1, rfl⟩ := Option.map_eq_some_iff.mp e; cases asB_ok e1; rfl
  | _ => cases e

theorem valueAt_S {ρ : Rho} {k : Nat} (hk : k < 176) : ∀ {es : List (Nat × VV)} {kvs : List (Str × Value)}, SRel ρ es kvs →
    (hasK k es = (valueAt kvs (nm k)).isSome) ∧ ∀ v, look k es = some v → ∃ u, valueAt kvs (nm k) = some u ∧ VR ρ v u
  | [], _, q => by
    rw [show _ = _ from q]
    exact ⟨rfl, fun v e => nomatch e⟩
  | (i, v) :: es, _, q => by
    obtain ⟨hi, u, r, e, vr, q'⟩ := q
    subst e
    have ih := valueAt_S hk q'
    by_cases hik : i = k
    · subst hik
      refine ⟨by simp [hasK, valueAt], fun v' e => ?_⟩
      simp [look] at e
      subst e
      exact ⟨u, by simp [valueAt], vr⟩
    · have hne : nm i ≠ nm k := fun z => hik (nm_inj' hi hk z)
      have e1 : valueAt ((nm i, u) :: r) (nm k) = valueAt r (nm k) := by simp [valueAt, hne]
      rw [e1]
      refine ⟨by simp [hasK, hik, ih.1], fun v' e => ih.2 v' (by simpa [look, hik] using e)⟩
theorem valueAt_I {ρ : Rho} {k : Int} : ∀ {es : List (Int × VV)} {kvs : List (Int × Value)}, IRel ρ es kvs →
    (hasK k es = (valueAt kvs k).isSome) ∧ ∀ v, look k es = some v → ∃ u, valueAt kvs k = some u ∧ VR ρ v u
  | [], _, q => by
    rw [show _ = _ from q]
    exact ⟨rfl, fun v e => nomatch e⟩
  | (i, v) :: es, _, q => by
    obtain ⟨u, r, e, vr, q'⟩ := q
    subst e
    have ih := valueAt_I (k := k) q'
    by_cases hik : i = k
    · subst hik
      refine ⟨by simp [hasK, valueAt], fun v' e => ?_⟩
      simp [look] at e
      subst e
      exact ⟨u, by simp [valueAt], vr⟩
    · have e1 : valueAt ((i, u) :: r) k = valueAt r k := by simp [valueAt, hik]
      rw [e1]
      refine ⟨by simp [hasK, hik, ih.1], fun v' e => ih.2 v' (by simpa [look, hik] using e)⟩

noncomputable def eV (w : Value) : Value → Bool
  | .int i _ => match w with | .int j _ => i == j | _ => false
  | .str a _ => match w with | .str b _ => a == b | _ => false
  | .bytes a _ => match w with | .bytes b _ => a.toList == b.toList | _ => false
  | _ => false
theorem eV_of {A : Around} {s : Shared} {ρ : Rho} {a b : VV} {r : Bool} {y w : Value} (e : aeq a b = some r) (va : VR ρ a y) (vb : VR ρ b w) : EqAt A s y w r ∧ eV w y = r := by
  cases a with
  | int x =>
    obtain ⟨y, e1, rfl⟩ := Option.map_eq_some_iff.mp e
    cases asI_ok e1
    obtain ⟨t, rfl⟩ := va
    obtain ⟨t', rfl⟩ := vb
    exact ⟨EqAt.int_int _ _ _ _, rfl⟩
  | str x =>
    obtain ⟨y, e1, rfl⟩ := Option.map_eq_some_iff.mp e
    cases asS_ok e1
    obtain ⟨hi, t, rfl⟩ := va
    obtain ⟨hj, t', rfl⟩ := vb
    rw [← nm_beq hi hj]
    exact ⟨EqAt.str_str _ _ _ _, rfl⟩
  | bytes x =>
    obtain ⟨y, e1, rfl⟩ := Option.map_eq_some_iff.mp e
    cases asB_ok e1
    obtain ⟨⟨t, rfl⟩, hi⟩ := va
    obtain ⟨⟨t', rfl⟩, hj⟩ := vb
    exact ⟨EqAt.bytes hi hj, toU8_beq hi hj⟩
  | _ => cases e
set_option tactic.hygienic true
theorem inL_of {A : Around} {s : Shared} {ρ : Rho} {b : VV} {w : Value} (vb : VR ρ b w) : ∀ {vs : List VV} {us : List Value} {r : Bool}, inL b vs = some r → VRs ρ vs us → (∀ y ∈ us, EqAt A s y w (eV w y)) ∧ us.any (eV w) = r
  | [], _, r, e, q => by
    rw [show _ = _ from q]
    cases e
    exact ⟨by simp, rfl⟩
  | a :: vs, _, r, e, ⟨u, us, e1, q, q'⟩ => by
    subst e1
    unfold inL at e
    split at e
    · rename_i b' c' e1 e2
      cases e
      have z := eV_of (A := A) (s := s) e1 q vb
      have ih := inL_of (A := A) (s := s) vb e2 q'
      refine ⟨fun y hy => ?_, by rw [List.any_cons, z.2, ih.2]⟩
      rcases List.mem_cons.mp hy with rfl | hy
      · rw [z.2]; exact z.1
      · exact ih.1 y hy
    · cases e

theorem mem_rule (ok : x.Ok S d) {b : VV} {n : Nat} {r : Bool} {u w : Value} {s : Shared} {ρ : Rho} {led ex : Led} (st : St S x s.heap ρ led ex l h) (hv : isMem b n h = some r) (vb : VR ρ b u) (vn : VR ρ (.ref n) w) :
    (∀ {Q : Value → Shared → Prop}, (∀ tk, Q (.bool r) { s with toks := tk }) → wpAny S.M x.A (compareOp .In u w) Q FF s) ∧ ∀ {Q : Value → Shared → Prop}, (∀ tk, Q (.bool !r) { s with toks := tk }) → wpAny S.M x.A (compareOp .NotIn u w) Q FF s := by
  obtain ⟨a, dd, rfl, ha⟩ := vn
  unfold isMem at hv
  split at hv
  · rename_i vs hl
    obtain ⟨a', d', xs, c, e1, e2, e3, e4⟩ := st.hr.lst n vs hl
    obtain ⟨rfl, rfl⟩ := Prod.mk.inj (Option.some.inj (e1.symm.trans ha))
    have hL : s.heap.IsList a' xs.toArray := ⟨_, (st.news _ (List.mem_append_left _ e2)).1, rfl, _, rfl⟩
    have z := inL_of (A := x.A.in1) (s := s) vb hv e3
    have any : xs.toArray.any (eV u) = r := by rw [List.any_toArray]; exact z.2
    exact ⟨fun k => in_listAt (eV u) hL (fun y hy => z.1 y (by simpa using hy)) (by rw [any]; exact k s.toks), fun k => notIn_listAt (eV u) hL (fun y hy => z.1 y (by simpa using hy)) (by rw [any]; exact k s.toks)⟩
  · split at hv
    · rename_i es kk hs
      cases hv
      obtain ⟨a', d', o, kvs, e1, e2, e3, e4, e5, e6⟩ := st.hr.sd n es hs
      obtain ⟨rfl, rfl⟩ := Prod.mk.inj (Option.some.inj (e1.symm.trans ha))
      obtain ⟨hi, t, rfl⟩ := vb
      have z := (valueAt_S hi e4).1
      exact ⟨fun k => kda_in st.news (List.mem_append_left _ e2) e3 e5 (strKind_is S.prog S.w _ _) _ z.symm (k _), fun k => kdg_notin st.news (List.mem_append_left _ e2) e3 e5 (strKind_is S.prog S.w _ _) _ z.symm (k _)⟩
    · cases hv
    · rename_i kk hs
      obtain ⟨es, hi, rfl⟩ := Option.map_eq_some_iff.mp hv
      obtain ⟨a', d', o, kvs, e1, e2, e3, e4, e5, e6⟩ := st.hr.ic n es hi
      obtain ⟨rfl, rfl⟩ := Prod.mk.inj (Option.some.inj (e1.symm.trans ha))
      obtain ⟨t, rfl⟩ := vb
      have z := (valueAt_I (k := kk) e4).1
      exact ⟨fun k => kda_in st.news (List.mem_append_left _ e2) e3 e5 (intKind_is S.prog S.w _ _) _ z.symm (k _), fun k => kdg_notin st.news (List.mem_append_left _ e2) e3 e5 (intKind_is S.prog S.w _ _) _ z.symm (k _)⟩
    · cases hv

set_option tactic.hygienic false
theorem intCmp_ok {f : Int → Int → Bool} {a b : VV} {r : Bool} (e : intCmp f a b = some r) : ∃ i j, a = .int i ∧ b = .int j ∧ f i j = r := by
  cases a with
  | int i => cases b with
    | int j => exact ⟨i, j, rfl, rfl, Option.some.inj e⟩
    | _ => cases e
  | _ => cases e
theorem isN_ok {a b : VV} {r : Bool} (e : isN a b = some r) : b = .none ∧ ((a = .none ∧ r = true) ∨ (∃ n, a = .ref n ∧ r = false) ∨ ∃ i, a = .int i ∧ r = false) := by
  cases b with
  | none => cases a with
    | none => cases e; exact ⟨rfl, .inl ⟨rfl, rfl⟩⟩
    | ref n => cases e; exact ⟨rfl, .inr (.inl ⟨n, rfl, rfl⟩)⟩
    | int i => cases e; exact ⟨rfl, .inr (.inr ⟨i, rfl, rfl⟩)⟩
    | _ => cases e
  | _ => cases e
theorem inV_ok {a b : VV} {h : VH} {r : Bool} (e : inV a b h = some r) : ∃ n, b = .ref n ∧ isMem a n h = some r := by
  cases b with
  | ref n => exact ⟨n, rfl, e⟩
  | _ => cases e
theorem intCmp_e {f : Int → Int → Bool} {a b : VV} {r : Bool} {ρ : Rho} {u w : Value} {G : Value → Value → Bool → Prop} (e : intCmp f a b = some r) (va : VR ρ a u) (vb : VR ρ b w) (k : ∀ i j t t', G (.int i t) (.int j t') (f i j)) : G u w r := by
  obtain ⟨i, j, rfl, rfl, rfl⟩ := intCmp_ok e
  obtain ⟨t, rfl⟩ := va
  obtain ⟨t', rfl⟩ := vb
  exact k i j t t'
theorem cmp_rule (ok : x.Ok S d) {op : Nat} {o : CmpOp} (ho : mCmp op o = true) {a b : VV} {r : Bool} {u w : Value} {s : Shared} {ρ : Rho} {led ex : Led} {Q : Value → Shared → Prop} (st : St S x s.heap ρ led ex l h)
    (hv : vCmp op a b h = some r) (va : VR ρ a u) (vb : VR ρ b w) (k : ∀ tk, Q (.bool r) { s with toks := tk }) : wpAny S.M x.A (compareOp o u w) Q FF s := by
  have hu : x.A.units + 10 < cLine := by have := ok.un; omega
  obtain rfl := eq_of_beq ho
  cases o with
  | Eq => exact (rc_of st.hr hv st.has hu va vb).1 S.prog S.w FF Q (k s.toks)
  | NotEq =>
    obtain ⟨r', e, rfl⟩ := Option.map_eq_some_iff.mp (show (veqT h a b).map (!·) = _ from hv)
    exact (rc_of st.hr e st.has hu va vb).2 S.prog S.w FF Q (k s.toks)
  | Lt => exact intCmp_e (G := fun u w r => Q (.bool r) s → wpAny S.M x.A (compareOp .Lt u w) Q FF s) hv va vb (fun i j t t' k => lt_int k) (k s.toks)
  | LtE => exact intCmp_e (G := fun u w r => Q (.bool r) s → wpAny S.M x.A (compareOp .LtE u w) Q FF s) hv va vb (fun i j t t' k => le_int k) (k s.toks)
  | Gt => exact intCmp_e (G := fun u w r => Q (.bool r) s → wpAny S.M x.A (compareOp .Gt u w) Q FF s) hv va vb (fun i j t t' k => gt_int k) (k s.toks)
  | GtE => exact intCmp_e (G := fun u w r => Q (.bool r) s → wpAny S.M x.A (compareOp .GtE u w) Q FF s) hv va vb (fun i j t t' k => ge_int k) (k s.toks)
  | Is =>
    have hv : isN a b = some r := hv
    obtain ⟨rfl, e⟩ := isN_ok hv
    rw [show w = .none from vb]
    rcases e with ⟨rfl, rfl⟩ | ⟨n, rfl, rfl⟩ | ⟨i, rfl, rfl⟩
    · rw [show u = .none from va]
      exact is_none_none (k s.toks)
    · obtain ⟨aa, dd, rfl, _⟩ := va
      exact is_ref_none (k s.toks)
    · obtain ⟨t, rfl⟩ := va
      exact is_int_none (k s.toks)
  | IsNot =>
    obtain ⟨r', e', rfl⟩ := Option.map_eq_some_iff.mp (show (isN a b).map (!·) = _ from hv)
    obtain ⟨rfl, e⟩ := isN_ok e'
    rw [show w = .none from vb]
    rcases e with ⟨rfl, rfl⟩ | ⟨n, rfl, rfl⟩ | ⟨i, rfl, rfl⟩
    · rw [show u = .none from va]
      exact isnot_none_none (k s.toks)
    · obtain ⟨aa, dd, rfl, _⟩ := va
      exact isnot_ref_none (k s.toks)
    · obtain ⟨t, rfl⟩ := va
      exact isnot_int_none (k s.toks)
  | In =>
    obtain ⟨n, rfl, e⟩ := inV_ok (show inV a b h = some r from hv)
    exact (mem_rule ok st e va vb).1 k
  | NotIn =>
    obtain ⟨r', e', rfl⟩ := Option.map_eq_some_iff.mp (show (inV a b h).map (!·) = _ from hv)
    obtain ⟨n, rfl, e⟩ := inV_ok e'
    exact (mem_rule ok st e va vb).2 k

theorem marks_plain {o : CmpOp} {Y : Expr} (p : plainX Y = true) : behindInMarks o Y = false := by cases Y <;> first | rfl | cases p
theorem den_cmp (ok : x.Ok S d) {op : Nat} {o : CmpOp} (ho : mCmp op o = true) {X Y : Expr} {a b : VV} {r : Bool} {pos : Pos} (py : plainX Y = true) (D1 : Den S x l (eval X x.env) h a h1) (D2 : Den S x l (eval Y x.env) h1 b h2) (hv : vCmp op a b h2 = some r) :
    Den S x l (eval (.Compare X [o] [Y] pos) x.env) h (.bool r) h2 ∧ DenB S x l (isTrue (.Compare X [o] [Y] pos) x.env (eval (.Compare X [o] [Y] pos) x.env)) h r h2 := by
  refine ⟨fun s ρ led ex Q st k => ?_, fun s ρ led ex Q st k => ?_⟩
  · refine wpAny_Compare1 (D1 s ρ led ex _ st fun u ρ' led' hp tk st' ext vr => D2 _ ρ' led' ex _ st' fun w ρ₂ led₂ hp₂ tk₂ st₂ ext₂ vr₂ => ?_) (marks_plain py)
    exact cmp_rule ok ho (s := { s with heap := hp₂, toks := tk₂ }) st₂ hv (vr.ext ext₂) vr₂ fun tk => k (.bool r) ρ₂ led₂ hp₂ tk st₂ (ext.trans ext₂) rfl
  · refine wpAny_isTrue_Compare1 (D1 s ρ led ex _ st fun u ρ' led' hp tk st' ext vr => D2 _ ρ' led' ex _ st' fun w ρ₂ led₂ hp₂ tk₂ st₂ ext₂ vr₂ => ?_) (marks_plain py)
    exact cmp_rule ok ho (s := { s with heap := hp₂, toks := tk₂ }) st₂ hv (vr.ext ext₂) vr₂ fun tk => wpAny_truthy_bool (k ρ₂ led₂ hp₂ tk st₂ (ext.trans ext₂))
end
end Mine
end
section
namespace Mine
open PySem PySem.W PyProof.Rows PySem.Calls PySem.SeqAt

noncomputable def DenE (S : SE) (x : FX) (l : Loc) (X : Expr) (h : VH) (v : VV) (h' : VH) : Prop :=
  Den S x l (eval X x.env) h v h' ∧ ∀ b, v = .bool b → DenB S x l (isTrue X x.env (eval X x.env)) h b h'

noncomputable def valX : Expr → Bool
  | .Compare .. | .BoolOp .. | .UnaryOp .. | .IfExp .. => false
  | _ => true
section
variable {S : SE} {x : FX} {d : Nat} {l : Loc} {h h1 h2 h3 : VH}

set_option tactic.hygienic false
theorem den_val {X : Expr} {v : VV} (t : valX X = true) (D : Den S x l (eval X x.env) h v h1) : DenE S x l X h v h1 := by
  refine ⟨D, fun b e => ?_⟩
  subst e
  intro s ρ led ex Q st k
  refine isTrue_plain (D s ρ led ex _ st fun u ρ' led' hp tk st' ext vr => ?_) ?_
  · rw [show u = .bool b from vr]
    exact wpAny_truthy_bool (k ρ' led' hp tk st' ext)
  · cases X <;> first | rfl | cases t

theorem den_not {X : Expr} {b : Bool} {pos : Pos} (D : DenE S x l X h (.bool b) h1) : DenE S x l (.UnaryOp .Not X pos) h (.bool !b) h1 := by
  refine ⟨fun s ρ led ex Q st k => ?_, fun b' e s ρ led ex Q st k => ?_⟩
  · refine UnaryOp_ (D.1 s ρ led ex _ st fun u ρ' led' hp tk st' ext vr => ?_)
    rw [show u = .bool b from vr]
    exact not_of (wpAny_truthy_bool (k _ ρ' led' hp tk st' ext rfl))
  · cases e
    exact isTrue_not (D.2 b rfl s ρ led ex _ st fun ρ' led' hp tk st' ext => k ρ' led' hp tk st' ext)
theorem den_ife {T A B : Expr} {b : Bool} {v : VV} {pos : Pos} (DT : DenE S x l T h (.bool b) h1) (D : DenE S x l (if b then A else B) h1 v h2) : DenE S x l (.IfExp T A B pos) h v h2 := by
  refine ⟨fun s ρ led ex Q st k => ?_, fun b' e s ρ led ex Q st k => ?_⟩
  · refine IfExp_ (DT.2 b rfl s ρ led ex _ st fun ρ' led' hp tk st' ext => ?_)
    cases b
    · rw [if_neg (by decide)]
      exact D.1 _ ρ' led' ex _ st' fun u ρ₂ led₂ hp₂ tk₂ st₂ ext₂ vr => k u ρ₂ led₂ hp₂ tk₂ st₂ (ext.trans ext₂) vr
    · rw [if_pos rfl]
      exact D.1 _ ρ' led' ex _ st' fun u ρ₂ led₂ hp₂ tk₂ st₂ ext₂ vr => k u ρ₂ led₂ hp₂ tk₂ st₂ (ext.trans ext₂) vr
  · refine isTrue_IfExp (DT.2 b rfl s ρ led ex _ st fun ρ' led' hp tk st' ext => ?_)
    cases b
    · rw [if_neg (by decide)]
      exact D.2 b' e _ ρ' led' ex _ st' fun ρ₂ led₂ hp₂ tk₂ st₂ ext₂ => k ρ₂ led₂ hp₂ tk₂ st₂ (ext.trans ext₂)
    · rw [if_pos rfl]
      exact D.2 b' e _ ρ' led' ex _ st' fun ρ₂ led₂ hp₂ tk₂ st₂ ext₂ => k ρ₂ led₂ hp₂ tk₂ st₂ (ext.trans ext₂)

noncomputable def goOp : Bool → BoolOp
  | true => .And
  | false => .Or
theorem den_bool_one {go : Bool} {X : Expr} {b : Bool} {pos : Pos} (D : DenE S x l X h (.bool b) h1) : DenE S x l (.BoolOp (goOp go) [X] pos) h (.bool b) h1 := by
  refine ⟨fun s ρ led ex Q st k => BoolOp_one (D.1 s ρ led ex Q st k), fun b' e s ρ led ex Q st k => ?_⟩
  cases e
  cases go
  · refine isTrue_or (D.2 b rfl s ρ led ex _ st fun ρ' led' hp tk st' ext => ?_)
    cases b
    · rw [if_neg (by decide)]
      exact isTrue_or_nil (k ρ' led' hp tk st' ext)
    · rw [if_pos rfl]
      exact k ρ' led' hp tk st' ext
  · refine isTrue_and (D.2 b rfl s ρ led ex _ st fun ρ' led' hp tk st' ext => ?_)
    cases b
    · rw [if_neg (by decide)]
      exact k ρ' led' hp tk st' ext
    · rw [if_pos rfl]
      exact isTrue_and_nil (k ρ' led' hp tk st' ext)
theorem den_bool_end {go : Bool} {X Y : Expr} {Xs : List Expr} {pos : Pos} (D : DenE S x l X h (.bool !go) h1) : DenE S x l (.BoolOp (goOp go) (X :: Y :: Xs) pos) h (.bool !go) h1 := by
  refine ⟨fun s ρ led ex Q st k => ?_, fun b' e s ρ led ex Q st k => ?_⟩
  · cases go
    · refine BoolOp_or (D.1 s ρ led ex _ st fun u ρ' led' hp tk st' ext vr => ?_)
      rw [show u = .bool true from vr]
      exact wpAny_truthy_bool (by rw [if_pos rfl]; exact k _ ρ' led' hp tk st' ext rfl)
    · refine BoolOp_and (D.1 s ρ led ex _ st fun u ρ' led' hp tk st' ext vr => ?_)
      rw [show u = .bool false from vr]
      exact wpAny_truthy_bool (by rw [if_neg (by decide)]; exact k _ ρ' led' hp tk st' ext rfl)
  · cases e
    cases go
    · refine isTrue_or (D.2 _ rfl s ρ led ex _ st fun ρ' led' hp tk st' ext => ?_)
      exact (by rw [if_pos (by rfl)]; exact k ρ' led' hp tk st' ext)
    · refine isTrue_and (D.2 _ rfl s ρ led ex _ st fun ρ' led' hp tk st' ext => ?_)
      exact (by rw [if_neg (by decide)]; exact k ρ' led' hp tk st' ext)
theorem den_bool_go {go : Bool} {X Y : Expr} {Xs : List Expr} {b : Bool} {pos : Pos} (D : DenE S x l X h (.bool go) h1) (D2 : DenE S x l (.BoolOp (goOp go) (Y :: Xs) pos) h1 (.bool b) h2) : DenE S x l (.BoolOp (goOp go) (X :: Y :: Xs) pos) h (.bool b) h2 := by
  refine ⟨fun s ρ led ex Q st k => ?_, fun b' e s ρ led ex Q st k => ?_⟩
  · cases go
    · refine BoolOp_or (D.1 s ρ led ex _ st fun u ρ' led' hp tk st' ext vr => ?_)
      rw [show u = .bool false from vr]
      refine wpAny_truthy_bool ?_
      rw [if_neg (by decide)]
      exact D2.1 _ ρ' led' ex _ st' fun u ρ₂ led₂ hp₂ tk₂ st₂ ext₂ vr => k u ρ₂ led₂ hp₂ tk₂ st₂ (ext.trans ext₂) vr
    · refine BoolOp_and (D.1 s ρ led ex _ st fun u ρ' led' hp tk st' ext vr => ?_)
      rw [show u = .bool true from vr]
      refine wpAny_truthy_bool ?_
      rw [if_pos rfl]
      exact D2.1 _ ρ' led' ex _ st' fun u ρ₂ led₂ hp₂ tk₂ st₂ ext₂ vr => k u ρ₂ led₂ hp₂ tk₂ st₂ (ext.trans ext₂) vr
  · cases e
    cases go
    · refine isTrue_or (D.2 _ rfl s ρ led ex _ st fun ρ' led' hp tk st' ext => ?_)
      rw [if_neg (by decide)]
      exact D2.2 b rfl _ ρ' led' ex _ st' fun ρ₂ led₂ hp₂ tk₂ st₂ ext₂ => k ρ₂ led₂ hp₂ tk₂ st₂ (ext.trans ext₂)
    · refine isTrue_and (D.2 _ rfl s ρ led ex _ st fun ρ' led' hp tk st' ext => ?_)
      rw [if_pos rfl]
      exact D2.2 b rfl _ ρ' led' ex _ st' fun ρ₂ led₂ hp₂ tk₂ st₂ ext₂ => k ρ₂ led₂ hp₂ tk₂ st₂ (ext.trans ext₂)

theorem den_tup {Xs : List Expr} {vs : List VV} {kk : Nat} {pos : Pos} (Ds : DensX S x l Xs h vs h1) (hl : vs.length ≤ 1000) : Den S x l (eval (.Tuple Xs kk pos) x.env) h (.ref h1.nxt) (h1.newT vs) := fun s ρ led ex Q st k => by
  refine Tuple_ (Ds pos s ρ led ex _ st fun us ρ' led' hp tk st' ext vrs => ?_)
  obtain ⟨m, F, LL⟩ := st'.fr
  refine kup_newTuple F st'.news (fun D h' F' N' lt => ?_) (by rw [vrs.length, sizeLine_eq]; omega)
  exact k _ _ _ h' tk (st'.newT LL F' N' lt vrs hl) (ext.trans Ext.newT) (vr_new st'.hr.len)
theorem den_list {Xs : List Expr} {vs : List VV} {pos : Pos} (Ds : DensX S x l Xs h vs h1) (hl : vs.length ≤ 1000) : Den S x l (eval (.List Xs pos) x.env) h (.ref h1.nxt) (h1.newL vs) := fun s ρ led ex Q st k => by
  refine List_ (Ds pos s ρ led ex _ st fun us ρ' led' hp tk st' ext vrs => ?_)
  obtain ⟨m, F, LL⟩ := st'.fr
  refine newList_K F st'.news (fun D h' F' N' lt => ?_) (by rw [vrs.length, sizeLine_eq]; omega)
  exact k _ _ _ h' tk (st'.newL LL F' N' lt vrs hl) (ext.trans Ext.newL) (vr_new st'.hr.len)

noncomputable def idxX : Expr → Bool
  | .Slice .. => false
  | X => plainX X
theorem idx_sub {I : Expr} {o i : Value} (p : idxX I = true) : subscripted I false o i = operate [o, i] (getItem o i) := by
  cases I <;> first | rfl | cases p
theorem seqIndex_nat {k : Int} {n : Nat} (h0 : 0 ≤ k) (h1 : k < n) : seqIndex? k n = some k.toNat := by
  unfold seqIndex?
  rw [if_neg (show ¬ k < 0 by omega)]
  simp [h0, h1]

set_option tactic.hygienic true
theorem sub_rule (ok : x.Ok S d) {n : Nat} {i v : VV} {u w : Value} {X I : Expr} {s : Shared} {ρ : Rho} {led ex : Led} {Q : Value → Shared → Prop} (pI : idxX I = true) (st : St S x s.heap ρ led ex l h)
    (hv : vSub n i h = some v) (vn : VR ρ (.ref n) u) (vi : VR ρ i w) (k : ∀ y tk, VR ρ v y → Q y { s with toks := tk }) : wpAny S.M x.A (subscriptTail X I u w) Q FF s := by
  obtain ⟨a, dd, rfl, ha⟩ := vn
  unfold vSub at hv
  split at hv
  · rename_i kk
    obtain ⟨t, rfl⟩ := vi
    split at hv
    · rename_i vs hl
      split at hv
      · rename_i hb
        obtain ⟨a', d', xs, c, e1, e2, e3, e4⟩ := st.hr.lst n vs hl
        obtain ⟨rfl, rfl⟩ := Prod.mk.inj (Option.some.inj (e1.symm.trans ha))
        have hL : s.heap.IsList a' xs.toArray := ⟨_, (st.news _ (List.mem_append_left _ e2)).1, rfl, _, rfl⟩
        obtain ⟨y, hy, vr⟩ := e3.get hv
        exact tail_any hL.typeIs slot_list_getitem.lookup (wpAny_getItem_list hL hb.1 (by omega) (by simpa using hy) (k y s.toks vr)) (idx_sub pI)
      · cases hv
    · split at hv
      · rename_i vs hl
        split at hv
        · rename_i hb
          obtain ⟨a', d', xs, e1, e2, e3, e4⟩ := st.hr.tup n vs hl
          obtain ⟨rfl, rfl⟩ := Prod.mk.inj (Option.some.inj (e1.symm.trans ha))
          have hL : IsTup s.heap a' xs.toArray := ⟨_, (st.news _ (List.mem_append_left _ e2)).1, rfl, _, rfl⟩
          obtain ⟨y, hy, vr⟩ := e3.get hv
          have hlt := (List.getElem?_eq_some_iff.mp hy).1
          exact tail_any hL.typeIs slot_tuple_getitem.lookup (getItem_tuple hL (by omega) (by omega) (seqIndex_nat hb.1 (by simp; omega)) (by simpa using hy) (k y s.toks vr)) (idx_sub pI)
        · cases hv
      · obtain ⟨es, hi, hlk⟩ := Option.bind_eq_some_iff.mp hv
        obtain ⟨a', d', o, kvs, e1, e2, e3, e4, e5, e6⟩ := st.hr.ic n es hi
        obtain ⟨rfl, rfl⟩ := Prod.mk.inj (Option.some.inj (e1.symm.trans ha))
        obtain ⟨y, hy, vr⟩ := (valueAt_I (k := kk) e4).2 v hlk
        exact kdt_tail st.news (List.mem_append_left _ e2) e3 (kdt_getItem st.news (List.mem_append_left _ e2) e3 (intKind_is S.prog S.w _ _) hy (k y _ vr)) (idx_sub pI)
  · rename_i kk
    obtain ⟨hk, t, rfl⟩ := vi
    obtain ⟨es, hi, hlk⟩ := Option.bind_eq_some_iff.mp hv
    obtain ⟨a', d', o, kvs, e1, e2, e3, e4, e5, e6⟩ := st.hr.sd n es hi
    obtain ⟨rfl, rfl⟩ := Prod.mk.inj (Option.some.inj (e1.symm.trans ha))
    obtain ⟨y, hy, vr⟩ := (valueAt_S hk e4).2 v hlk
    exact kdt_tail st.news (List.mem_append_left _ e2) e3 (kdt_getItem st.news (List.mem_append_left _ e2) e3 (strKind_is S.prog S.w _ _) hy (k y _ vr)) (idx_sub pI)
  · cases hv

set_option tactic.hygienic false
theorem den_sub (ok : x.Ok S d) {n : Nat} {i v : VV} {X I : Expr} {pos : Pos} (pI : idxX I = true) (D1 : Den S x l (eval X x.env) h (.ref n) h1) (D2 : Den S x l (eval I x.env) h1 i h2) (hv : vSub n i h2 = some v) :
    Den S x l (eval (.Subscript X I pos) x.env) h v h2 := fun s ρ led ex Q st k => by
  refine Subscript_ (D1 s ρ led ex _ st fun u ρ' led' hp tk st' ext vr => D2 _ ρ' led' ex _ st' fun w ρ₂ led₂ hp₂ tk₂ st₂ ext₂ vr₂ => ?_)
  exact sub_rule ok (s := { s with heap := hp₂, toks := tk₂ }) pI st₂ hv (vr.ext ext₂) vr₂ fun y tk q => k y ρ₂ led₂ hp₂ tk st₂ (ext.trans ext₂) q

theorem VRs.drop_one {ρ : Rho} {vs : List VV} {xs : List Value} (r : VRs ρ vs xs) : kms_pick xs (some 1) none = xs.drop 1 := by
  cases xs with
  | nil => rfl
  | cons a r => simp [kms_pick, kms_lo, kms_hi]
theorem den_slc {n : Nat} {vs : List VV} {X : Expr} {k1 : Nat} {p1 p2 pos : Pos} (D : Den S x l (eval X x.env) h (.ref n) h1) (hn : h1.lst n = some vs) :
    Den S x l (eval (.Subscript X (.Slice (some (.Constant (.int 1) k1 p1)) none none p2) pos) x.env) h (.ref h1.nxt) (h1.newL (vs.drop 1)) := fun s ρ led ex Q st k => by
  refine Subscript_ (D s ρ led ex _ st fun u ρ' led' hp tk st' ext vr => ?_)
  obtain ⟨a, dd, rfl, ha⟩ := vr
  obtain ⟨a', d', xs, c, e1, e2, e3, e4⟩ := st'.hr.lst n vs hn
  obtain ⟨rfl, rfl⟩ := Prod.mk.inj (Option.some.inj (e1.symm.trans ha))
  obtain ⟨m, F, LL⟩ := st'.fr
  have hL : hp.IsList a' xs.toArray := ⟨_, (st'.news _ (List.mem_append_left _ e2)).1, rfl, _, rfl⟩
  refine wpAny_Slice (wpAny_Constant_int (k := k1) (pos := p1) (wpAny_pure (wpAny_pure ?_)))
  refine tail_any (ops := [.ref hp.objs.size, .ref a']) (Heap.IsList.typeIs (hL.push _)) slot_list_getitem.lookup (wpAny_getItem_list_slice (hL.push _) (Heap.IsSliceOf.new ..) (.int 1 _) .none .none (by decide) ?_ (by rw [List.size_toArray, e3.length, sizeLine_eq]; omega)) rfl
  have N1 := News.push (F.push { cls := .type "slice", data := .fields #[.int 1 tk, .none, .none] }) (st'.news.grown fun _ _ e => Heap.get?_push_of_some _ e) { cls := .type "list", data := .seq (slicePick xs.toArray (some 1) none none) }
  rw [kms_pick_eq] at N1 ⊢
  rw [show kms_pick xs.toArray.toList (some 1) none = xs.drop 1 from e3.drop_one] at N1 ⊢
  have lt : ∀ p ∈ led' ++ ex, p.1 < (hp.push { cls := .type "slice", data := .fields #[.int 1 tk, .none, .none] }).objs.size := fun p hp' => Heap.lt_size (Heap.get?_push_of_some _ (st'.news p hp').1)
  exact k _ _ _ _ _ (st'.newL LL ((F.push _).push _) N1 lt e3.drop1 (by simp; omega)) (ext.trans Ext.newL) (vr_new st'.hr.len)
end
end Mine
end
section
namespace Mine
open PySem PySem.W PyProof.Rows PySem.Calls PySem.SeqAt

noncomputable def dName (P : Str → Bool) (X : Expr) : Bool := Nat.beq X.ctorIdx 23 && (match X with
  | .Name y _ => P y
  | _ => false)
set_option tactic.hygienic false
theorem dName_ok {P : Str → Bool} {X : Expr} (h : dName P X = true) : ∃ y p, X = .Name y p ∧ P y = true :=
  Expr.Name.elim (motive_1 := fun X => dName P X = true → ∃ y p, X = .Name y p ∧ P y = true) X (Nat.eq_of_beq_eq_true (Bool.and_eq_true_iff.mp h).1) (fun y p h => ⟨y, p, rfl, h⟩) h
theorem dName_e {M : Expr → Prop} {P : Str → Bool} {X : Expr} (h : dName P X = true) (kk : ∀ y p, P y = true → M (.Name y p)) : M X :=
  Expr.Name.elim (motive_1 := fun X => dName P X = true → M X) X (Nat.eq_of_beq_eq_true (Bool.and_eq_true_iff.mp h).1) (fun y p h => kk y p h) h
noncomputable def dNameP (P : Str → Pos → Bool) (X : Expr) : Bool := Nat.beq X.ctorIdx 23 && (match X with
  | .Name y p => P y p
  | _ => false)
theorem dNameP_ok {P : Str → Pos → Bool} {X : Expr} (h : dNameP P X = true) : ∃ y p, X = .Name y p ∧ P y p = true :=
  Expr.Name.elim (motive_1 := fun X => dNameP P X = true → ∃ y p, X = .Name y p ∧ P y p = true) X (Nat.eq_of_beq_eq_true (Bool.and_eq_true_iff.mp h).1) (fun y p h => ⟨y, p, rfl, h⟩) h
theorem dNameP_e {M : Expr → Prop} {P : Str → Pos → Bool} {X : Expr} (h : dNameP P X = true) (kk : ∀ y p, P y p = true → M (.Name y p)) : M X :=
  Expr.Name.elim (motive_1 := fun X => dNameP P X = true → M X) X (Nat.eq_of_beq_eq_true (Bool.and_eq_true_iff.mp h).1) (fun y p h => kk y p h) h
noncomputable def dAttr (P : Expr → Str → Pos → Bool) (X : Expr) : Bool := Nat.beq X.ctorIdx 20 && (match X with
  | .Attribute b a p => P b a p
  | _ => false)
theorem dAttr_ok {P : Expr → Str → Pos → Bool} {X : Expr} (h : dAttr P X = true) : ∃ b a p, X = .Attribute b a p ∧ P b a p = true :=
  Expr.Attribute.elim (motive_1 := fun X => dAttr P X = true → ∃ b a p, X = .Attribute b a p ∧ P b a p = true) X (Nat.eq_of_beq_eq_true (Bool.and_eq_true_iff.mp h).1) (fun b a p h => ⟨b, a, p, rfl, h⟩) h
theorem dAttr_e {M : Expr → Prop} {P : Expr → Str → Pos → Bool} {X : Expr} (h : dAttr P X = true) (kk : ∀ b a p, P b a p = true → M (.Attribute b a p)) : M X :=
  Expr.Attribute.elim (motive_1 := fun X => dAttr P X = true → M X) X (Nat.eq_of_beq_eq_true (Bool.and_eq_true_iff.mp h).1) (fun b a p h => kk b a p h) h
noncomputable def dCall (P : Expr → List Expr → Pos → Bool) (X : Expr) : Bool := Nat.beq X.ctorIdx 16 && (match X with
  | .Call F Xs ks p => ks.isEmpty && P F Xs p
  | _ => false)
theorem dCall_ok {P : Expr → List Expr → Pos → Bool} {X : Expr} (h : dCall P X = true) : ∃ F Xs p, X = .Call F Xs [] p ∧ P F Xs p = true :=
  Expr.Call.elim (motive_1 := fun X => dCall P X = true → ∃ F Xs p, X = .Call F Xs [] p ∧ P F Xs p = true) X (Nat.eq_of_beq_eq_true (Bool.and_eq_true_iff.mp h).1) (fun F Xs ks p h => by
    obtain ⟨g, h⟩ := Bool.and_eq_true_iff.mp (show (ks.isEmpty && P F Xs p) = true from h)
    obtain rfl := List.isEmpty_iff.mp g
    exact ⟨F, Xs, p, rfl, h⟩) h
theorem dCall_e {M : Expr → Prop} {P : Expr → List Expr → Pos → Bool} {X : Expr} (h : dCall P X = true) (kk : ∀ F Xs p, P F Xs p = true → M (.Call F Xs [] p)) : M X :=
  Expr.Call.elim (motive_1 := fun X => dCall P X = true → M X) X (Nat.eq_of_beq_eq_true (Bool.and_eq_true_iff.mp h).1) (fun F Xs ks p h => by
    obtain ⟨g, h⟩ := Bool.and_eq_true_iff.mp (show (ks.isEmpty && P F Xs p) = true from h)
    obtain rfl := List.isEmpty_iff.mp g
    exact kk F Xs p h) h
noncomputable def dBin (P : Expr → Operator → Expr → Bool) (X : Expr) : Bool := Nat.beq X.ctorIdx 2 && (match X with
  | .BinOp A o B _ => P A o B
  | _ => false)
theorem dBin_ok {P : Expr → Operator → Expr → Bool} {X : Expr} (h : dBin P X = true) : ∃ A o B p, X = .BinOp A o B p ∧ P A o B = true :=
  Expr.BinOp.elim (motive_1 := fun X => dBin P X = true → ∃ A o B p, X = .BinOp A o B p ∧ P A o B = true) X (Nat.eq_of_beq_eq_true (Bool.and_eq_true_iff.mp h).1) (fun A o B p h => ⟨A, o, B, p, rfl, h⟩) h
theorem dBin_e {M : Expr → Prop} {P : Expr → Operator → Expr → Bool} {X : Expr} (h : dBin P X = true) (kk : ∀ A o B p, P A o B = true → M (.BinOp A o B p)) : M X :=
  Expr.BinOp.elim (motive_1 := fun X => dBin P X = true → M X) X (Nat.eq_of_beq_eq_true (Bool.and_eq_true_iff.mp h).1) (fun A o B p h => kk A o B p h) h
noncomputable def dCmp (P : Expr → List CmpOp → List Expr → Bool) (X : Expr) : Bool := Nat.beq X.ctorIdx 15 && (match X with
  | .Compare A os Bs _ => P A os Bs
  | _ => false)
theorem dCmp_ok {P : Expr → List CmpOp → List Expr → Bool} {X : Expr} (h : dCmp P X = true) : ∃ A os Bs p, X = .Compare A os Bs p ∧ P A os Bs = true :=
  Expr.Compare.elim (motive_1 := fun X => dCmp P X = true → ∃ A os Bs p, X = .Compare A os Bs p ∧ P A os Bs = true) X (Nat.eq_of_beq_eq_true (Bool.and_eq_true_iff.mp h).1) (fun A os Bs p h => ⟨A, os, Bs, p, rfl, h⟩) h
theorem dCmp_e {M : Expr → Prop} {P : Expr → List CmpOp → List Expr → Bool} {X : Expr} (h : dCmp P X = true) (kk : ∀ A os Bs p, P A os Bs = true → M (.Compare A os Bs p)) : M X :=
  Expr.Compare.elim (motive_1 := fun X => dCmp P X = true → M X) X (Nat.eq_of_beq_eq_true (Bool.and_eq_true_iff.mp h).1) (fun A os Bs p h => kk A os Bs p h) h
noncomputable def dBoolOp (P : BoolOp → List Expr → Bool) (X : Expr) : Bool := Nat.beq X.ctorIdx 0 && (match X with
  | .BoolOp o Xs _ => P o Xs
  | _ => false)
theorem dBoolOp_ok {P : BoolOp → List Expr → Bool} {X : Expr} (h : dBoolOp P X = true) : ∃ o Xs p, X = .BoolOp o Xs p ∧ P o Xs = true :=
  Expr.BoolOp.elim (motive_1 := fun X => dBoolOp P X = true → ∃ o Xs p, X = .BoolOp o Xs p ∧ P o Xs = true) X (Nat.eq_of_beq_eq_true (Bool.and_eq_true_iff.mp h).1) (fun o Xs p h => ⟨o, Xs, p, rfl, h⟩) h
theorem dBoolOp_e {M : Expr → Prop} {P : BoolOp → List Expr → Bool} {X : Expr} (h : dBoolOp P X = true) (kk : ∀ o Xs p, P o Xs = true → M (.BoolOp o Xs p)) : M X :=
  Expr.BoolOp.elim (motive_1 := fun X => dBoolOp P X = true → M X) X (Nat.eq_of_beq_eq_true (Bool.and_eq_true_iff.mp h).1) (fun o Xs p h => kk o Xs p h) h
noncomputable def dUn (P : UnaryOp → Expr → Bool) (X : Expr) : Bool := Nat.beq X.ctorIdx 3 && (match X with
  | .UnaryOp o A _ => P o A
  | _ => false)
theorem dUn_ok {P : UnaryOp → Expr → Bool} {X : Expr} (h : dUn P X = true) : ∃ o A p, X = .UnaryOp o A p ∧ P o A = true :=
  Expr.UnaryOp.elim (motive_1 := fun X => dUn P X = true → ∃ o A p, X = .UnaryOp o A p ∧ P o A = true) X (Nat.eq_of_beq_eq_true (Bool.and_eq_true_iff.mp h).1) (fun o A p h => ⟨o, A, p, rfl, h⟩) h
theorem dUn_e {M : Expr → Prop} {P : UnaryOp → Expr → Bool} {X : Expr} (h : dUn P X = true) (kk : ∀ o A p, P o A = true → M (.UnaryOp o A p)) : M X :=
  Expr.UnaryOp.elim (motive_1 := fun X => dUn P X = true → M X) X (Nat.eq_of_beq_eq_true (Bool.and_eq_true_iff.mp h).1) (fun o A p h => kk o A p h) h
noncomputable def dIf (P : Expr → Expr → Expr → Bool) (X : Expr) : Bool := Nat.beq X.ctorIdx 5 && (match X with
  | .IfExp T A B _ => P T A B
  | _ => false)
theorem dIf_ok {P : Expr → Expr → Expr → Bool} {X : Expr} (h : dIf P X = true) : ∃ T A B p, X = .IfExp T A B p ∧ P T A B = true :=
  Expr.IfExp.elim (motive_1 := fun X => dIf P X = true → ∃ T A B p, X = .IfExp T A B p ∧ P T A B = true) X (Nat.eq_of_beq_eq_true (Bool.and_eq_true_iff.mp h).1) (fun T A B p h => ⟨T, A, B, p, rfl, h⟩) h
theorem dIf_e {M : Expr → Prop} {P : Expr → Expr → Expr → Bool} {X : Expr} (h : dIf P X = true) (kk : ∀ T A B p, P T A B = true → M (.IfExp T A B p)) : M X :=
  Expr.IfExp.elim (motive_1 := fun X => dIf P X = true → M X) X (Nat.eq_of_beq_eq_true (Bool.and_eq_true_iff.mp h).1) (fun T A B p h => kk T A B p h) h
noncomputable def dTup (P : List Expr → Bool) (X : Expr) : Bool := Nat.beq X.ctorIdx 25 && (match X with
  | .Tuple Xs _ _ => P Xs
  | _ => false)
theorem dTup_ok {P : List Expr → Bool} {X : Expr} (h : dTup P X = true) : ∃ Xs k p, X = .Tuple Xs k p ∧ P Xs = true :=
  Expr.Tuple.elim (motive_1 := fun X => dTup P X = true → ∃ Xs k p, X = .Tuple Xs k p ∧ P Xs = true) X (Nat.eq_of_beq_eq_true (Bool.and_eq_true_iff.mp h).1) (fun Xs k p h => ⟨Xs, k, p, rfl, h⟩) h
theorem dTup_e {M : Expr → Prop} {P : List Expr → Bool} {X : Expr} (h : dTup P X = true) (kk : ∀ Xs k p, P Xs = true → M (.Tuple Xs k p)) : M X :=
  Expr.Tuple.elim (motive_1 := fun X => dTup P X = true → M X) X (Nat.eq_of_beq_eq_true (Bool.and_eq_true_iff.mp h).1) (fun Xs k p h => kk Xs k p h) h
noncomputable def dList (P : List Expr → Bool) (X : Expr) : Bool := Nat.beq X.ctorIdx 24 && (match X with
  | .List Xs _ => P Xs
  | _ => false)
theorem dList_ok {P : List Expr → Bool} {X : Expr} (h : dList P X = true) : ∃ Xs p, X = .List Xs p ∧ P Xs = true :=
  Expr.List.elim (motive_1 := fun X => dList P X = true → ∃ Xs p, X = .List Xs p ∧ P Xs = true) X (Nat.eq_of_beq_eq_true (Bool.and_eq_true_iff.mp h).1) (fun Xs p h => ⟨Xs, p, rfl, h⟩) h
theorem dList_e {M : Expr → Prop} {P : List Expr → Bool} {X : Expr} (h : dList P X = true) (kk : ∀ Xs p, P Xs = true → M (.List Xs p)) : M X :=
  Expr.List.elim (motive_1 := fun X => dList P X = true → M X) X (Nat.eq_of_beq_eq_true (Bool.and_eq_true_iff.mp h).1) (fun Xs p h => kk Xs p h) h
noncomputable def dDict (P : List (Option Expr) → List Expr → Bool) (X : Expr) : Bool := Nat.beq X.ctorIdx 6 && (match X with
  | .Dict ks Xs _ => P ks Xs
  | _ => false)
theorem dDict_ok {P : List (Option Expr) → List Expr → Bool} {X : Expr} (h : dDict P X = true) : ∃ ks Xs p, X = .Dict ks Xs p ∧ P ks Xs = true :=
  Expr.Dict.elim (motive_1 := fun X => dDict P X = true → ∃ ks Xs p, X = .Dict ks Xs p ∧ P ks Xs = true) X (Nat.eq_of_beq_eq_true (Bool.and_eq_true_iff.mp h).1) (fun ks Xs p h => ⟨ks, Xs, p, rfl, h⟩) h
theorem dDict_e {M : Expr → Prop} {P : List (Option Expr) → List Expr → Bool} {X : Expr} (h : dDict P X = true) (kk : ∀ ks Xs p, P ks Xs = true → M (.Dict ks Xs p)) : M X :=
  Expr.Dict.elim (motive_1 := fun X => dDict P X = true → M X) X (Nat.eq_of_beq_eq_true (Bool.and_eq_true_iff.mp h).1) (fun ks Xs p h => kk ks Xs p h) h
noncomputable def dSub (P : Expr → Expr → Bool) (X : Expr) : Bool := Nat.beq X.ctorIdx 21 && (match X with
  | .Subscript A I _ => P A I
  | _ => false)
theorem dSub_ok {P : Expr → Expr → Bool} {X : Expr} (h : dSub P X = true) : ∃ A I p, X = .Subscript A I p ∧ P A I = true :=
  Expr.Subscript.elim (motive_1 := fun X => dSub P X = true → ∃ A I p, X = .Subscript A I p ∧ P A I = true) X (Nat.eq_of_beq_eq_true (Bool.and_eq_true_iff.mp h).1) (fun A I p h => ⟨A, I, p, rfl, h⟩) h
theorem dSub_e {M : Expr → Prop} {P : Expr → Expr → Bool} {X : Expr} (h : dSub P X = true) (kk : ∀ A I p, P A I = true → M (.Subscript A I p)) : M X :=
  Expr.Subscript.elim (motive_1 := fun X => dSub P X = true → M X) X (Nat.eq_of_beq_eq_true (Bool.and_eq_true_iff.mp h).1) (fun A I p h => kk A I p h) h
noncomputable def dSlice (P : Option Expr → Option Expr → Option Expr → Bool) (X : Expr) : Bool := Nat.beq X.ctorIdx 26 && (match X with
  | .Slice a b c _ => P a b c
  | _ => false)
theorem dSlice_ok {P : Option Expr → Option Expr → Option Expr → Bool} {X : Expr} (h : dSlice P X = true) : ∃ a b c p, X = .Slice a b c p ∧ P a b c = true :=
  Expr.Slice.elim (motive_1 := fun X => dSlice P X = true → ∃ a b c p, X = .Slice a b c p ∧ P a b c = true) X (Nat.eq_of_beq_eq_true (Bool.and_eq_true_iff.mp h).1) (fun a b c p h => ⟨a, b, c, p, rfl, h⟩) h
theorem dSlice_e {M : Expr → Prop} {P : Option Expr → Option Expr → Option Expr → Bool} {X : Expr} (h : dSlice P X = true) (kk : ∀ a b c p, P a b c = true → M (.Slice a b c p)) : M X :=
  Expr.Slice.elim (motive_1 := fun X => dSlice P X = true → M X) X (Nat.eq_of_beq_eq_true (Bool.and_eq_true_iff.mp h).1) (fun a b c p h => kk a b c p h) h
noncomputable def dConst (P : Const → Bool) (X : Expr) : Bool := Nat.beq X.ctorIdx 19 && (match X with
  | .Constant c _ _ => P c
  | _ => false)
theorem dConst_ok {P : Const → Bool} {X : Expr} (h : dConst P X = true) : ∃ c k p, X = .Constant c k p ∧ P c = true :=
  Expr.Constant.elim (motive_1 := fun X => dConst P X = true → ∃ c k p, X = .Constant c k p ∧ P c = true) X (Nat.eq_of_beq_eq_true (Bool.and_eq_true_iff.mp h).1) (fun c k p h => ⟨c, k, p, rfl, h⟩) h
theorem dConst_e {M : Expr → Prop} {P : Const → Bool} {X : Expr} (h : dConst P X = true) (kk : ∀ c k p, P c = true → M (.Constant c k p)) : M X :=
  Expr.Constant.elim (motive_1 := fun X => dConst P X = true → M X) X (Nat.eq_of_beq_eq_true (Bool.and_eq_true_iff.mp h).1) (fun c k p h => kk c k p h) h
noncomputable def dLc (P : Expr → List Comprehension → Scope → Bool) (X : Expr) : Bool := Nat.beq X.ctorIdx 8 && (match X with
  | .ListComp e gs cs _ => P e gs cs
  | _ => false)
theorem dLc_ok {P : Expr → List Comprehension → Scope → Bool} {X : Expr} (h : dLc P X = true) : ∃ e gs cs p, X = .ListComp e gs cs p ∧ P e gs cs = true :=
  Expr.ListComp.elim (motive_1 := fun X => dLc P X = true → ∃ e gs cs p, X = .ListComp e gs cs p ∧ P e gs cs = true) X (Nat.eq_of_beq_eq_true (Bool.and_eq_true_iff.mp h).1) (fun e gs cs p h => ⟨e, gs, cs, p, rfl, h⟩) h
theorem dLc_e {M : Expr → Prop} {P : Expr → List Comprehension → Scope → Bool} {X : Expr} (h : dLc P X = true) (kk : ∀ e gs cs p, P e gs cs = true → M (.ListComp e gs cs p)) : M X :=
  Expr.ListComp.elim (motive_1 := fun X => dLc P X = true → M X) X (Nat.eq_of_beq_eq_true (Bool.and_eq_true_iff.mp h).1) (fun e gs cs p h => kk e gs cs p h) h
noncomputable def sAsg (P : List Expr → Expr → Bool) (X : Stmt) : Bool := Nat.beq X.ctorIdx 5 && (match X with
  | .Assign Ts V _ => P Ts V
  | _ => false)
theorem sAsg_ok {P : List Expr → Expr → Bool} {X : Stmt} (h : sAsg P X = true) : ∃ Ts V p, X = .Assign Ts V p ∧ P Ts V = true :=
  Stmt.Assign.elim (motive_2 := fun X => sAsg P X = true → ∃ Ts V p, X = .Assign Ts V p ∧ P Ts V = true) X (Nat.eq_of_beq_eq_true (Bool.and_eq_true_iff.mp h).1) (fun Ts V p h => ⟨Ts, V, p, rfl, h⟩) h
theorem sAsg_e {M : Stmt → Prop} {P : List Expr → Expr → Bool} {X : Stmt} (h : sAsg P X = true) (kk : ∀ Ts V p, P Ts V = true → M (.Assign Ts V p)) : M X :=
  Stmt.Assign.elim (motive_2 := fun X => sAsg P X = true → M X) X (Nat.eq_of_beq_eq_true (Bool.and_eq_true_iff.mp h).1) (fun Ts V p h => kk Ts V p h) h
noncomputable def sAug (P : Expr → Operator → Expr → Bool) (X : Stmt) : Bool := Nat.beq X.ctorIdx 7 && (match X with
  | .AugAssign T o V _ => P T o V
  | _ => false)
theorem sAug_ok {P : Expr → Operator → Expr → Bool} {X : Stmt} (h : sAug P X = true) : ∃ T o V p, X = .AugAssign T o V p ∧ P T o V = true :=
  Stmt.AugAssign.elim (motive_2 := fun X => sAug P X = true → ∃ T o V p, X = .AugAssign T o V p ∧ P T o V = true) X (Nat.eq_of_beq_eq_true (Bool.and_eq_true_iff.mp h).1) (fun T o V p h => ⟨T, o, V, p, rfl, h⟩) h
theorem sAug_e {M : Stmt → Prop} {P : Expr → Operator → Expr → Bool} {X : Stmt} (h : sAug P X = true) (kk : ∀ T o V p, P T o V = true → M (.AugAssign T o V p)) : M X :=
  Stmt.AugAssign.elim (motive_2 := fun X => sAug P X = true → M X) X (Nat.eq_of_beq_eq_true (Bool.and_eq_true_iff.mp h).1) (fun T o V p h => kk T o V p h) h
noncomputable def sIf (P : Expr → List Stmt → List Stmt → Bool) (X : Stmt) : Bool := Nat.beq X.ctorIdx 12 && (match X with
  | .If T A B _ => P T A B
  | _ => false)
theorem sIf_ok {P : Expr → List Stmt → List Stmt → Bool} {X : Stmt} (h : sIf P X = true) : ∃ T A B p, X = .If T A B p ∧ P T A B = true :=
  Stmt.If.elim (motive_2 := fun X => sIf P X = true → ∃ T A B p, X = .If T A B p ∧ P T A B = true) X (Nat.eq_of_beq_eq_true (Bool.and_eq_true_iff.mp h).1) (fun T A B p h => ⟨T, A, B, p, rfl, h⟩) h
theorem sIf_e {M : Stmt → Prop} {P : Expr → List Stmt → List Stmt → Bool} {X : Stmt} (h : sIf P X = true) (kk : ∀ T A B p, P T A B = true → M (.If T A B p)) : M X :=
  Stmt.If.elim (motive_2 := fun X => sIf P X = true → M X) X (Nat.eq_of_beq_eq_true (Bool.and_eq_true_iff.mp h).1) (fun T A B p h => kk T A B p h) h
noncomputable def sRet (P : Option Expr → Bool) (X : Stmt) : Bool := Nat.beq X.ctorIdx 3 && (match X with
  | .Return V _ => P V
  | _ => false)
theorem sRet_ok {P : Option Expr → Bool} {X : Stmt} (h : sRet P X = true) : ∃ V p, X = .Return V p ∧ P V = true :=
  Stmt.Return.elim (motive_2 := fun X => sRet P X = true → ∃ V p, X = .Return V p ∧ P V = true) X (Nat.eq_of_beq_eq_true (Bool.and_eq_true_iff.mp h).1) (fun V p h => ⟨V, p, rfl, h⟩) h
theorem sRet_e {M : Stmt → Prop} {P : Option Expr → Bool} {X : Stmt} (h : sRet P X = true) (kk : ∀ V p, P V = true → M (.Return V p)) : M X :=
  Stmt.Return.elim (motive_2 := fun X => sRet P X = true → M X) X (Nat.eq_of_beq_eq_true (Bool.and_eq_true_iff.mp h).1) (fun V p h => kk V p h) h
noncomputable def sFor (P : Expr → Expr → List Stmt → Bool) (X : Stmt) : Bool := Nat.beq X.ctorIdx 9 && (match X with
  | .For T I B O _ => O.isEmpty && P T I B
  | _ => false)
theorem sFor_ok {P : Expr → Expr → List Stmt → Bool} {X : Stmt} (h : sFor P X = true) : ∃ T I B p, X = .For T I B [] p ∧ P T I B = true :=
  Stmt.For.elim (motive_2 := fun X => sFor P X = true → ∃ T I B p, X = .For T I B [] p ∧ P T I B = true) X (Nat.eq_of_beq_eq_true (Bool.and_eq_true_iff.mp h).1) (fun T I B O p h => by
    obtain ⟨g, h⟩ := Bool.and_eq_true_iff.mp (show (O.isEmpty && P T I B) = true from h)
    obtain rfl := List.isEmpty_iff.mp g
    exact ⟨T, I, B, p, rfl, h⟩) h
theorem sFor_e {M : Stmt → Prop} {P : Expr → Expr → List Stmt → Bool} {X : Stmt} (h : sFor P X = true) (kk : ∀ T I B p, P T I B = true → M (.For T I B [] p)) : M X :=
  Stmt.For.elim (motive_2 := fun X => sFor P X = true → M X) X (Nat.eq_of_beq_eq_true (Bool.and_eq_true_iff.mp h).1) (fun T I B O p h => by
    obtain ⟨g, h⟩ := Bool.and_eq_true_iff.mp (show (O.isEmpty && P T I B) = true from h)
    obtain rfl := List.isEmpty_iff.mp g
    exact kk T I B p h) h
noncomputable def sExpr (P : Expr → Bool) (X : Stmt) : Bool := Nat.beq X.ctorIdx 24 && (match X with
  | .Expr V _ => P V
  | _ => false)
theorem sExpr_ok {P : Expr → Bool} {X : Stmt} (h : sExpr P X = true) : ∃ V p, X = .Expr V p ∧ P V = true :=
  Stmt.Expr.elim (motive_2 := fun X => sExpr P X = true → ∃ V p, X = .Expr V p ∧ P V = true) X (Nat.eq_of_beq_eq_true (Bool.and_eq_true_iff.mp h).1) (fun V p h => ⟨V, p, rfl, h⟩) h
theorem sExpr_e {M : Stmt → Prop} {P : Expr → Bool} {X : Stmt} (h : sExpr P X = true) (kk : ∀ V p, P V = true → M (.Expr V p)) : M X :=
  Stmt.Expr.elim (motive_2 := fun X => sExpr P X = true → M X) X (Nat.eq_of_beq_eq_true (Bool.and_eq_true_iff.mp h).1) (fun V p h => kk V p h) h
noncomputable def cBool (P : Bool → Bool) (X : Const) : Bool := Nat.beq X.ctorIdx 1 && (match X with
  | .bool b => P b
  | _ => false)
theorem cBool_ok {P : Bool → Bool} {X : Const} (h : cBool P X = true) : ∃ b, X = .bool b ∧ P b = true :=
  Const.bool.elim (motive := fun X => cBool P X = true → ∃ b, X = .bool b ∧ P b = true) X (Nat.eq_of_beq_eq_true (Bool.and_eq_true_iff.mp h).1) (fun b h => ⟨b, rfl, h⟩) h
theorem cBool_e {M : Const → Prop} {P : Bool → Bool} {X : Const} (h : cBool P X = true) (kk : ∀ b, P b = true → M (.bool b)) : M X :=
  Const.bool.elim (motive := fun X => cBool P X = true → M X) X (Nat.eq_of_beq_eq_true (Bool.and_eq_true_iff.mp h).1) (fun b h => kk b h) h
noncomputable def cInt (P : Int → Bool) (X : Const) : Bool := Nat.beq X.ctorIdx 2 && (match X with
  | .int i => P i
  | _ => false)
theorem cInt_ok {P : Int → Bool} {X : Const} (h : cInt P X = true) : ∃ i, X = .int i ∧ P i = true :=
  Const.int.elim (motive := fun X => cInt P X = true → ∃ i, X = .int i ∧ P i = true) X (Nat.eq_of_beq_eq_true (Bool.and_eq_true_iff.mp h).1) (fun i h => ⟨i, rfl, h⟩) h
theorem cInt_e {M : Const → Prop} {P : Int → Bool} {X : Const} (h : cInt P X = true) (kk : ∀ i, P i = true → M (.int i)) : M X :=
  Const.int.elim (motive := fun X => cInt P X = true → M X) X (Nat.eq_of_beq_eq_true (Bool.and_eq_true_iff.mp h).1) (fun i h => kk i h) h
noncomputable def cStr (P : Str → Bool) (X : Const) : Bool := Nat.beq X.ctorIdx 5 && (match X with
  | .str s => P s
  | _ => false)
theorem cStr_ok {P : Str → Bool} {X : Const} (h : cStr P X = true) : ∃ s, X = .str s ∧ P s = true :=
  Const.str.elim (motive := fun X => cStr P X = true → ∃ s, X = .str s ∧ P s = true) X (Nat.eq_of_beq_eq_true (Bool.and_eq_true_iff.mp h).1) (fun s h => ⟨s, rfl, h⟩) h
theorem cStr_e {M : Const → Prop} {P : Str → Bool} {X : Const} (h : cStr P X = true) (kk : ∀ s, P s = true → M (.str s)) : M X :=
  Const.str.elim (motive := fun X => cStr P X = true → M X) X (Nat.eq_of_beq_eq_true (Bool.and_eq_true_iff.mp h).1) (fun s h => kk s h) h
noncomputable def cBytes (P : List UInt8 → Bool) (X : Const) : Bool := Nat.beq X.ctorIdx 6 && (match X with
  | .bytes s => P s
  | _ => false)
theorem cBytes_ok {P : List UInt8 → Bool} {X : Const} (h : cBytes P X = true) : ∃ s, X = .bytes s ∧ P s = true :=
  Const.bytes.elim (motive := fun X => cBytes P X = true → ∃ s, X = .bytes s ∧ P s = true) X (Nat.eq_of_beq_eq_true (Bool.and_eq_true_iff.mp h).1) (fun s h => ⟨s, rfl, h⟩) h
theorem cBytes_e {M : Const → Prop} {P : List UInt8 → Bool} {X : Const} (h : cBytes P X = true) (kk : ∀ s, P s = true → M (.bytes s)) : M X :=
  Const.bytes.elim (motive := fun X => cBytes P X = true → M X) X (Nat.eq_of_beq_eq_true (Bool.and_eq_true_iff.mp h).1) (fun s h => kk s h) h
noncomputable def cNone (X : Const) : Bool := Nat.beq X.ctorIdx 0
theorem cNone_ok {X : Const} (h : cNone X = true) : X = .none := Const.none.elim (motive := fun X => X = .none) X (Nat.eq_of_beq_eq_true h) rfl
noncomputable def oSome {α : Type} (P : α → Bool) : Option α → Bool
  | some a => P a
  | none => false
theorem oSome_ok {α : Type} {P : α → Bool} {o : Option α} (h : oSome P o = true) : ∃ a, o = some a ∧ P a = true := by
  cases o with
  | none => cases h
  | some a => exact ⟨a, rfl, h⟩
theorem oNone_ok {α : Type} {o : Option α} (h : o.isNone = true) : o = none := by
  cases o with
  | none => rfl
  | some a => cases h
noncomputable def p1 {α : Type} (P : α → Bool) : List α → Bool
  | [a] => P a
  | _ => false
theorem p1_ok {α : Type} {P : α → Bool} {l : List α} (h : p1 P l = true) : ∃ a, l = [a] ∧ P a = true := by
  cases l with
  | nil => cases h
  | cons a r => cases r with
    | nil => exact ⟨a, rfl, h⟩
    | cons b r => cases h
noncomputable def p2 {α : Type} (P Q : α → Bool) : List α → Bool
  | [a, b] => P a && Q b
  | _ => false
theorem p2_ok {α : Type} {P Q : α → Bool} {l : List α} (h : p2 P Q l = true) : ∃ a b, l = [a, b] ∧ P a = true ∧ Q b = true := by
  cases l with
  | nil => cases h
  | cons a r => cases r with
    | nil => cases h
    | cons b r => cases r with
      | nil => exact ⟨a, b, rfl, Bool.and_eq_true_iff.mp h⟩
      | cons c r => cases h
noncomputable def p2j {α : Type} (P : α → α → Bool) : List α → Bool
  | [a, b] => P a b
  | _ => false
theorem p2j_ok {α : Type} {P : α → α → Bool} {l : List α} (h : p2j P l = true) : ∃ a b, l = [a, b] ∧ P a b = true := by
  cases l with
  | nil => cases h
  | cons a r => cases r with
    | nil => cases h
    | cons b r => cases r with
      | nil => exact ⟨a, b, rfl, h⟩
      | cons c r => cases h
theorem and2 {a b : Bool} (h : (a && b) = true) : a = true ∧ b = true := Bool.and_eq_true_iff.mp h
theorem and3 {a b c : Bool} (h : (a && b && c) = true) : a = true ∧ b = true ∧ c = true := ⟨(and2 (and2 h).1).1, (and2 (and2 h).1).2, (and2 h).2⟩
theorem and4 {a b c d : Bool} (h : (a && b && c && d) = true) : a = true ∧ b = true ∧ c = true ∧ d = true := ⟨(and3 (and2 h).1).1, (and3 (and2 h).1).2.1, (and3 (and2 h).1).2.2, (and2 h).2⟩
theorem and6 {a b c d e f : Bool} (h : (a && b && c && d && e && f) = true) : a = true ∧ b = true ∧ c = true ∧ d = true ∧ e = true ∧ f = true := ⟨(and4 (and2 (and2 h).1).1).1, (and4 (and2 (and2 h).1).1).2.1, (and4 (and2 (and2 h).1).1).2.2.1, (and4 (and2 (and2 h).1).1).2.2.2, (and2 (and2 h).1).2, (and2 h).2⟩
theorem bind_ok {α β : Type} {o : Option α} {f : α → Option β} {r : β} (h : o.bind f = some r) : ∃ a, o = some a ∧ f a = some r := Option.bind_eq_some_iff.mp h
theorem cNone_e {M : Const → Prop} {X : Const} (h : cNone X = true) (k : M .none) : M X := (cNone_ok h) ▸ k
theorem oSome_e {α : Type} {M : Option α → Prop} {P : α → Bool} {o : Option α} (h : oSome P o = true) (k : ∀ a, P a = true → M (some a)) : M o := by
  cases o with
  | none => cases h
  | some a => exact k a h
theorem oNone_e {α : Type} {M : Option α → Prop} {o : Option α} (h : o.isNone = true) (k : M none) : M o := (oNone_ok h) ▸ k
theorem p1_e {α : Type} {M : List α → Prop} {P : α → Bool} {l : List α} (h : p1 P l = true) (k : ∀ a, P a = true → M [a]) : M l := let ⟨a, q, z⟩ := p1_ok h; q ▸ k a z
theorem p2j_e {α : Type} {M : List α → Prop} {P : α → α → Bool} {l : List α} (h : p2j P l = true) (k : ∀ a b, P a b = true → M [a, b]) : M l := let ⟨a, b, q, z⟩ := p2j_ok h; q ▸ k a b z
theorem beq_e {α : Type} [BEq α] [LawfulBEq α] {M : α → Prop} {a b : α} (h : (a == b) = true) (k : M b) : M a := (eq_of_beq h) ▸ k
theorem dec_e {α : Type} {M : α → Prop} {a b : α} [Decidable (a = b)] (h : decide (a = b) = true) (k : M b) : M a := (of_decide_eq_true h) ▸ k
theorem bind_e {α β γ : Type} {Q : Prop} {o : Option (α × β)} {f : α × β → Option γ} {r : γ} (h : o.bind f = some r) (k : ∀ a b, o = some (a, b) → f (a, b) = some r → Q) : Q := let ⟨(a, b), e, z⟩ := Option.bind_eq_some_iff.mp h; k a b e z
theorem bind3_e {α β δ γ : Type} {Q : Prop} {o : Option (α × β × δ)} {f : α × β × δ → Option γ} {r : γ} (h : o.bind f = some r) (k : ∀ a b c, o = some (a, b, c) → f (a, b, c) = some r → Q) : Q := let ⟨(a, b, c), e, z⟩ := Option.bind_eq_some_iff.mp h; k a b c e z
theorem obind_e {α γ : Type} {Q : Prop} {o : Option α} {f : α → Option γ} {r : γ} (h : o.bind f = some r) (k : ∀ a, o = some a → f a = some r → Q) : Q := let ⟨a, e, z⟩ := Option.bind_eq_some_iff.mp h; k a e z
theorem map_e {α β γ : Type} {Q : Prop} {o : Option (α × β)} {f : α × β → γ} {r : γ} (h : o.map f = some r) (k : ∀ a b, o = some (a, b) → f (a, b) = r → Q) : Q := let ⟨(a, b), e, z⟩ := Option.map_eq_some_iff.mp h; k a b e z
theorem omap_e {α γ : Type} {Q : Prop} {o : Option α} {f : α → γ} {r : γ} (h : o.map f = some r) (k : ∀ a, o = some a → f a = r → Q) : Q := let ⟨a, e, z⟩ := Option.map_eq_some_iff.mp h; k a e z
theorem and2_e {a b : Bool} {Q : Prop} (h : (a && b) = true) (k : a = true → b = true → Q) : Q := k (and2 h).1 (and2 h).2
theorem and3_e {a b c : Bool} {Q : Prop} (h : (a && b && c) = true) (k : a = true → b = true → c = true → Q) : Q := k (and3 h).1 (and3 h).2.1 (and3 h).2.2
theorem and4_e {a b c d : Bool} {Q : Prop} (h : (a && b && c && d) = true) (k : a = true → b = true → c = true → d = true → Q) : Q := k (and4 h).1 (and4 h).2.1 (and4 h).2.2.1 (and4 h).2.2.2
theorem and6_e {a b c d e f : Bool} {Q : Prop} (h : (a && b && c && d && e && f) = true) (k : a = true → b = true → c = true → d = true → e = true → f = true → Q) : Q := k (and6 h).1 (and6 h).2.1 (and6 h).2.2.1 (and6 h).2.2.2.1 (and6 h).2.2.2.2.1 (and6 h).2.2.2.2.2
end Mine
end
section
namespace Mine

section
variable {cl : Caller} {l l1 l2 : Loc} {h h1 h2 h3 : VH} {e e1 e2 e3 : PE} {es : PEs} {s : PS} {ss A B : PSs} {v v1 v2 : VV} {vs : List VV} {n n2 c f g op x k : Nat} {b : Bool} {t : PT} {fl : VFl}

set_option tactic.hygienic false
theorem vE_fn : vE cl l (.fn g es) h = (match gfn g with | some f => (vEs cl l es h).bind fun (vs, h) => cl f vs h | none => none) := rfl
theorem vE_new : vE cl l (.new g es) h = (match ini g with
    | some f => (vEs cl l es h).bind fun (vs, h) => (cl f (.ref h.nxt :: vs) (h.newC g)).bind fun (r, h') => match r with
      | .none => some (.ref h.nxt, h')
      | _ => none
    | none => none) := rfl
noncomputable def kont (cl : Caller) (ss : PSs) (fl : VFl) (l : Loc) (h : VH) : Option (VFl × Loc × VH) := match fl with
  | .next => vSs cl ss l h
  | .ret v => some (.ret v, l, h)
theorem S_nil : vSs cl .nil l h = some (.next, l, h) := rfl
theorem S_cons {r : Option (VFl × Loc × VH)} (a : vS cl s l h = some (fl, l1, h1)) (d : kont cl ss fl l1 h1 = r) : vSs cl (.cons s ss) l h = r := by
  show (vS cl s l h).bind _ = _
  rw [a]
  exact d
theorem K_next {r : Option (VFl × Loc × VH)} (d : vSs cl ss l h = r) : kont cl ss .next l h = r := d
theorem K_ret : kont cl ss (.ret v) l h = some (.ret v, l, h) := rfl
theorem X_asg (a : vE cl l e h = some (v, h1)) (d : vAsg cl l v t h1 = some (l2, h2)) : vS cl (.asg t e) l h = some (.next, l2, h2) := by
  show (vE cl l e h).bind _ = _
  rw [a]
  show (vAsg cl l v t h1).map _ = _
  rw [d]
  rfl
theorem Az_nil : vAsgs cl ([].zip []) l h = some (l, h) := rfl
theorem Az_cons {r : Option (Loc × VH)} {ts : List PT} (a : vAsg cl l v t h = some (l1, h1)) (d : vAsgs cl (ts.zip vs) l1 h1 = r) : vAsgs cl ((t :: ts).zip (v :: vs)) l h = r := by
  show vAsgs cl ((t, v) :: ts.zip vs) l h = r
  show (vAsg cl l v t h).bind _ = _
  rw [a]
  exact d
theorem X_aug {y z : Int} (a : vE cl l e h = some (.ref n, h1)) (c1 : h1.cls n = some c) (o : h1.fld n f = some (.int y)) (d : vE cl l e1 h1 = some (.int z, h2)) (hf : Nat.blt f 64 = true) (c2 : h2.cls n = some c) : vS cl (.augA e f 0 e1) l h = some (.next, l, h2.setF n f (.int (y + z))) := by
  show (vE cl l e h).bind _ = _
  simp only [a, Option.bind_some, c1, o, d, Nat.blt_eq.mp hf, c2, Option.isSome_some, and_self, if_true]
noncomputable def vIf (cl : Caller) (b : Bool) (A B : PSs) (l : Loc) (h : VH) : Option (VFl × Loc × VH) := vSs cl (cond b A B) l h
theorem If_t {r : Option (VFl × Loc × VH)} (d : vSs cl A l h = r) : vIf cl true A B l h = r := d
theorem If_f {r : Option (VFl × Loc × VH)} (d : vSs cl B l h = r) : vIf cl false A B l h = r := d
theorem X_if {r : Option (VFl × Loc × VH)} (a : vE cl l e h = some (.bool b, h1)) (d : vIf cl b A B l h1 = r) : vS cl (.ifs e A B) l h = r := by
  show (vE cl l e h).bind _ = _
  rw [a]
  cases b <;> exact d
theorem X_ret (a : vE cl l e h = some (v, h1)) : vS cl (.ret e) l h = some (.ret v, l, h1) := by
  show (vE cl l e h).map _ = _
  rw [a]
  rfl
theorem X_expr (a : vE cl l e h = some (v, h1)) : vS cl (.expr e) l h = some (.next, l, h1) := by
  show (vE cl l e h).map _ = _
  rw [a]
  rfl
theorem A_name : vAsg cl l v (.name x) h = some (upd l x (some v), h) := rfl
theorem A_attr (a : vE cl l e h = some (.ref n, h1)) (c1 : h1.cls n = some c) (hf : Nat.blt f 64 = true) : vAsg cl l v (.attr e f) h = some (l, h1.setF n f v) := by
  show (vE cl l e h).bind _ = _
  simp only [a, Option.bind_some, c1, Nat.blt_eq.mp hf, if_true]
theorem A_subX {w : List (Nat × VV)} (a : vE cl l e h = some (.ref n, h1)) (d : vE cl l e1 h1 = some (.str k, h2)) (o : h2.sd n = some w) (len : w.length < 1000) : vAsg cl l v (.sub e e1) h = some (l, h2.setS n (put k v w)) := by
  show (vE cl l e h).bind _ = _
  simp only [a, Option.bind_some, d, o, len, if_true]
theorem A_subS {w : List (Nat × VV)} (a : vE cl l e h = some (.ref n, h1)) (o : h1.sd n = some w) (len : w.length < 1000) : vAsg cl l v (.sub e (.str k)) h = some (l, h1.setS n (put k v w)) := A_subX a rfl o len
theorem Es_nil : vEs cl l .nil h = some ([], h) := rfl
theorem Es_cons (a : vE cl l e h = some (v, h1)) (d : vEs cl l es h1 = some (vs, h2)) : vEs cl l (.cons e es) h = some (v :: vs, h2) := by
  show (vE cl l e h).bind _ = _
  simp only [a, d, Option.bind_some, Option.map_some]
theorem E_none : vE cl l .none h = some (.none, h) := rfl
theorem E_bool : vE cl l (.bool b) h = some (.bool b, h) := rfl
theorem E_int {i : Int} : vE cl l (.int i) h = some (.int i, h) := rfl
theorem E_str : vE cl l (.str x) h = some (.str x, h) := rfl
theorem E_bytes {bs : List Int} : vE cl l (.bytes bs) h = some (.bytes bs, h) := rfl
theorem A_subX' {w : List VV} {i : Int} (a : vE cl l e h = some (.ref n, h1)) (d : vE cl l e1 h1 = some (.int i, h2)) (o : h2.lst n = some w) (z : 0 ≤ i ∧ i < w.length ∧ i < 1000) : vAsg cl l v (.sub e e1) h = some (l, h2.setL n (w.set i.toNat v)) := by
  show (vE cl l e h).bind _ = _
  simp only [a, Option.bind_some, d, o, if_pos z]
theorem A_subL {w : List VV} {i : Int} (a : vE cl l e h = some (.ref n, h1)) (o : h1.lst n = some w) (z : 0 ≤ i ∧ i < w.length ∧ i < 1000) : vAsg cl l v (.sub e (.int i)) h = some (l, h1.setL n (w.set i.toNat v)) := A_subX' a E_int o z
theorem A_subI {w : List (Int × VV)} {k : Int} (a : vE cl l e h = some (.ref n, h1)) (d : vE cl l e1 h1 = some (.int k, h2)) (o1 : h2.lst n = none) (o : h2.ic n = some w) (len : w.length < 1000) : vAsg cl l v (.sub e e1) h = some (l, h2.setI n (put k v w)) := by
  show (vE cl l e h).bind _ = _
  simp only [a, Option.bind_some, d, o1, o, len, if_true]
theorem E_loc (a : l x = some v) : vE cl l (.loc x) h = some (v, h) := by
  show (l x).map _ = _
  rw [a]
  rfl
theorem E_glb (a : gval x = some v) : vE cl l (.glb x) h = some (v, h) := by
  show (gval x).map _ = _
  rw [a]
  rfl
theorem E_attr (a : vE cl l e h = some (.ref n, h1)) (c1 : h1.cls n = some c) (d : h1.fld n f = some v) : vE cl l (.attr e f) h = some (v, h1) := by
  show (vE cl l e h).bind _ = _
  simp only [a, Option.bind_some, c1, d, Option.map_some]
theorem E_fn {r : Option (VV × VH)} (o : gfn g = some f) (a : vEs cl l es h = some (vs, h1)) (d : cl f vs h1 = r) : vE cl l (.fn g es) h = r := by
  rw [vE_fn, o]
  simp only [a, Option.bind_some, d]
theorem E_new (o : ini g = some f) (a : vEs cl l es h = some (vs, h1)) (d : cl f (.ref h1.nxt :: vs) (h1.newC g) = some (.none, h2)) : vE cl l (.new g es) h = some (.ref h1.nxt, h2) := by
  rw [vE_new, o]
  simp only [a, Option.bind_some, d]
theorem E_meth {r : Option (VV × VH)} (a : vE cl l e h = some (.ref n, h1)) (c1 : h1.cls n = some c) (o : mtb c g = some f) (a2 : vEs cl l es h1 = some (vs, h2)) (d : cl f (.ref n :: vs) h2 = r) : vE cl l (.meth e g es) h = r := by
  show (vE cl l e h).bind _ = _
  simp only [a, c1, o, a2, Option.bind_some, d]
theorem E_bm {r : Option (VV × VH)} (a : vE cl l e h = some (.ref n, h1)) (o : bmOk g n h1 = true) (a2 : vEs cl l es h1 = some (vs, h2)) (d : vBm g n vs h2 = r) : vE cl l (.bm e g es) h = r := by
  show (vE cl l e h).bind _ = _
  simp only [a, o, a2, Option.bind_some, d, if_true]
theorem E_bf {r : Option (VV × VH)} (a : vEs cl l es h = some (vs, h1)) (d : vBf g vs h1 = r) : vE cl l (.bf g es) h = r := by
  show (vEs cl l es h).bind _ = _
  rw [a]
  exact d
theorem E_bin {r : Option (VV × VH)} (a : vE cl l e h = some (v, h1)) (a2 : vE cl l e1 h1 = some (v1, h2)) (d : vBin op v v1 h2 = r) : vE cl l (.bin op e e1) h = r := by
  show (vE cl l e h).bind _ = _
  simp only [a, a2, Option.bind_some, d]
theorem E_cmp (a : vE cl l e h = some (v, h1)) (a2 : vE cl l e1 h1 = some (v1, h2)) (d : vCmp op v v1 h2 = some b) : vE cl l (.cmp op e e1) h = some (.bool b, h2) := by
  show (vE cl l e h).bind _ = _
  simp only [a, a2, Option.bind_some, d, Option.map_some]
theorem E_and (a : vAnd cl l true es h = some (b, h1)) : vE cl l (.and es) h = some (.bool b, h1) := by
  show (vAnd cl l true es h).map _ = _
  rw [a]
  rfl
theorem E_or (a : vAnd cl l false es h = some (b, h1)) : vE cl l (.or es) h = some (.bool b, h1) := by
  show (vAnd cl l false es h).map _ = _
  rw [a]
  rfl
theorem E_not {b2 : Bool} (a : vE cl l e h = some (.bool b, h1)) (q : (!b) = b2) : vE cl l (.not e) h = some (.bool b2, h1) := by
  subst q
  show (vE cl l e h).bind _ = _
  rw [a]
  rfl
noncomputable def vIe (cl : Caller) (l : Loc) (b : Bool) (e1 e2 : PE) (h : VH) : Option (VV × VH) := vE cl l (cond b e1 e2) h
theorem Ie_t {r : Option (VV × VH)} (d : vE cl l e1 h = r) : vIe cl l true e1 e2 h = r := d
theorem Ie_f {r : Option (VV × VH)} (d : vE cl l e2 h = r) : vIe cl l false e1 e2 h = r := d
theorem E_ife {r : Option (VV × VH)} (a : vE cl l e h = some (.bool b, h1)) (d : vIe cl l b e1 e2 h1 = r) : vE cl l (.ife e e1 e2) h = r := by
  show (vE cl l e h).bind _ = _
  rw [a]
  cases b <;> exact d
theorem E_tup (a : vEs cl l es h = some (vs, h1)) : vE cl l (.tup es) h = some (.ref h1.nxt, h1.newT vs) := by
  show (vEs cl l es h).bind _ = _
  rw [a]
  rfl
theorem E_list (a : vEs cl l es h = some (vs, h1)) : vE cl l (.list es) h = some (.ref h1.nxt, h1.newL vs) := by
  show (vEs cl l es h).bind _ = _
  rw [a]
  rfl
theorem E_sdict {ks : List Nat} (a : vEs cl l es h = some (vs, h1)) (d : (ks.length = vs.length ∧ nodupN ks)) : vE cl l (.sdict ks es) h = some (.ref h1.nxt, h1.newS (ks.zip vs)) := by
  show (vEs cl l es h).bind _ = _
  simp only [a, Option.bind_some, if_pos d]
theorem E_idict {i : Int} (a : vE cl l e h = some (v, h1)) : vE cl l (.idict [i] (.cons e .nil)) h = some (.ref h1.nxt, h1.newI [(i, v)]) := by
  show (vEs cl l (.cons e .nil) h).bind _ = _
  rw [Es_cons a Es_nil]
  rfl
theorem E_sub (a : vE cl l e h = some (.ref n, h1)) (a2 : vE cl l e1 h1 = some (v1, h2)) (d : vSub n v1 h2 = some v) : vE cl l (.sub e e1) h = some (v, h2) := by
  show (vE cl l e h).bind _ = _
  simp only [a, a2, Option.bind_some, d, Option.map_some]
noncomputable def vkont (cl : Caller) (l : Loc) (go b : Bool) (es : PEs) (h : VH) : Option (Bool × VH) := if b = go then vAnd cl l go es h else some (b, h)
theorem V_one {go : Bool} (a : vE cl l e h = some (.bool b, h1)) : vAnd cl l go (.cons e .nil) h = some (b, h1) := by
  show (vE cl l e h).bind _ = _
  rw [a]
  rfl
theorem V_cons {go : Bool} {r : Option (Bool × VH)} (a : vE cl l e h = some (.bool b, h1)) (d : vkont cl l go b (.cons e1 es) h1 = r) : vAnd cl l go (.cons e (.cons e1 es)) h = r := by
  show (vE cl l e h).bind _ = _
  rw [a]
  exact d
theorem Vk_gt {r : Option (Bool × VH)} (d : vAnd cl l true es h = r) : vkont cl l true true es h = r := d
theorem Vk_gf {r : Option (Bool × VH)} (d : vAnd cl l false es h = r) : vkont cl l false false es h = r := d
theorem Vk_st : vkont cl l true false es h = some (false, h) := rfl
theorem Vk_sf : vkont cl l false true es h = some (true, h) := rfl
theorem X_forL {r : Option (VFl × Loc × VH)} (a : vE cl l e h = some (.ref n, h1)) (o : h1.lst n = some vs) (d : loopV (vSs cl A) (fun h' => h'.ver n == h1.ver n) x vs l h1 = r) : vS cl (.forL x e A) l h = r := by
  show (vE cl l e h).bind _ = _
  simp only [a, Option.bind_some, o, d]
theorem X_forD {w : List (Int × VV)} {r : Option (VFl × Loc × VH)} (a : vE cl l e h = some (.ref n, h1)) (o : h1.ic n = some w) (d : loopV (vSs cl A) (fun h' => h'.ver n == h1.ver n) x (w.map fun e => .int e.1) l h1 = r) : vS cl (.forD x e A) l h = r := by
  show (vE cl l e h).bind _ = _
  simp only [a, Option.bind_some, o, d]
theorem X_forR {i j : Int} {r : Option (VFl × Loc × VH)} (a : vE cl l e h = some (.int i, h1)) (a2 : vE cl l e1 h1 = some (.int j, h2)) (q : -1000 ≤ i ∧ i ≤ 1000 ∧ -1000 ≤ j ∧ j ≤ 1000 ∧ j - i ≤ 64) (d : loopV (vSs cl A) (fun _ => true) x ((List.range (j - i).toNat).map fun k : Nat => .int (i + (k : Int))) l h2 = r) : vS cl (.forR x e e1 A) l h = r := by
  show (vE cl l e h).bind _ = _
  simp only [a, a2, Option.bind_some, if_pos q, d]
theorem X_for0 {j : Int} {r : Option (VFl × Loc × VH)} (a : vE cl l e h = some (.none, h1)) (a2 : vE cl l e1 h1 = some (.int j, h2)) (q : 0 ≤ j ∧ j ≤ 64) (d : loopV (vSs cl A) (fun _ => true) x ((List.range j.toNat).map fun k : Nat => .int (k : Int)) l h2 = r) : vS cl (.forR x e e1 A) l h = r := by
  show (vE cl l e h).bind _ = _
  simp only [a, a2, Option.bind_some, if_pos q, d]
theorem loop_next {f : Loc → VH → Option (VFl × Loc × VH)} {chk : VH → Bool} {r : Option (VFl × Loc × VH)} (a : f (upd l x (some v)) h = some (.next, l1, h1)) (c : chk h1 = true) (d : loopV f chk x vs l1 h1 = r) : loopV f chk x (v :: vs) l h = r := by
  show (f (upd l x (some v)) h).bind _ = _
  simp only [a, Option.bind_some, c, if_true, d]
theorem loop_ret {f : Loc → VH → Option (VFl × Loc × VH)} {chk : VH → Bool} (a : f (upd l x (some v)) h = some (.ret v1, l1, h1)) : loopV f chk x (v :: vs) l h = some (.ret v1, l1, h1) := by
  show (f (upd l x (some v)) h).bind _ = _
  rw [a]
  rfl
end
end Mine
end
section
namespace Mine
open PySem PySem.W PyProof.Rows PySem.Calls PySem.SeqAt

noncomputable def DensL (S : SE) (x : FX) (l : Loc) : List Expr → VH → List VV → VH → Prop
  | [], h, vs, h' => vs = [] ∧ h' = h
  | X :: Xs, h, vs, h' => ∃ v vs' h1, vs = v :: vs' ∧ plainX X = true ∧ Den S x l (eval X x.env) h v h1 ∧ DensL S x l Xs h1 vs' h'

noncomputable def mKeys : List Nat → List (Option Expr) → Bool
  | [], [] => true
  | k :: ks, X :: r => oSome (dConst (cStr fun n => decide (k < 176) && n == nm k)) X && mKeys ks r
  | _, _ => false

section
variable {S : SE} {x : FX} {d : Nat} {l : Loc} {h h1 h2 h3 : VH}

set_option tactic.hygienic false
theorem DensL.toX : ∀ {Xs : List Expr} {h : VH} {vs : List VV} {h' : VH}, DensL S x l Xs h vs h' → DensX S x l Xs h vs h' ∧ Xs.all plainX = true
  | [], _, _, _, ⟨e, e'⟩ => by subst e; subst e'; exact ⟨dens_nil, rfl⟩
  | X :: Xs, _, _, _, ⟨v, vs', h1, e, p, D, Ds⟩ => by
    subst e
    have z := DensL.toX Ds
    exact ⟨dens_cons p D z.1, by rw [List.all_cons, p, z.2]; rfl⟩

theorem updF_mid {dd : Addr} {o : Obj} : ∀ {pre post : Led}, (∀ p ∈ pre, p.1 ≠ dd) → (∀ p ∈ post, p.1 ≠ dd) → UpdF dd o (pre ++ (dd, o) :: post) (fun o' => pre ++ (dd, o') :: post)
  | [], _, _, h => .head h
  | p :: pre, post, h, h' => .tail (g := fun o' => pre ++ (dd, o') :: post) (h p (.head _)) (updF_mid (fun q hq => h q (.tail _ hq)) h')
theorem nod_mid {led ex : Led} {a : Addr} {o o' : Obj} (nod : ((led ++ (a, o) :: ex).map (·.1)).Nodup) : ((((a, o') :: led) ++ ex).map (·.1)).Nodup ∧ (∀ p ∈ led, p.1 ≠ a) ∧ ∀ p ∈ ex, p.1 ≠ a := by
  have e : (led ++ (a, o) :: ex).map (·.1) = led.map (·.1) ++ a :: ex.map (·.1) := by simp
  have e2 : (((a, o') :: led) ++ ex).map (·.1) = a :: (led.map (·.1) ++ ex.map (·.1)) := by simp
  rw [e] at nod
  have nod' : (a :: (led.map (·.1) ++ ex.map (·.1))).Nodup := List.perm_middle.nodup_iff.mp nod
  refine ⟨by rw [e2]; exact nod', fun p hp q => ?_, fun p hp q => ?_⟩
  · exact (List.nodup_cons.mp nod').1 (List.mem_append_left _ (List.mem_map.mpr ⟨p, hp, q⟩))
  · exact (List.nodup_cons.mp nod').1 (List.mem_append_right _ (List.mem_map.mpr ⟨p, hp, q⟩))
theorem nod_mid' {led ex : Led} {a : Addr} {o o' : Obj} (nod : ((((a, o') :: led) ++ ex).map (·.1)).Nodup) : ((led ++ (a, o) :: ex).map (·.1)).Nodup := by
  have e : (led ++ (a, o) :: ex).map (·.1) = led.map (·.1) ++ a :: ex.map (·.1) := by simp
  have e2 : (((a, o') :: led) ++ ex).map (·.1) = a :: (led.map (·.1) ++ ex.map (·.1)) := by simp
  rw [e]
  rw [e2] at nod
  exact List.perm_middle.nodup_iff.mpr nod
theorem news_mid {h₀ hp : Heap} {L : Addr} {led ex : Led} {p : Addr × Obj} (N : News h₀ L hp ((p :: led) ++ ex)) : News h₀ L hp (led ++ p :: ex) := fun q hq => N q (by
  rcases List.mem_append.mp hq with hq | hq
  · exact .tail _ (List.mem_append_left _ hq)
  · rcases List.mem_cons.mp hq with rfl | hq
    · exact .head _
    · exact .tail _ (List.mem_append_right _ hq))
theorem news_mid' {h₀ hp : Heap} {L : Addr} {led ex : Led} {p : Addr × Obj} (N : News h₀ L hp (led ++ p :: ex)) : News h₀ L hp ((p :: led) ++ ex) := fun q hq => N q (by
  rcases List.mem_append.mp hq with hq | hq
  · rcases List.mem_cons.mp hq with rfl | hq
    · exact List.mem_append_right _ (.head _)
    · exact List.mem_append_left _ hq
  · exact List.mem_append_right _ (.tail _ hq))
theorem St.aside {hp : Heap} {ρ : Rho} {led ex : Led} {m : Str → Option Value} {h' : Heap} {p : Addr × Obj} (st : St S x hp ρ led ex l h) (LL : LR ρ l m) (F' : Fr x.h₀ x.L h' m) (N' : News x.h₀ x.L h' (p :: (led ++ ex))) (lt : ∀ q ∈ led ++ ex, q.1 < p.1) :
    St S x h' ρ led (p :: ex) l h :=
  ⟨⟨m, F', LL⟩, news_mid (led := led) N', nod_mid' (o' := p.2) (nod_cons st.nod lt), st.hr⟩

theorem mKeys_cons {k : Nat} {ks : List Nat} {X : Option Expr} {r : List (Option Expr)} (e : mKeys (k :: ks) (X :: r) = true) : k < 176 ∧ (∃ a b, X = some (.Constant (.str (nm k)) a b)) ∧ mKeys ks r = true := by
  obtain ⟨e1, e2⟩ := Bool.and_eq_true_iff.mp (show (oSome (dConst (cStr fun n => decide (k < 176) && n == nm k)) X && mKeys ks r) = true from e)
  obtain ⟨X, rfl, e1⟩ := oSome_ok e1
  obtain ⟨c, a, b, rfl, e1⟩ := dConst_ok e1
  obtain ⟨n, rfl, e1⟩ := cStr_ok e1
  obtain ⟨hk, e1⟩ := Bool.and_eq_true_iff.mp e1
  obtain rfl := eq_of_beq e1
  exact ⟨of_decide_eq_true hk, ⟨a, b, rfl⟩, e2⟩
theorem mKeys_nm : ∀ {ks : List Nat} {keys : List (Option Expr)}, mKeys ks keys = true → (∀ k ∈ ks, k < 176) ∧ keys.length = ks.length ∧ keys.all (·.isSome) = true
  | [], [], _ => ⟨fun k h => (nomatch h), rfl, rfl⟩
  | k :: ks, X :: r, e => by
    obtain ⟨hk, ⟨a, b, rfl⟩, e2⟩ := mKeys_cons e
    have z := mKeys_nm e2
    refine ⟨fun j hj => ?_, congrArg (· + 1) z.2.1, z.2.2⟩
    rcases List.mem_cons.mp hj with rfl | hj
    · exact hk
    · exact z.1 j hj
  | [], _ :: _, e => nomatch (show false = true from e)
  | _ :: _, [], e => nomatch (show false = true from e)

theorem pairs_rule {pos : Pos} : ∀ {ks : List Nat} {keys : List (Option Expr)} {Xs : List Expr} {vs : List VV} {h h' : VH} {s : Shared} {ρ : Rho} {led ex : Led} {Q : List (Value × Value) → Shared → Prop}, mKeys ks keys = true → DensL S x l Xs h vs h' → ks.length = vs.length →
    St S x s.heap ρ led ex l h →
    (∀ ps ρ' led' hp tk, St S x hp ρ' led' ex l h' → Ext ρ ρ' led led' h h' → allStrKeys ps = true → SRel ρ' (ks.zip vs) (strPairs ps) → (strPairs ps).map (·.1) = ks.map nm → Q ps { s with heap := hp, toks := tk }) →
    wpAny S.M x.A (evalPairs (pairTrees keys Xs x.env pos)) Q FF s
  | [], keys, Xs, vs, h, h', s, ρ, led, ex, Q, mk, D, hl, st, k => by
    cases vs with
    | cons v vs => simp at hl
    | nil =>
      cases keys with
      | cons a r => cases (show false = true from mk)
      | nil =>
        cases Xs with
        | cons X Xs => obtain ⟨v, vs', h1, e, _⟩ := D; cases e
        | nil =>
          obtain ⟨_, rfl⟩ := D
          exact evalPairs_nil (k [] ρ led s.heap s.toks st .refl rfl rfl rfl)
  | i :: ks, keys, Xs, vs, h, h', s, ρ, led, ex, Q, mk, D, hl, st, k => by
    cases vs with
    | nil => simp at hl
    | cons v vs =>
      cases Xs with
      | nil => obtain ⟨e, _⟩ := D; cases e
      | cons X Xs =>
        obtain ⟨v', vs', h1, e, px, D1, Ds⟩ := D
        cases e
        cases keys with
        | nil => cases (show false = true from mk)
        | cons key keys =>
          obtain ⟨hi, ⟨ka, kb, rfl⟩, mk2⟩ := mKeys_cons mk
          refine pairTrees_cons_walk (Constant_str ?_)
          refine D1 { s with toks := s.toks + 1 } ρ led ex _ st fun u ρ' led' hp tk st' ext vr => ?_
          refine pairs_rule mk2 Ds (by simpa using hl) st' fun ps ρ₂ led₂ hp₂ tk₂ st₂ ext₂ a1 a2 a3 => ?_
          exact k _ ρ₂ led₂ hp₂ tk₂ st₂ (ext.trans ext₂) a1 ⟨hi, u, _, rfl, vr.ext ext₂, a2⟩ (by show _ :: _ = _ :: _; rw [a3])

theorem nm_nod {ks : List Nat} (hk : ∀ k ∈ ks, k < 176) (n : nodupN ks = true) : (ks.map nm).Nodup := by
  induction ks with
  | nil => exact List.nodup_nil
  | cons k ks ih =>
    simp only [nodupN, Bool.and_eq_true, Bool.not_eq_true', List.contains_eq_mem, decide_eq_false_iff_not] at n
    rw [List.map_cons, List.nodup_cons]
    refine ⟨fun q => ?_, ih (fun j hj => hk j (.tail _ hj)) n.2⟩
    obtain ⟨j, hj, e⟩ := List.mem_map.mp q
    exact n.1 (nm_inj' (hk j (.tail _ hj)) (hk k (.head _)) e ▸ hj)

theorem den_sdict0 (ok : x.Ok S d) {pos : Pos} : Den S x l (eval (.Dict [] [] pos) x.env) h (.ref h.nxt) (h.newS []) := fun s ρ led ex Q st k => by
  obtain ⟨m, F, LL⟩ := st.fr
  refine newDict_K (prog := S.prog) (w := S.w) F st.news ok.T.nolimit fun dd h' o F' N' lt lo hd _ _ _ => ?_
  have off : ∀ q ∈ led, q.1 ≠ dd := fun q hq => Nat.ne_of_lt (lt q (List.mem_append_left _ hq))
  exact k _ _ _ h' s.toks ⟨⟨m, F', LL.app _⟩, N', nod_cons st.nod lt, st.hr.newS off hd (es := []) rfl lo (by simp)⟩ Ext.newS (vr_new st.hr.len)

theorem den_sdict (ok : x.Ok S d) {ks : List Nat} {keys : List (Option Expr)} {Xs : List Expr} {vs : List VV} {pos : Pos} (mk : mKeys ks keys = true) (nk : nodupN ks = true) (hne : ks ≠ []) (hle : ks.length ≤ 15) (Ds : DensL S x l Xs h vs h1) (hl : ks.length = vs.length)
    (hX : Xs.length = vs.length) : Den S x l (eval (.Dict keys Xs pos) x.env) h (.ref h1.nxt) (h1.newS (ks.zip vs)) := fun s ρ led ex Q st k => by
  obtain ⟨m, F, LL⟩ := st.fr
  have mm := mKeys_nm mk
  refine kdn_eval (knd := PySem.strKind S.prog S.w) F st.news ok.T.nolimit mm.2.2 (by rw [mm.2.1, hX, hl]) (fun e => hne (by have := mm.2.1; rw [e] at this; exact List.length_eq_zero_iff.mp this.symm)) (by rw [mm.2.1]; exact hle) fun dd h' o F' N' lt lo hd => ?_
  have st0 : St S x h' ρ led ((dd, o) :: ex) l h := st.aside LL F' N' lt
  refine pairs_rule (s := { s with heap := h' }) mk Ds hl st0 fun ps ρ₂ led₂ hp₂ tk₂ st₂ ext₂ a1 a2 a3 => ?_
  obtain ⟨m₂, F₂, LL₂⟩ := st₂.fr
  have nn := nod_mid (o' := o) st₂.nod
  refine kdn_made_str F₂ st₂.news (updF_mid nn.2.1 nn.2.2) hd a1 (by rw [a3]; exact nm_nod mm.1 nk) fun h₃ o' F₃ N₃ hd' => ?_
  refine k _ _ _ h₃ _ ⟨⟨m₂, F₃, LL₂.app _⟩, news_mid' N₃, (nod_mid st₂.nod).1, st₂.hr.newS nn.2.1 hd' a2 lo ?_⟩ (ext₂.trans Ext.newS) (vr_new st₂.hr.len)
  rw [List.length_zip]; omega

theorem den_idict (ok : x.Ok S d) {i : Int} {X : Expr} {v : VV} {kk : Nat} {p1 pos : Pos} (D : Den S x l (eval X x.env) h v h1) : Den S x l (eval (.Dict [some (.Constant (.int i) kk p1)] [X] pos) x.env) h (.ref h1.nxt) (h1.newI [(i, v)]) := fun s ρ led ex Q st k => by
  obtain ⟨m, F, LL⟩ := st.fr
  refine kdn_eval (knd := PySem.intKind S.prog S.w) F st.news ok.T.nolimit rfl rfl (by simp) (by simp) fun dd h' o F' N' lt lo hd => ?_
  have st0 : St S x h' ρ led ((dd, o) :: ex) l h := st.aside LL F' N' lt
  refine pairTrees_cons_walk (wpAny_Constant_int ?_)
  refine D { s with heap := h', toks := s.toks + 1 } ρ led _ _ st0 fun u ρ₂ led₂ hp₂ tk₂ st₂ ext₂ vr => evalPairs_nil ?_
  obtain ⟨m₂, F₂, LL₂⟩ := st₂.fr
  have nn := nod_mid (o' := o) st₂.nod
  refine kdn_made_int F₂ st₂.news (updF_mid nn.2.1 nn.2.2) hd rfl (by simp [intKeyPairs]) fun h₃ o' F₃ N₃ hd' => ?_
  exact k _ _ _ h₃ _ ⟨⟨m₂, F₃, LL₂.app _⟩, news_mid' N₃, (nod_mid st₂.nod).1, st₂.hr.newI nn.2.1 hd' (es := [(i, v)]) ⟨u, [], rfl, vr, rfl⟩ lo (by simp)⟩ (ext₂.trans Ext.newI) (vr_new st₂.hr.len)
end
end Mine
end
section
namespace Mine
open PySem PySem.W PyProof.Rows PySem.Calls PySem.SeqAt

set_option tactic.hygienic false
theorem updF_rep {a : Addr} {o : Obj} : ∀ {l : Led}, (a, o) ∈ l → (l.map (·.1)).Nodup → UpdF a o l (fun o' => rep a o' l)
  | p :: r, h, n => by
    rw [List.map_cons, List.nodup_cons] at n
    rcases List.mem_cons.mp h with e | h
    · subst e
      have off : ∀ p ∈ r, p.1 ≠ a := fun p hp e => n.1 (List.mem_map.mpr ⟨p, hp, e⟩)
      have : (fun o' => rep a o' ((a, o) :: r)) = fun o' => (a, o') :: r := by
        funext o'
        show (if a = a then (a, o') else (a, o)) :: rep a o' r = _
        rw [if_pos rfl, rep_off off]
      rw [this]
      exact .head off
    · have ne : p.1 ≠ a := fun e => n.1 (List.mem_map.mpr ⟨(a, o), h, e.symm⟩)
      have : (fun o' => rep a o' (p :: r)) = fun o' => p :: rep a o' r := by
        funext o'
        show (if p.1 = a then (a, o') else p) :: rep a o' r = _
        rw [if_neg ne]
      rw [this]
      exact .tail (g := fun o' => rep a o' r) ne (updF_rep h n.2)
theorem rep_both {a : Addr} {o o' : Obj} {led ex : Led} (h : (a, o) ∈ led) (nod : ((led ++ ex).map (·.1)).Nodup) : rep a o' (led ++ ex) = rep a o' led ++ ex := by
  rw [rep_app]
  congr 1
  refine rep_off fun p hp e => ?_
  rw [List.map_append, List.nodup_append] at nod
  exact nod.2.2 a (List.mem_map.mpr ⟨_, h, rfl⟩) p.1 (List.mem_map.mpr ⟨p, hp, rfl⟩) e.symm
theorem nod_rep {a : Addr} {o' : Obj} {led ex : Led} (nod : ((led ++ ex).map (·.1)).Nodup) : ((rep a o' led ++ ex).map (·.1)).Nodup := by
  rw [List.map_append, rep_fst, ← List.map_append]; exact nod

section
variable {S : SE} {x : FX} {d : Nat} {l : Loc} {h h1 h2 h3 : VH}

set_option tactic.hygienic false
theorem Ext.turn {ρ : Rho} {led : Led} {n : Nat} {A D : Addr} {o' : Obj} {h' : VH} (H : HR S ρ led h) (hr : ρ[n]? = some (A, D)) (hv : ∀ m, h'.ver m = if m = n then h.ver m + 1 else h.ver m) : Ext ρ ρ led (rep A o' led) h h' :=
  ⟨⟨[], by simp⟩, fun m => by rw [hv m]; split <;> omega, fun m a d o q hq hm => by
    have ne : m ≠ n := fun e => by rw [hv m, if_pos e] at hq; omega
    exact mem_rep_ne hm (H.inj m n _ _ q hr ne).1⟩
set_option tactic.hygienic true
theorem ver_upd (n m : Nat) (h : VH) : upd h.ver n (h.ver n + 1) m = if m = n then h.ver m + 1 else h.ver m := by
  unfold upd
  split
  · rename_i e; rw [e]
  · rfl
set_option tactic.hygienic false
theorem St.setL {hp h' : Heap} {ρ : Rho} {led ex : Led} {m : Str → Option Value} {n : Nat} {A D : Addr} {k k' : Nat} {its : Array Value} {vs : List VV} {xs : List Value} (st : St S x hp ρ led ex l h) (LL : LR ρ l m) (hr : ρ[n]? = some (A, D)) (ho : (A, W.listOf its k) ∈ led)
    (F' : Fr x.h₀ x.L h' m) (N' : News x.h₀ x.L h' (rep A (W.listOf xs.toArray k') (led ++ ex))) (r : VRs ρ vs xs) (hl : vs.length ≤ 1000) :
    St S x h' ρ (rep A (W.listOf xs.toArray k') led) ex l (h.setL n vs) ∧ Ext ρ ρ led (rep A (W.listOf xs.toArray k') led) h (h.setL n vs) :=
  ⟨⟨⟨m, F', LL⟩, by rw [← rep_both ho st.nod]; exact N', nod_rep st.nod, st.hr.setL st.nodl hr ho r hl⟩, Ext.turn st.hr hr fun m => ver_upd n m h⟩
theorem St.setS {hp h' : Heap} {ρ : Rho} {led ex : Led} {m : Str → Option Value} {n : Nat} {A D : Addr} {O o : Obj} {es : List (Nat × VV)} {kvs : List (Str × Value)} (st : St S x hp ρ led ex l h) (LL : LR ρ l m) (hr : ρ[n]? = some (A, D)) (ho : (A, O) ∈ led) (hc : O.cls = .type "dict")
    (F' : Fr x.h₀ x.L h' m) (N' : News x.h₀ x.L h' (rep A o (led ++ ex))) (hd : Obj.IsDictOf (PySem.strKind S.prog S.w) o kvs) (r : SRel ρ es kvs) (hs : (A == sysModules) = false) (hl : es.length ≤ 1000) (hx : h.ic n = none) :
    St S x h' ρ (rep A o led) ex l (h.setS n es) ∧ Ext ρ ρ led (rep A o led) h (h.setS n es) :=
  ⟨⟨⟨m, F', LL⟩, by rw [← rep_both ho st.nod]; exact N', nod_rep st.nod, st.hr.setS st.nodl hr ho hc hd r hs hl hx⟩, Ext.turn st.hr hr fun m => ver_upd n m h⟩
theorem St.setI {hp h' : Heap} {ρ : Rho} {led ex : Led} {m : Str → Option Value} {n : Nat} {A D : Addr} {O o : Obj} {es : List (Int × VV)} {kvs : List (Int × Value)} (st : St S x hp ρ led ex l h) (LL : LR ρ l m) (hr : ρ[n]? = some (A, D)) (ho : (A, O) ∈ led) (hc : O.cls = .type "dict")
    (F' : Fr x.h₀ x.L h' m) (N' : News x.h₀ x.L h' (rep A o (led ++ ex))) (hd : Obj.IsDictOf (intKind S.prog S.w) o kvs) (r : IRel ρ es kvs) (hs : (A == sysModules) = false) (hl : es.length ≤ 1000) (hx : h.sd n = none) :
    St S x h' ρ (rep A o led) ex l (h.setI n es) ∧ Ext ρ ρ led (rep A o led) h (h.setI n es) :=
  ⟨⟨⟨m, F', LL⟩, by rw [← rep_both ho st.nod]; exact N', nod_rep st.nod, st.hr.setI st.nodl hr ho hc hd r hs hl hx⟩, Ext.turn st.hr hr fun m => ver_upd n m h⟩
end

set_option tactic.hygienic false
theorem hasK_iff {α : Type} [DecidableEq α] {k : α} : ∀ {es : List (α × VV)}, hasK k es = es.any (fun p => decide (p.1 = k))
  | [] => rfl
  | (a, v) :: r => by
    rw [List.any_cons, ← hasK_iff]
    show (if a = k then true else hasK k r) = _
    by_cases e : a = k <;> simp [e]
theorem SRel.keys {ρ : Rho} : ∀ {es : List (Nat × VV)} {kvs : List (Str × Value)}, SRel ρ es kvs → kvs.map (·.1) = es.map (fun p => nm p.1) ∧ ∀ p ∈ es, p.1 < 176
  | [], _, q => by rw [show _ = _ from q]; exact ⟨rfl, by simp⟩
  | (i, v) :: es, _, ⟨hi, x, r, e, _, z⟩ => by
    subst e
    have ih := SRel.keys z
    refine ⟨by simp [ih.1], fun p hp => ?_⟩
    rcases List.mem_cons.mp hp with rfl | hp
    · exact hi
    · exact ih.2 p hp
theorem put_S {ρ : Rho} {k : Nat} {v : VV} {u : Value} (hk : k < 176) (vr : VR ρ v u) : ∀ {es : List (Nat × VV)} {kvs : List (Str × Value)}, SRel ρ es kvs → (kvs.map (·.1)).Nodup → SRel ρ (put k v es) (stored kvs (nm k) u)
  | [], _, q, _ => by rw [show _ = _ from q]; exact ⟨hk, u, [], by simp [stored], vr, rfl⟩
  | (i, w) :: es, _, ⟨hi, x, r, e, q, z⟩, n => by
    subst e
    rw [List.map_cons, List.nodup_cons] at n
    by_cases hik : i = k
    · subst hik
      have off : ∀ p ∈ r, p.1 ≠ nm i := fun p hp e => n.1 (List.mem_map.mpr ⟨p, hp, e⟩)
      have : stored ((nm i, x) :: r) (nm i) u = (nm i, u) :: r := by
        unfold stored
        rw [if_pos (by simp)]
        rw [List.map_cons, if_pos rfl]
        congr 1
        conv => rhs; rw [← List.map_id r]
        exact List.map_congr_left fun p hp => by rw [if_neg (off p hp)]; rfl
      rw [this]
      show SRel ρ (if i = i then _ else _) _
      rw [if_pos rfl]
      exact ⟨hi, u, r, rfl, vr, z⟩
    · have hne : nm i ≠ nm k := fun e => hik (nm_inj' hi hk e)
      have : stored ((nm i, x) :: r) (nm k) u = (nm i, x) :: stored r (nm k) u := by
        unfold stored
        rw [List.any_cons, decide_eq_false hne, Bool.false_or]
        split
        · rw [List.map_cons, if_neg hne]
        · rfl
      rw [this]
      show SRel ρ (if i = k then _ else _) _
      rw [if_neg hik]
      exact ⟨hi, x, _, rfl, q, put_S hk vr z n.2⟩
theorem put_I {ρ : Rho} {k : Int} {v : VV} {u : Value} (vr : VR ρ v u) : ∀ {es : List (Int × VV)} {kvs : List (Int × Value)}, IRel ρ es kvs → (kvs.map (·.1)).Nodup → IRel ρ (put k v es) (stored kvs k u)
  | [], _, q, _ => by rw [show _ = _ from q]; exact ⟨u, [], by simp [stored], vr, rfl⟩
  | (i, w) :: es, _, ⟨x, r, e, q, z⟩, n => by
    subst e
    rw [List.map_cons, List.nodup_cons] at n
    by_cases hik : i = k
    · subst hik
      have off : ∀ p ∈ r, p.1 ≠ i := fun p hp e => n.1 (List.mem_map.mpr ⟨p, hp, e⟩)
      have : stored ((i, x) :: r) i u = (i, u) :: r := by
        unfold stored
        rw [if_pos (by simp)]
        rw [List.map_cons, if_pos rfl]
        congr 1
        conv => rhs; rw [← List.map_id r]
        exact List.map_congr_left fun p hp => by rw [if_neg (off p hp)]; rfl
      rw [this]
      show IRel ρ (if i = i then _ else _) _
      rw [if_pos rfl]
      exact ⟨u, r, rfl, vr, z⟩
    · have : stored ((i, x) :: r) k u = (i, x) :: stored r k u := by
        unfold stored
        rw [List.any_cons, decide_eq_false hik, Bool.false_or]
        split
        · rw [List.map_cons, if_neg hik]
        · rfl
      rw [this]
      show IRel ρ (if i = k then _ else _) _
      rw [if_neg hik]
      exact ⟨x, _, rfl, q, put_I vr z n.2⟩
theorem drp_S {ρ : Rho} {k : Nat} (hk : k < 176) : ∀ {es : List (Nat × VV)} {kvs : List (Str × Value)}, SRel ρ es kvs → (kvs.map (·.1)).Nodup → SRel ρ (drp k es) (without kvs (nm k))
  | [], _, q, _ => by rw [show _ = _ from q]; exact rfl
  | (i, w) :: es, _, ⟨hi, x, r, e, q, z⟩, n => by
    subst e
    rw [List.map_cons, List.nodup_cons] at n
    show SRel ρ (if i = k then _ else _) (List.filter _ _)
    by_cases hik : i = k
    · subst hik
      rw [if_pos rfl, List.filter_cons_of_neg (by simp)]
      have : List.filter (fun kv : Str × Value => decide (kv.1 ≠ nm i)) r = r := List.filter_eq_self.mpr fun p hp => by
        simp only [ne_eq, decide_not, Bool.not_eq_true', decide_eq_false_iff_not]
        exact fun e => n.1 (List.mem_map.mpr ⟨p, hp, e⟩)
      rw [this]; exact z
    · have hne : nm i ≠ nm k := fun e => hik (nm_inj' hi hk e)
      rw [if_neg hik, List.filter_cons_of_pos (by simpa using hne)]
      exact ⟨hi, x, _, rfl, q, drp_S hk z n.2⟩
theorem drp_I {ρ : Rho} {k : Int} : ∀ {es : List (Int × VV)} {kvs : List (Int × Value)}, IRel ρ es kvs → (kvs.map (·.1)).Nodup → IRel ρ (drp k es) (without kvs k)
  | [], _, q, _ => by rw [show _ = _ from q]; exact rfl
  | (i, w) :: es, _, ⟨x, r, e, q, z⟩, n => by
    subst e
    rw [List.map_cons, List.nodup_cons] at n
    show IRel ρ (if i = k then _ else _) (List.filter _ _)
    by_cases hik : i = k
    · subst hik
      rw [if_pos rfl, List.filter_cons_of_neg (by simp)]
      have : List.filter (fun kv : Int × Value => decide (kv.1 ≠ i)) r = r := List.filter_eq_self.mpr fun p hp => by
        simp only [ne_eq, decide_not, Bool.not_eq_true', decide_eq_false_iff_not]
        exact fun e => n.1 (List.mem_map.mpr ⟨p, hp, e⟩)
      rw [this]; exact z
    · rw [if_neg hik, List.filter_cons_of_pos (by simpa using hik)]
      exact ⟨x, _, rfl, q, drp_I z n.2⟩
set_option tactic.hygienic true
theorem stored_nodup {K : Type} [DecidableEq K] {kvs : List (K × Value)} {k : K} {v : Value} (n : (kvs.map (·.1)).Nodup) : ((stored kvs k v).map (·.1)).Nodup := by
  unfold stored
  split
  · have : (kvs.map fun kv => if kv.1 = k then (kv.1, v) else kv).map (·.1) = kvs.map (·.1) := by
      rw [List.map_map]
      exact List.map_congr_left fun p _ => by show (if p.1 = k then (p.1, v) else p).1 = p.1; split <;> rfl
    rw [this]; exact n
  · rename_i hz
    rw [List.map_append, List.map_singleton]
    refine List.nodup_append.mpr ⟨n, by simp, fun a ha b hb e => hz ?_⟩
    rw [List.mem_singleton] at hb
    subst hb
    subst e
    obtain ⟨p, hp, e⟩ := List.mem_map.mp ha
    exact List.any_eq_true.mpr ⟨p, hp, by simp [e]⟩
set_option tactic.hygienic false
theorem merged_S {ρ : Rho} : ∀ {ys : List (Nat × VV)} {more : List (Str × Value)} {xs : List (Nat × VV)} {kvs : List (Str × Value)}, SRel ρ xs kvs → SRel ρ ys more → (kvs.map (·.1)).Nodup → SRel ρ (ys.foldl (fun l e => put e.1 e.2 l) xs) (merged kvs more)
  | [], _, _, _, q, q2, _ => by rw [show _ = _ from q2]; exact q
  | (i, w) :: ys, _, xs, kvs, q, ⟨hi, x, r, e, vr, z⟩, n => by
    subst e
    show SRel ρ (ys.foldl (fun l e => put e.1 e.2 l) (put i w xs)) (merged (stored kvs (nm i) x) r)
    exact merged_S (put_S hi vr q n) z (stored_nodup n)
theorem SRel.length {ρ : Rho} : ∀ {es : List (Nat × VV)} {kvs : List (Str × Value)}, SRel ρ es kvs → kvs.length = es.length
  | [], _, q => by rw [show _ = _ from q]; rfl
  | (_, _) :: _, _, ⟨_, x, r, e, _, z⟩ => by subst e; simp [SRel.length z]
theorem IRel.length {ρ : Rho} : ∀ {es : List (Int × VV)} {kvs : List (Int × Value)}, IRel ρ es kvs → kvs.length = es.length
  | [], _, q => by rw [show _ = _ from q]; rfl
  | (_, _) :: _, _, ⟨x, r, e, _, z⟩ => by subst e; simp [IRel.length z]
theorem put_len {α : Type} [DecidableEq α] (k : α) (v : VV) : ∀ es : List (α × VV), (put k v es).length ≤ es.length + 1
  | [] => by simp [put]
  | (a, w) :: r => by
    show (if a = k then _ else _ : List (α × VV)).length ≤ _
    split
    · simp
    · have := put_len k v r; simp; omega
theorem drp_len {α : Type} [DecidableEq α] (k : α) : ∀ es : List (α × VV), (drp k es).length ≤ es.length
  | [] => by simp [drp]
  | (a, w) :: r => by
    show (if a = k then _ else _ : List (α × VV)).length ≤ _
    split
    · simp
    · have := drp_len k r; simp; omega
theorem foldput_len : ∀ (ys xs : List (Nat × VV)), (ys.foldl (fun l e => put e.1 e.2 l) xs).length ≤ xs.length + ys.length
  | [], _ => by simp
  | y :: ys, xs => by
    have h1 := foldput_len ys (put y.1 y.2 xs)
    have h2 := put_len y.1 y.2 xs
    rw [List.foldl_cons, List.length_cons]
    omega
end Mine
end
section
namespace Mine
open PySem PySem.W PyProof.Rows PySem.Calls PySem.SeqAt

noncomputable def bmId (m : Nat) : String := if m = n_append then "list.append" else if m = n_extend then "list.extend" else if m = n_pop then "dict.pop" else "dict.update"

section
variable {S : SE} {x : FX} {d : Nat} {l : Loc} {h h1 h2 h3 : VH}

set_option tactic.hygienic false
theorem nm_append : nm n_append = ("append" : Str) := by decide +kernel
theorem nm_extend : nm n_extend = ("extend" : Str) := by decide +kernel
theorem nm_pop : nm n_pop = ("pop" : Str) := by decide +kernel
theorem nm_update : nm n_update = ("update" : Str) := by decide +kernel

theorem St.mem {hp : Heap} {ρ : Rho} {led ex : Led} (st : St S x hp ρ led ex l h) {p : Addr × Obj} (hm : p ∈ led) : p ∈ led ++ ex := List.mem_append_left _ hm
theorem St.up {hp : Heap} {ρ : Rho} {led ex : Led} (st : St S x hp ρ led ex l h) {a : Addr} {o o' : Obj} (hm : (a, o) ∈ led) : Upd a o o' (led ++ ex) (rep a o' (led ++ ex)) := upd_rep (List.mem_append_left _ hm) st.nod
theorem St.upF {hp : Heap} {ρ : Rho} {led ex : Led} (st : St S x hp ρ led ex l h) {a : Addr} {o : Obj} (hm : (a, o) ∈ led) : UpdF a o (led ++ ex) (fun o' => rep a o' (led ++ ex)) := updF_rep (List.mem_append_left _ hm) st.nod

section
variable {m n : Nat} {v y : VV} {a : Addr} {dd : Addr} {u : Value} {s : Shared} {ρ : Rho} {led ex : Led} {Q : Value → Shared → Prop}
set_option tactic.hygienic false
theorem lst_at (st : St S x s.heap ρ led ex l h) (ha : ρ[n]? = some (a, dd)) {xs : List VV} (hl : h.lst n = some xs) : ∃ zs c, (a, W.listOf zs.toArray c) ∈ led ∧ VRs ρ xs zs ∧ xs.length ≤ 1000 := by
  obtain ⟨a', d', zs, c, e1, e2, e3, e4⟩ := st.hr.lst n xs hl
  cases e1.symm.trans ha
  exact ⟨zs, c, e2, e3, e4⟩
theorem bm_append (st : St S x s.heap ρ led ex l h) (ha : ρ[n]? = some (a, dd)) (hv : apV n y h = some (v, h1)) (vr : VR ρ y u) (k : KK S x l h h1 ρ led ex v Q s) :
    wpAny S.M x.A (call (.builtin "list.append") [.ref a, u]) Q FF s := by
  obtain ⟨xs, hl, hv⟩ := Option.bind_eq_some_iff.mp hv
  obtain ⟨hlt, hv⟩ := itS hv
  cases hv
  obtain ⟨m, F, LL⟩ := st.fr
  obtain ⟨zs, c, e2, e3, e4⟩ := lst_at st ha hl
  refine append_K F st.news (st.up (o' := W.listOf (zs.toArray.push u) (c + 1)) e2) (fun h' F' N' => ?_) (by rw [List.size_toArray, e3.length, sizeLine_eq]; omega)
  rw [show zs.toArray.push u = (zs ++ [u]).toArray from List.push_toArray ..] at N'
  have z := st.setL LL ha e2 F' N' (e3.append (ws := [y]) ⟨u, [], rfl, vr, rfl⟩) (by rw [List.length_append]; exact hlt)
  exact k _ _ _ h' s.toks z.1 z.2 rfl
theorem bm_extend (st : St S x s.heap ρ led ex l h) (ha : ρ[n]? = some (a, dd)) (hv : exV n y h = some (v, h1)) (vr : VR ρ y u) (k : KK S x l h h1 ρ led ex v Q s) :
    wpAny S.M x.A (call (.builtin "list.extend") [.ref a, u]) Q FF s := by
  cases y with
  | ref kk =>
    by_cases hne : kk = n
    · rw [exV, if_pos hne] at hv; cases hv
    · rw [exV, if_neg hne] at hv
      obtain ⟨xs, hl, hv⟩ := Option.bind_eq_some_iff.mp hv
      obtain ⟨ys, hl', hv⟩ := Option.bind_eq_some_iff.mp hv
      obtain ⟨hlt, hv⟩ := itS hv
      cases hv
      obtain ⟨m, F, LL⟩ := st.fr
      obtain ⟨b, db, rfl, hb⟩ := vr
      obtain ⟨zs, c, e2, e3, e4⟩ := lst_at st ha hl
      obtain ⟨ws, c', f2, f3, f4⟩ := lst_at st hb hl'
      have hz := e3.length
      have hw := f3.length
      have hwn : ws.length ≠ 0 := by
        intro q
        rw [hw] at q
        rw [List.length_eq_zero_iff.mp q] at hlt
        exact absurd hlt.2 (by decide)
      have h1000 := hlt.1
      clear hlt e4 f4
      have hle : zs.length + ws.length < 1000 := by rw [hz, hw]; exact h1000
      refine kl_extend F st.news (st.mem f2) (by simp) (by simpa using hwn) (st.up (o' := W.listOf (zs ++ ws).toArray (c + 1)) e2) ?_ (by rw [sizeLine_eq]; simp; omega) (by rw [sizeLine_eq]; simp; omega) (fun h' F' N' => ?_)
      · simp only [Builtin.List.listTooLong, List.size_toArray, Bool.and_eq_true, decide_eq_true_eq, not_and, sizeLine_eq]
        intro _; omega
      · have z := st.setL LL ha e2 F' N' (e3.append f3) (by rw [List.length_append]; omega)
        exact k _ _ _ h' s.toks z.1 z.2 rfl
  | _ => cases hv
theorem sd_none (st : St S x s.heap ρ led ex l h) {es : List (Int × VV)} (hi : h.ic n = some es) : h.sd n = none := by
  cases q : h.sd n with
  | none => rfl
  | some es' => cases (st.hr.sx n es' q).symm.trans hi
theorem bm_popI (st : St S x s.heap ρ led ex l h) (ha : ρ[n]? = some (a, dd)) {kk : Int} (hv : popV n (.int kk) h = some (v, h1)) (vr : VR ρ (.int kk) u) (k : KK S x l h h1 ρ led ex v Q s) :
    wpAny S.M x.A (call (.builtin "dict.pop") [.ref a, u]) Q FF s := by
  obtain ⟨es, hi, hv⟩ := Option.bind_eq_some_iff.mp (show ((h.ic n).bind fun es => (look kk es).map fun w => (w, h.setI n (drp kk es))) = _ from hv)
  obtain ⟨w, hlk, hv⟩ := Option.map_eq_some_iff.mp hv
  cases hv
  obtain ⟨m, F, LL⟩ := st.fr
  obtain ⟨a', d', o, kvs, e1, e2, e3, e4, e5, e6⟩ := st.hr.ic n es hi
  cases e1.symm.trans ha
  obtain ⟨t, rfl⟩ := vr
  obtain ⟨y, hy, vy⟩ := (valueAt_I (k := kk) e4).2 _ hlk
  refine kob_pop F st.news (st.upF e2) e3 (intKind_is S.prog S.w _ _) (.inl rfl) rfl (PySem.F.args_dict_pop_2 _ _) hy (by rw [e4.length, sizeLine_eq]; omega) fun h' o' F' N' hd' => ?_
  have z := st.setI LL ha e2 (IsDictOf.cls e3) F' N' hd' (drp_I e4 (keysNodup_of_isDictOf e3)) e5 (Nat.le_trans (drp_len _ _) e6) (sd_none st hi)
  exact k _ _ _ h' _ z.1 z.2 vy
theorem bm_popS (st : St S x s.heap ρ led ex l h) (ha : ρ[n]? = some (a, dd)) {kk : Nat} (hv : popV n (.str kk) h = some (v, h1)) (vr : VR ρ (.str kk) u) (k : KK S x l h h1 ρ led ex v Q s) :
    wpAny S.M x.A (call (.builtin "dict.pop") [.ref a, u]) Q FF s := by
  obtain ⟨es, hi, hv⟩ := Option.bind_eq_some_iff.mp (show ((h.sd n).bind fun es => (look kk es).map fun w => (w, h.setS n (drp kk es))) = _ from hv)
  obtain ⟨w, hlk, hv⟩ := Option.map_eq_some_iff.mp hv
  cases hv
  obtain ⟨m, F, LL⟩ := st.fr
  obtain ⟨a', d', o, kvs, e1, e2, e3, e4, e5, e6⟩ := st.hr.sd n es hi
  cases e1.symm.trans ha
  obtain ⟨hk, t, rfl⟩ := vr
  obtain ⟨y, hy, vy⟩ := (valueAt_S hk e4).2 _ hlk
  refine kob_pop F st.news (st.upF e2) e3 (strKind_is S.prog S.w _ _) (.inl rfl) rfl (PySem.F.args_dict_pop_2 _ _) hy (by rw [e4.length, sizeLine_eq]; omega) fun h' o' F' N' hd' => ?_
  have z := st.setS LL ha e2 (IsDictOf.cls e3) F' N' hd' (drp_S hk e4 (keysNodup_of_isDictOf e3)) e5 (Nat.le_trans (drp_len _ _) e6) (st.hr.sx n es hi)
  exact k _ _ _ h' _ z.1 z.2 vy
theorem bm_update (st : St S x s.heap ρ led ex l h) (ha : ρ[n]? = some (a, dd)) (hv : updV n y h = some (v, h1)) (vr : VR ρ y u) (k : KK S x l h h1 ρ led ex v Q s) :
    wpAny S.M x.A (call (.builtin "dict.update") [.ref a, u]) Q FF s := by
  cases y with
  | ref kk =>
    by_cases hne : kk = n
    · rw [updV, if_pos hne] at hv; cases hv
    · rw [updV, if_neg hne] at hv
      obtain ⟨xs, hl, hv⟩ := Option.bind_eq_some_iff.mp hv
      obtain ⟨ys, hl', hv⟩ := Option.bind_eq_some_iff.mp hv
      obtain ⟨hlt, hv⟩ := itS hv
      cases hv
      obtain ⟨m, F, LL⟩ := st.fr
      obtain ⟨b, db, rfl, hb⟩ := vr
      obtain ⟨a', d', o, kvs, e1, e2, e3, e4, e5, e6⟩ := st.hr.sd n xs hl
      cases e1.symm.trans ha
      obtain ⟨b', db', o2, more, f1, f2, f3, f4, f5, f6⟩ := st.hr.sd kk ys hl'
      cases f1.symm.trans hb
      have hab : a ≠ b := (st.hr.inj n kk _ _ ha hb (fun e => hne e.symm)).1
      have hD : s.heap.DictOf (PySem.strKind S.prog S.w) a kvs := Heap.dictOf_iff.mpr ⟨o, (st.news _ (st.mem e2)).1, e3⟩
      have hD2 : s.heap.DictOf (PySem.strKind S.prog S.w) b more := Heap.dictOf_iff.mpr ⟨o2, (st.news _ (st.mem f2)).1, f3⟩
      refine call_meetsIn PySem.F.slot_dict_update hD.typeIs PySem.F.entry_dict_update (PySem.F.args_dict_update_2 _ _) (meets_dict_update (PySem.strKind S.prog S.w) a b hab f5)
        ⟨kvs, more, hD, hD2, (by rw [e4.length, f4.length, sizeLine_eq]; omega), fun h' hmm _ hs => ?_⟩
      obtain ⟨o', ho', hd'⟩ := Heap.dictOf_iff.mp hmm
      have ma := st.news _ (st.mem e2)
      obtain ⟨pre, post, q1, q2, q3, q4⟩ := (st.upF e2).split
      have N' : News x.h₀ x.L h' (rep a o' (led ++ ex)) := by
        rw [show rep a o' (led ++ ex) = pre ++ (a, o') :: post from q2 o']
        have N0 := st.news
        rw [q1] at N0
        exact N0.setIn q3 q4 hs ho'
      have z := st.setS LL ha e2 (IsDictOf.cls e3) (F.change hs ma.2.1 ma.2.2) N' hd' (merged_S e4 f4 (keysNodup_of_isDictOf e3)) e5 (Nat.le_trans (foldput_len _ _) hlt) (st.hr.sx n xs hl)
      exact k .none ρ _ h' s.toks z.1 z.2 rfl
  | _ => cases hv
end

set_option tactic.hygienic false
theorem bm_call (ok : x.Ok S d) {m n : Nat} {v : VV} {vs : List VV} {a : Addr} {dd : Addr} {us : List Value} {s : Shared} {ρ : Rho} {led ex : Led} {Q : Value → Shared → Prop} (st : St S x s.heap ρ led ex l h) (ha : ρ[n]? = some (a, dd))
    (hv : vBm m n vs h = some (v, h1)) (vrs : VRs ρ vs us) (k : KK S x l h h1 ρ led ex v Q s) :
    wpAny S.M x.A (call (.builtin (bmId m)) (.ref a :: us)) Q FF s := by
  rcases vs with _ | ⟨y, _ | _⟩
  · cases hv
  · obtain ⟨u, us, rfl, vr, r'⟩ := vrs
    obtain rfl : us = [] := r'
    have hv : (if m = n_append then apV n y h else if m = n_extend then exV n y h else if m = n_pop then popV n y h else if m = n_update then updV n y h else none) = some (v, h1) := hv
    by_cases c1 : m = n_append
    · subst c1
      exact bm_append st ha hv vr k
    rw [if_neg c1] at hv
    by_cases c2 : m = n_extend
    · subst c2
      exact bm_extend st ha hv vr k
    rw [if_neg c2] at hv
    by_cases c3 : m = n_pop
    · subst c3
      cases y with
      | int kk => exact bm_popI st ha hv vr k
      | str kk => exact bm_popS st ha hv vr k
      | _ => cases hv
    rw [if_neg c3] at hv
    by_cases c4 : m = n_update
    · subst c4
      exact bm_update st ha hv vr k
    rw [if_neg c4] at hv
    cases hv
  · cases hv

noncomputable def bmName (m : Nat) : Bool := decide (m = n_append) || decide (m = n_extend) || decide (m = n_pop) || decide (m = n_update)
set_option tactic.hygienic true
theorem bm_method (ok : x.Ok S d) {m n : Nat} {a dd : Addr} {pl : Sem Bool} {s : Shared} {ρ : Rho} {led ex : Led} {Q : Value × List Value → Shared → Prop} (st : St S x s.heap ρ led ex l h) (ha : ρ[n]? = some (a, dd))
    (hm : bmName m = true) (hok : bmOk m n h = true) (q : Q (.builtin (bmId m), [.ref a]) s) : wpAny S.M x.A (getMethod (.ref a) (nm m) pl) Q FF s := by
  unfold bmOk at hok
  simp only [bmName, Bool.or_eq_true, decide_eq_true_eq] at hm
  split at hok
  · obtain ⟨vs, hl⟩ := Option.isSome_iff_exists.mp hok
    obtain ⟨a', d', xs, c, e1, e2, e3, e4⟩ := st.hr.lst n vs hl
    obtain ⟨rfl, rfl⟩ := Prod.mk.inj (Option.some.inj (e1.symm.trans ha))
    rename_i hm'
    rcases hm' with rfl | rfl
    · rw [nm_append]
      exact getMethod_append_N st.news (st.mem e2) q
    · rw [nm_extend]
      exact kl_method st.news (st.mem e2) PySem.F.slot_list_extend PySem.F.type_list_extend q
  · rename_i hm'
    rw [not_or] at hm'
    have hm2 : m = n_pop ∨ m = n_update := by
      rcases hm with ((h | h) | h) | h
      · exact absurd h hm'.1
      · exact absurd h hm'.2
      · exact .inl h
      · exact .inr h
    rw [Bool.or_eq_true] at hok
    rcases hok with hok | hok
    · obtain ⟨es, hl⟩ := Option.isSome_iff_exists.mp hok
      obtain ⟨a', d', o, kvs, e1, e2, e3, e4, e5, e6⟩ := st.hr.sd n es hl
      obtain ⟨rfl, rfl⟩ := Prod.mk.inj (Option.some.inj (e1.symm.trans ha))
      rcases hm2 with rfl | rfl
      · rw [nm_pop]
        exact kdl_method PySem.F.slot_dict_pop PySem.F.type_dict_pop st.news (st.mem e2) e3 q
      · rw [nm_update]
        exact kdl_method PySem.F.slot_dict_update PySem.F.type_dict_update st.news (st.mem e2) e3 q
    · obtain ⟨es, hl⟩ := Option.isSome_iff_exists.mp hok
      obtain ⟨a', d', o, kvs, e1, e2, e3, e4, e5, e6⟩ := st.hr.ic n es hl
      obtain ⟨rfl, rfl⟩ := Prod.mk.inj (Option.some.inj (e1.symm.trans ha))
      rcases hm2 with rfl | rfl
      · rw [nm_pop]
        exact kdl_method PySem.F.slot_dict_pop PySem.F.type_dict_pop st.news (st.mem e2) e3 q
      · rw [nm_update]
        exact kdl_method PySem.F.slot_dict_update PySem.F.type_dict_update st.news (st.mem e2) e3 q

set_option tactic.hygienic false
theorem den_bm (ok : x.Ok S d) {o : Expr} {n m : Nat} {Xs : List Expr} {vs : List VV} {v : VV} {apos pos : Pos} (po : plainX o = true) (pl : Xs.all plainX = true) (hne : Xs ≠ []) (hl : Xs.length < 30) (hp : (apos.endLine == pos.line) = true) (hm : bmName m = true)
    (De : Den S x l (eval o x.env) h (.ref n) h1) (hok : bmOk m n h1 = true) (Ds : DensX S x l Xs h1 vs h2) (hv : vBm m n vs h2 = some (v, h3)) :
    Den S x l (eval (.Call (.Attribute o (nm m) apos) Xs [] pos) x.env) h v h3 := fun s ρ led ex Q st k => by
  refine MethodCall_ (pl := do return (← importBound o x.env).getD true) (De s ρ led ex _ st fun u ρ' led' hp tk st' ext vr => ?_) (method_eq po pl hl hp)
  obtain ⟨a, dd, rfl, ha⟩ := vr
  refine bm_method ok (s := { s with heap := hp, toks := tk }) st' ha hm hok ?_
  cases Xs with
  | nil => exact absurd rfl hne
  | cons X r =>
    obtain ⟨p1, p2⟩ := Bool.and_eq_true_iff.mp (List.all_cons ▸ pl)
    refine callWith_method1 (Ds pos _ ρ' led' ex _ st' fun us ρ₂ led₂ hp₂ tk₂ st₂ ext₂ vrs => ?_) (star_plain p1) (star_any p2)
    exact bm_call ok (s := { s with heap := hp₂, toks := tk₂ }) st₂ (ext₂.get ha) hv vrs fun u₃ ρ₃ led₃ hp₃ tk₃ st₃ ext₃ vr₃ => k u₃ ρ₃ led₃ hp₃ tk₃ st₃ ((ext.trans ext₂).trans ext₃) vr₃
end
end Mine
end
section
namespace Mine
open PySem PySem.W PyProof.Rows PySem.Calls PySem.SeqAt

noncomputable def bfV (b : Nat) : Value := if b = n_len then .builtin "len" else if b = n_abs then .builtin "abs" else if b = n_min then .builtin "min" else if b = n_max then .builtin "max" else if b = n_sorted then .builtin "sorted" else .type "bytes"
noncomputable def bfName (b : Nat) : Bool := [n_len, n_abs, n_min, n_max, n_sorted, n_bytes].contains b
set_option tactic.hygienic false
theorem boot_bf : ∀ b ∈ [n_len, n_abs, n_min, n_max, n_sorted, n_bytes], bootBuiltins (nm b) = some (bfV b) ∧ nm b ≠ ("__name__" : Str) ∧ (nm b == ("__debug__" : Str)) = false := by decide +kernel
theorem boot_lst : bootBuiltins (nm n_list) = some (.type "list") ∧ nm n_list ≠ ("__name__" : Str) ∧ (nm n_list == ("__debug__" : Str)) = false := by decide +kernel
theorem boot_rng : bootBuiltins "range" = some (.type "range") ∧ ("range" : Str) ≠ ("__name__" : Str) ∧ (("range" : Str) == ("__debug__" : Str)) = false := by decide +kernel

theorem ints_of {ρ : Rho} : ∀ {vs : List VV} {us : List Value} {is : List Int}, intsOf vs = some is → VRs ρ vs us → IntsAre us is
  | [], _, is, e, q => by
    rw [show _ = _ from q]
    cases e
    exact .nil
  | .int i :: r, _, is, e, ⟨u, us, e1, vr, q⟩ => by
    subst e1
    obtain ⟨t, rfl⟩ := vr
    obtain ⟨js, e2, rfl⟩ := Option.map_eq_some_iff.mp (show (intsOf r).map (i :: ·) = some is from e)
    exact .cons i t (ints_of e2 q)
  | .none :: _, _, _, e, _ => by cases e
  | .bool _ :: _, _, _, e, _ => by cases e
  | .str _ :: _, _, _, e, _ => by cases e
  | .bytes _ :: _, _, _, e, _ => by cases e
  | .ref _ :: _, _, _, e, _ => by cases e
theorem vrs_ints {ρ : Rho} : ∀ {us : List Value} {is : List Int}, IntsAre us is → VRs ρ (is.map .int) us
  | _, _, .nil => rfl
  | _, _, .cons a t r => ⟨_, _, rfl, ⟨t, rfl⟩, vrs_ints r⟩
theorem insI_perm (x : Int) : ∀ l : List Int, (insI x l).Perm (x :: l)
  | [] => .refl _
  | y :: r => by
    unfold insI
    split
    · exact .refl _
    · exact ((insI_perm x r).cons y).trans (.swap x y r)
theorem sortI_perm : ∀ l : List Int, (sortI l).Perm l
  | [] => .refl _
  | x :: r => (insI_perm x _).trans ((sortI_perm r).cons x)
set_option tactic.hygienic true
theorem insI_sorted (x : Int) : ∀ {l : List Int}, l.Pairwise (· ≤ ·) → (insI x l).Pairwise (· ≤ ·)
  | [], _ => by simp [insI]
  | y :: r, h => by
    have h' := List.pairwise_cons.mp h
    unfold insI
    split
    · rename_i hxy
      refine List.pairwise_cons.mpr ⟨fun z hz => ?_, h⟩
      rcases List.mem_cons.mp hz with rfl | hz
      · exact hxy
      · exact Int.le_trans hxy (h'.1 z hz)
    · rename_i hxy
      refine List.pairwise_cons.mpr ⟨fun z hz => ?_, insI_sorted x h'.2⟩
      rcases List.mem_cons.mp ((insI_perm x r).mem_iff.mp hz) with rfl | hz
      · omega
      · exact h'.1 z hz
set_option tactic.hygienic false
theorem sortI_sorted : ∀ l : List Int, (sortI l).Pairwise (· ≤ ·)
  | [] => .nil
  | x :: r => insI_sorted x (sortI_sorted r)

section
variable {S : SE} {x : FX} {d : Nat} {l : Loc} {h h1 h2 h3 : VH}

set_option tactic.hygienic false
theorem sort_news {h₀ hp : Heap} {L B : Addr} {m : Str → Option Value} {vs : List Value} {n : Nat} {news : Led} (out : Array Value) (F : Fr h₀ L hp m) (N : News h₀ L hp ((B, W.listOf vs.toArray n) :: news)) (off : ∀ p ∈ news, p.1 ≠ B) :
    ∃ e, Fr h₀ L (sortedHeap hp B vs out) m ∧ News h₀ L (sortedHeap hp B vs out) ((B, W.listOf out e) :: news) := by
  have z := N _ (.head _)
  have ho : hp.get? B = some (seqObj "list" vs.toArray n) := z.1
  obtain ⟨e1, ho1⟩ : ∃ e1, (hp.update B (Obj.mapSeq fun _ => #[])).get? B = some (seqObj "list" #[] e1) := ⟨_, get?_update_seq ho (fun _ => #[])⟩
  have ho2 := Heap.get?_push_of_some (seqObj "list" #[] 0) (Heap.get?_push_of_some (seqObj "tuple" vs.toArray 0) ho1)
  have F1 := F.change (Heap.SameBut.update hp B (Obj.mapSeq fun _ => #[])) z.2.1 z.2.2
  have N1 := News.setHead N off (Heap.SameBut.update hp B (Obj.mapSeq fun _ => #[])) ho1
  have F2 := (F1.push (seqObj "tuple" vs.toArray 0)).push (seqObj "list" #[] 0)
  have N2 := (N1.grown fun _ _ e => Heap.get?_push_of_some (seqObj "tuple" vs.toArray 0) e).grown fun _ _ e => Heap.get?_push_of_some (seqObj "list" #[] 0) e
  exact ⟨_, F2.change (Heap.SameBut.update ..) z.2.1 z.2.2, News.setHead N2 off (Heap.SameBut.update ..) (get?_update_seq ho2 fun _ => out)⟩

theorem kvs_ints {ρ : Rho} : ∀ {es : List (Int × VV)} {kvs : List (Int × Value)}, IRel ρ es kvs → kvs.map (·.1) = es.map (·.1)
  | [], _, q => by rw [show _ = _ from q]; rfl
  | (i, v) :: es, _, ⟨u, r, e, _, z⟩ => by subst e; simp [kvs_ints z]
theorem ints_at : ∀ {vs : List Value} {ks : List Int}, vs.length = ks.length → (∀ (j : Nat) (v : Value), vs[j]? = some v → ∃ k t, ks[j]? = some k ∧ v = .int k t) → IntsAre vs ks
  | [], [], _, _ => .nil
  | [], _ :: _, e, _ => by simp at e
  | _ :: _, [], e, _ => by simp at e
  | v :: vs, k :: ks, e, h => by
    obtain ⟨k', t, e1, rfl⟩ := h 0 v rfl
    cases e1
    exact .cons _ t (ints_at (by simpa using e) fun j v hv => h (j + 1) v (by simpa using hv))
theorem strs_at : ∀ {vs : List Value} {ks : List Str}, vs.length = ks.length → (∀ (j : Nat) (v : Value), vs[j]? = some v → ∃ k t, ks[j]? = some k ∧ v = .str k t) → StrsAre vs ks
  | [], [], _, _ => .nil
  | [], _ :: _, e, _ => by simp at e
  | _ :: _, [], e, _ => by simp at e
  | v :: vs, k :: ks, e, h => by
    obtain ⟨k', t, e1, rfl⟩ := h 0 v rfl
    cases e1
    exact .cons _ t (strs_at (by simpa using e) fun j v hv => h (j + 1) v (by simpa using hv))
set_option tactic.hygienic true
theorem intKind_inv {prog : Program} {w : World} {k : Int} {v : Value} (e : (intKind prog w).is k v = true) : ∃ t, v = .int k t := by
  cases v <;> first | (cases e; done) | skip
  rename_i i t
  have : i = k := by simpa [intKind, Value.isInt] using e
  subst this
  exact ⟨t, rfl⟩
theorem strKind_inv {prog : Program} {w : World} {k : Str} {v : Value} (e : (PySem.strKind prog w).is k v = true) : ∃ t, v = .str k t := by
  cases v <;> first | (cases e; done) | skip
  rename_i i t
  have : i = k := by simpa [PySem.strKind, Value.isStrOf] using e
  subst this
  exact ⟨t, rfl⟩
end
end Mine
end
section
namespace Mine
open PySem PySem.W PyProof.Rows PySem.Calls PySem.SeqAt

set_option tactic.hygienic false
theorem perm_two {α : Type} {l : List α} {a b : α} (p : l.Perm [a, b]) : l = [a, b] ∨ l = [b, a] := by
  have hl := p.length_eq
  match l, hl with
  | [x, y], _ =>
    have hx : x ∈ [a, b] := p.mem_iff.mp (by simp)
    simp only [List.mem_cons, List.not_mem_nil, or_false] at hx
    rcases hx with rfl | rfl
    · left
      have := List.Perm.cons_inv p
      rw [List.perm_singleton.mp this]
    · right
      have := List.Perm.cons_inv (p.trans (.swap ..))
      rw [List.perm_singleton.mp this]
theorem sorted_away : sortedS [nm n_third, nm n_away] = false := by decide +kernel

section
variable {S : SE} {x : FX} {d : Nat} {l : Loc} {h h1 h2 h3 : VH}

set_option tactic.hygienic false
theorem bf_sorted_Im (ok : x.Ok S d) {n : Nat} {es : List (Int × VV)} {a dd : Addr} {s : Shared} {ρ : Rho} {led ex : Led} {m : Str → Option Value} {Q : Value → Shared → Prop} (st : St S x s.heap ρ led ex l h) (F : Fr x.h₀ x.L s.heap m) (LL : LR ρ l m) (ha : ρ[n]? = some (a, dd)) (hi : h.ic n = some es) (h64 : es.length < 64)
    (k : ∀ u ρ' led' hp tk, Fr x.h₀ x.L hp m → LR ρ' l m → St S x hp ρ' led' ex l (h.newL ((sortI (es.map (·.1))).map .int)) → Ext ρ ρ' led led' h (h.newL ((sortI (es.map (·.1))).map .int)) → VR ρ' (.ref h.nxt) u → Q u { s with heap := hp, toks := tk }) :
    wpAny S.M x.A (call (.builtin "sorted") [.ref a]) Q FF s := by
  obtain ⟨a', d', o, kvs, e1, e2, e3, e4, e5, e6⟩ := st.hr.ic n es hi
  obtain ⟨rfl, rfl⟩ := Prod.mk.inj (Option.some.inj (e1.symm.trans ha))
  obtain ⟨ep, hat⟩ := Heap.DictOf.dictAt (Heap.dictOf_iff.mpr ⟨o, (st.news _ (st.mem e2)).1, e3⟩)
  refine kdu_sorted (kdl_dict (knd := intKind S.prog S.w) (kvs := kvs) (ep := ep) e5) ok.hd F st.news hat (by rw [e4.length, sizeLine_eq]; omega) fun B h' tk vs F' N' lt hl hv => ?_
  have hI : IntsAre vs (kvs.map (·.1)) := ints_at (by rw [hl, List.length_map]) fun j v hj => by
    obtain ⟨kk, y, hy, hk⟩ := hv j v hj
    obtain ⟨t, rfl⟩ := intKind_inv hk
    exact ⟨kk, t, by simp [hy], rfl⟩
  refine wpAny_call_entry PyProof.Rows.slot_list_sort ⟨_, (N' _ (.head _)).1, rfl⟩ PyProof.Rows.entry_list_sort (list_sort_tree (n := 0) (vs := vs) (N' _ (.head _)).1 hI (by rw [hl, e4.length]; exact h64) fun out ns' hI' hp hP => ⟨.none, rfl, ?_⟩) (PyProof.Rows.args_list_sort _)
  obtain ⟨e, F2, N2⟩ := sort_news out F' N' fun p hp => Nat.ne_of_lt (lt p hp)
  have hns : ns' = sortI (es.map (·.1)) := lks_uniq (hp.trans (by rw [kvs_ints e4]; exact (sortI_perm _).symm)) hP (sortI_sorted _)
  subst hns
  have eo : W.listOf out e = W.listOf out.toList.toArray e := by rw [Array.toArray_toList]
  rw [eo] at N2
  have hlen : ((sortI (es.map (·.1))).map VV.int).length ≤ 1000 := by
    rw [List.length_map, (sortI_perm _).length_eq, List.length_map]; omega
  exact k _ _ _ _ _ F2 (LL.app _) (st.newL LL F2 N2 lt (vrs_ints hI') hlen) Ext.newL (vr_new st.hr.len)
theorem bf_sorted_I (ok : x.Ok S d) {n : Nat} {es : List (Int × VV)} {a dd : Addr} {s : Shared} {ρ : Rho} {led ex : Led} {Q : Value → Shared → Prop} (st : St S x s.heap ρ led ex l h) (ha : ρ[n]? = some (a, dd)) (hi : h.ic n = some es) (h64 : es.length < 64)
    (k : ∀ u ρ' led' hp tk, St S x hp ρ' led' ex l (h.newL ((sortI (es.map (·.1))).map .int)) → Ext ρ ρ' led led' h (h.newL ((sortI (es.map (·.1))).map .int)) → VR ρ' (.ref h.nxt) u → Q u { s with heap := hp, toks := tk }) :
    wpAny S.M x.A (call (.builtin "sorted") [.ref a]) Q FF s := by
  obtain ⟨m, F, LL⟩ := st.fr
  exact bf_sorted_Im ok st F LL ha hi h64 fun u ρ' led' hp tk _ _ => k u ρ' led' hp tk

theorem strs_vrs {ρ : Rho} : ∀ {us : List Value} {is : List Nat}, (∀ i ∈ is, i < 176) → StrsAre us (is.map nm) → VRs ρ (is.map .str) us
  | _, [], _, q => by cases q; exact rfl
  | _, i :: is, hi, q => by
    cases q with
    | cons a t r => exact ⟨_, _, rfl, ⟨hi i (.head _), t, rfl⟩, strs_vrs (fun j hj => hi j (.tail _ hj)) r⟩
theorem bf_sorted_S (ok : x.Ok S d) {n : Nat} {es : List (Nat × VV)} {rs : List Nat} {a dd : Addr} {s : Shared} {ρ : Rho} {led ex : Led} {Q : Value → Shared → Prop} (st : St S x s.heap ρ led ex l h) (ha : ρ[n]? = some (a, dd)) (hi : h.sd n = some es) (h64 : es.length < 64)
    (hr : ∀ ss', ss'.Perm (es.map fun p => nm p.1) → sortedS ss' = true → ss' = rs.map nm) (hrs : rs.length ≤ 64) (hb : ∀ i ∈ rs, i < 176)
    (k : ∀ u ρ' led' hp tk, St S x hp ρ' led' ex l (h.newL (rs.map .str)) → Ext ρ ρ' led led' h (h.newL (rs.map .str)) → VR ρ' (.ref h.nxt) u → Q u { s with heap := hp, toks := tk }) :
    wpAny S.M x.A (call (.builtin "sorted") [.ref a]) Q FF s := by
  obtain ⟨m, F, LL⟩ := st.fr
  obtain ⟨a', d', o, kvs, e1, e2, e3, e4, e5, e6⟩ := st.hr.sd n es hi
  obtain ⟨rfl, rfl⟩ := Prod.mk.inj (Option.some.inj (e1.symm.trans ha))
  obtain ⟨ep, hat⟩ := Heap.DictOf.dictAt (Heap.dictOf_iff.mpr ⟨o, (st.news _ (st.mem e2)).1, e3⟩)
  refine kdu_sorted (kdl_dict (knd := PySem.strKind S.prog S.w) (kvs := kvs) (ep := ep) e5) ok.hd F st.news hat (by rw [e4.length, sizeLine_eq]; omega) fun B h' tk vs F' N' lt hl hv => ?_
  have hS : StrsAre vs (kvs.map (·.1)) := strs_at (by rw [hl, List.length_map]) fun j v hj => by
    obtain ⟨kk, y, hy, hk⟩ := hv j v hj
    obtain ⟨t, rfl⟩ := strKind_inv hk
    exact ⟨kk, t, by simp [hy], rfl⟩
  refine wpAny_call_entry PyProof.Rows.slot_list_sort ⟨_, (N' _ (.head _)).1, rfl⟩ PyProof.Rows.entry_list_sort (list_sort_treeK (n := 0) (vs := vs) strKind_oneLt (N' _ (.head _)).1 hS.keysOf (fun v₁ v₂ rest e => keyKind_strs (by rw [← e]; exact hS)) (by rw [hl, e4.length]; exact h64) fun st' hp hs => ⟨.none, rfl, ?_⟩) (PyProof.Rows.args_list_sort _)
  obtain ⟨ss', q1, q2, q3⟩ := sorted_out_str hS hp hs
  obtain ⟨e, F2, N2⟩ := sort_news ((arrOf st').map (·.2)) F' N' fun p hp => Nat.ne_of_lt (lt p hp)
  have hns : ss' = rs.map nm := hr ss' (by rw [e4.keys.1] at q2; exact q2) q3
  subst hns
  have eo : W.listOf ((arrOf st').map (·.2)) e = W.listOf ((arrOf st').map (·.2)).toList.toArray e := by rw [Array.toArray_toList]
  rw [eo] at N2
  have hlen : (rs.map VV.str).length ≤ 1000 := by rw [List.length_map]; omega
  exact k _ _ _ _ _ (st.newL LL F2 N2 lt (strs_vrs hb q1) hlen) Ext.newL (vr_new st.hr.len)

section
variable {b : Nat} {v : VV} {u : Value} {n : Nat} {a dd : Addr} {s : Shared} {ρ : Rho} {led ex : Led} {Q : Value → Shared → Prop}
set_option tactic.hygienic false
theorem bf1_rule (st : St S x s.heap ρ led ex l h) {i : Int} {t : Tok} (hv : bf1 b i h = some (v, h1)) (k : KK S x l h h1 ρ led ex v Q s) : wpAny S.M x.A (call (bfV b) [.int i t]) Q FF s := by
  by_cases q : b = n_abs
  · subst q
    cases (show some (VV.int i.natAbs, h) = _ from hv)
    refine call_abs_int fun t' tk => k _ ρ led s.heap tk st .refl ⟨t', ?_⟩
    congr 1
    split <;> omega
  · rw [bf1, if_neg q] at hv; cases hv
theorem St.keep {hp hp' : Heap} (st : St S x hp ρ led ex l h) {m : Str → Option Value} (F : Fr x.h₀ x.L hp' m) (LL : LR ρ l m) (N : News x.h₀ x.L hp' (led ++ ex)) : St S x hp' ρ led ex l h := ⟨⟨m, F, LL⟩, N, st.nod, st.hr⟩
theorem bf2_rule (ok : x.Ok S d) (st : St S x s.heap ρ led ex l h) {i j : Int} {t t2 : Tok} (hv : bf2 b i j h = some (v, h1)) (k : KK S x l h h1 ρ led ex v Q s) : wpAny S.M x.A (call (bfV b) [.int i t, .int j t2]) Q FF s := by
  obtain ⟨m, F, LL⟩ := st.fr
  by_cases q : b = n_min
  · subst q
    cases (show some (VV.int (min i j), h) = _ from hv)
    have e1 : (if j < i then j else i) = min i j := by split <;> omega
    exact min_two_N ok.hd F st.news fun h' tk F' N' => k _ ρ led h' tk (st.keep F' LL N') .refl ⟨_, by rw [e1]⟩
  · rw [bf2, if_neg q] at hv
    by_cases q : b = n_max
    · subst q
      cases (show some (VV.int (max i j), h) = _ from hv)
      have e1 : (if j > i then j else i) = max i j := by split <;> omega
      exact max_two_N ok.hd F st.news fun h' tk F' N' => k _ ρ led h' tk (st.keep F' LL N') .refl ⟨_, by rw [e1]⟩
    · rw [if_neg q] at hv; cases hv
theorem bfB_rule (st : St S x s.heap ρ led ex l h) {bs : List Int} {t : Tok} (hv : bfB b bs h = some (v, h1)) (k : KK S x l h h1 ρ led ex v Q s) : wpAny S.M x.A (call (bfV b) [.bytes (toU8 bs) t]) Q FF s := by
  by_cases q : b = n_len
  · subst q
    obtain ⟨h64, hv⟩ := itS (show (if bs.length ≤ 64 then some (VV.int bs.length, h) else none) = _ from hv)
    cases hv
    have e : ((toU8 bs).size : Int) = bs.length := by simp [toU8]
    refine PySem.W.len_bytes (by simp [toU8]; omega) ?_
    rw [e]
    exact k _ ρ led s.heap _ st .refl ⟨_, rfl⟩
  · rw [bfB, if_neg q] at hv; cases hv
theorem lenR_rule (st : St S x s.heap ρ led ex l h) (ha : ρ[n]? = some (a, dd)) (hv : lenR n h = some (v, h1)) (k : KK S x l h h1 ρ led ex v Q s) : wpAny S.M x.A (call (.builtin "len") [.ref a]) Q FF s := by
  cases hl : h.lst n with
  | some vs =>
    rw [lenR, hl] at hv
    cases hv
    obtain ⟨xs, c, e2, e3, e4⟩ := lst_at st ha hl
    have hL : s.heap.IsList a xs.toArray := ⟨_, (st.news _ (st.mem e2)).1, rfl, _, rfl⟩
    have e5 : ((xs.toArray.size : Nat) : Int) = (vs.length : Int) := by rw [List.size_toArray, e3.length]
    refine call_len_list hL (by rw [e5]; omega) ?_
    rw [e5]
    exact k _ ρ led s.heap _ st .refl ⟨_, rfl⟩
  | none =>
    rw [lenR, hl] at hv
    obtain ⟨es, hi, hv⟩ := Option.map_eq_some_iff.mp hv
    cases hv
    obtain ⟨a', d', o, kvs, e1, e2, e3, e4, e5, e6⟩ := st.hr.ic n es hi
    cases e1.symm.trans ha
    refine kda_len st.news (st.mem e2) e3 e5 (by rw [e4.length]; omega) ?_
    rw [e4.length]
    exact k _ ρ led s.heap _ st .refl ⟨_, rfl⟩
theorem srtS_rule (ok : x.Ok S d) (st : St S x s.heap ρ led ex l h) (ha : ρ[n]? = some (a, dd)) {es : List (Nat × VV)} (hi : h.sd n = some es) (hv : srtS es h = some (v, h1)) (k : KK S x l h h1 ρ led ex v Q s) : wpAny S.M x.A (call (.builtin "sorted") [.ref a]) Q FF s := by
  match es, hi, hv with
  | [], hi, hv =>
    cases (show some (VV.ref h.nxt, h.newL []) = _ from hv)
    exact bf_sorted_S (rs := []) ok st ha hi (by decide) (fun ss' p _ => p.eq_nil) (Nat.zero_le _) (fun i z => nomatch z) k
  | [(a1, v1)], hi, hv =>
    cases (show some (VV.ref h.nxt, h.newL [.str a1]) = _ from hv)
    obtain ⟨_, _, _, _, _, _, _, e4, _, _⟩ := st.hr.sd n _ hi
    have hb := e4.keys.2 (a1, v1) (.head _)
    exact bf_sorted_S (rs := [a1]) ok st ha hi (by simp) (fun ss' p _ => List.perm_singleton.mp p) (by simp) (by simpa using hb) k
  | [(a1, v1), (a2, v2)], hi, hv =>
    obtain ⟨hc, hv⟩ := itS (show (if a1 = n_away ∧ a2 = n_third ∨ a1 = n_third ∧ a2 = n_away then some (VV.ref h.nxt, h.newL [.str n_away, .str n_third]) else none) = _ from hv)
    cases hv
    refine bf_sorted_S (rs := [n_away, n_third]) ok st ha hi (by simp) (fun ss' p q => ?_) (by simp) (by decide) k
    have p' : ss'.Perm [nm n_away, nm n_third] := by
      rcases hc with ⟨rfl, rfl⟩ | ⟨rfl, rfl⟩
      · exact p
      · exact p.trans (.swap ..)
    rcases perm_two p' with e | e
    · exact e
    · rw [e, sorted_away] at q; cases q
theorem srtR_rule (ok : x.Ok S d) (st : St S x s.heap ρ led ex l h) (ha : ρ[n]? = some (a, dd)) (hv : srtR n h = some (v, h1)) (k : KK S x l h h1 ρ led ex v Q s) : wpAny S.M x.A (call (.builtin "sorted") [.ref a]) Q FF s := by
  cases hi : h.ic n with
  | some es =>
    rw [srtR, hi] at hv
    obtain ⟨h64, hv⟩ := itS hv
    cases hv
    exact bf_sorted_I ok st ha hi h64 k
  | none =>
    rw [srtR, hi] at hv
    obtain ⟨es, hi, hv⟩ := Option.bind_eq_some_iff.mp hv
    exact srtS_rule ok st ha hi hv k
theorem bytR_rule (ok : x.Ok S d) (st : St S x s.heap ρ led ex l h) (ha : ρ[n]? = some (a, dd)) (hv : bytR n h = some (v, h1)) (k : KK S x l h h1 ρ led ex v Q s) : wpAny S.M x.A (call (bfV n_bytes) [.ref a]) Q FF s := by
  cases hl : h.lst n with
  | some vs =>
    rw [bytR, hl] at hv
    obtain ⟨is, hi, hv⟩ := Option.bind_eq_some_iff.mp hv
    obtain ⟨hc, hv⟩ := itS hv
    cases hv
    obtain ⟨m, F, LL⟩ := st.fr
    obtain ⟨xs, c, e2, e3, e4⟩ := lst_at st ha hl
    have hL : s.heap.IsList a xs.toArray := ⟨_, (st.news _ (st.mem e2)).1, rfl, _, rfl⟩
    exact bytes_K F st.news hL (ints_of hi e3) hc.2 (by rw [e3.length, sizeLine_eq]; omega) ok.hd fun h' t kk F' N' _ => k _ ρ led h' kk (st.keep F' LL N') .refl ⟨⟨t, rfl⟩, hc.2⟩
  | none => rw [bytR, hl] at hv; cases hv
theorem bfR_rule (ok : x.Ok S d) (st : St S x s.heap ρ led ex l h) (ha : ρ[n]? = some (a, dd)) (hv : bfR b n h = some (v, h1)) (k : KK S x l h h1 ρ led ex v Q s) : wpAny S.M x.A (call (bfV b) [.ref a]) Q FF s := by
  unfold bfR at hv
  by_cases c1 : b = n_len
  · subst c1
    exact lenR_rule st ha hv k
  rw [if_neg c1] at hv
  by_cases c2 : b = n_sorted
  · subst c2
    exact srtR_rule ok st ha hv k
  rw [if_neg c2] at hv
  by_cases c3 : b = n_bytes
  · subst c3
    exact bytR_rule ok st ha hv k
  rw [if_neg c3] at hv
  cases hv
end
set_option tactic.hygienic false
theorem bf_rule (ok : x.Ok S d) {b : Nat} {v : VV} {vs : List VV} {us : List Value} {s : Shared} {ρ : Rho} {led ex : Led} {Q : Value → Shared → Prop} (st : St S x s.heap ρ led ex l h)
    (hv : vBf b vs h = some (v, h1)) (vrs : VRs ρ vs us) (k : KK S x l h h1 ρ led ex v Q s) :
    wpAny S.M x.A (call (bfV b) us) Q FF s := by
  cases vs with
  | nil => cases hv
  | cons y r =>
    obtain ⟨u, us', rfl, vr, r'⟩ := vrs
    cases r with
    | nil =>
      obtain rfl : us' = [] := r'
      cases y with
      | int i => obtain ⟨t, rfl⟩ := vr; exact bf1_rule st hv k
      | bytes bs => obtain ⟨⟨t, rfl⟩, _⟩ := vr; exact bfB_rule st hv k
      | ref n => obtain ⟨a, dd, rfl, ha⟩ := vr; exact bfR_rule ok st ha hv k
      | _ => cases hv
    | cons z r =>
      cases r with
      | cons w r => cases y <;> cases hv
      | nil =>
        obtain ⟨u2, us2, rfl, vr2, r2⟩ := r'
        obtain rfl : us2 = [] := r2
        cases y with
        | int i =>
          cases z with
          | int j => obtain ⟨t, rfl⟩ := vr; obtain ⟨t2, rfl⟩ := vr2; exact bf2_rule ok st hv k
          | _ => cases hv
        | _ => cases hv
end
end Mine
end
section
namespace Mine
open PySem PySem.W PyProof.Rows PySem.Calls PySem.SeqAt

set_option tactic.hygienic false
theorem bfV_kind (b : Nat) : (∃ id, bfV b = .builtin id) ∨ ∃ T, bfV b = .type T := by
  unfold bfV
  repeat' split
  all_goals first | exact .inl ⟨_, rfl⟩ | exact .inr ⟨_, rfl⟩

section
variable {S : SE} {x : FX} {d : Nat} {l : Loc} {h h1 h2 h3 : VH}

set_option tactic.hygienic false
theorem den_bf (G : S.Good) (ok : x.Ok S d) {b : Nat} {Xs : List Expr} {vs : List VV} {v : VV} {np pos : Pos} (hb : bfName b = true) (hk : x.sc.names.lookup (nm b) = some .globalImplicit)
    (pl : Xs.all plainX = true) (hne : Xs ≠ []) (Ds : DensX S x l Xs h vs h1) (hv : vBf b vs h1 = some (v, h2)) : Den S x l (eval (.Call (.Name (nm b) np) Xs [] pos) x.env) h v h2 := fun s ρ led ex Q st k => by
  have hm : b ∈ [n_len, n_abs, n_min, n_max, n_sorted, n_bytes] := by
    unfold bfName at hb
    exact List.contains_iff_mem.mp hb
  have bo := boot_bf b hm
  have hm' : b ∈ [n_len, n_abs, n_min, n_max, n_sorted, n_bytes, n_list] := List.mem_append_left [n_list] hm
  refine Call_ (nm_builtin ok st (G.bi b hm') bo.1 bo.2.1 hk bo.2.2 ?_)
  cases Xs with
  | nil => exact absurd rfl hne
  | cons X r =>
    obtain ⟨p1, p2⟩ := Bool.and_eq_true_iff.mp (List.all_cons ▸ pl)
    have fin : wpAny S.M x.A (spliced (backTo pos (starEach (X :: r) x.env))) (fun us s₁ => wpAny S.M x.A (call (bfV b) us) Q FF s₁) FF s :=
      Ds pos s ρ led ex _ st fun us ρ₂ led₂ hp₂ tk₂ st₂ ext₂ vrs => bf_rule ok (s := { s with heap := hp₂, toks := tk₂ }) st₂ hv vrs fun u₃ ρ₃ led₃ hp₃ tk₃ st₃ ext₃ vr₃ => k u₃ ρ₃ led₃ hp₃ tk₃ st₃ (ext₂.trans ext₃) vr₃
    rcases bfV_kind b with ⟨id, e⟩ | ⟨T, e⟩
    · rw [e] at fin ⊢
      exact PyProof.Rows.callWith_builtin1 fin (star_plain p1) (star_any p2)
    · rw [e] at fin ⊢
      exact PyProof.Rows.callWith_type1 fin (star_plain p1) (star_any p2)

theorem range_size {i j : Int} (h : i ≤ j ∨ j ≤ i) : Builtin.Range.rangeSize i j 1 = ((j - i).toNat : Int) := rangeSize_nat i j

theorem range_rule (ok : x.Ok S d) {i j : Int} {t u : Tok} {s : Shared} {ρ : Rho} {led ex : Led} {Q : Value → Shared → Prop} (st : St S x s.heap ρ led ex l h) (b1 : -1000 ≤ i ∧ i ≤ 1000 ∧ -1000 ≤ j ∧ j ≤ 1000)
    (k : ∀ r o hp tk t₁ u₁ v₁, IsRange hp r i j 1 t₁ u₁ v₁ → St S x hp ρ led ((r, o) :: ex) l h → (∀ p ∈ led ++ ex, p.1 < r) → Q (.ref r) { s with heap := hp, toks := tk }) :
    wpAny S.M x.A (call (.type "range") [.int i t, .int j u]) Q FF s := by
  obtain ⟨m, F, LL⟩ := st.fr
  refine PyProof.Rows.range2_rows F st.news fun h' tk t₁ u₁ v₁ R F' N' hk => ?_
  have nw : x.h₀.get? s.heap.objs.size = none := by
    cases q : x.h₀.get? s.heap.objs.size with
    | none => rfl
    | some o => exact absurd (Heap.lt_size (F.keep _ _ q)) (Nat.lt_irrefl _)
  have N2 : News x.h₀ x.L h' ((s.heap.objs.size, _) :: (led ++ ex)) := News.more F' N' R (fun es n q => by cases q) nw
  exact k _ _ h' tk t₁ u₁ v₁ R (st.aside LL F' N2 fun p hp => Heap.lt_size (st.news p hp).1) fun p hp => Heap.lt_size (st.news p hp).1

theorem den_lrange (G : S.Good) (ok : x.Ok S d) {A B : Expr} {i j : Int} {np np2 pos pos2 : Pos} (hk : x.sc.names.lookup (nm n_list) = some .globalImplicit) (hk2 : x.sc.names.lookup ("range" : Str) = some .globalImplicit)
    (pa : plainX A = true) (pb : plainX B = true) (D1 : Den S x l (eval A x.env) h (.int i) h1) (D2 : Den S x l (eval B x.env) h1 (.int j) h2) (hb : -1000 ≤ i ∧ i ≤ 1000 ∧ -1000 ≤ j ∧ j ≤ 1000 ∧ j - i ≤ 64) :
    Den S x l (eval (.Call (.Name (nm n_list) np) [.Call (.Name "range" np2) [A, B] [] pos2] [] pos) x.env) h (.ref h2.nxt) (h2.newL ((List.range (j - i).toNat).map fun k : Nat => .int (i + (k : Int)))) := fun s ρ led ex Q st k => by
  refine Call_ (nm_builtin ok st (G.bi n_list (by decide)) boot_lst.1 boot_lst.2.1 hk boot_lst.2.2 ?_)
  refine PyProof.Rows.callWith_type1 ?_ rfl rfl
  refine spliced_more ?_ rfl
  refine Call_ (nm_builtin ok st G.rng boot_rng.1 boot_rng.2.1 hk2 boot_rng.2.2 ?_)
  refine PyProof.Rows.callWith_type1 ?_ (star_plain pa) (star_any (by rw [List.all_cons, pb]; rfl))
  have Ds : DensX S x l [A, B] h [.int i, .int j] h2 := dens_cons pa D1 (dens_cons pb D2 dens_nil)
  refine Ds pos2 s ρ led ex _ st fun us ρ₂ led₂ hp₂ tk₂ st₂ ext₂ vrs => ?_
  obtain ⟨u, us', rfl, ⟨t, rfl⟩, u2, us2, rfl, ⟨t2, rfl⟩, r'⟩ := vrs
  have : us2 = [] := r'
  subst this
  refine range_rule ok (s := { s with heap := hp₂, toks := tk₂ }) st₂ ⟨hb.1, hb.2.1, hb.2.2.1, hb.2.2.2.1⟩ fun r o hp tk t₁ u₁ v₁ R st₃ lt => spliced_none ?_
  obtain ⟨m, F, LL⟩ := st₃.fr
  refine kll_range (n := (j - i).toNat) ok.hd F st₃.news R (small_one (by omega) (by omega) (by omega) (by omega)) (rangeSize_nat i j) (by omega) fun D us c h' tk' F' N' lt' hI => ?_
  have e : rangeKs i (j - i).toNat = (List.range (j - i).toNat).map fun (k : Nat) => i + (k : Int) := rfl
  have vr := vrs_ints (ρ := ρ₂) hI
  rw [e, List.map_map] at vr
  have st4 : St S x h' ρ₂ led₂ ex l h2 := ⟨⟨m, F', LL⟩, fun p hp => N' p (by
      rcases List.mem_append.mp hp with hp | hp
      · exact .tail _ (List.mem_append_left _ hp)
      · exact .tail _ (List.mem_append_right _ (.tail _ hp))), st₂.nod, st₂.hr⟩
  have N5 : News x.h₀ x.L h' ((D, W.listOf us.toArray c) :: (led₂ ++ ex)) := fun p hp => by
    rcases List.mem_cons.mp hp with rfl | hp
    · exact N' _ (.head _)
    · exact st4.news p hp
  have lt5 : ∀ p ∈ led₂ ++ ex, p.1 < D := fun p hp => lt' p (by
      rcases List.mem_append.mp hp with hp | hp
      · exact List.mem_append_left _ hp
      · exact List.mem_append_right _ (.tail _ hp))
  exact k _ _ _ h' tk' (st4.newL LL F' N5 lt5 vr (by simp; omega)) (ext₂.trans Ext.newL) (vr_new st₂.hr.len)
end
end Mine
end
section
namespace Mine
open PySem PySem.W PyProof.Rows PySem.Calls PySem.SeqAt

set_option tactic.hygienic false
theorem nm_nonempty : ∀ i, i < 176 → nm i ≠ ("" : Str) := by decide +kernel
theorem nm_inj2 {i j : Nat} (hi : i < 176) (e : nm j = nm i) : j = i := by
  by_cases hj : j < 176
  · exact nm_inj' hj hi e
  · exfalso
    have : nm j = ("" : Str) := by
      unfold nm
      have hl : nmL.length = 176 := by decide
      rw [List.getD_eq_getElem?_getD, List.getElem?_eq_none (by omega)]
      rfl
    exact nm_nonempty i hi (e ▸ this)
theorem nodup_lt : ∀ (n : Nat) (l : List Nat), l.Nodup → (∀ i ∈ l, i < n) → l.length ≤ n
  | 0, l, _, h => by
    cases l with
    | nil => exact Nat.le_refl _
    | cons a r => exact absurd (h a (.head _)) (Nat.not_lt_zero _)
  | n + 1, l, nd, h => by
    have h1 := nodup_lt n (l.erase n) (nd.erase n) fun i hi => by
      have hi' := List.mem_of_mem_erase hi
      have := h i hi'
      have hne : i ≠ n := fun e => by
        subst e
        exact (List.Nodup.not_mem_erase nd) hi
      omega
    have h2 : l.length ≤ (l.erase n).length + 1 := by
      by_cases hm : n ∈ l
      · rw [List.length_erase_of_mem hm]; omega
      · rw [List.erase_of_not_mem hm]; omega
    omega

noncomputable def FlR (ρ : Rho) : VFl → Flow → Prop
  | .next, f => f = .next
  | .ret v, f => ∃ u, f = .ret u ∧ VR ρ v u
noncomputable def DenS (S : SE) (x : FX) (t : Sem Flow) (l : Loc) (h : VH) (fl : VFl) (l' : Loc) (h' : VH) : Prop :=
  ∀ (s : Shared) (ρ : Rho) (led ex : Led) (Q : Flow → Shared → Prop), St S x s.heap ρ led ex l h →
    (∀ f ρ' led' hp tk, St S x hp ρ' led' ex l' h' → Ext ρ ρ' led led' h h' → FlR ρ' fl f → Q f { s with heap := hp, toks := tk }) → wpAny S.M x.A t Q FF s
noncomputable def DenT (S : SE) (x : FX) (X : Expr) (v : VV) (l : Loc) (h : VH) (l' : Loc) (h' : VH) : Prop :=
  ∀ (s : Shared) (ρ : Rho) (led ex : Led) (u : Value) (Q : Unit → Shared → Prop), St S x s.heap ρ led ex l h → VR ρ v u →
    (∀ ρ' led' hp tk, St S x hp ρ' led' ex l' h' → Ext ρ ρ' led led' h h' → Q () { s with heap := hp, toks := tk }) → wpAny S.M x.A (assign X x.env u) Q FF s

section
variable {S : SE} {x : FX} {d : Nat} {l l1 : Loc} {h h1 h2 h3 : VH}

set_option tactic.hygienic false
theorem store_rule (ok : x.Ok S d) {i : Nat} (hi : i < 176) (hk : x.sc.names.lookup (nm i) = some .local) {v : VV} {u : Value} {s : Shared} {ρ : Rho} {led ex : Led} {Q : Unit → Shared → Prop} (st : St S x s.heap ρ led ex l h) (vr : VR ρ v u)
    (k : ∀ hp tk, St S x hp ρ led ex (upd l i (some v)) h → Q () { s with heap := hp, toks := tk }) : wpAny S.M x.A (storeName x.env (nm i) u) Q FF s := by
  obtain ⟨m, F, LL⟩ := st.fr
  refine storeX_L F st.news (fun h' F' N' => ?_) ok.kind hk
  refine k h' _ ⟨⟨_, F', fun j w e => ?_⟩, N', st.nod, st.hr⟩
  by_cases hj : j = i
  · subst hj
    rw [show upd l j (some v) j = some v by unfold upd; rw [if_pos rfl]] at e
    cases e
    exact ⟨u, by rw [if_pos rfl], vr⟩
  · rw [show upd l i (some v) j = l j by unfold upd; rw [if_neg hj]] at e
    obtain ⟨u', hu, vr'⟩ := LL j w e
    exact ⟨u', by rw [if_neg fun q => hj (nm_inj2 hi q)]; exact hu, vr'⟩

theorem attr_rule (G : S.Good) (ok : x.Ok S d) {n c f : Nat} {v : VV} {u w : Value} {s : Shared} {ρ : Rho} {led ex : Led} {Q : Unit → Shared → Prop} (hf : f < 64) (st : St S x s.heap ρ led ex l h) (vn : VR ρ (.ref n) w) (hc : h.cls n = some c) (vr : VR ρ v u)
    (k : ∀ ρ' led' hp tk, St S x hp ρ' led' ex l (h.setF n f v) → Ext ρ ρ' led led' h (h.setF n f v) → Q () { s with heap := hp, toks := tk }) : wpAny S.M x.A (setAttr w (nm f) u) Q FF s := by
  obtain ⟨m, F, LL⟩ := st.fr
  obtain ⟨a, dd, ks, es, kk, e1, I, m1, m2, e4, e5, e6, e7⟩ := st.hr.inst st.news hc
  obtain ⟨a', d', rfl, e1'⟩ := vn
  obtain ⟨rfl, rfl⟩ := Prod.mk.inj (Option.some.inj (e1.symm.trans e1'))
  obtain ⟨fi, hi⟩ := Option.isSome_iff_exists.mp (st.hr.co _ _ hc)
  have g := G.cls c fi hi
  have hf' : f < 176 := by omega
  have tk0 : takerIn S.K (S.ca c) (nm f) = some none := by
    unfold takerIn
    rw [G.fld c (st.hr.co _ _ hc) f hf]
    rfl
  have key : ∃ ks', DEnt S.w.params ρ (upd (h.fld n) f (some v)) ks' (putL (nm f) (PyData.keyHash S.w.params (nm f)) (.str (nm f) (s.toks + 1)) u es) ∧ ks'.Nodup ∧ (∀ i ∈ ks', i < 64) ∧ ∀ i, (upd (h.fld n) f (some v) i).isSome = true → i ∈ ks' := by
    by_cases hm : f ∈ ks
    · refine ⟨ks, (e6.putHit vr hf' e5 e4 hm).1, e4, e5, fun i hi => ?_⟩
      by_cases q : i = f
      · subst q; exact hm
      · rw [show upd (h.fld n) f (some v) i = h.fld n i by unfold upd; rw [if_neg q]] at hi
        exact e7 i hi
    · refine ⟨ks ++ [f], (e6.putMiss vr hf' e5 hm).1, ?_, fun i hi => ?_, fun i hi => ?_⟩
      · refine List.nodup_append.mpr ⟨e4, by simp, fun a ha b hb q => hm ?_⟩
        rw [List.mem_singleton] at hb
        subst hb; subst q; exact ha
      · rcases List.mem_append.mp hi with hi | hi
        · exact e5 i hi
        · rw [List.mem_singleton.mp hi]; exact hf
      · by_cases q : i = f
        · subst q; exact List.mem_append_right _ (.head _)
        · rw [show upd (h.fld n) f (some v) i = h.fld n i by unfold upd; rw [if_neg q]] at hi
          exact List.mem_append_left _ (e7 i hi)
  obtain ⟨ks', k1, k2, k3, k4⟩ := key
  have hlen : (putL (nm f) (PyData.keyHash S.w.params (nm f)) (.str (nm f) (s.toks + 1)) u es).length ≤ 1000 := by
    rw [k1.length]
    have := nodup_lt 64 ks' k2 k3
    omega
  refine set_dict F ok.X st.news I rfl g.2.2.2.2.2.2.2.1 g.2.2.2.2.2.2.2.2.1 tk0 g.2.2.2.2.2.2.1 (e6.getAny e5 hf') rfl (st.up m2) hlen fun h' F' N' => ?_
  rw [rep_both m2 st.nod] at N'
  refine k ρ _ h' _ ⟨⟨m, F', LL⟩, N', nod_rep st.nod, st.hr.setF st.nodl e1 hc m1 m2 k2 k3 k1 k4⟩ ⟨⟨[], by simp⟩, fun _ => Nat.le_refl _, fun j b db o q _ hm => ?_⟩
  refine mem_rep_ne hm fun e => ?_
  by_cases hj : j = n
  · subst hj
    obtain ⟨rfl, rfl⟩ := Prod.mk.inj (Option.some.inj (q.symm.trans e1))
    have := congrArg Obj.cls (led_fun st.nodl m1 (e ▸ m2))
    cases this
  · exact (st.hr.inj j n _ _ q e1 hj).2.1 e

theorem VRs.setR {ρ : Rho} {vs : List VV} {xs : List Value} {k : Int} {v : VV} {u : Value} (r : VRs ρ vs xs) (vr : VR ρ v u) : VRs ρ (vs.set k.toNat v) (xs.set k.toNat u) := r.set vr
noncomputable def vPut (n : Nat) (i v : VV) (h : VH) : Option VH := match i with
  | .int k => (match h.lst n with
    | some vs => if 0 ≤ k ∧ k < vs.length ∧ k < 1000 then some (h.setL n (vs.set k.toNat v)) else none
    | none => (h.ic n).bind fun es => if es.length < 1000 then some (h.setI n (put k v es)) else none)
  | .str k => (h.sd n).bind fun es => if es.length < 1000 then some (h.setS n (put k v es)) else none
  | _ => none
set_option tactic.hygienic true
theorem item_rule (ok : x.Ok S d) {n : Nat} {i v : VV} {u w y : Value} {s : Shared} {ρ : Rho} {led ex : Led} {Q : Unit → Shared → Prop} (st : St S x s.heap ρ led ex l h) (hv : vPut n i v h = some h1) (vn : VR ρ (.ref n) w) (vi : VR ρ i y) (vr : VR ρ v u)
    (k : ∀ ρ' led' hp tk, St S x hp ρ' led' ex l h1 → Ext ρ ρ' led led' h h1 → Q () { s with heap := hp, toks := tk }) : wpAny S.M x.A (setItem w y u) Q FF s := by
  obtain ⟨m, F, LL⟩ := st.fr
  obtain ⟨a, dd, rfl, ha⟩ := vn
  unfold vPut at hv
  split at hv
  · rename_i kk
    obtain ⟨t, rfl⟩ := vi
    split at hv
    · rename_i vs hl
      split at hv
      · rename_i hb
        cases hv
        obtain ⟨a', d', xs, c, e1, e2, e3, e4⟩ := st.hr.lst n vs hl
        obtain ⟨rfl, rfl⟩ := Prod.mk.inj (Option.some.inj (e1.symm.trans ha))
        have hz := e3.length
        have ma := st.news _ (st.mem e2)
        obtain ⟨pre, post, q1, q2, q3, q4⟩ := (st.upF e2).split
        have N0 := st.news
        rw [q1] at N0
        refine ki_setAt ma.1 hb.1 (by omega) (by rw [List.size_toArray, hz]; exact hb.2.1) ?_
        have N2 := ki_turn (fun z => Array.setIfInBounds z kk.toNat u) (its' := (xs.set kk.toNat u).toArray) (n' := c) N0 q3 q4 (by simp) (by simp)
        rw [← q2] at N2
        have z := st.setL LL ha e2 (F.change (Heap.SameBut.update ..) ma.2.1 ma.2.2) N2 (e3.set vr) (by simp; exact e4)
        exact k ρ _ _ s.toks z.1 z.2
      · cases hv
    · obtain ⟨es, hi, hv⟩ := Option.bind_eq_some_iff.mp hv
      split at hv
      · rename_i hlt
        cases hv
        obtain ⟨a', d', o, kvs, e1, e2, e3, e4, e5, e6⟩ := st.hr.ic n es hi
        obtain ⟨rfl, rfl⟩ := Prod.mk.inj (Option.some.inj (e1.symm.trans ha))
        have nk := keysNodup_of_isDictOf e3
        refine kda_set F st.news (st.upF e2) e3 (intKind_is S.prog S.w _ _) (by rw [e4.length, sizeLine_eq]; omega) fun h' o' F' N' hd' => ?_
        have hsd : h.sd n = none := by
          cases q : h.sd n with
          | none => rfl
          | some es' => exact absurd ((st.hr.sx n es' q).symm.trans hi) (by simp)
        have z := st.setI LL ha e2 (IsDictOf.cls e3) F' N' hd' (put_I vr e4 nk) e5 (by have := put_len kk v es; omega) hsd
        exact k ρ _ _ _ z.1 z.2
      · cases hv
  · rename_i kk
    obtain ⟨hk, t, rfl⟩ := vi
    obtain ⟨es, hi, hv⟩ := Option.bind_eq_some_iff.mp hv
    split at hv
    · rename_i hlt
      cases hv
      obtain ⟨a', d', o, kvs, e1, e2, e3, e4, e5, e6⟩ := st.hr.sd n es hi
      obtain ⟨rfl, rfl⟩ := Prod.mk.inj (Option.some.inj (e1.symm.trans ha))
      have nk := keysNodup_of_isDictOf e3
      refine kda_set F st.news (st.upF e2) e3 (strKind_is S.prog S.w _ _) (by rw [e4.length, sizeLine_eq]; omega) fun h' o' F' N' hd' => ?_
      have z := st.setS LL ha e2 (IsDictOf.cls e3) F' N' hd' (put_S hk vr e4 nk) e5 (by have := put_len kk v es; omega) (st.hr.sx n es hi)
      exact k ρ _ _ _ z.1 z.2
    · cases hv
  · cases hv
end
end Mine
end
section
namespace Mine
open PySem PySem.W PyProof.Rows PySem.Calls PySem.SeqAt

set_option tactic.hygienic false
theorem swaps_plain {X : Expr} {T : Option Expr} {n : Nat} {env : Env} (p : plainX X = true) : swapsWith X T n env = pure false := by
  cases X <;> first | rfl | cases p
theorem swaps_sole {X T : Expr} {n : Nat} {env : Env} (p : plainX X = true) : swapsWithSole [T] X n env = pure false := swaps_plain p
noncomputable def tgtX : Expr → Bool
  | .Name .. | .Attribute .. | .Subscript .. => true
  | _ => false
noncomputable def tgtN : Expr → Bool
  | .Attribute .. | .Subscript .. => true
  | _ => false

section
variable {S : SE} {x : FX} {d : Nat} {l l1 l2 l3 : Loc} {h h1 h2 h3 : VH}

set_option tactic.hygienic false
theorem asg_one {M : Model} {A : Around} {E : Value → Shared → Prop} {s : Shared} {env : Env} {T value : Expr} {pos : Pos} {Q : Flow → Shared → Prop}
    (h : wpAny M A (eval value env) (fun v s₁ => wpAny M A (assign T env v) (fun _ => Q .next) E s₁) E s)
    (hT : tgtX T = true) (pv : plainX value = true) : wpAny M A (exec (.Assign [T] value pos) env) Q E s := by
  rw [exec_Assign]
  refine wpAny_bind (wpAny_standAt ?_)
  rw [show swapsWithSole [T] value pos.line env = pure false from swaps_plain pv]
  refine wpAny_bind (wpAny_pure ?_)
  rw [if_neg (by decide)]
  refine wpAny_bind (wpAny_mono h (fun v s₁ h₁ => ?_) fun _ _ x => x)
  have hw : swappedStores [T] value env = pure none := by cases T <;> first | rfl | cases hT
  rw [hw]
  refine wpAny_bind (wpAny_pure ?_)
  have he : (assignEach [T] env).map (·.2) = [assign T env] := by cases T <;> first | rfl | cases hT
  rw [he]
  show wpAny M A (do assignAll v [assign T env]; pure .next) Q E s₁
  exact wpAny_bind (wpAny_mono h₁ (fun _ _ x => wpAny_pure x) fun _ _ x => x)

theorem dent_name (ok : x.Ok S d) {i : Nat} {pos : Pos} {v : VV} (hi : i < 176) (hk : x.sc.names.lookup (nm i) = some .local) : DenT S x (.Name (nm i) pos) v l h (upd l i (some v)) h := fun s ρ led ex u Q st vr k =>
  PyProof.Rows.assign_Name (store_rule ok hi hk st vr fun hp tk st' => k ρ led hp tk st' .refl)
theorem dent_attr (G : S.Good) (ok : x.Ok S d) {o : Expr} {n c f : Nat} {v : VV} {pos : Pos} (D : Den S x l (eval o x.env) h (.ref n) h1) (hc : h1.cls n = some c) (hf : f < 64) : DenT S x (.Attribute o (nm f) pos) v l h l (h1.setF n f v) := fun s ρ led ex u Q st vr k => by
  refine kas_attr (D s ρ led ex _ st fun w ρ' led' hp tk st' ext vw => ?_)
  exact attr_rule G ok hf (s := { s with heap := hp, toks := tk }) st' vw hc (vr.ext ext) fun ρ₂ led₂ hp₂ tk₂ st₂ ext₂ => k ρ₂ led₂ hp₂ tk₂ st₂ (ext.trans ext₂)
theorem dent_sub (ok : x.Ok S d) {o I : Expr} {n : Nat} {i v : VV} {pos : Pos} (D1 : Den S x l (eval o x.env) h (.ref n) h1) (D2 : Den S x l (eval I x.env) h1 i h2) (hv : vPut n i v h2 = some h3) : DenT S x (.Subscript o I pos) v l h l h3 := fun s ρ led ex u Q st vr k => by
  refine kas_sub (D1 s ρ led ex _ st fun w ρ' led' hp tk st' ext vw => D2 _ ρ' led' ex _ st' fun y ρ₁ led₁ hp₁ tk₁ st₁ ext₁ vy => ?_)
  exact item_rule ok (s := { s with heap := hp₁, toks := tk₁ }) st₁ hv (vw.ext ext₁) vy (vr.ext (ext.trans ext₁)) fun ρ₂ led₂ hp₂ tk₂ st₂ ext₂ => k ρ₂ led₂ hp₂ tk₂ st₂ ((ext.trans ext₁).trans ext₂)

theorem dens_asg {T X : Expr} {v : VV} {pos : Pos} (hT : tgtX T = true) (px : plainX X = true) (D : Den S x l (eval X x.env) h v h1) (DT : DenT S x T v l h1 l2 h2) : DenS S x (exec (.Assign [T] X pos) x.env) l h .next l2 h2 := fun s ρ led ex Q st k =>
  asg_one (D s ρ led ex _ st fun u ρ' led' hp tk st' ext vr => DT { s with heap := hp, toks := tk } ρ' led' ex u _ st' vr fun ρ₂ led₂ hp₂ tk₂ st₂ ext₂ => k _ ρ₂ led₂ hp₂ tk₂ st₂ (ext.trans ext₂) rfl) hT px

noncomputable def DenTs (S : SE) (x : FX) (Ts : List Expr) (vs : List VV) (l : Loc) (h : VH) (l' : Loc) (h' : VH) : Prop :=
  ∀ (s : Shared) (ρ : Rho) (led ex : Led) (us : List Value) (Q : Unit → Shared → Prop), St S x s.heap ρ led ex l h → VRs ρ vs us →
    (∀ ρ' led' hp tk, St S x hp ρ' led' ex l' h' → Ext ρ ρ' led led' h h' → Q () { s with heap := hp, toks := tk }) → wpAny S.M x.A (assignInOrder ((assignEach Ts x.env).map (·.2)) us) Q FF s
theorem dents_nil : DenTs S x [] [] l h l h := fun s ρ led ex us Q st vr k => assignInOrder_nil (k ρ led s.heap s.toks st .refl)
theorem each_tgt {T : Expr} {Ts : List Expr} {env : Env} (hT : tgtX T = true) : assignEach (T :: Ts) env = (false, assign T env) :: assignEach Ts env := by
  cases T <;> first | rfl | cases hT
theorem dents_cons {T : Expr} {Ts : List Expr} {v : VV} {vs : List VV} (hT : tgtX T = true) (D : DenT S x T v l h l1 h1) (Ds : DenTs S x Ts vs l1 h1 l2 h2) : DenTs S x (T :: Ts) (v :: vs) l h l2 h2 := fun s ρ led ex us Q st vr k => by
  obtain ⟨u, us', rfl, vu, vus⟩ := vr
  rw [each_tgt hT]
  refine assignInOrder_cons (D s ρ led ex u _ st vu fun ρ' led' hp tk st' ext => ?_)
  exact Ds _ ρ' led' ex us' _ st' (vus.ext ext) fun ρ₂ led₂ hp₂ tk₂ st₂ ext₂ => k ρ₂ led₂ hp₂ tk₂ st₂ (ext.trans ext₂)

theorem each_len {env : Env} : ∀ {Ts : List Expr}, (assignEach Ts env).length = Ts.length
  | [] => rfl
  | T :: r => by cases T <;> exact congrArg (· + 1) (each_len (Ts := r))
theorem each_star {env : Env} : ∀ {Ts : List Expr}, Ts.all tgtN = true → (assignEach Ts env).findIdx? (·.1) = none
  | [], _ => rfl
  | T :: r, p => by
    obtain ⟨p1, p2⟩ := Bool.and_eq_true_iff.mp (List.all_cons ▸ p)
    have hT : tgtX T = true := by cases T <;> first | rfl | cases p1
    rw [each_tgt hT, List.findIdx?_cons]
    simp [each_star (env := env) p2]
set_option backward.match.sparseCases true in
noncomputable def stX : Expr → Bool
  | .Starred _ _ => true
  | _ => false
set_option backward.match.sparseCases true in
noncomputable def nmX (env : Env) (ln : Nat) : Expr → Option Str
  | .Name id pos => if (env.kindOf id == some .local && pos.line == ln) = true then some id else none
  | _ => none
theorem names_none {env : Env} {ln : Nat} : ∀ {Us : List Expr}, Us.all tgtN = true → Us.filterMap (nmX env ln) = []
  | [], _ => rfl
  | U :: r, q => by
    obtain ⟨q1, q2⟩ := Bool.and_eq_true_iff.mp (List.all_cons ▸ q)
    rw [List.filterMap_cons, show nmX env ln U = none by cases U <;> first | rfl | cases q1]
    exact names_none q2
theorem not_t {b : Bool} (h : b = false) : ¬ b = true := fun e => Bool.noConfusion (h.symm.trans e)
theorem swapped_nil {ts vs : List Expr} {k k' : Nat} {tp vp : Pos} {env : Env} (h : ts.filterMap (nmX env ((ts.head?.map fun t => t.pos.line).getD 0)) = []) (ne : (0 != ts.length) = true) : swappedStores [.Tuple ts k tp] (.Tuple vs k' vp) env = pure none := by
  cases c1 : (!(ts.length == 2 || ts.length == 3) || vs.length != ts.length || env.blockKind != .function) with
  | true => exact if_pos c1
  | false =>
    refine (if_neg (not_t c1)).trans ?_
    cases c2 : vs.any stX with
    | true => exact if_pos c2
    | false =>
      refine (if_neg (not_t c2)).trans (if_pos (?_ : ((ts.filterMap (nmX env ((ts.head?.map fun t => t.pos.line).getD 0))).length != ts.length || _) = true))
      rw [h]
      exact Bool.or_eq_true_iff.mpr (.inl ne)
theorem swapped_none {T1 : Expr} {Ts : List Expr} {k : Nat} {tp : Pos} {X : Expr} {env : Env} (p : (T1 :: Ts).all tgtN = true) : swappedStores [.Tuple (T1 :: Ts) k tp] X env = pure none := by
  cases X with
  | Tuple vs k' vp => exact swapped_nil (names_none p) rfl
  | _ => rfl

theorem VR.tup_ref {ρ : Rho} {n : Nat} {u : Value} (q : VR ρ (.ref n) u) : ∃ a d, u = .ref a ∧ ρ[n]? = some (a, d) := q

theorem dens_asgT (ok : x.Ok S d) {T1 X : Expr} {Ts : List Expr} {n kk : Nat} {vs : List VV} {tp pos : Pos} (hT : (T1 :: Ts).all tgtN = true) (px : plainX X = true) (D : Den S x l (eval X x.env) h (.ref n) h1) (hn : h1.tup n = some vs) (hl : (T1 :: Ts).length = vs.length)
    (DT : DenTs S x (T1 :: Ts) vs l h1 l2 h2) : DenS S x (exec (.Assign [.Tuple (T1 :: Ts) kk tp] X pos) x.env) l h .next l2 h2 := fun s ρ led ex Q st k => by
  refine Assign_Tuple (D s ρ led ex _ st fun u ρ' led' hp tk st' ext vr => ?_) (show swapsWithSole [.Tuple (T1 :: Ts) kk tp] X pos.line x.env = pure false from swaps_sole px) (swapped_none hT)
  obtain ⟨a, dd, rfl, ha⟩ := vr
  obtain ⟨a', d', xs, e1, e2, e3, e4⟩ := st'.hr.tup n vs hn
  obtain ⟨rfl, rfl⟩ := Prod.mk.inj (Option.some.inj (e1.symm.trans ha))
  have hL : IsTup hp a' xs.toArray := ⟨_, (st'.news _ (List.mem_append_left _ e2)).1, rfl, _, rfl⟩
  obtain ⟨m, F, LL⟩ := st'.fr
  refine unpackN_ F st'.news hL ok.hd (by rw [each_len, hl, List.size_toArray, e3.length]) (each_star hT) fun h' F' N' => ?_
  exact DT { s with heap := h', toks := tk } ρ' led' ex _ _ ⟨⟨m, F', LL⟩, N', st'.nod, st'.hr⟩ e3 fun ρ₂ led₂ hp₂ tk₂ st₂ ext₂ => k _ ρ₂ led₂ hp₂ tk₂ st₂ (ext.trans ext₂) rfl

noncomputable def swOk (sc : Scope) (a b : Nat) (p1 p2 : Pos) (V1 V2 : Expr) : Bool :=
  sc.kind == .function && plainX V1 && plainX V2 && sc.names.lookup (nm a) == some .local && sc.names.lookup (nm b) == some .local && p1.line == p2.line && decide (a < 176) && decide (b < 176) && decide (a ≠ b) &&
    !(foldedForSure 8 V1 && foldedForSure 8 V2) && !(constantsAlone 8 V1 && constantsAlone 8 V2)
structure SwOk (sc : Scope) (a b : Nat) (p1 p2 : Pos) (V1 V2 : Expr) : Prop where
  kd : sc.kind = .function
  v1 : plainX V1 = true
  v2 : plainX V2 = true
  la : sc.names.lookup (nm a) = some .local
  lb : sc.names.lookup (nm b) = some .local
  ln : p1.line = p2.line
  a1 : a < 176
  b1 : b < 176
  ne : a ≠ b
  fo : (foldedForSure 8 V1 && foldedForSure 8 V2) = false
  co : (constantsAlone 8 V1 && constantsAlone 8 V2) = false
theorem swOk_ok {sc : Scope} {a b : Nat} {p1 p2 : Pos} {V1 V2 : Expr} (h : swOk sc a b p1 p2 V1 V2 = true) : SwOk sc a b p1 p2 V1 V2 := by
  refine and6_e (show (_ && _ && _ && _ && _ && _) = true from h) fun h h6 h7 h8 h9 h10 => and6_e (show (_ && _ && _ && _ && _ && _) = true from h) fun h0 h1 h2 h3 h4 h5 => ?_
  exact ⟨eq_of_beq h0, h1, h2, eq_of_beq h3, eq_of_beq h4, eq_of_beq h5, of_decide_eq_true h6, of_decide_eq_true h7, of_decide_eq_true h8, Bool.not_eq_true' _ |>.mp h9, Bool.not_eq_true' _ |>.mp h10⟩
theorem dups_two {a b : Str} (hne : a ≠ b) : [a, b].eraseDups = [a, b] := by
  simp [List.eraseDups_cons, show b ≠ a from fun e => hne e.symm, Ne.symm hne]
theorem stX_no {V : Expr} (h : plainX V = true) : stX V = false := by
  cases V <;> first | rfl | cases h
theorem swapped_two {sc : Scope} {a b : Nat} {p1 p2 : Pos} {V1 V2 : Expr} {k k' : Nat} {tp vp : Pos} {env : Env} (he : env.scope = sc) (h : SwOk sc a b p1 p2 V1 V2) :
    swappedStores [.Tuple [.Name (nm a) p1, .Name (nm b) p2] k tp] (.Tuple [V1, V2] k' vp) env = pure (some [nm a, nm b]) := by
  have hk : env.blockKind = .function := by
    unfold Env.blockKind
    rw [he, h.kd]; rfl
  have n1 : nmX env p1.line (.Name (nm a) p1) = some (nm a) := if_pos (by
    rw [show env.kindOf (nm a) = some .local by unfold Env.kindOf; rw [he]; exact h.la, beq_self_eq_true, beq_self_eq_true]
    rfl)
  have n2 : nmX env p1.line (.Name (nm b) p2) = some (nm b) := if_pos (by
    rw [show env.kindOf (nm b) = some .local by unfold Env.kindOf; rw [he]; exact h.lb, h.ln, beq_self_eq_true, beq_self_eq_true]
    rfl)
  have c3 : [.Name (nm a) p1, .Name (nm b) p2].filterMap (nmX env p1.line) = [nm a, nm b] := by
    rw [List.filterMap_cons, n1, List.filterMap_cons, n2]
    rfl
  have c1 : (!(true || false) || (2 != 2) || env.blockKind != .function) = false := by rw [hk]; rfl
  have c2 : ([V1, V2].any stX) = false := by
    rw [List.any_cons, List.any_cons, stX_no h.v1, stX_no h.v2]
    rfl
  refine (if_neg (not_t c1)).trans ((if_neg (not_t c2)).trans ?_)
  have c4 : (([.Name (nm a) p1, .Name (nm b) p2].filterMap (nmX env p1.line)).length != 2 || ([.Name (nm a) p1, .Name (nm b) p2].filterMap (nmX env p1.line)).eraseDups.length != ([.Name (nm a) p1, .Name (nm b) p2].filterMap (nmX env p1.line)).length) = false := by
    rw [c3, dups_two fun e => h.ne (nm_inj' h.a1 h.b1 e)]
    rfl
  have c5 : ([V1, V2].all (foldedForSure 8)) = false := by
    rw [List.all_cons, List.all_cons, List.all_nil, Bool.and_true]
    exact h.fo
  have c6 : ([V1, V2].all (constantsAlone 8)) = false := by
    rw [List.all_cons, List.all_cons, List.all_nil, Bool.and_true]
    exact h.co
  exact (if_neg (not_t c4)).trans ((if_neg (not_t c5)).trans ((if_neg (not_t c6)).trans (congrArg (fun z => (pure (some z) : Sem (Option (List Str)))) c3)))

theorem dens_asgN (ok : x.Ok S d) {a b : Nat} {V1 V2 : Expr} {n kk k' : Nat} {v1 v2 : VV} {p1 p2 tp vp pos : Pos} (hs : swOk x.sc a b p1 p2 V1 V2 = true) (D : Den S x l (eval (.Tuple [V1, V2] k' vp) x.env) h (.ref n) h1) (hn : h1.tup n = some [v1, v2]) :
    DenS S x (exec (.Assign [.Tuple [.Name (nm a) p1, .Name (nm b) p2] kk tp] (.Tuple [V1, V2] k' vp) pos) x.env) l h .next (upd (upd l b (some v2)) a (some v1)) h1 := fun s ρ led ex Q st k => by
  have H := swOk_ok hs
  refine Assign_Tuple_swapped (names := [nm a, nm b]) (D s ρ led ex _ st fun u ρ' led' hp tk st' ext vr => ?_) (show swapsWithSole [.Tuple [.Name (nm a) p1, .Name (nm b) p2] kk tp] (.Tuple [V1, V2] k' vp) pos.line x.env = pure false from rfl) (swapped_two rfl H)
  obtain ⟨ad, dd, rfl, ha⟩ := vr
  obtain ⟨a', d', xs, e1, e2, e3, e4⟩ := st'.hr.tup n _ hn
  obtain ⟨rfl, rfl⟩ := Prod.mk.inj (Option.some.inj (e1.symm.trans ha))
  have hL : IsTup hp a' xs.toArray := ⟨_, (st'.news _ (List.mem_append_left _ e2)).1, rfl, _, rfl⟩
  obtain ⟨m, F, LL⟩ := st'.fr
  have hz := e3.length
  refine unpackItemsN_ F st'.news hL ok.hd (by simp [hz]) fun h' F' N' => ?_
  obtain ⟨u1, us', rfl, r1, u2, us'', rfl, r2, r3⟩ := e3
  have : us'' = [] := r3
  subst this
  show wpAny S.M x.A (assignInOrder [fun v => bindName x.env (nm b) v, fun v => bindName x.env (nm a) v] [u2, u1]) _ FF _
  have st1 : St S x h' ρ' led' ex l h1 := ⟨⟨m, F', LL⟩, N', st'.nod, st'.hr⟩
  refine assignInOrder_cons (bindName_ (store_rule ok (s := { s with heap := h', toks := tk }) H.b1 H.lb st1 r2 fun hp₂ tk₂ st₂ => ?_))
  refine assignInOrder_cons (bindName_ (store_rule ok (s := { s with heap := hp₂, toks := tk₂ }) H.a1 H.la st₂ r1 fun hp₃ tk₃ st₃ => ?_))
  exact assignInOrder_nil (k _ ρ' led' hp₃ tk₃ st₃ ext rfl)

theorem dens_augA (G : S.Good) (ok : x.Ok S d) {o X : Expr} {n c c2 f : Nat} {i j : Int} {tp pos : Pos} (D1 : Den S x l (eval o x.env) h (.ref n) h1) (hc : h1.cls n = some c) (hf : h1.fld n f = some (.int i)) (hf64 : f < 64) (D2 : Den S x l (eval X x.env) h1 (.int j) h2) (hc2 : h2.cls n = some c2) :
    DenS S x (exec (.AugAssign (.Attribute o (nm f) tp) .Add X pos) x.env) l h .next l (h2.setF n f (.int (i + j))) := fun s ρ led ex Q st k => by
  refine wpAny_AugAssign_AttributeAny (D1 s ρ led ex _ st fun u ρ' led' hp tk st' ext vr => ?_)
  obtain ⟨m, F, L⟩ := st'.fr
  obtain ⟨a, dd, ks, es, kk, e1, I, _, _, e4, e5, e6, e7⟩ := st'.hr.inst st'.news hc
  have vr0 := vr
  obtain ⟨a', d', rfl, e1'⟩ := vr
  obtain ⟨rfl, rfl⟩ := Prod.mk.inj (Option.some.inj (e1.symm.trans e1'))
  obtain ⟨fi, hi⟩ := Option.isSome_iff_exists.mp (st'.hr.co _ _ hc)
  have g := G.cls c fi hi
  obtain ⟨y, hy, vy⟩ := e6.getHit e5 e7 hf
  refine get_own F ok.X I (g.2.2.2.2.2.2.2.2.2 _) g.2.2.2.2.2.2.1 (G.fld c (st'.hr.co _ _ hc) f (e5 f (e7 f (by rw [hf]; rfl)))) rfl hy vy.handed ?_
  obtain ⟨t, rfl⟩ := vy
  refine D2 { s with heap := hp, toks := tk + 1 } ρ' led' ex _ st' fun w ρ₂ led₂ hp₂ tk₂ st₂ ext₂ vw => ?_
  obtain ⟨t', rfl⟩ := vw
  refine AutoIntOps.iadd_0 ?_
  exact attr_rule G ok hf64 (s := { s with heap := hp₂, toks := _ }) (Q := fun _ => Q .next) (v := .int (i + j)) st₂ (vr0.ext ext₂) hc2 ⟨_, rfl⟩ fun ρ₃ led₃ hp₃ tk₃ st₃ ext₃ => k _ ρ₃ led₃ hp₃ tk₃ st₃ ((ext.trans ext₂).trans ext₃) rfl

theorem dens_if {T : Expr} {B O : List Stmt} {b : Bool} {fl : VFl} {pos : Pos} (D : DenE S x l T h (.bool b) h1) (DB : DenS S x (execs (if b then B else O) x.env) l h1 fl l2 h2) : DenS S x (exec (.If T B O pos) x.env) l h fl l2 h2 := fun s ρ led ex Q st k => by
  refine wpAny_If (D.2 b rfl s ρ led ex _ st fun ρ' led' hp tk st' ext => ?_)
  cases b
  · rw [if_neg (by decide)]
    exact DB { s with heap := hp, toks := tk } ρ' led' ex Q st' fun f ρ₂ led₂ hp₂ tk₂ st₂ ext₂ r => k f ρ₂ led₂ hp₂ tk₂ st₂ (ext.trans ext₂) r
  · rw [if_pos rfl]
    exact DB { s with heap := hp, toks := tk } ρ' led' ex Q st' fun f ρ₂ led₂ hp₂ tk₂ st₂ ext₂ r => k f ρ₂ led₂ hp₂ tk₂ st₂ (ext.trans ext₂) r
theorem dens_ret {X : Expr} {v : VV} {pos : Pos} (D : Den S x l (eval X x.env) h v h1) : DenS S x (exec (.Return (some X) pos) x.env) l h (.ret v) l h1 := fun s ρ led ex Q st k =>
  wpAny_Return_some (D s ρ led ex _ st fun u ρ' led' hp tk st' ext vr => k _ ρ' led' hp tk st' ext ⟨u, rfl, vr⟩)
theorem dens_retN {pos : Pos} : DenS S x (exec (.Return none pos) x.env) l h (.ret .none) l h := fun s ρ led ex Q st k =>
  wpAny_Return_none (k _ ρ led s.heap s.toks st .refl ⟨_, rfl, rfl⟩)
theorem dens_expr (ok : x.Ok S d) {X : Expr} {v : VV} {pos : Pos} (px : plainX X = true) (D : Den S x l (eval X x.env) h v h1) : DenS S x (exec (.Expr X pos) x.env) l h .next l h1 := fun s ρ led ex Q st k => by
  refine wpAny_Expr_any (D s ρ led ex _ st fun u ρ' led' hp tk st' ext vr => k _ ρ' led' hp tk st' ext rfl) ?_ (swaps_plain px)
  show interactive x.env = false
  unfold interactive
  rw [show x.env.scope.kind = .function from ok.kind]
  rfl
theorem dens_stop : DenS S x (execs [] x.env) l h .next l h := fun s ρ led ex Q st k => wpAny_execs_nil (k _ ρ led s.heap s.toks st .refl rfl)
theorem dens_seq {X : Stmt} {Xs : List Stmt} {fl : VFl} (D : DenS S x (exec X x.env) l h .next l1 h1) (Ds : DenS S x (execs Xs x.env) l1 h1 fl l2 h2) : DenS S x (execs (X :: Xs) x.env) l h fl l2 h2 := fun s ρ led ex Q st k =>
  wpAny_execs_cons (D s ρ led ex _ st fun f ρ' led' hp tk st' ext r => by
    rw [show f = .next from r]
    exact Ds { s with heap := hp, toks := tk } ρ' led' ex Q st' fun f ρ₂ led₂ hp₂ tk₂ st₂ ext₂ r => k f ρ₂ led₂ hp₂ tk₂ st₂ (ext.trans ext₂) r)
theorem dens_out {X : Stmt} {Xs : List Stmt} {v : VV} (D : DenS S x (exec X x.env) l h (.ret v) l1 h1) : DenS S x (execs (X :: Xs) x.env) l h (.ret v) l1 h1 := fun s ρ led ex Q st k =>
  wpAny_execs_cons (D s ρ led ex _ st fun f ρ' led' hp tk st' ext r => by
    obtain ⟨u, rfl, vr⟩ := r
    exact k _ ρ' led' hp tk st' ext ⟨u, rfl, vr⟩)
end
end Mine
end
section
namespace Mine
open PySem PySem.W PyProof.Rows PySem.Calls PySem.SeqAt

section
variable {S : SE} {x : FX} {d : Nat} {l l1 l2 l3 : Loc} {h h1 h2 h3 : VH}

noncomputable def LPost (h₀ : Heap) (L : Addr) (I : Addr) (J : (Str → Option Value) → List (Addr × Obj) → Prop) (oI : Obj) (s₁ : Shared) (Q : Flow → Shared → Prop) : Flow → Shared → Prop
  | .ret v, s₂ => Q (.ret v) s₂
  | .next, s₂ => ∃ h' tk m' nx', s₂ = { s₁ with heap := h', toks := tk } ∧ Fr h₀ L h' m' ∧ News h₀ L h' ((I, oI) :: nx') ∧ (∀ p ∈ nx', p.1 ≠ I) ∧ J m' nx'
  | _, _ => False

set_option tactic.hygienic false
theorem loop_core {prog : Program} {w : World} {A : Around} {E : Value → Shared → Prop} {s : Shared} {env : Env} {h₀ : Heap} {y : Str} {body : List Stmt} {Q : Flow → Shared → Prop}
    {I : Addr} {fp : List Addr} {n : Nat} {P : Nat → Value → Prop} {T : Nat → Heap → Prop} {m₀ : Str → Option Value} {news : List (Addr × Obj)} (J : Nat → (Str → Option Value) → List (Addr × Obj) → Prop)
    (W : Walks prog w A I fp [I] n P T) (hI : h₀.get? I = none) (hL : env.locals ∉ fp) (hIfp : I ∈ fp) (hfix : ∀ b ∈ fp, b = I ∨ ∃ o, ∀ i m nx, J i m nx → (b, o) ∈ nx)
    (hob : ∀ i h, T i h → ∃ o, h.get? I = some o) (hnw : ∀ p ∈ news, p.1 ≠ I) (hst : T 0 s.heap) (F : Fr h₀ env.locals s.heap m₀) (N : News h₀ env.locals s.heap news) (hj : J 0 m₀ news)
    (turn : ∀ i v m₁ nx h tk oI, i < n → P i v → (∀ p ∈ nx, p.1 ≠ I) → J i m₁ nx → Fr h₀ env.locals h (fun z => if z = y then some v else m₁ z) → News h₀ env.locals h ((I, oI) :: nx) →
      wpAny (model prog w) A (execs body env) (LPost h₀ env.locals I (J (i + 1)) oI { s with heap := h, toks := tk } Q) E { s with heap := h, toks := tk })
    (done : ∀ m₁ nx h tk, J n m₁ nx → Fr h₀ env.locals h m₁ → News h₀ env.locals h nx → Q .next { s with heap := h, toks := tk }) :
    LoopAtV prog w A h₀ env y body Q E (.ref I) s := by
  refine ⟨I, fp, [I], n, P, T, m₀, news, J, rfl, W, hL, fun b hb => (List.mem_singleton.mp hb) ▸ hI, fun p hp q => hnw p hp (List.mem_singleton.mp q), hst, F, N, hj, ?_, ?_⟩
  · rintro i v m₁ news₁ s₁ own ⟨hh', tk', rfl⟩ hin hP hJ hoff hown hget hmem hst' F₁ N₁
    obtain ⟨oI, hoI⟩ := hob _ _ hst'
    have mI := hmem I hIfp hI oI hoI
    have hoff' : ∀ p ∈ news₁, p.1 ≠ I := fun p hp q => hoff p hp (List.mem_singleton.mpr q)
    have N₂ : News h₀ env.locals hh' ((I, oI) :: news₁) := fun p hp => by
      rcases List.mem_cons.mp hp with rfl | hp
      · exact N₁ _ (List.mem_append_left _ mI)
      · exact N₁ _ (List.mem_append_right _ hp)
    refine wpAny_mono (turn i v m₁ news₁ hh' tk' oI hin hP hoff' hJ F₁ N₂) (fun f s₂ p => ?_) fun _ _ e => e
    cases f with
    | ret v => exact .ret p
    | brk => exact p.elim
    | cont => exact p.elim
    | next =>
      obtain ⟨h', tk, m', nx, e, F', N', hn, hJ'⟩ := p
      refine .next ⟨rfl, h', tk, m', nx, e, F', fun p hp => ?_, fun p hp q => hn p hp (List.mem_singleton.mp q), hJ'⟩
      rcases List.mem_append.mp hp with hp | hp
      · rcases hfix p.1 (hown p hp) with q | ⟨o, q⟩
        · have : p = (I, oI) := by
            have h2 : hh'.get? p.1 = some p.2 := hget p hp
            rw [q, hoI] at h2
            exact Prod.ext q (Option.some.inj h2).symm
          rw [this]
          exact N' _ (.head _)
        · have h2 : hh'.get? p.1 = some p.2 := hget p hp
          have h3 : hh'.get? p.1 = some o := (N₂ _ (.tail _ (q i m₁ news₁ hJ))).1
          have : p = (p.1, o) := Prod.ext rfl (Option.some.inj (h2.symm.trans h3))
          rw [this]
          exact N' _ (.tail _ (q _ _ _ hJ'))
      · exact N' _ (.tail _ hp)
  · rintro h' tk m' news' F' N' _ hJ
    exact done m' news' h' tk hJ F' N'

theorem St.put_aside {hp : Heap} {ρ : Rho} {led ex : Led} {m : Str → Option Value} {I : Addr} {oI : Obj} (F : Fr x.h₀ x.L hp m) (LL : LR ρ l m) (N : News x.h₀ x.L hp ((I, oI) :: (led ++ ex))) (nod : ((led ++ ex).map (·.1)).Nodup) (off : ∀ p ∈ led ++ ex, p.1 ≠ I) (H : HR S ρ led h) :
    St S x hp ρ led ((I, oI) :: ex) l h := by
  refine ⟨⟨m, F, LL⟩, fun p hp => ?_, ?_, H⟩
  · rcases List.mem_append.mp hp with q | q
    · exact N p (.tail _ (List.mem_append_left _ q))
    · rcases List.mem_cons.mp q with rfl | q
      · exact N _ (.head _)
      · exact N p (.tail _ (List.mem_append_right _ q))
  · rw [List.map_append, List.map_cons]
    refine List.perm_middle.nodup_iff.mpr (List.nodup_cons.mpr ⟨fun q => ?_, ?_⟩)
    · rw [← List.map_append] at q
      obtain ⟨p, hp, e⟩ := List.mem_map.mp q
      exact off p hp e
    · rw [← List.map_append]
      exact nod
theorem St.take_aside {hp : Heap} {ρ : Rho} {led ex : Led} {I : Addr} {oI : Obj} (st : St S x hp ρ led ((I, oI) :: ex) l h) :
    News x.h₀ x.L hp ((I, oI) :: (led ++ ex)) ∧ ((led ++ ex).map (·.1)).Nodup ∧ ∀ p ∈ led ++ ex, p.1 ≠ I := by
  have nod := st.nod
  rw [List.map_append, List.map_cons] at nod
  obtain ⟨n1, n2⟩ := List.nodup_cons.mp (List.perm_middle.nodup_iff.mp nod)
  rw [← List.map_append] at n1 n2
  refine ⟨fun p hp => ?_, n2, fun p hp e => n1 (List.mem_map.mpr ⟨p, hp, e⟩)⟩
  rcases List.mem_cons.mp hp with rfl | hp
  · exact st.news _ (List.mem_append_right _ (.head _))
  · rcases List.mem_append.mp hp with q | q
    · exact st.news _ (List.mem_append_left _ q)
    · exact st.news _ (List.mem_append_right _ (.tail _ q))
theorem St.drop_aside {hp : Heap} {ρ : Rho} {led ex : Led} {I : Addr} {oI : Obj} (st : St S x hp ρ led ((I, oI) :: ex) l h) : St S x hp ρ led ex l h :=
  ⟨st.fr, fun p hp => st.take_aside.1 p (.tail _ hp), st.take_aside.2.1, st.hr⟩

theorem LR.upd {ρ : Rho} {m : Str → Option Value} {i : Nat} {v : VV} {u : Value} (hi : i < 176) (LL : LR ρ l m) (vr : VR ρ v u) : LR ρ (upd l i (some v)) (fun y => if y = nm i then some u else m y) := fun j w e => by
  by_cases hj : j = i
  · subst hj
    rw [show Mine.upd l j (some v) j = some v by unfold Mine.upd; rw [if_pos rfl]] at e
    cases e
    exact ⟨u, by simp, vr⟩
  · rw [show Mine.upd l i (some v) j = l j by unfold Mine.upd; rw [if_neg hj]] at e
    obtain ⟨u', hu, vr'⟩ := LL j w e
    exact ⟨u', (if_neg fun q => hj (nm_inj2 hi q)).trans hu, vr'⟩

set_option tactic.hygienic true
theorem loop_den {y : Nat} (hy : y < 176) {I : Addr} {oI : Obj} {fp : List Addr} {n : Nat} {P : Nat → Value → Prop} {T : Nat → Heap → Prop} {f : Loc → VH → Option (VFl × Loc × VH)} {chk : VH → Bool} {C : VH → Prop} {vs : List VV}
    {fl : VFl} {s : Shared} {ρ : Rho} {led ex : Led} {body : List Stmt} {Q : Flow → Shared → Prop}
    (W : Walks S.prog S.w x.A I fp [I] n P T) (hL : x.L ∉ fp) (hIfp : I ∈ fp) (hfix : ∀ b ∈ fp, b = I ∨ ∃ o, ∀ ρ' led' h', Ext ρ ρ' led led' h h' → C h' → (b, o) ∈ led')
    (hob : ∀ i h, T i h → ∃ o, h.get? I = some o) (hst : T 0 s.heap) (st : St S x s.heap ρ led ((I, oI) :: ex) l h) (hn : vs.length = n) (hP : ∀ i v, P i v → i < n → ∃ w, vs[i]? = some w ∧ VR ρ w v) (hC0 : C h) (hC : ∀ h', chk h' = true → C h')
    (hl : loopV f chk y vs l h = some (fl, l2, h2)) (Body : ∀ l h fl l' h', f l h = some (fl, l', h') → DenS S x (execs body x.env) l h fl l' h')
    (k : ∀ f' ρ' led' hp tk, St S x hp ρ' led' ex l2 h2 → Ext ρ ρ' led led' h h2 → FlR ρ' fl f' → Q f' { s with heap := hp, toks := tk }) : LoopAtV S.prog S.w x.A x.h₀ x.env (nm y) body Q FF (.ref I) s := by
  obtain ⟨N, nod, off⟩ := st.take_aside
  obtain ⟨m, F, LL⟩ := st.fr
  let J : Nat → (Str → Option Value) → List (Addr × Obj) → Prop := fun i m nx => ∃ ρ' led' l' h', nx = led' ++ ex ∧ LR ρ' l' m ∧ (nx.map (·.1)).Nodup ∧ HR S ρ' led' h' ∧ Ext ρ ρ' led led' h h' ∧ C h' ∧ loopV f chk y (vs.drop i) l' h' = some (fl, l2, h2)
  refine loop_core J W (st.news _ (List.mem_append_right _ (.head _))).2.2 hL hIfp (fun b hb => ?_) hob off hst F (fun p hp => N p (.tail _ hp)) ⟨ρ, led, l, h, rfl, LL, nod, st.hr, .refl, hC0, hl⟩ ?_ ?_
  · rcases hfix b hb with q | ⟨o, q⟩
    · exact .inl q
    · refine .inr ⟨o, ?_⟩
      rintro i m nx ⟨ρ', led', l', h', rfl, _, _, _, e, c, _⟩
      exact List.mem_append_left _ (q ρ' led' h' e c)
  · rintro i v m₁ nx hh tk oI' hi hp offn ⟨ρ', led', l', h', rfl, LL', nod', H', e', c', hl'⟩ F₁ N₁
    obtain ⟨w, hw, vr⟩ := hP i v hp hi
    have hd : vs.drop i = w :: vs.drop (i + 1) := by
      obtain ⟨hlt, e⟩ := List.getElem?_eq_some_iff.mp hw
      rw [← e]
      exact List.drop_eq_getElem_cons hlt
    rw [hd] at hl'
    unfold loopV at hl'
    obtain ⟨⟨fl1, l3, h3⟩, hf, hl'⟩ := Option.bind_eq_some_iff.mp hl'
    have st1 : St S x hh ρ' led' ((I, oI') :: ex) (Mine.upd l' y (some w)) h' := St.put_aside F₁ (LR.upd hy LL' (vr.ext e')) N₁ nod' offn H'
    refine Body _ _ _ _ _ hf { s with heap := hh, toks := tk } ρ' led' _ _ st1 fun f' ρ₂ led₂ hp₂ tk₂ st₂ ext₂ r => ?_
    cases fl1 with
    | next =>
      rw [show f' = .next from r]
      dsimp only at hl'
      split at hl'
      · rename_i hc
        obtain ⟨N2, nod2, off2⟩ := st₂.take_aside
        obtain ⟨m2, F2, LL2⟩ := st₂.fr
        exact ⟨hp₂, tk₂, m2, led₂ ++ ex, rfl, F2, N2, off2, ρ₂, led₂, l3, h3, rfl, LL2, nod2, st₂.hr, e'.trans ext₂, hC _ hc, hl'⟩
      · cases hl'
    | ret v' =>
      obtain ⟨u, rfl, vu⟩ := r
      cases hl'
      exact k _ ρ₂ led₂ hp₂ tk₂ st₂.drop_aside (e'.trans ext₂) ⟨u, rfl, vu⟩
  · rintro m₁ nx hh tk ⟨ρ', led', l', h', rfl, LL', nod', H', e', c', hl'⟩ F₁ N₁
    rw [← hn, List.drop_length] at hl'
    unfold loopV at hl'
    cases hl'
    exact k _ ρ' led' hh tk ⟨⟨m₁, F₁, LL'⟩, N₁, nod', H'⟩ e' rfl
end
end Mine
end
section
namespace Mine
open PySem PySem.W PyProof.Rows PySem.Calls PySem.SeqAt

section
variable {S : SE} {x : FX} {d : Nat} {l l1 l2 l3 : Loc} {h h1 h2 h3 : VH}

set_option tactic.hygienic false
theorem fold_plain {X : Expr} {env : Env} (p : plainX X = true) : ∀ v, foldedSetIterable X env v = pure v := by
  intro v; cases X <;> first | rfl | cases p
theorem kind_no (ok : x.Ok S d) : (x.env.scope.kind == .class || (x.env.scope.kind == .module && x.env.locals != x.env.globals)) = false := by
  rw [show x.env.scope.kind = .function from ok.kind]; rfl
theorem St.push {hp : Heap} {ρ : Rho} {led ex : Led} (st : St S x hp ρ led ex l h) (o : Obj) (hf : o.isFreed = false) : St S x (hp.push o) ρ led ((hp.objs.size, o) :: ex) l h := by
  obtain ⟨m, F, LL⟩ := st.fr
  exact st.aside LL (F.push o) (News.push F st.news o hf) fun q hq => Heap.lt_size (st.news q hq).1

theorem dens_forL (ok : x.Ok S d) {y n : Nat} {IT : Expr} {body : List Stmt} {px pos : Pos} {vs : List VV} {f : Loc → VH → Option (VFl × Loc × VH)} {fl : VFl} (hy : y < 176) (hk : x.sc.names.lookup (nm y) = some .local) (pI : plainX IT = true)
    (D : Den S x l (eval IT x.env) h (.ref n) h1) (hn : h1.lst n = some vs) (hl : loopV f (fun h' => h'.ver n == h1.ver n) y vs l h1 = some (fl, l2, h2))
    (Body : ∀ l h fl l' h', f l h = some (fl, l', h') → DenS S x (execs body x.env) l h fl l' h') : DenS S x (exec (.For (.Name (nm y) px) IT body [] pos) x.env) l h fl l2 h2 := fun s ρ led ex Q st k => by
  refine For_invV x.h₀ hk (kind_no ok) (D s ρ led ex _ st fun u ρ₁ led₁ hp tk st₁ ext vr => ?_) (fold_plain pI) (hE := fun _ _ h => h.elim)
  obtain ⟨a, dd, rfl, ha⟩ := vr
  obtain ⟨a', d', xs, c, e1, e2, e3, e4⟩ := st₁.hr.lst n vs hn
  obtain ⟨rfl, rfl⟩ := Prod.mk.inj (Option.some.inj (e1.symm.trans ha))
  have ma := st₁.news _ (st₁.mem e2)
  have hL : hp.IsList a' xs.toArray := ⟨_, ma.1, rfl, _, rfl⟩
  have hne : a' ≠ hp.objs.size := Nat.ne_of_lt (Heap.lt_size ma.1)
  refine wpAny_pyIter_list hL ?_
  have st2 := st₁.push { cls := .type "list_iterator", data := .fields #[.ref a', .int 0 0] } rfl
  obtain ⟨m, F, LL⟩ := st₁.fr
  have W := Walks.list (prog := S.prog) (w := S.w) ok.hd hp.objs.size a' hne xs.toArray
  have hz := e3.length
  refine loop_den (C := fun h' => h'.ver n = h1.ver n) hy W ?_ (.head _) (fun b hb => ?_) (fun i hh t => ?_) ⟨⟨_, Heap.get?_push_size _ rfl, rfl, rfl⟩, hL.at fun o e => Heap.get?_push_of_some _ e⟩ st2 (by simp [hz]) (fun i v hp' hi => ?_) rfl (fun h' e => eq_of_beq e) hl Body
    fun f' ρ' led' hp' tk' st' ext' r => k f' ρ' led' hp' tk' st' (ext.trans ext') r
  · intro q
    rcases List.mem_cons.mp q with q | q
    · exact absurd F.ns.lt (q ▸ Nat.lt_irrefl _)
    · exact ma.2.1 (List.mem_singleton.mp q).symm
  · rcases List.mem_cons.mp hb with q | q
    · exact .inl q
    · rw [List.mem_singleton.mp q]
      exact .inr ⟨_, fun ρ' led' h' e c => e.keep n _ _ _ e1 c e2⟩
  · obtain ⟨⟨o, ho, _⟩, _⟩ := t
    exact ⟨o, ho⟩
  · have hp2 : xs[i]? = some v := by simpa using hp'
    have hlt : i < vs.length := by
      have := (List.getElem?_eq_some_iff.mp hp2).1
      omega
    obtain ⟨u, hu, vr⟩ := e3.get (i := i) (List.getElem?_eq_getElem hlt)
    rw [hp2] at hu
    cases hu
    exact ⟨_, List.getElem?_eq_getElem hlt, vr⟩

theorem irel_get {ρ : Rho} : ∀ {es : List (Int × VV)} {kvs : List (Int × Value)}, IRel ρ es kvs → ∀ {i : Nat} {k : Int} {v : Value}, kvs[i]? = some (k, v) → (es.map (·.1))[i]? = some k
  | [], kvs, r, i, k, v, h => by rw [show kvs = [] from r] at h; simp at h
  | (j, w) :: es, kvs, ⟨y, r, e, _, q⟩, 0, k, v, h => by subst e; simp at h; simp [h.1]
  | (j, w) :: es, kvs, ⟨y, r, e, _, q⟩, i + 1, k, v, h => by subst e; simp at h; simpa using irel_get q h

theorem dens_forD (ok : x.Ok S d) {y n : Nat} {IT : Expr} {body : List Stmt} {px pos : Pos} {es : List (Int × VV)} {f : Loc → VH → Option (VFl × Loc × VH)} {fl : VFl} (hy : y < 176) (hk : x.sc.names.lookup (nm y) = some .local) (pI : plainX IT = true)
    (D : Den S x l (eval IT x.env) h (.ref n) h1) (hn : h1.ic n = some es) (hl : loopV f (fun h' => h'.ver n == h1.ver n) y (es.map fun e => .int e.1) l h1 = some (fl, l2, h2))
    (Body : ∀ l h fl l' h', f l h = some (fl, l', h') → DenS S x (execs body x.env) l h fl l' h') : DenS S x (exec (.For (.Name (nm y) px) IT body [] pos) x.env) l h fl l2 h2 := fun s ρ led ex Q st k => by
  refine For_invV x.h₀ hk (kind_no ok) (D s ρ led ex _ st fun u ρ₁ led₁ hp tk st₁ ext vr => ?_) (fold_plain pI) (hE := fun _ _ h => h.elim)
  obtain ⟨a, dd, rfl, ha⟩ := vr
  obtain ⟨a', d', o, kvs, e1, e2, e3, e4, e5, e6⟩ := st₁.hr.ic n es hn
  obtain ⟨rfl, rfl⟩ := Prod.mk.inj (Option.some.inj (e1.symm.trans ha))
  have ma := st₁.news _ (st₁.mem e2)
  obtain ⟨ep, K⟩ := KdkAt.of e3
  have hD := K.dictAt ma.1
  have hne : a' ≠ hp.objs.size := Nat.ne_of_lt (Heap.lt_size ma.1)
  refine wpAny_pyIter_dict e5 hD ?_
  have st2 := st₁.push { cls := .type "dict_keyiterator", data := .fields #[.ref a', .int 0 0, .int kvs.length 0, .int ep 0] } rfl
  obtain ⟨m, F, LL⟩ := st₁.fr
  have W := Walks.dictKeys (knd := intKind S.prog S.w) ok.hd hp.objs.size a' hne kvs ep
  refine loop_den (C := fun h' => h'.ver n = h1.ver n) hy W ?_ (.head _) (fun b hb => ?_) (fun i hh t => ?_) ⟨⟨_, Heap.get?_push_size _ rfl, rfl, rfl⟩, hD.push _⟩ st2 (by simp [e4.length]) (fun i v hp' hi => ?_) rfl (fun h' e => eq_of_beq e) hl Body
    fun f' ρ' led' hp' tk' st' ext' r => k f' ρ' led' hp' tk' st' (ext.trans ext') r
  · intro q
    rcases List.mem_cons.mp q with q | q
    · exact absurd F.ns.lt (q ▸ Nat.lt_irrefl _)
    · exact ma.2.1 (List.mem_singleton.mp q).symm
  · rcases List.mem_cons.mp hb with q | q
    · exact .inl q
    · rw [List.mem_singleton.mp q]
      exact .inr ⟨_, fun ρ' led' h' e c => e.keep n _ _ _ e1 c e2⟩
  · obtain ⟨⟨o, ho, _⟩, _⟩ := t
    exact ⟨o, ho⟩
  · obtain ⟨kk, y', hy', hv⟩ := hp'
    have hg := irel_get e4 hy'
    refine ⟨.int kk, ?_, ?_⟩
    · rw [List.getElem?_map] at hg ⊢
      cases q : es[i]? with
      | none => rw [q] at hg; cases hg
      | some e => rw [q] at hg; cases hg; rfl
    · exact Value.isInt_shape hv

theorem dens_range (ok : x.Ok S d) {y : Nat} {IT : Expr} {body : List Stmt} {px pos : Pos} {i j : Int} {f : Loc → VH → Option (VFl × Loc × VH)} {fl : VFl} (hy : y < 176) (hk : x.sc.names.lookup (nm y) = some .local) (pI : plainX IT = true)
    (hb : -1000 ≤ i ∧ i ≤ 1000 ∧ -1000 ≤ j ∧ j ≤ 1000 ∧ j - i ≤ 64)
    (D : ∀ (s : Shared) (ρ : Rho) (led ex : Led) (Q : Value → Shared → Prop), St S x s.heap ρ led ex l h →
      (∀ r o ρ' led' hp tk t₁ u₁ v₁, IsRange hp r i j 1 t₁ u₁ v₁ → St S x hp ρ' led' ((r, o) :: ex) l h1 → Ext ρ ρ' led led' h h1 → Q (.ref r) { s with heap := hp, toks := tk }) → wpAny S.M x.A (eval IT x.env) Q FF s)
    (hl : loopV f (fun _ => true) y ((List.range (j - i).toNat).map fun k : Nat => .int (i + (k : Int))) l h1 = some (fl, l2, h2))
    (Body : ∀ l h fl l' h', f l h = some (fl, l', h') → DenS S x (execs body x.env) l h fl l' h') : DenS S x (exec (.For (.Name (nm y) px) IT body [] pos) x.env) l h fl l2 h2 := fun s ρ led ex Q st k => by
  refine For_invV x.h₀ hk (kind_no ok) (D s ρ led ex _ st fun r o ρ₁ led₁ hp tk t₁ u₁ v₁ R st₁ ext => ?_) (fold_plain pI) (hE := fun _ _ h => h.elim)
  refine wpAny_pyIter_range R (small_one (by omega) (by omega) (by omega) (by omega)) ?_
  rw [rangeSize_nat]
  have st1' := st₁.drop_aside
  have st2 := st1'.push { cls := .type "range_iterator", data := .fields #[rawInt i, rawInt ((j - i).toNat : Int), rawInt 1] } rfl
  obtain ⟨m, F, LL⟩ := st1'.fr
  have W := Walks.range (prog := S.prog) (w := S.w) ok.hd hp.objs.size i 1 (j - i).toNat
  refine loop_den (C := fun _ => True) hy W ?_ (.head _) (fun b hb => .inl (List.mem_singleton.mp hb)) (fun i hh t => ⟨_, t⟩) ?_ st2 (by simp) (fun i' v hp' hi => ?_) trivial (fun h' e => trivial) hl Body
    fun f' ρ' led' hp' tk' st' ext' r => k f' ρ' led' hp' tk' st' (ext.trans ext') r
  · intro q
    exact absurd F.ns.lt ((List.mem_singleton.mp q) ▸ Nat.lt_irrefl _)
  · show IsRangeIter _ _ _ _ _
    simpa using Heap.get?_push_size _ rfl
  · obtain ⟨t, rfl⟩ := hp'
    refine ⟨.int (i + (i' : Int)), ?_, ⟨t, by rw [Int.mul_one]⟩⟩
    rw [List.getElem?_map, List.getElem?_range hi]
    rfl

theorem dens_forR2 (G : S.Good) (ok : x.Ok S d) {y : Nat} {A B : Expr} {body : List Stmt} {np px pos pos2 : Pos} {i j : Int} {f : Loc → VH → Option (VFl × Loc × VH)} {fl : VFl} (hy : y < 176) (hk : x.sc.names.lookup (nm y) = some .local)
    (hk2 : x.sc.names.lookup ("range" : Str) = some .globalImplicit) (pa : plainX A = true) (pb : plainX B = true) (D1 : Den S x l (eval A x.env) h (.int i) h1) (D2 : Den S x l (eval B x.env) h1 (.int j) h2)
    (hb : -1000 ≤ i ∧ i ≤ 1000 ∧ -1000 ≤ j ∧ j ≤ 1000 ∧ j - i ≤ 64) (hl : loopV f (fun _ => true) y ((List.range (j - i).toNat).map fun k : Nat => .int (i + (k : Int))) l h2 = some (fl, l2, h3))
    (Body : ∀ l h fl l' h', f l h = some (fl, l', h') → DenS S x (execs body x.env) l h fl l' h') : DenS S x (exec (.For (.Name (nm y) px) (.Call (.Name "range" np) [A, B] [] pos2) body [] pos) x.env) l h fl l2 h3 := by
  refine dens_range ok hy hk rfl hb (fun s ρ led ex Q st k => ?_) hl Body
  refine Call_ (nm_builtin ok st G.rng boot_rng.1 boot_rng.2.1 hk2 boot_rng.2.2 ?_)
  refine PyProof.Rows.callWith_type1 ?_ (star_plain pa) (star_any (by rw [List.all_cons, pb]; rfl))
  have Ds : DensX S x l [A, B] h [.int i, .int j] h2 := dens_cons pa D1 (dens_cons pb D2 dens_nil)
  refine Ds pos2 s ρ led ex _ st fun us ρ₂ led₂ hp₂ tk₂ st₂ ext₂ vrs => ?_
  obtain ⟨u, us', rfl, ⟨t, rfl⟩, u2, us2, rfl, ⟨t2, rfl⟩, r'⟩ := vrs
  have : us2 = [] := r'
  subst this
  exact range_rule ok (s := { s with heap := hp₂, toks := tk₂ }) st₂ ⟨hb.1, hb.2.1, hb.2.2.1, hb.2.2.2.1⟩ fun r o hp tk t₁ u₁ v₁ R st₃ lt => k r o ρ₂ led₂ hp tk t₁ u₁ v₁ R st₃ ext₂

theorem dens_forR1 (G : S.Good) (ok : x.Ok S d) {y : Nat} {B : Expr} {body : List Stmt} {np px pos pos2 : Pos} {j : Int} {f : Loc → VH → Option (VFl × Loc × VH)} {fl : VFl} (hy : y < 176) (hk : x.sc.names.lookup (nm y) = some .local)
    (hk2 : x.sc.names.lookup ("range" : Str) = some .globalImplicit) (pb : plainX B = true) (D2 : Den S x l (eval B x.env) h (.int j) h2)
    (hb : 0 ≤ j ∧ j ≤ 64) (hl : loopV f (fun _ => true) y ((List.range j.toNat).map fun k : Nat => .int (k : Int)) l h2 = some (fl, l2, h3))
    (Body : ∀ l h fl l' h', f l h = some (fl, l', h') → DenS S x (execs body x.env) l h fl l' h') : DenS S x (exec (.For (.Name (nm y) px) (.Call (.Name "range" np) [B] [] pos2) body [] pos) x.env) l h fl l2 h3 := by
  refine dens_range (h1 := h2) (i := 0) (j := j) ok hy hk rfl (by omega) (fun s ρ led ex Q st k => ?_) (by simpa using hl) Body
  refine Call_ (nm_builtin ok st G.rng boot_rng.1 boot_rng.2.1 hk2 boot_rng.2.2 ?_)
  refine PyProof.Rows.callWith_type1 ?_ (star_plain pb) (star_any rfl)
  have Ds : DensX S x l [B] h [.int j] h2 := dens_cons pb D2 dens_nil
  refine Ds pos2 s ρ led ex _ st fun us ρ₂ led₂ hp₂ tk₂ st₂ ext₂ vrs => ?_
  obtain ⟨u2, us2, rfl, ⟨t2, rfl⟩, r'⟩ := vrs
  have : us2 = [] := r'
  subst this
  obtain ⟨m, F, LL⟩ := st₂.fr
  refine PyProof.Rows.range1_rows F st₂.news fun h' tk t₁ u₁ v₁ R F' N' hk => ?_
  have nw : x.h₀.get? hp₂.objs.size = none := by
    cases q : x.h₀.get? hp₂.objs.size with
    | none => rfl
    | some o => exact absurd (Heap.lt_size (F.keep _ _ q)) (Nat.lt_irrefl _)
  have N2 : News x.h₀ x.L h' ((hp₂.objs.size, _) :: (led₂ ++ ex)) := News.more F' N' R (fun es n q => by cases q) nw
  exact k _ _ ρ₂ led₂ h' tk t₁ u₁ v₁ R (st₂.aside LL F' N2 fun p hp => Heap.lt_size (st₂.news p hp).1) ext₂
end
end Mine
end
section
namespace Mine
open PySem PySem.W PyProof.Rows PySem.Calls PySem.SeqAt

noncomputable def bytesOk : List Int → Bool
  | [] => true
  | i :: r => decide (0 ≤ i) && decide (i < 256) && bytesOk r
noncomputable def lk (sc : Scope) (i : Nat) (k : NameKind) (y : Str) : Bool := decide (i < 176) && (y == nm i) && (sc.names.lookup y == some k)

mutual
noncomputable def mE (sc : Scope) : PE → Expr → Bool
  | .none, X => dConst cNone X
  | .bool b, X => dConst (cBool fun c => b == c) X
  | .int i, X => dConst (cInt fun j => decide (i = j)) X || dUn (fun o Y => decide (o = .USub) && dConst (cInt fun j => decide (i = -j)) Y) X
  | .str i, X => dConst (cStr fun y => decide (i < 176) && (y == nm i)) X
  | .bytes bs, X => dConst (cBytes fun c => bytesOk bs && (c == bs.map fun i => UInt8.ofNat i.toNat)) X
  | .loc i, X => dName (lk sc i .local) X
  | .glb i, X => dName (lk sc i .globalImplicit) X
  | .attr e f, X => dAttr (fun O a _ => plainX O && (a == nm f) && mE sc e O) X
  | .fn g args, X => dCall (fun F Xs _ => dName (lk sc g .globalImplicit) F && mEs sc args Xs) X
  | .new c args, X => dCall (fun F Xs _ => dName (lk sc c .globalImplicit) F && mEs sc args Xs) X
  | .meth o m args, X => dCall (fun F Xs pos => dAttr (fun O a apos => plainX O && (a == nm m) && decide (Xs.length < 30) && (apos.endLine == pos.line) && mE sc o O && mEs sc args Xs) F) X
  | .bm o m args, X => dCall (fun F Xs pos => (bmName m && !Xs.isEmpty) && dAttr (fun O a apos => plainX O && (a == nm m) && decide (Xs.length < 30) && (apos.endLine == pos.line) && mE sc o O && mEs sc args Xs) F) X
  | .bf b args, X => dCall (fun F Xs _ => dName (lk sc b .globalImplicit) F && bfName b && !Xs.isEmpty && mEs sc args Xs) X
  | .lrange a b, X => dCall (fun F Xs _ => dName (lk sc n_list .globalImplicit) F && p1 (fun Y => dCall (fun R As _ => dName (fun r => (r == ("range" : Str)) && (sc.names.lookup r == some .globalImplicit)) R && p2j (fun A B => plainX A && plainX B && mE sc a A && mE sc b B) As) Y) Xs) X
  | .bin op a b, X => dBin (fun A o B => mOp op o && mE sc a A && mE sc b B) X
  | .cmp op a b, X => dCmp (fun A os Bs => p1 (mCmp op) os && p1 (fun B => plainX B && mE sc b B) Bs && mE sc a A) X
  | .and es, X => dBoolOp (fun o Xs => decide (o = .And) && mEs sc es Xs) X
  | .or es, X => dBoolOp (fun o Xs => decide (o = .Or) && mEs sc es Xs) X
  | .not e, X => dUn (fun o A => decide (o = .Not) && mE sc e A) X
  | .ife t a b, X => dIf (fun T A B => mE sc t T && mE sc a A && mE sc b B) X
  | .tup es, X => dTup (fun Xs => decide (Xs.length ≤ 1000) && mEs sc es Xs) X
  | .list es, X => dList (fun Xs => decide (Xs.length ≤ 1000) && mEs sc es Xs) X
  | .sdict ks es, X => dDict (fun keys Xs => mKeys ks keys && decide (ks.length ≤ 15) && mEs sc es Xs) X
  | .idict ks es, X => dDict (fun keys Xs => p1 (oSome (dConst (cInt fun i => decide (ks = [i])))) keys && p1 (fun _ => true) Xs && mEs sc es Xs) X
  | .sub e i, X => dSub (fun A I => idxX I && mE sc e A && mE sc i I) X
  | .slc e lo hi, X => dSub (fun A I => dSlice (fun a b c => oSome (dConst (cInt fun j => decide (j = 1))) a && b.isNone && c.isNone) I && decide (lo = some 1) && decide (hi = none) && mE sc e A) X
noncomputable def mEs (sc : Scope) : PEs → List Expr → Bool
  | .nil, Xs => Xs.isEmpty
  | .cons e es, Xs => match Xs with
    | X :: r => plainX X && mE sc e X && mEs sc es r
    | [] => false
end

set_option tactic.hygienic false
theorem lk_of {sc : Scope} {i : Nat} {k : NameKind} {y : Str} (h : lk sc i k y = true) : y = nm i ∧ i < 176 ∧ sc.names.lookup (nm i) = some k := by
  simp only [lk, Bool.and_eq_true, decide_eq_true_eq, beq_iff_eq] at h
  obtain ⟨⟨h1, h2⟩, h3⟩ := h
  subst h2
  exact ⟨rfl, h1, h3⟩
theorem nm_dbg : ∀ i, i < 176 → (nm i == ("__debug__" : Str)) = false := by decide +kernel
theorem bytesOk_of : ∀ {bs : List Int}, bytesOk bs = true → byteOk bs
  | [], _ => fun _ h => nomatch h
  | i :: r, h => by
    simp only [bytesOk, Bool.and_eq_true, decide_eq_true_eq] at h
    intro j hj
    rcases List.mem_cons.mp hj with rfl | hj
    · exact h.1
    · exact bytesOk_of h.2 j hj

section
variable {S : SE} {x : FX} {d c : Nat} {l : Loc} {cl : Caller}

set_option tactic.hygienic false
theorem den_bytes {h : VH} {bs : List Int} {k : Nat} {pos : Pos} (hb : bytesOk bs = true) : Den S x l (eval (.Constant (.bytes (bs.map fun i => UInt8.ofNat i.toNat)) k pos) x.env) h (.bytes bs) h := fun s ρ led ex Q st c =>
  Constant_bytes (c _ ρ led s.heap _ st .refl ⟨⟨_, rfl⟩, bytesOk_of hb⟩)

theorem FX.Ok.less {d c : Nat} (ok : x.Ok S d) (h : c ≤ d) : x.Ok S c :=
  ⟨ok.below, ok.X, ok.T, ok.kind, ok.hd, by have := ok.dep; omega, by have := ok.un; omega⟩
theorem CallS.more {d c f : Nat} {vs : List VV} {h h' : VH} {v : VV} (C : CallS S c f vs h v h') (hc : c ≤ d) : CallS S d f vs h v h' := fun y l ok => C y l (ok.less hc)
theorem densL_len : ∀ {Xs : List Expr} {h : VH} {vs : List VV} {h' : VH}, DensL S x l Xs h vs h' → Xs.length = vs.length
  | [], h, vs, h', q => by rw [q.1]; rfl
  | X :: Xs, h, vs, h', ⟨v, vs', h1, e, _, _, q⟩ => by rw [e, List.length_cons, List.length_cons, densL_len q]

theorem i_attr {Q : Prop} {e : PE} {f : Nat} {h h' : VH} {v : VV} (hv : vE cl l (.attr e f) h = some (v, h')) (k : ∀ n c, vE cl l e h = some (.ref n, h') → h'.cls n = some c → h'.fld n f = some v → Q) : Q := by
  obtain ⟨⟨w, h1⟩, e1, hv⟩ := bind_ok (show (vE cl l e h).bind _ = _ from hv)
  dsimp only at hv
  cases w with
  | ref n =>
    dsimp only at hv
    cases hc : h1.cls n with
    | none => rw [hc] at hv; cases hv
    | some c =>
      rw [hc] at hv
      obtain ⟨u, hf, q⟩ := Option.map_eq_some_iff.mp (show Option.map _ (h1.fld n f) = _ from hv)
      cases q
      exact k n c e1 hc hf
  | _ => cases hv
theorem i_fn {Q : Prop} {g : Nat} {args : PEs} {h h' : VH} {v : VV} (hv : vE cl l (.fn g args) h = some (v, h')) (k : ∀ f vs h1, gfn g = some f → vEs cl l args h = some (vs, h1) → cl f vs h1 = some (v, h') → Q) : Q := by
  rw [vE_fn] at hv
  cases hf : gfn g with
  | none => rw [hf] at hv; cases hv
  | some f =>
    rw [hf] at hv
    exact bind_e hv fun vs h1 e1 e2 => k f vs h1 hf e1 e2
theorem i_new {M : VV → Prop} {g : Nat} {args : PEs} {h h' : VH} {v : VV} (hv : vE cl l (.new g args) h = some (v, h')) (k : ∀ f vs h1, ini g = some f → vEs cl l args h = some (vs, h1) → cl f (.ref h1.nxt :: vs) (h1.newC g) = some (.none, h') → M (.ref h1.nxt)) : M v := by
  rw [vE_new] at hv
  cases hf : ini g with
  | none => rw [hf] at hv; cases hv
  | some f =>
    rw [hf] at hv
    refine bind_e hv fun vs h1 e1 e2 => bind_e e2 fun r h2 e3 e4 => ?_
    cases r with
    | none =>
      cases e4
      exact k f vs h1 hf e1 e3
    | _ => cases e4
theorem i_meth {Q : Prop} {o : PE} {m : Nat} {args : PEs} {h h' : VH} {v : VV} (hv : vE cl l (.meth o m args) h = some (v, h')) (k : ∀ n c f vs h1 h2, vE cl l o h = some (.ref n, h1) → h1.cls n = some c → mtb c m = some f → vEs cl l args h1 = some (vs, h2) → cl f (.ref n :: vs) h2 = some (v, h') → Q) : Q := by
  obtain ⟨⟨w, h1⟩, e1, hv⟩ := bind_ok (show (vE cl l o h).bind _ = _ from hv)
  dsimp only at hv
  cases w with
  | ref n =>
    dsimp only at hv
    cases hc : h1.cls n with
    | none => rw [hc] at hv; cases hv
    | some c =>
      rw [hc] at hv
      dsimp only at hv
      cases hf : mtb c m with
      | none => rw [hf] at hv; cases hv
      | some f =>
        rw [hf] at hv
        exact bind_e hv fun vs h2 e2 e3 => k n c f vs h1 h2 e1 hc hf e2 e3
  | _ => cases hv
theorem i_bm {Q : Prop} {o : PE} {m : Nat} {args : PEs} {h h' : VH} {v : VV} (hv : vE cl l (.bm o m args) h = some (v, h')) (k : ∀ n vs h1 h2, vE cl l o h = some (.ref n, h1) → bmOk m n h1 = true → vEs cl l args h1 = some (vs, h2) → vBm m n vs h2 = some (v, h') → Q) : Q := by
  obtain ⟨⟨w, h1⟩, e1, hv⟩ := bind_ok (show (vE cl l o h).bind _ = _ from hv)
  dsimp only at hv
  cases w with
  | ref n =>
    have hv : (if bmOk m n h1 = true then (vEs cl l args h1).bind fun (vs, h) => vBm m n vs h else none) = some (v, h') := hv
    cases hok : bmOk m n h1 with
    | false => rw [hok] at hv; cases hv
    | true =>
      rw [hok] at hv
      exact bind_e (show (vEs cl l args h1).bind _ = _ from hv) fun vs h2 e2 e3 => k n vs h1 h2 e1 hok e2 e3
  | _ => cases hv
theorem i_lrange {M : VV → VH → Prop} {a b : PE} {h h' : VH} {v : VV} (hv : vE cl l (.lrange a b) h = some (v, h')) (k : ∀ i j h1 h2, vE cl l a h = some (.int i, h1) → vE cl l b h1 = some (.int j, h2) → (-1000 ≤ i ∧ i ≤ 1000 ∧ -1000 ≤ j ∧ j ≤ 1000 ∧ j - i ≤ 64) → M (.ref h2.nxt) (h2.newL ((List.range (j - i).toNat).map fun k : Nat => .int (i + (k : Int))))) : M v h' := by
  refine bind_e (show (vE cl l a h).bind _ = _ from hv) fun u h1 e1 hv => bind_e hv fun w h2 e2 hv => ?_
  cases u with
  | int i => cases w with
    | int j =>
      have hv : (if -1000 ≤ i ∧ i ≤ 1000 ∧ -1000 ≤ j ∧ j ≤ 1000 ∧ j - i ≤ 64 then some (VV.ref h2.nxt, h2.newL ((List.range (j - i).toNat).map fun k : Nat => .int (i + (k : Int)))) else none) = some (v, h') := hv
      split at hv <;> cases hv
      exact k i j h1 h2 e1 e2 (by assumption)
    | _ => cases hv
  | _ => cases hv
theorem i_not {M : VV → Prop} {e : PE} {h h' : VH} {v : VV} (hv : vE cl l (.not e) h = some (v, h')) (k : ∀ b, vE cl l e h = some (.bool b, h') → M (.bool !b)) : M v := by
  refine bind_e (show (vE cl l e h).bind _ = _ from hv) fun u h1 e1 hv => ?_
  cases u with
  | bool b => cases hv; exact k b e1
  | _ => cases hv
theorem i_ife {Q : Prop} {t a b : PE} {h h' : VH} {v : VV} (hv : vE cl l (.ife t a b) h = some (v, h')) (k1 : ∀ h1, vE cl l t h = some (.bool true, h1) → vE cl l a h1 = some (v, h') → Q) (k2 : ∀ h1, vE cl l t h = some (.bool false, h1) → vE cl l b h1 = some (v, h') → Q) : Q := by
  refine bind_e (show (vE cl l t h).bind _ = _ from hv) fun u h1 e1 hv => ?_
  cases u with
  | bool c => cases c with
    | true => exact k1 h1 e1 hv
    | false => exact k2 h1 e1 hv
  | _ => cases hv
theorem i_sub {Q : Prop} {e i : PE} {h h' : VH} {v : VV} (hv : vE cl l (.sub e i) h = some (v, h')) (k : ∀ n w h1, vE cl l e h = some (.ref n, h1) → vE cl l i h1 = some (w, h') → vSub n w h' = some v → Q) : Q := by
  refine bind_e (show (vE cl l e h).bind _ = _ from hv) fun u h1 e1 hv => bind_e hv fun w h2 e2 hv => ?_
  cases u with
  | ref n =>
    obtain ⟨r, e3, q⟩ := Option.map_eq_some_iff.mp (show Option.map _ (vSub n w h2) = _ from hv)
    cases q
    exact k n w h1 e1 e2 e3
  | _ => cases hv
theorem i_slc {M : VV → VH → Prop} {e : PE} {h h' : VH} {v : VV} (hv : vE cl l (.slc e (some 1) none) h = some (v, h')) (k : ∀ n vs h1, vE cl l e h = some (.ref n, h1) → h1.lst n = some vs → M (.ref h1.nxt) (h1.newL (vs.drop 1))) : M v h' := by
  refine bind_e (show (vE cl l e h).bind _ = _ from hv) fun u h1 e1 hv => ?_
  cases u with
  | ref n =>
    obtain ⟨vs, e3, q⟩ := Option.map_eq_some_iff.mp (show Option.map _ (h1.lst n) = _ from hv)
    cases q
    exact k n vs h1 e1 e3
  | _ => cases hv
theorem i_out {M : VV → VH → Prop} {v w : VV} {h h' : VH} (hv : some (w, h) = some (v, h')) (k : M w h) : M v h' := by
  cases hv
  exact k
theorem lk_e {sc : Scope} {i : Nat} {kd : NameKind} {M : Str → Prop} {y : Str} (h : lk sc i kd y = true) (k : i < 176 → sc.names.lookup (nm i) = some kd → M (nm i)) : M y := by
  obtain ⟨rfl, h1, h2⟩ := lk_of h
  exact k h1 h2
theorem ne_nil {α : Type} {Xs : List α} (h : (!Xs.isEmpty) = true) : Xs ≠ [] := fun q => by rw [q] at h; cases h

theorem bool_inj {a b : Bool} (e : VV.bool a = .bool b) : a = b := by cases e; rfl
set_option tactic.hygienic true
mutual
theorem sound_e (G : S.Good) (ok : x.Ok S d) (hcd : c < d) (hcl : ∀ f vs h v h', cl f vs h = some (v, h') → CallS S c f vs h v h') :
    ∀ (e : PE) (X : Expr) (h : VH) (v : VV) (h' : VH), mE x.sc e X = true → vE cl l e h = some (v, h') → DenE S x l X h v h'
  | .none, X, h, v, h', hm, hv => dConst_e (M := fun X => DenE S x l X h v h') hm fun c0 k0 p0 z => cNone_e (X := c0) (M := fun c => DenE S x l (.Constant c k0 p0) h v h') z (i_out (M := fun v h' => DenE S x l _ h v h') hv (den_val rfl den_none))
  | .bool b, X, h, v, h', hm, hv => dConst_e (M := fun X => DenE S x l X h v h') hm fun c0 k0 p0 z => cBool_e (X := c0) (M := fun c => DenE S x l (.Constant c k0 p0) h v h') z fun b0 z => i_out (M := fun v h' => DenE S x l (.Constant (.bool b0) k0 p0) h v h') hv (by rw [eq_of_beq z]; exact den_val rfl den_bool)
  | .int i, X, h, v, h', hm, hv => i_out (M := fun v h' => DenE S x l X h v h') hv ((Bool.or_eq_true_iff.mp hm).elim (fun hm => dConst_e (M := fun X => DenE S x l X h (.int i) h) hm fun c0 k0 p0 z => cInt_e (X := c0) (M := fun c => DenE S x l (.Constant c k0 p0) h (.int i) h) z fun j z => by rw [of_decide_eq_true z]; exact den_val rfl den_int)
      fun hm => dUn_e (M := fun X => DenE S x l X h (.int i) h) hm fun o Y p z => and2_e z fun z1 z2 => dec_e (a := o) (M := fun o => DenE S x l (.UnaryOp o Y p) h (.int i) h) z1 (dConst_e (X := Y) (M := fun Y => DenE S x l (.UnaryOp .USub Y p) h (.int i) h) z2 fun c0 k0 p0 z => cInt_e (X := c0) (M := fun c => DenE S x l (.UnaryOp .USub (.Constant c k0 p0) p) h (.int i) h) z fun j z => by rw [of_decide_eq_true z]; exact ⟨den_neg, fun b e => nomatch e⟩))
  | .str i, X, h, v, h', hm, hv => dConst_e (M := fun X => DenE S x l X h v h') hm fun c0 k0 p0 z => cStr_e (X := c0) (M := fun c => DenE S x l (.Constant c k0 p0) h v h') z fun y z => and2_e z fun z1 z2 => beq_e (a := y) (M := fun y => DenE S x l (.Constant (.str y) k0 p0) h v h') z2 (i_out (M := fun v h' => DenE S x l _ h v h') hv (den_val rfl (den_str (of_decide_eq_true z1))))
  | .bytes bs, X, h, v, h', hm, hv => dConst_e (M := fun X => DenE S x l X h v h') hm fun c0 k0 p0 z => cBytes_e (X := c0) (M := fun c => DenE S x l (.Constant c k0 p0) h v h') z fun y z => and2_e z fun z1 z2 => beq_e (a := y) (M := fun y => DenE S x l (.Constant (.bytes y) k0 p0) h v h') z2 (i_out (M := fun v h' => DenE S x l _ h v h') hv (den_val rfl (den_bytes z1)))
  | .loc i, X, h, v, h', hm, hv => dName_e (M := fun X => DenE S x l X h v h') hm fun y p0 z => lk_e (y := y) (M := fun y => DenE S x l (.Name y p0) h v h') z fun h1 h2 => omap_e (show (l i).map _ = _ from hv) fun w e q => i_out (M := fun v h' => DenE S x l _ h v h') (congrArg some q) (den_val rfl (den_loc ok h2 (nm_dbg i h1) e))
  | .glb i, X, h, v, h', hm, hv => dName_e (M := fun X => DenE S x l X h v h') hm fun y p0 z => lk_e (y := y) (M := fun y => DenE S x l (.Name y p0) h v h') z fun h1 h2 => omap_e (show (gval i).map _ = _ from hv) fun w e q => i_out (M := fun v h' => DenE S x l _ h v h') (congrArg some q) (den_val rfl (den_glb G ok e h2 (nm_dbg i h1)))
  | .attr e f, X, h, v, h', hm, hv => dAttr_e (M := fun X => DenE S x l X h v h') hm fun O a p0 z => and3_e z fun m1 m2 m3 => beq_e (a := a) (M := fun a => DenE S x l (.Attribute O a p0) h v h') m2 (i_attr hv fun n cc e1 hc hf => den_val rfl (den_attr G ok m1 (sound_e G ok hcd hcl e O h _ h' m3 e1).1 hc hf))
  | .fn g args, X, h, v, h', hm, hv => dCall_e (M := fun X => DenE S x l X h v h') hm fun F Xs p0 z => and2_e z fun z1 z2 => dName_e (X := F) (M := fun F => DenE S x l (.Call F Xs [] p0) h v h') z1 fun y p1 z => lk_e (y := y) (M := fun y => DenE S x l (.Call (.Name y p1) Xs [] p0) h v h') z fun g1 g2 => i_fn hv fun f vs h1 hf e1 e2 =>
      den_val rfl (den_fn G ok hf g2 (nm_dbg g g1) (sound_es G ok hcd hcl args Xs h vs h1 z2 e1).toX.2 (sound_es G ok hcd hcl args Xs h vs h1 z2 e1).toX.1 ((hcl _ _ _ _ _ e2).more (Nat.le_of_lt hcd)))
  | .new g args, X, h, v, h', hm, hv => dCall_e (M := fun X => DenE S x l X h v h') hm fun F Xs p0 z => and2_e z fun z1 z2 => dName_e (X := F) (M := fun F => DenE S x l (.Call F Xs [] p0) h v h') z1 fun y p1 z => lk_e (y := y) (M := fun y => DenE S x l (.Call (.Name y p1) Xs [] p0) h v h') z fun g1 g2 => i_new (M := fun v => DenE S x l _ h v h') hv fun f vs h1 hf e1 e2 =>
      den_val rfl (den_new G ok (Nat.lt_of_le_of_lt (Nat.zero_le _) hcd) hf g2 (nm_dbg g g1) (sound_es G ok hcd hcl args Xs h vs h1 z2 e1).toX.2 (sound_es G ok hcd hcl args Xs h vs h1 z2 e1).toX.1 ((hcl _ _ _ _ _ e2).more (Nat.le_sub_one_of_lt hcd)))
  | .meth o m args, X, h, v, h', hm, hv => dCall_e (M := fun X => DenE S x l X h v h') hm fun F Xs p0 z => dAttr_e (X := F) (M := fun F => DenE S x l (.Call F Xs [] p0) h v h') z fun O a p1 z => and6_e z fun m1 m2 m3 m4 m5 m6 => beq_e (a := a) (M := fun a => DenE S x l (.Call (.Attribute O a p1) Xs [] p0) h v h') m2 (i_meth hv fun n cc f vs h1 h2 e1 hc hf e2 e3 =>
      den_val rfl (den_meth G ok m1 (sound_es G ok hcd hcl args Xs h1 vs h2 m6 e2).toX.2 (of_decide_eq_true m3) m4 (sound_e G ok hcd hcl o O h _ h1 m5 e1).1 hc hf (sound_es G ok hcd hcl args Xs h1 vs h2 m6 e2).toX.1 ((hcl _ _ _ _ _ e3).more (Nat.le_of_lt hcd))))
  | .bm o m args, X, h, v, h', hm, hv => dCall_e (M := fun X => DenE S x l X h v h') hm fun F Xs p0 z => and2_e z fun z0 z => and2_e z0 fun m7 m8 => dAttr_e (X := F) (M := fun F => DenE S x l (.Call F Xs [] p0) h v h') z fun O a p1 z => and6_e z fun m1 m2 m3 m4 m5 m6 => beq_e (a := a) (M := fun a => DenE S x l (.Call (.Attribute O a p1) Xs [] p0) h v h') m2 (i_bm hv fun n vs h1 h2 e1 hok e2 e3 =>
      den_val rfl (den_bm ok m1 (sound_es G ok hcd hcl args Xs h1 vs h2 m6 e2).toX.2 (ne_nil m8) (of_decide_eq_true m3) m4 m7 (sound_e G ok hcd hcl o O h _ h1 m5 e1).1 hok (sound_es G ok hcd hcl args Xs h1 vs h2 m6 e2).toX.1 e3))
  | .bf b args, X, h, v, h', hm, hv => dCall_e (M := fun X => DenE S x l X h v h') hm fun F Xs p0 z => and4_e z fun m1 m2 m3 m4 => dName_e (X := F) (M := fun F => DenE S x l (.Call F Xs [] p0) h v h') m1 fun y p1 z => lk_e (y := y) (M := fun y => DenE S x l (.Call (.Name y p1) Xs [] p0) h v h') z fun g1 g2 => bind_e (show (vEs cl l args h).bind _ = _ from hv) fun vs h1 e1 e2 =>
      den_val rfl (den_bf G ok m2 g2 (sound_es G ok hcd hcl args Xs h vs h1 m4 e1).toX.2 (ne_nil m3) (sound_es G ok hcd hcl args Xs h vs h1 m4 e1).toX.1 e2)
  | .lrange a b, X, h, v, h', hm, hv => dCall_e (M := fun X => DenE S x l X h v h') hm fun F Xs p0 z => and2_e z fun z1 z2 => dName_e (X := F) (M := fun F => DenE S x l (.Call F Xs [] p0) h v h') z1 fun y p1 z => lk_e (y := y) (M := fun y => DenE S x l (.Call (.Name y p1) Xs [] p0) h v h') z fun g1 g2 => p1_e (l := Xs) (M := fun Xs => DenE S x l (.Call (.Name (nm n_list) p1) Xs [] p0) h v h') z2 fun Y z => dCall_e (X := Y) (M := fun Y => DenE S x l (.Call (.Name (nm n_list) p1) [Y] [] p0) h v h') z fun R As p2 z => and2_e z fun z3 z4 => dName_e (X := R) (M := fun R => DenE S x l (.Call (.Name (nm n_list) p1) [.Call R As [] p2] [] p0) h v h') z3 fun r p3 z => and2_e z fun z5 z6 => beq_e (a := r) (M := fun r => (x.sc.names.lookup r == some NameKind.globalImplicit) = true → DenE S x l (.Call (.Name (nm n_list) p1) [.Call (.Name r p3) As [] p2] [] p0) h v h') z5 (fun z6 => p2j_e (l := As) (M := fun As => DenE S x l (.Call (.Name (nm n_list) p1) [.Call (.Name "range" p3) As [] p2] [] p0) h v h') z4 fun A B z => and4_e z fun m4 m5 m6 m7 =>
      i_lrange (M := fun v h' => DenE S x l _ h v h') hv fun i j h1 h2 e1 e2 cc => den_val rfl (den_lrange G ok g2 (eq_of_beq z6) m4 m5 (sound_e G ok hcd hcl a A h _ h1 m6 e1).1 (sound_e G ok hcd hcl b B h1 _ h2 m7 e2).1 cc)) z6
  | .bin op a b, X, h, v, h', hm, hv => dBin_e (M := fun X => DenE S x l X h v h') hm fun A o B p0 z => and3_e z fun m1 m2 m3 => bind_e (show (vE cl l a h).bind _ = _ from hv) fun u h1 e1 hv => bind_e hv fun w h2 e2 hv => den_val rfl (den_bin ok m1 (sound_e G ok hcd hcl a A h u h1 m2 e1).1 (sound_e G ok hcd hcl b B h1 w h2 m3 e2).1 hv)
  | .cmp op a b, X, h, v, h', hm, hv => dCmp_e (M := fun X => DenE S x l X h v h') hm fun A os Bs p0 z => and3_e z fun m1 m3 m2 => p1_e (l := os) (M := fun os => DenE S x l (.Compare A os Bs p0) h v h') m1 fun o m1 => p1_e (l := Bs) (M := fun Bs => DenE S x l (.Compare A [o] Bs p0) h v h') m3 fun B z => and2_e z fun m4 m3 => bind_e (show (vE cl l a h).bind _ = _ from hv) fun u h1 e1 hv => bind_e hv fun w h2 e2 hv => omap_e hv fun r e3 q =>
      i_out (M := fun v h' => DenE S x l _ h v h') (congrArg some q) ⟨(den_cmp ok m1 m4 (sound_e G ok hcd hcl a A h u h1 m2 e1).1 (sound_e G ok hcd hcl b B h1 w h2 m3 e2).1 e3).1, fun b e => (bool_inj e) ▸ (den_cmp ok m1 m4 (sound_e G ok hcd hcl a A h u h1 m2 e1).1 (sound_e G ok hcd hcl _ B h1 w h2 m3 e2).1 e3).2⟩
  | .and es, X, h, v, h', hm, hv => dBoolOp_e (M := fun X => DenE S x l X h v h') hm fun o Xs p0 z => and2_e z fun z1 z2 => dec_e (a := o) (M := fun o => DenE S x l (.BoolOp o Xs p0) h v h') z1 (map_e (show (vAnd cl l true es h).map _ = _ from hv) fun b h1 e q => i_out (M := fun v h' => DenE S x l _ h v h') (congrArg some q) (sound_and G ok hcd hcl es Xs true p0 h b h1 z2 e))
  | .or es, X, h, v, h', hm, hv => dBoolOp_e (M := fun X => DenE S x l X h v h') hm fun o Xs p0 z => and2_e z fun z1 z2 => dec_e (a := o) (M := fun o => DenE S x l (.BoolOp o Xs p0) h v h') z1 (map_e (show (vAnd cl l false es h).map _ = _ from hv) fun b h1 e q => i_out (M := fun v h' => DenE S x l _ h v h') (congrArg some q) (sound_and G ok hcd hcl es Xs false p0 h b h1 z2 e))
  | .not e, X, h, v, h', hm, hv => dUn_e (M := fun X => DenE S x l X h v h') hm fun o A p0 z => and2_e z fun z1 z2 => dec_e (a := o) (M := fun o => DenE S x l (.UnaryOp o A p0) h v h') z1 (i_not (M := fun v => DenE S x l _ h v h') hv fun b e1 => den_not (sound_e G ok hcd hcl e A h _ h' z2 e1))
  | .ife t a b, X, h, v, h', hm, hv => dIf_e (M := fun X => DenE S x l X h v h') hm fun T A B p0 z => and3_e z fun m1 m2 m3 => i_ife hv (fun h1 e1 e2 => den_ife (sound_e G ok hcd hcl t T h _ h1 m1 e1) (sound_e G ok hcd hcl a A h1 v h' m2 e2)) fun h1 e1 e2 => den_ife (sound_e G ok hcd hcl t T h _ h1 m1 e1) (sound_e G ok hcd hcl b B h1 v h' m3 e2)
  | .tup es, X, h, v, h', hm, hv => dTup_e (M := fun X => DenE S x l X h v h') hm fun Xs k0 p0 z => and2_e z fun m1 m2 => bind_e (show (vEs cl l es h).bind _ = _ from hv) fun vs h1 e1 q => i_out (M := fun v h' => DenE S x l _ h v h') q (den_val rfl (den_tup (sound_es G ok hcd hcl es Xs h vs h1 m2 e1).toX.1 (densL_len (sound_es G ok hcd hcl es Xs h vs h1 m2 e1) ▸ of_decide_eq_true m1)))
  | .list es, X, h, v, h', hm, hv => dList_e (M := fun X => DenE S x l X h v h') hm fun Xs p0 z => and2_e z fun m1 m2 => bind_e (show (vEs cl l es h).bind _ = _ from hv) fun vs h1 e1 q => i_out (M := fun v h' => DenE S x l _ h v h') q (den_val rfl (den_list (sound_es G ok hcd hcl es Xs h vs h1 m2 e1).toX.1 (densL_len (sound_es G ok hcd hcl es Xs h vs h1 m2 e1) ▸ of_decide_eq_true m1)))
  | .sdict ks es, X, h, v, h', hm, hv => by
    obtain ⟨keys, Xs, pos, rfl, hm⟩ := dDict_ok (show dDict _ X = true from hm)
    obtain ⟨m1, m2, m3⟩ := and3 hm
    have m2 := of_decide_eq_true m2
    obtain ⟨⟨vs, h1⟩, e1, hv⟩ := bind_ok (show (vEs cl l es h).bind _ = _ from hv)
    have D := sound_es G ok hcd hcl es _ h vs h1 m3 e1
    dsimp only at hv
    split at hv <;> try cases hv
    rename_i hq
    cases ks with
    | nil =>
      have hvs : vs = [] := List.length_eq_zero_iff.mp hq.1.symm
      subst hvs
      have hXs : Xs = [] := List.length_eq_zero_iff.mp (densL_len D)
      subst hXs
      have hk : keys = [] := by
        cases keys with
        | nil => rfl
        | cons a r => cases m1
      subst hk
      rw [D.2]
      exact den_val rfl (den_sdict0 ok)
    | cons k r => exact den_val rfl (den_sdict ok m1 hq.2 (by simp) m2 D hq.1 (densL_len D))
  | .idict ks es, X, h, v, h', hm, hv => by
    obtain ⟨keys, Xs, pos, rfl, hm⟩ := dDict_ok (show dDict _ X = true from hm)
    obtain ⟨m1, m3, m2⟩ := and3 hm
    obtain ⟨ko, rfl, m1⟩ := p1_ok m1
    obtain ⟨kx, rfl, m1⟩ := oSome_ok m1
    obtain ⟨c0, k0, p0, rfl, m1⟩ := dConst_ok m1
    obtain ⟨i0, rfl, m1⟩ := cInt_ok m1
    obtain rfl := of_decide_eq_true m1
    obtain ⟨Y, rfl, _⟩ := p1_ok m3
    obtain ⟨⟨vs, h1⟩, e1, hv⟩ := bind_ok (show (vEs cl l es h).bind _ = _ from hv)
    have D := sound_es G ok hcd hcl es _ h vs h1 m2 e1
    dsimp only at hv
    split at hv <;> try cases hv
    obtain ⟨v1, vs', h2, rfl, _, D1, rfl, rfl⟩ := D
    exact den_val rfl (den_idict ok D1)
  | .sub e i, X, h, v, h', hm, hv => dSub_e (M := fun X => DenE S x l X h v h') hm fun A I p0 z => and3_e z fun m1 m2 m3 => i_sub hv fun n w h1 e1 e2 e3 => den_val rfl (den_sub ok m1 (sound_e G ok hcd hcl e A h _ h1 m2 e1).1 (sound_e G ok hcd hcl i I h1 w h' m3 e2).1 e3)
  | .slc e lo hi, X, h, v, h', hm, hv => by
    refine dSub_e (M := fun X => DenE S x l X h v h') hm fun A I p0 z => and4_e z fun m1 n1 n2 m2 => ?_
    have hv : vE cl l (.slc e (some 1) none) h = some (v, h') := by rw [← of_decide_eq_true n1, ← of_decide_eq_true n2]; exact hv
    refine dSlice_e (M := fun I => DenE S x l (.Subscript A I p0) h v h') m1 fun sa sb sc0 p1 z => and3_e z fun z1 z2 z3 => ?_
    refine oNone_e (M := fun b => DenE S x l (.Subscript A (.Slice sa b sc0 p1) p0) h v h') z2 (oNone_e (M := fun c => DenE S x l (.Subscript A (.Slice sa none c p1) p0) h v h') z3 ?_)
    refine oSome_e (M := fun a => DenE S x l (.Subscript A (.Slice a none none p1) p0) h v h') z1 fun kx z => dConst_e (M := fun kx => DenE S x l (.Subscript A (.Slice (some kx) none none p1) p0) h v h') z fun c0 k0 p2 z => cInt_e (M := fun c => DenE S x l (.Subscript A (.Slice (some (.Constant c k0 p2)) none none p1) p0) h v h') z fun j z => dec_e (M := fun j => DenE S x l (.Subscript A (.Slice (some (.Constant (.int j) k0 p2)) none none p1) p0) h v h') z ?_
    exact i_slc (M := fun v h' => DenE S x l _ h v h') hv fun n vs h1 e1 e3 => den_val rfl (den_slc (sound_e G ok hcd hcl e A h _ h1 m2 e1).1 e3)
theorem sound_es (G : S.Good) (ok : x.Ok S d) (hcd : c < d) (hcl : ∀ f vs h v h', cl f vs h = some (v, h') → CallS S c f vs h v h') :
    ∀ (es : PEs) (Xs : List Expr) (h : VH) (vs : List VV) (h' : VH), mEs x.sc es Xs = true → vEs cl l es h = some (vs, h') → DensL S x l Xs h vs h'
  | .nil, Xs, h, vs, h', hm, hv => by
    obtain ⟨rfl, rfl⟩ := Prod.mk.inj (Option.some.inj (show some (([] : List VV), h) = some (vs, h') from hv))
    rw [List.isEmpty_iff.mp (show Xs.isEmpty = true from hm)]
    exact ⟨rfl, rfl⟩
  | .cons e es, [], h, vs, h', hm, hv => nomatch (show false = true from hm)
  | .cons e es, X :: Xs, h, vs, h', hm, hv => and3_e (show (plainX X && mE x.sc e X && mEs x.sc es Xs) = true from hm) fun m1 m2 m3 => bind_e (show (vE cl l e h).bind _ = _ from hv) fun u h1 e1 hv => map_e hv fun ws h2 e2 q => by
    obtain ⟨rfl, rfl⟩ := Prod.mk.inj (Option.some.inj (congrArg some q))
    exact ⟨u, ws, h1, rfl, m1, (sound_e G ok hcd hcl e _ h u h1 m2 e1).1, sound_es G ok hcd hcl es _ h1 ws _ m3 e2⟩
theorem sound_and (G : S.Good) (ok : x.Ok S d) (hcd : c < d) (hcl : ∀ f vs h v h', cl f vs h = some (v, h') → CallS S c f vs h v h') :
    ∀ (es : PEs) (Xs : List Expr) (go : Bool) (pos : Pos) (h : VH) (b : Bool) (h' : VH), mEs x.sc es Xs = true → vAnd cl l go es h = some (b, h') → DenE S x l (.BoolOp (goOp go) Xs pos) h (.bool b) h'
  | .nil, Xs, go, pos, h, b, h', hm, hv => nomatch (show none = some (b, h') from hv)
  | .cons e es, [], go, pos, h, b, h', hm, hv => nomatch (show false = true from hm)
  | .cons e .nil, X :: Xs, go, pos, h, b, h', hm, hv => and3_e (show (plainX X && mE x.sc e X && Xs.isEmpty) = true from hm) fun m1 m2 m3 => bind_e (show (vE cl l e h).bind _ = _ from hv) fun u h1 e1 hv => by
    rw [List.isEmpty_iff.mp m3]
    have D := sound_e G ok hcd hcl e _ h u h1 m2 e1
    cases u with
    | bool b1 =>
      obtain ⟨rfl, rfl⟩ := Prod.mk.inj (Option.some.inj (show some (b1, h1) = some (b, h') from hv))
      exact den_bool_one D
    | _ => exact nomatch (show none = some (b, h') from hv)
  | .cons e (.cons e2 es), [X], go, pos, h, b, h', hm, hv => nomatch (and3 (show (plainX X && mE x.sc e X && false) = true from hm)).2.2
  | .cons e (.cons e2 es), X :: Y :: Xs, go, pos, h, b, h', hm, hv => and3_e (show (plainX X && mE x.sc e X && mEs x.sc (.cons e2 es) (Y :: Xs)) = true from hm) fun m1 m2 m3 => bind_e (show (vE cl l e h).bind _ = _ from hv) fun u h1 e1 hv => by
    have D := sound_e G ok hcd hcl e _ h u h1 m2 e1
    cases u with
    | bool b1 =>
      replace hv : (if b1 = go then vAnd cl l go (.cons e2 es) h1 else some (b1, h1)) = some (b, h') := hv
      by_cases hb : b1 = go
      · subst hb
        rw [if_pos rfl] at hv
        exact den_bool_go D (sound_and G ok hcd hcl (.cons e2 es) _ _ pos h1 b h' m3 hv)
      · rw [if_neg hb] at hv
        obtain ⟨rfl, rfl⟩ := Prod.mk.inj (Option.some.inj hv)
        have : b1 = !go := by cases b1 <;> cases go <;> first | rfl | exact absurd rfl hb
        subst this
        exact den_bool_end D
    | _ => exact nomatch (show none = some (b, h') from hv)
end
end
end Mine
end
section
namespace Mine
open PySem PySem.W PyProof.Rows PySem.Calls PySem.SeqAt

noncomputable def mT (sc : Scope) : PT → Expr → Bool
  | .name i, X => dName (lk sc i .local) X
  | .attr e f, X => dAttr (fun O a _ => (a == nm f) && mE sc e O) X
  | .sub e i, X => dSub (fun A I => mE sc e A && mE sc i I) X
noncomputable def mTs (sc : Scope) : List PT → List Expr → Bool
  | [], [] => true
  | t :: ts, X :: Xs => mT sc t X && mTs sc ts Xs
  | _, _ => false
noncomputable def mPair (sc : Scope) (ts : List PT) (Ts : List Expr) (V : Expr) : Bool := match ts with
  | [.name a, .name b] => p2j (fun Y Z => dNameP (fun y p1 => dNameP (fun z p2 => (y == nm a) && (z == nm b) && dTup (p2j fun V1 V2 => swOk sc a b p1 p2 V1 V2) V) Z) Y) Ts
  | _ => false
noncomputable def mAsgT (sc : Scope) (ts : List PT) (Ts : List Expr) (V : Expr) : Bool := mPair sc ts Ts V || (!(ts.all PT.isName) && Ts.all tgtN && !Ts.isEmpty && mTs sc ts Ts)
set_option tactic.hygienic false
theorem mPair_of {a b : Nat} {sc : Scope} {Ts : List Expr} {V : Expr} (h : p2j (fun Y Z => dNameP (fun y p1 => dNameP (fun z p2 => (y == nm a) && (z == nm b) && dTup (p2j fun V1 V2 => swOk sc a b p1 p2 V1 V2) V) Z) Y) Ts = true) : ∃ p1 p2 V1 V2 k p, Ts = [.Name (nm a) p1, .Name (nm b) p2] ∧ V = .Tuple [V1, V2] k p ∧ swOk sc a b p1 p2 V1 V2 = true := by
  refine p2j_e (M := fun Ts => ∃ p1 p2 V1 V2 k p, Ts = [.Name (nm a) p1, .Name (nm b) p2] ∧ V = .Tuple [V1, V2] k p ∧ swOk sc a b p1 p2 V1 V2 = true) h fun Y Z z1 => ?_
  obtain ⟨y, p1, rfl, z2⟩ := dNameP_ok z1
  obtain ⟨z, p2, rfl, z3⟩ := dNameP_ok z2
  obtain ⟨z4, z5, z6⟩ := and3 z3
  obtain ⟨Xs, k, p, rfl, z7⟩ := dTup_ok z6
  obtain ⟨V1, V2, rfl, z8⟩ := p2j_ok z7
  exact ⟨p1, p2, V1, V2, k, p, by rw [eq_of_beq z4, eq_of_beq z5], rfl, z8⟩
theorem mPair_ok {sc : Scope} {ts : List PT} {Ts : List Expr} {V : Expr} (h : mPair sc ts Ts V = true) : ∃ a b p1 p2 V1 V2 k p, ts = [.name a, .name b] ∧ Ts = [.Name (nm a) p1, .Name (nm b) p2] ∧ V = .Tuple [V1, V2] k p ∧ swOk sc a b p1 p2 V1 V2 = true := by
  rcases ts with _ | ⟨t, _ | ⟨u, _ | _⟩⟩
  · cases h
  · cases t <;> cases h
  · cases t with
    | name a =>
      cases u with
      | name b =>
        obtain ⟨p1, p2, V1, V2, k, p, z⟩ := mPair_of h
        exact ⟨a, b, p1, p2, V1, V2, k, p, rfl, z⟩
      | _ => cases h
    | _ => cases h
  · cases t with
    | name a => cases u <;> cases h
    | _ => cases h
noncomputable def rangeArgs (a : PE) (f g : Expr → Bool) : List Expr → Bool
  | [Y] => Nat.beq a.ctorIdx 0 && g Y
  | [Y, Z] => Nat.beq a.ctorIdx 2 && f Y && g Z
  | _ => false
theorem range_e {M : List Expr → Prop} {a : PE} {f g : Expr → Bool} {As : List Expr} (h : rangeArgs a f g As = true) (k1 : ∀ Y, Nat.beq a.ctorIdx 0 = true → g Y = true → M [Y]) (k2 : ∀ Y Z, Nat.beq a.ctorIdx 2 = true → f Y = true → g Z = true → M [Y, Z]) : M As := by
  rcases As with _ | ⟨Y, _ | ⟨Z, _ | _⟩⟩
  · cases h
  · exact and2_e (show (Nat.beq a.ctorIdx 0 && g Y) = true from h) (k1 Y)
  · exact and3_e (show (Nat.beq a.ctorIdx 2 && f Y && g Z) = true from h) (k2 Y Z)
  · cases h
theorem eN_v {cl : Caller} {l : Loc} {a : PE} {h : VH} (e : Nat.beq a.ctorIdx 0 = true) : vE cl l a h = some (.none, h) := PE.none.elim (motive_1 := fun a => vE cl l a h = some (.none, h)) a (Nat.eq_of_beq_eq_true e) rfl
theorem eI_v {cl : Caller} {l : Loc} {a : PE} {h : VH} (e : Nat.beq a.ctorIdx 2 = true) : ∃ i, vE cl l a h = some (.int i, h) := PE.int.elim (motive_1 := fun a => ∃ i, vE cl l a h = some (.int i, h)) a (Nat.eq_of_beq_eq_true e) fun i => ⟨i, rfl⟩
theorem vE_nx {cl : Caller} {l : Loc} {a : PE} {h h1 : VH} (e : vE cl l a h = some (.none, h)) (e1 : vE cl l a h = some (.none, h1)) : h1 = h := (Prod.mk.inj (Option.some.inj (e1.symm.trans e))).2
theorem itO {α : Type} {c : Prop} [Decidable c] {o : Option α} {r : α} {Q : Prop} (h : (if c then o else none) = some r) (k : c → o = some r → Q) : Q := by
  by_cases q : c
  · rw [if_pos q] at h; exact k q h
  · rw [if_neg q] at h; cases h
theorem i_forR {cl : Caller} {l : Loc} {a b : PE} {y : Nat} {body : PSs} {h : VH} {r : VFl × Loc × VH} {Q : Prop} (hv : vS cl (.forR y a b body) l h = some r)
    (k1 : ∀ j h1 h2, vE cl l a h = some (.none, h1) → vE cl l b h1 = some (.int j, h2) → (0 ≤ j ∧ j ≤ 64) → loopV (vSs cl body) (fun _ => true) y ((List.range j.toNat).map fun k : Nat => .int (k : Int)) l h2 = some r → Q)
    (k2 : ∀ i j h1 h2, vE cl l a h = some (.int i, h1) → vE cl l b h1 = some (.int j, h2) → (-1000 ≤ i ∧ i ≤ 1000 ∧ -1000 ≤ j ∧ j ≤ 1000 ∧ j - i ≤ 64) → loopV (vSs cl body) (fun _ => true) y ((List.range (j - i).toNat).map fun k : Nat => .int (i + (k : Int))) l h2 = some r → Q) : Q := by
  refine bind_e (show (vE cl l a h).bind _ = _ from hv) fun u h1 e1 hv => bind_e hv fun w h2 e2 hv => ?_
  cases u with
  | none =>
    cases w with
    | int j => exact itO hv fun q hv => k1 j h1 h2 e1 e2 q hv
    | _ => cases hv
  | int i =>
    cases w with
    | int j => exact itO hv fun q hv => k2 i j h1 h2 e1 e2 q hv
    | _ => cases hv
  | _ => cases hv

mutual
noncomputable def mS (sc : Scope) : PS → Stmt → Bool
  | .asg t e, X => sAsg (fun Ts V => p1 (fun T => plainX V && tgtX T && mT sc t T && mE sc e V) Ts) X
  | .asgT ts e, X => sAsg (fun Ts V => p1 (dTup fun Ts => plainX V && mAsgT sc ts Ts V && mE sc e V) Ts) X
  | .augA o f op e, X => sAug (fun T oo V => decide (oo = .Add) && dAttr (fun O a _ => (a == nm f) && mE sc o O && mE sc e V) T) X
  | .ifs t a b, X => sIf (fun T A B => mE sc t T && mSs sc a A && mSs sc b B) X
  | .ret e, X => sRet (oSome (mE sc e)) X
  | .retN, X => sRet Option.isNone X
  | .forL y it body, X => sFor (fun T IT B => dName (lk sc y .local) T && plainX IT && mE sc it IT && mSs sc body B) X
  | .forD y it body, X => sFor (fun T IT B => dName (lk sc y .local) T && plainX IT && mE sc it IT && mSs sc body B) X
  | .forR y a b body, X => sFor (fun T IT B => dName (lk sc y .local) T && dCall (fun F As _ => dName (fun r => (r == ("range" : Str)) && (sc.names.lookup r == some .globalImplicit)) F && As.all plainX && mSs sc body B && rangeArgs a (mE sc a) (mE sc b) As) IT) X
  | .expr e, X => sExpr (fun V => plainX V && mE sc e V) X
  | .dead, _ => true
noncomputable def mSs (sc : Scope) : PSs → List Stmt → Bool
  | .nil, Xs => Xs.isEmpty
  | .cons s ss, Xs => match Xs with
    | X :: r => mS sc s X && mSs sc ss r
    | [] => false
end

section
variable {S : SE} {x : FX} {d c : Nat} {cl : Caller}

set_option tactic.hygienic false
theorem sound_t (G : S.Good) (ok : x.Ok S d) (hcd : c < d) (hcl : ∀ f vs h v h', cl f vs h = some (v, h') → CallS S c f vs h v h') (t : PT) (X : Expr) (v : VV) (l l' : Loc) (h h' : VH) (hm : mT x.sc t X = true) (hv : vAsg cl l v t h = some (l', h')) :
    DenT S x X v l h l' h' := by
  cases t with
  | name i =>
    obtain ⟨y, p0, rfl, z1⟩ := dName_ok (show dName _ X = true from hm)
    obtain ⟨rfl, h1, h2⟩ := lk_of z1
    cases (show some (upd l i (some v), h) = some (l', h') from hv)
    exact dent_name ok h1 h2
  | attr e f =>
    obtain ⟨O, a, p0, rfl, z1⟩ := dAttr_ok (show dAttr _ X = true from hm)
    obtain ⟨z2, m2⟩ := and2 z1
    obtain rfl := eq_of_beq z2
    obtain ⟨⟨w, h1⟩, e1, hv⟩ := bind_ok (show (vE cl l e h).bind _ = _ from hv)
    have D := sound_e G ok hcd hcl e _ h w h1 m2 e1
    dsimp only at hv
    split at hv <;> try cases hv
    obtain ⟨cc, hc, hv⟩ := Option.bind_eq_some_iff.mp hv
    split at hv <;> try cases hv
    exact dent_attr G ok D.1 hc (by assumption)
  | sub e i =>
    obtain ⟨A, I, p0, rfl, z1⟩ := dSub_ok (show dSub _ X = true from hm)
    obtain ⟨m1, m2⟩ := and2 z1
    obtain ⟨⟨u, h1⟩, e1, hv⟩ := bind_ok (show (vE cl l e h).bind _ = _ from hv)
    obtain ⟨⟨w, h2⟩, e2, hv⟩ := Option.bind_eq_some_iff.mp hv
    have D1 := sound_e G ok hcd hcl e _ h u h1 m1 e1
    have D2 := sound_e G ok hcd hcl i _ h1 w h2 m2 e2
    dsimp only at hv
    have key : ∃ n, u = .ref n ∧ l' = l ∧ vPut n w v h2 = some h' := by
      unfold vPut
      clear e1 D1 m1
      rcases u with _ | _ | _ | _ | _ | n <;> try (cases hv; done)
      refine ⟨n, rfl, ?_⟩
      rcases w with _ | _ | k | k | _ | _ <;> try (cases hv; done)
      · dsimp only at hv ⊢
        cases hl : h2.lst n with
        | some vs =>
          rw [hl] at hv
          dsimp only at hv ⊢
          split at hv <;> cases hv
          exact ⟨rfl, if_pos (by assumption)⟩
        | none =>
          rw [hl] at hv
          dsimp only at hv ⊢
          obtain ⟨es, hi, hv⟩ := Option.bind_eq_some_iff.mp hv
          split at hv <;> cases hv
          exact ⟨rfl, by rw [hi]; exact if_pos (by assumption)⟩
      · dsimp only at hv ⊢
        obtain ⟨es, hi, hv⟩ := Option.bind_eq_some_iff.mp hv
        split at hv <;> cases hv
        exact ⟨rfl, by rw [hi]; exact if_pos (by assumption)⟩
    obtain ⟨n, rfl, rfl, hp⟩ := key
    exact dent_sub ok D1.1 D2.1 hp

theorem sound_ts (G : S.Good) (ok : x.Ok S d) (hcd : c < d) (hcl : ∀ f vs h v h', cl f vs h = some (v, h') → CallS S c f vs h v h') : ∀ (ts : List PT) (Xs : List Expr) (vs : List VV) (l l' : Loc) (h h' : VH), Xs.all tgtN = true → mTs x.sc ts Xs = true → ts.length = vs.length →
    vAsgs cl (ts.zip vs) l h = some (l', h') → DenTs S x Xs vs l h l' h'
  | [], [], vs, l, l', h, h', ht, hm, hl, hv => by
    have : vs = [] := List.length_eq_zero_iff.mp hl.symm
    subst this
    cases hv
    exact dents_nil
  | t :: ts, X :: Xs, [], l, l', h, h', ht, hm, hl, hv => nomatch hl
  | t :: ts, X :: Xs, v :: vs, l, l', h, h', ht, hm, hl, hv => and2_e (show (mT x.sc t X && mTs x.sc ts Xs) = true from hm) fun m1 m2 => bind_e (show (vAsg cl l v t h).bind _ = _ from hv) fun l1 h1 e1 hv => by
    obtain ⟨t1, t2⟩ := Bool.and_eq_true_iff.mp (List.all_cons ▸ ht)
    exact dents_cons (by cases X <;> first | rfl | cases t1) (sound_t G ok hcd hcl t X v l l1 h h1 m1 e1) (sound_ts G ok hcd hcl ts Xs vs l1 l' h1 h' t2 m2 (Nat.succ.inj hl) hv)
  | [], _ :: _, _, _, _, _, _, _, hm, _, _ => nomatch hm
  | _ :: _, [], _, _, _, _, _, _, hm, _, _ => nomatch hm

theorem sound_asgT (G : S.Good) (ok : x.Ok S d) (hcd : c < d) (hcl : ∀ f vs h v h', cl f vs h = some (v, h') → CallS S c f vs h v h') {ts : List PT} {Ts : List Expr} {V : Expr} {k n : Nat} {tp pos : Pos} {l l' : Loc} {h h1 h2 : VH} {vs : List VV}
    (pV : plainX V = true) (hm : mAsgT x.sc ts Ts V = true) (D : Den S x l (eval V x.env) h (.ref n) h1) (hn : h1.tup n = some vs) (hl : ts.length = vs.length)
    (hv : vAsgs cl (if ts.all PT.isName then (ts.zip vs).reverse else ts.zip vs) l h1 = some (l', h2)) : DenS S x (exec (.Assign [.Tuple Ts k tp] V pos) x.env) l h .next l' h2 := by
  rcases Bool.or_eq_true_iff.mp (show (mPair x.sc ts Ts V || _) = true from hm) with hm | hm
  · obtain ⟨a, b, p1, p2, V1, V2, kk, vp, rfl, rfl, rfl, m3⟩ := mPair_ok hm
    match vs, hl, hv, hn with
    | [v1, v2], hl, hv, hn =>
      cases hv
      exact dens_asgN ok m3 D hn
  · simp only [Bool.and_eq_true, Bool.not_eq_true'] at hm
    obtain ⟨⟨⟨m1, m2⟩, m3⟩, m4⟩ := hm
    rw [m1] at hv
    cases Ts with
    | nil => cases m3
    | cons T1 Ts =>
      have hTl : ∀ {ts : List PT} {Ts : List Expr}, mTs x.sc ts Ts = true → Ts.length = ts.length := by
        intro ts
        induction ts with
        | nil => intro Ts q; cases Ts with
          | nil => rfl
          | cons _ _ => cases q
        | cons t r ih => intro Ts q; cases Ts with
          | nil => cases q
          | cons _ _ => rw [List.length_cons, List.length_cons, ih (Bool.and_eq_true_iff.mp q).2]
      exact dens_asgT ok m2 pV D hn (by rw [hTl m4]; exact hl) (sound_ts G ok hcd hcl ts _ vs l l' h1 h2 m2 m4 hl hv)

theorem s_out {M : VFl → Loc → VH → Prop} {f0 fl : VFl} {l0 l' : Loc} {h0 h' : VH} (q : (f0, l0, h0) = (fl, l', h')) (k : M f0 l0 h0) : M fl l' h' := by
  cases q
  exact k
theorem i_asgT {M : VFl → Loc → VH → Prop} {ts : List PT} {e : PE} {l l' : Loc} {h h' : VH} {fl : VFl} (hv : vS cl (.asgT ts e) l h = some (fl, l', h')) (k : ∀ n vs h1 l2 h2, vE cl l e h = some (.ref n, h1) → h1.tup n = some vs → ts.length = vs.length → vAsgs cl (if ts.all PT.isName then (ts.zip vs).reverse else ts.zip vs) l h1 = some (l2, h2) → M .next l2 h2) : M fl l' h' := by
  refine bind_e (show (vE cl l e h).bind _ = _ from hv) fun u h1 e1 hv => ?_
  cases u with
  | ref n =>
    refine obind_e (show (h1.tup n).bind _ = _ from hv) fun vs e2 hv => ?_
    dsimp only at hv
    split at hv
    · refine map_e hv fun l2 h2 e3 q => s_out q (k n vs h1 l2 h2 e1 e2 (by assumption) e3)
    · cases hv
  | _ => cases hv
theorem i_aug {M : VFl → Loc → VH → Prop} {o : PE} {f op : Nat} {e : PE} {l l' : Loc} {h h' : VH} {fl : VFl} (hv : vS cl (.augA o f op e) l h = some (fl, l', h')) (k : ∀ n cc c2 i j h1 h2, vE cl l o h = some (.ref n, h1) → h1.cls n = some cc → h1.fld n f = some (.int i) → vE cl l e h1 = some (.int j, h2) → f < 64 → h2.cls n = some c2 → M .next l (h2.setF n f (.int (i + j)))) : M fl l' h' := by
  refine bind_e (show (vE cl l o h).bind _ = _ from hv) fun u h1 e1 hv => ?_
  cases u with
  | ref n =>
    refine obind_e (show (h1.cls n).bind _ = _ from hv) fun cc e2 hv => obind_e hv fun old e3 hv => bind_e hv fun w h2 e4 hv => ?_
    dsimp only at hv
    split at hv <;> try cases hv
    split at hv <;> try cases hv
    obtain ⟨c2, hc2⟩ := Option.isSome_iff_exists.mp (‹f < 64 ∧ (h2.cls n).isSome = true›).2
    exact k n cc c2 _ _ h1 h2 e1 e2 e3 e4 (‹f < 64 ∧ (h2.cls n).isSome = true›).1 hc2
  | _ => cases hv
theorem i_ifs {Q : Prop} {t : PE} {a b : PSs} {l l' : Loc} {h h' : VH} {fl : VFl} (hv : vS cl (.ifs t a b) l h = some (fl, l', h')) (k1 : ∀ h1, vE cl l t h = some (.bool true, h1) → vSs cl a l h1 = some (fl, l', h') → Q) (k2 : ∀ h1, vE cl l t h = some (.bool false, h1) → vSs cl b l h1 = some (fl, l', h') → Q) : Q := by
  refine bind_e (show (vE cl l t h).bind _ = _ from hv) fun u h1 e1 hv => ?_
  cases u with
  | bool c => cases c with
    | true => exact k1 h1 e1 hv
    | false => exact k2 h1 e1 hv
  | _ => cases hv
theorem i_forL {Q : Prop} {y : Nat} {it : PE} {body : PSs} {l l' : Loc} {h h' : VH} {fl : VFl} (hv : vS cl (.forL y it body) l h = some (fl, l', h')) (k : ∀ n vs h1, vE cl l it h = some (.ref n, h1) → h1.lst n = some vs → loopV (vSs cl body) (fun h' => h'.ver n == h1.ver n) y vs l h1 = some (fl, l', h') → Q) : Q := by
  refine bind_e (show (vE cl l it h).bind _ = _ from hv) fun u h1 e1 hv => ?_
  cases u with
  | ref n => exact obind_e (show (h1.lst n).bind _ = _ from hv) fun vs e2 hv => k n vs h1 e1 e2 hv
  | _ => cases hv
theorem i_forD {Q : Prop} {y : Nat} {it : PE} {body : PSs} {l l' : Loc} {h h' : VH} {fl : VFl} (hv : vS cl (.forD y it body) l h = some (fl, l', h')) (k : ∀ n es h1, vE cl l it h = some (.ref n, h1) → h1.ic n = some es → loopV (vSs cl body) (fun h' => h'.ver n == h1.ver n) y (es.map fun e => .int e.1) l h1 = some (fl, l', h') → Q) : Q := by
  refine bind_e (show (vE cl l it h).bind _ = _ from hv) fun u h1 e1 hv => ?_
  cases u with
  | ref n => exact obind_e (show (h1.ic n).bind _ = _ from hv) fun vs e2 hv => k n vs h1 e1 e2 hv
  | _ => cases hv

mutual
theorem sound_s (G : S.Good) (ok : x.Ok S d) (hcd : c < d) (hcl : ∀ f vs h v h', cl f vs h = some (v, h') → CallS S c f vs h v h') :
    ∀ (s : PS) (X : Stmt) (l : Loc) (h : VH) (fl : VFl) (l' : Loc) (h' : VH), mS x.sc s X = true → vS cl s l h = some (fl, l', h') → DenS S x (exec X x.env) l h fl l' h'
  | .asg t e, X, l, h, fl, l', h', hm, hv => sAsg_e (M := fun X => DenS S x (exec X x.env) l h fl l' h') hm fun Ts V p0 z => p1_e (M := fun Ts => DenS S x (exec (.Assign Ts V p0) x.env) l h fl l' h') z fun T z => and4_e z fun m1 m2 m3 m4 => bind_e (show (vE cl l e h).bind _ = _ from hv) fun u h1 e1 hv => map_e hv fun l2 h2 e2 q =>
      s_out (M := fun fl l' h' => DenS S x (exec (.Assign [T] V p0) x.env) l h fl l' h') q (dens_asg m2 m1 (sound_e G ok hcd hcl e V h u h1 m4 e1).1 (sound_t G ok hcd hcl t T u l l2 h1 h2 m3 e2))
  | .asgT ts e, X, l, h, fl, l', h', hm, hv => sAsg_e (M := fun X => DenS S x (exec X x.env) l h fl l' h') hm fun Ts V p0 z => p1_e (M := fun Ts => DenS S x (exec (.Assign Ts V p0) x.env) l h fl l' h') z fun T z => dTup_e (X := T) (M := fun T => DenS S x (exec (.Assign [T] V p0) x.env) l h fl l' h') z fun Us k0 p2 z => and3_e z fun m1 m2 m3 =>
      i_asgT (M := fun fl l' h' => DenS S x (exec (.Assign [.Tuple Us k0 p2] V p0) x.env) l h fl l' h') hv fun n vs h1 l2 h2 e1 hn hl e2 => sound_asgT G ok hcd hcl m1 m2 (sound_e G ok hcd hcl e V h _ h1 m3 e1).1 hn hl e2
  | .augA o f op e, X, l, h, fl, l', h', hm, hv => sAug_e (M := fun X => DenS S x (exec X x.env) l h fl l' h') hm fun T oo V p0 z => and2_e z fun z1 z2 => dec_e (a := oo) (M := fun oo => DenS S x (exec (.AugAssign T oo V p0) x.env) l h fl l' h') z1 (dAttr_e (X := T) (M := fun T => DenS S x (exec (.AugAssign T .Add V p0) x.env) l h fl l' h') z2 fun O a p2 z => and3_e z fun m1 m2 m3 => beq_e (a := a) (M := fun a => DenS S x (exec (.AugAssign (.Attribute O a p2) .Add V p0) x.env) l h fl l' h') m1
      (i_aug (M := fun fl l' h' => DenS S x (exec (.AugAssign (.Attribute O (nm f) p2) .Add V p0) x.env) l h fl l' h') hv fun n cc c2 i j h1 h2 e1 hc hf e2 q hc2 => dens_augA G ok (sound_e G ok hcd hcl o O h _ h1 m2 e1).1 hc hf q (sound_e G ok hcd hcl e V h1 _ h2 m3 e2).1 hc2))
  | .ifs t a b, X, l, h, fl, l', h', hm, hv => sIf_e (M := fun X => DenS S x (exec X x.env) l h fl l' h') hm fun T A B p0 z => and3_e z fun m1 m2 m3 => i_ifs hv (fun h1 e1 e2 => dens_if (sound_e G ok hcd hcl t T h _ h1 m1 e1) (sound_ss G ok hcd hcl a A l h1 fl l' h' m2 e2)) fun h1 e1 e2 => dens_if (sound_e G ok hcd hcl t T h _ h1 m1 e1) (sound_ss G ok hcd hcl b B l h1 fl l' h' m3 e2)
  | .ret e, X, l, h, fl, l', h', hm, hv => sRet_e (M := fun X => DenS S x (exec X x.env) l h fl l' h') hm fun V p0 z => oSome_e (M := fun V => DenS S x (exec (.Return V p0) x.env) l h fl l' h') z fun V z => map_e (show (vE cl l e h).map _ = _ from hv) fun u h1 e1 q => s_out (M := fun fl l' h' => DenS S x (exec (.Return (some V) p0) x.env) l h fl l' h') q (dens_ret (sound_e G ok hcd hcl e V h u h1 z e1).1)
  | .retN, X, l, h, fl, l', h', hm, hv => sRet_e (M := fun X => DenS S x (exec X x.env) l h fl l' h') hm fun V p0 z => oNone_e (M := fun V => DenS S x (exec (.Return V p0) x.env) l h fl l' h') z (s_out (M := fun fl l' h' => DenS S x (exec (.Return none p0) x.env) l h fl l' h') (Option.some.inj hv) dens_retN)
  | .forL y it body, X, l, h, fl, l', h', hm, hv => sFor_e (M := fun X => DenS S x (exec X x.env) l h fl l' h') hm fun T IT B p0 z => and4_e z fun m1 m2 m3 m4 => dName_e (X := T) (M := fun T => DenS S x (exec (.For T IT B [] p0) x.env) l h fl l' h') m1 fun w p2 z => lk_e (M := fun w => DenS S x (exec (.For (.Name w p2) IT B [] p0) x.env) l h fl l' h') z fun g1 g2 => i_forL hv fun n vs h1 e1 hn hv => dens_forL ok g1 g2 m2 (sound_e G ok hcd hcl it IT h _ h1 m3 e1).1 hn hv fun l h fl l' h' q => sound_ss G ok hcd hcl body B l h fl l' h' m4 q
  | .forD y it body, X, l, h, fl, l', h', hm, hv => sFor_e (M := fun X => DenS S x (exec X x.env) l h fl l' h') hm fun T IT B p0 z => and4_e z fun m1 m2 m3 m4 => dName_e (X := T) (M := fun T => DenS S x (exec (.For T IT B [] p0) x.env) l h fl l' h') m1 fun w p2 z => lk_e (M := fun w => DenS S x (exec (.For (.Name w p2) IT B [] p0) x.env) l h fl l' h') z fun g1 g2 => i_forD hv fun n vs h1 e1 hn hv => dens_forD ok g1 g2 m2 (sound_e G ok hcd hcl it IT h _ h1 m3 e1).1 hn hv fun l h fl l' h' q => sound_ss G ok hcd hcl body B l h fl l' h' m4 q
  | .forR y a b body, X, l, h, fl, l', h', hm, hv => sFor_e (M := fun X => DenS S x (exec X x.env) l h fl l' h') hm fun T IT B p0 z => and2_e z fun m1 z => dName_e (X := T) (M := fun T => DenS S x (exec (.For T IT B [] p0) x.env) l h fl l' h') m1 fun w p2 m1 => lk_e (M := fun w => DenS S x (exec (.For (.Name w p2) IT B [] p0) x.env) l h fl l' h') m1 fun g1 g2 => dCall_e (X := IT) (M := fun IT => DenS S x (exec (.For (.Name (nm y) p2) IT B [] p0) x.env) l h fl l' h') z fun F As p3 z => and4_e z fun z m4 m5 m6 => dName_e (X := F) (M := fun F => DenS S x (exec (.For (.Name (nm y) p2) (.Call F As [] p3) B [] p0) x.env) l h fl l' h') z fun r p4 z => and2_e z fun z m3 => beq_e (a := r) (M := fun r => (x.sc.names.lookup r == some .globalImplicit) = true → DenS S x (exec (.For (.Name (nm y) p2) (.Call (.Name r p4) As [] p3) B [] p0) x.env) l h fl l' h') z (fun m3 =>
      range_e (M := fun As => As.all plainX = true → DenS S x (exec (.For (.Name (nm y) p2) (.Call (.Name ("range" : Str) p4) As [] p3) B [] p0) x.env) l h fl l' h') m6 (fun Y z gY m4 => i_forR hv (fun j h1 h2 e1 e2 q hv => dens_forR1 G ok g1 g2 (eq_of_beq m3) (Bool.and_eq_true_iff.mp m4).1 (sound_e G ok hcd hcl b Y h _ h2 gY (vE_nx (eN_v z) e1 ▸ e2)).1 q hv fun l h fl l' h' q => sound_ss G ok hcd hcl body B l h fl l' h' m5 q) fun i j h1 h2 e1 e2 q hv => nomatch Option.some.inj ((eN_v z).symm.trans e1))
        (fun Y Z z fY gZ m4 => i_forR hv (fun j h1 h2 e1 e2 q hv => let ⟨i, e⟩ := eI_v (cl := cl) (l := l) (h := h) z; nomatch Option.some.inj (e.symm.trans e1)) fun i j h1 h2 e1 e2 q hv => dens_forR2 G ok g1 g2 (eq_of_beq m3) (Bool.and_eq_true_iff.mp m4).1 (Bool.and_eq_true_iff.mp (Bool.and_eq_true_iff.mp m4).2).1 (sound_e G ok hcd hcl a Y h _ h1 fY e1).1 (sound_e G ok hcd hcl b Z h1 _ h2 gZ e2).1 q hv fun l h fl l' h' q => sound_ss G ok hcd hcl body B l h fl l' h' m5 q) m4) m3
  | .expr e, X, l, h, fl, l', h', hm, hv => sExpr_e (M := fun X => DenS S x (exec X x.env) l h fl l' h') hm fun V p0 z => and2_e z fun m1 m2 => map_e (show (vE cl l e h).map _ = _ from hv) fun u h1 e1 q => s_out (M := fun fl l' h' => DenS S x (exec (.Expr V p0) x.env) l h fl l' h') q (dens_expr ok m1 (sound_e G ok hcd hcl e V h u h1 m2 e1).1)
  | .dead, X, l, h, fl, l', h', hm, hv => nomatch (show none = some (fl, l', h') from hv)
theorem sound_ss (G : S.Good) (ok : x.Ok S d) (hcd : c < d) (hcl : ∀ f vs h v h', cl f vs h = some (v, h') → CallS S c f vs h v h') :
    ∀ (ss : PSs) (Xs : List Stmt) (l : Loc) (h : VH) (fl : VFl) (l' : Loc) (h' : VH), mSs x.sc ss Xs = true → vSs cl ss l h = some (fl, l', h') → DenS S x (execs Xs x.env) l h fl l' h'
  | .nil, Xs, l, h, fl, l', h', hm, hv => by
    cases (show some (VFl.next, l, h) = some (fl, l', h') from hv)
    rw [List.isEmpty_iff.mp (show Xs.isEmpty = true from hm)]
    exact dens_stop
  | .cons s ss, [], l, h, fl, l', h', hm, hv => nomatch (show false = true from hm)
  | .cons s ss, X :: Xs, l, h, fl, l', h', hm, hv => and2_e (show (mS x.sc s X && mSs x.sc ss Xs) = true from hm) fun m1 m2 => bind3_e (show (vS cl s l h).bind _ = _ from hv) fun f1 l1 h1 e1 hv => by
    have D := sound_s G ok hcd hcl s _ l h f1 l1 h1 m1 e1
    cases f1 with
    | next => exact dens_seq D (sound_ss G ok hcd hcl ss _ l1 h1 fl l' h' m2 hv)
    | ret v =>
      cases hv
      exact dens_out D
end
end
end Mine
end
section
namespace Mine
open PySem PySem.W PyProof.Rows PySem.Calls PySem.SeqAt

noncomputable def parOk (p : Arguments) (ns : List Str) : Bool :=
  p.posonlyargs.isEmpty && p.kwonlyargs.isEmpty && p.vararg.isNone && p.kwarg.isNone && (p.args.map (·.arg) == ns)

set_option tactic.hygienic false
theorem zip_look {α : Type} : ∀ {ns : List Str} {us : List α} {x : Str} {u : α}, ns.Nodup → (x, u) ∈ ns.zip us → (ns.zip us).lookup x = some u
  | [], _, _, _, _, h => by simp at h
  | _ :: _, [], _, _, _, h => by simp at h
  | n :: ns, w :: us, x, u, nd, h => by
    rw [List.zip_cons_cons] at h ⊢
    obtain ⟨n1, n2⟩ := List.nodup_cons.mp nd
    rw [List.lookup_cons]
    rcases List.mem_cons.mp h with e | h
    · cases e
      simp
    · have hx : x ∈ ns := (List.of_mem_zip h).1
      have : (x == n) = false := by
        rw [beq_eq_false_iff_ne]
        intro e
        exact n1 (e ▸ hx)
      rw [this]
      exact zip_look n2 h
theorem zip_fill {α : Type} : ∀ {ns : List Str} {us : List α} (all : List (Str × α)), ns.length = us.length → (∀ p ∈ ns.zip us, all.lookup p.1 = some p.2) → ns.filterMap (fun n => (all.lookup n).map (n, ·)) = ns.zip us
  | [], _, _, _, _ => by simp
  | n :: ns, [], _, h, _ => nomatch h
  | n :: ns, u :: us, all, h, q => by
    rw [List.zip_cons_cons, List.filterMap_cons, q (n, u) (by rw [List.zip_cons_cons]; exact .head _)]
    simp only [Option.map_some]
    rw [zip_fill all (Nat.succ.inj h) fun p hp => q p (by rw [List.zip_cons_cons]; exact .tail _ hp)]
noncomputable def dfB (x : Str × Value) (sl : List (Str × Value)) : Sem (ForInStep (List (Str × Value))) :=
  if (sl.lookup x.1).isNone = true then pure (.yield (sl ++ [(x.1, x.2)])) else pure (.yield sl)
theorem bind_pars {G : Prop} {fd : FuncData} {ag : List Arg} {kd : List (Option Expr)} {d : List Expr} {us : List Value} (h : fd.params = ⟨[], ag, none, [], kd, none, d⟩)
    (K : ∀ k : Option (Array Value) → Sem (List (Str × Value)), bindArgs fd ⟨us, []⟩ = seqItems? fd.defaults >>= k →
      (∀ (its : Option (Array Value)) (dl : List Value) (ns : List Str) (m : Nat) (sl : List (Str × Value)), ag.map (·.arg) = ns → (its.getD #[]).toList.drop ((its.getD #[]).toList.length - ns.length) = dl → ns.length - dl.length = m → (decide (ns.length < us.length) && true) = false → (!((ns.take m).filter fun n => ((ns.zip us).lookup n).isNone).isEmpty) = false →
        forIn ((ns.drop m).zip dl) (ns.zip us) dfB = pure sl → k its = pure (ns.filterMap fun n => (sl.lookup n).map (n, ·))) → G) : G := by
  rcases fd with ⟨a1, a2, pp, a4, a5, a6, a7, a8, a9, a10, a11, a12, a13, a14, a15⟩
  dsimp only at h
  subst h
  refine K _ ((pure_bind _ _).trans rfl) ?_
  intro its dl ns m sl e1 e2 e3 c1 c2 lp
  subst e1 e2 e3
  exact (if_neg (not_t c1)).trans ((if_neg (not_t c2)).trans ((congrArg (fun z => z >>= _) lp).trans ((pure_bind _ _).trans ((pure_bind _ _).trans ((if_neg (not_t (rfl : (!([] : List Str).isEmpty) = false))).trans (congrArg (fun z => pure (z.filterMap fun n => (sl.lookup n).map (n, ·))) (List.append_nil _)))))))
theorem parOk_e {p : Arguments} {ns : List Str} (h : parOk p ns = true) : p = ⟨[], p.args, none, [], p.kw_defaults, none, p.defaults⟩ ∧ p.args.map (·.arg) = ns := by
  obtain ⟨h, h5⟩ := and2 h
  obtain ⟨h1, h2, h3, h4⟩ := and4 h
  cases p
  refine ⟨?_, eq_of_beq h5⟩
  rw [Arguments.mk.injEq]
  exact ⟨List.isEmpty_iff.mp h1, rfl, Option.isNone_iff_eq_none.mp h3, List.isEmpty_iff.mp h2, rfl, Option.isNone_iff_eq_none.mp h4, rfl⟩
theorem none_left {ns : List Str} {us : List Value} (nd : ns.Nodup) (hl : ns.length = us.length) : ns.filter (fun n => ((ns.zip us).lookup n).isNone) = [] := by
  rw [List.filter_eq_nil_iff]
  intro a ha
  obtain ⟨i, hi, e⟩ := List.getElem_of_mem ha
  have : (ns.zip us).lookup a = some (us[i]'(hl ▸ hi)) := zip_look nd (by
    rw [← e]
    have : (ns.zip us)[i]'(by rw [List.length_zip, ← hl, Nat.min_self]; exact hi) = (ns[i], us[i]'(hl ▸ hi)) := List.getElem_zip ..
    rw [← this]
    exact List.getElem_mem _)
  rw [this]
  exact Bool.false_ne_true
theorem binds_pos {s : Shared} {fd : FuncData} {ns : List Str} {us : List Value} (hp : parOk fd.params ns = true) (hd : fd.defaults = .none) (nd : ns.Nodup) (hl : ns.length = us.length) : BindsTo s fd ⟨us, []⟩ (ns.zip us) := by
  refine BindsTo.of_eq (bind_pars (us := us) (parOk_e hp).1 fun k e1 e2 => ?_)
  rw [e1, hd]
  refine (pure_bind _ _).trans ((e2 none [] ns ns.length (ns.zip us) (parOk_e hp).2 (List.drop_nil) rfl (by rw [hl, decide_eq_false (Nat.lt_irrefl _)]; rfl) ?_ ?_).trans ?_)
  · rw [List.take_length, none_left nd hl]
    rfl
  · rw [List.zip_nil_right]
    rfl
  · rw [zip_fill (ns.zip us) hl fun p hp => zip_look nd hp]

set_option tactic.hygienic true
theorem lr_bind {ρ : Rho} : ∀ {ps : List Nat} {vs : List VV} {us : List Value} {i : Nat} {v : VV}, VRs ρ vs us → look i (ps.zip vs) = some v → ∃ u, (nm i, u) ∈ (ps.map nm).zip us ∧ VR ρ v u
  | [], _, _, _, _, _, h => by simp [look] at h
  | _ :: _, [], _, _, _, _, h => by simp [look] at h
  | p :: ps, w :: vs, _, i, v, ⟨u, us, e, vr, r⟩, h => by
    subst e
    rw [List.zip_cons_cons] at h
    unfold look at h
    rw [List.map_cons, List.zip_cons_cons]
    split at h
    · rename_i e
      cases h
      subst e
      exact ⟨u, .head _, vr⟩
    · obtain ⟨u', h1, h2⟩ := lr_bind r h
      exact ⟨u', .tail _ h1, h2⟩
set_option tactic.hygienic false
theorem LR.bind {ρ : Rho} {ps : List Nat} {vs : List VV} {us : List Value} (vrs : VRs ρ vs us) (nd : (ps.map nm).Nodup) : LR ρ (bindL ps vs) (fun y => ((ps.map nm).zip us).reverse.lookup y) := fun i v h => by
  obtain ⟨u, h1, h2⟩ := lr_bind vrs h
  refine ⟨u, ?_, h2⟩
  have hk : (((ps.map nm).zip us).map (·.1)).Nodup := by
    refine List.Nodup.sublist ?_ nd
    clear h h1 h2 nd
    generalize ps.map nm = ns
    induction ns generalizing us vs with
    | nil => simp
    | cons n ns ih =>
      cases us with
      | nil => simp
      | cons u us =>
        cases vs with
        | nil => exact absurd (show u :: us = [] from vrs) (by simp)
        | cons w ws =>
          obtain ⟨u', us', e, _, r⟩ := vrs
          cases e
          rw [List.zip_cons_cons, List.map_cons]
          exact (ih r).cons_cons _
  have key : ∀ (l : List (Str × Value)) (x : Str) (u : Value), (l.map (·.1)).Nodup → (x, u) ∈ l → l.lookup x = some u := by
    intro l
    induction l with
    | nil => intro x u _ h; cases h
    | cons p r ih =>
      intro x u nd h
      obtain ⟨n1, n2⟩ := List.nodup_cons.mp nd
      rw [List.lookup_cons]
      rcases List.mem_cons.mp h with e | h
      · subst e; simp
      · have : (x == p.1) = false := by
          rw [beq_eq_false_iff_ne]
          intro e
          exact n1 (List.mem_map.mpr ⟨_, h, e⟩)
        rw [this]
        exact ih x u n2 h
  refine key _ _ _ ?_ (List.mem_reverse.mpr h1)
  rw [List.map_reverse]
  exact (List.reverse_perm _).nodup_iff.mpr hk

noncomputable def fillV (f : Nat) (vs : List VV) : List VV := if f = f_Rtt_init ∧ vs.length = 1 then vs ++ [.none] else vs
noncomputable def fillU (f : Nat) (us : List Value) : List Value := if f = f_Rtt_init ∧ us.length = 1 then us ++ [.none] else us

structure FnAt (S : SE) (f : Nat) (body : List Stmt) (scope : Scope) : Prop where
  at_ : ∃ oc od osl name qual params dV kV doc pm an cdv ct, S.K.lookup (S.fa f) = some ⟨oc, od, .func (fnOf name qual params body scope dV kV doc pm an cdv ct), osl⟩ ∧ codeIn S.K cdv qual = true ∧
    ∀ (s : Shared) (us : List Value), S.K.In s.heap → (fps f).length = (fillU f us).length → BindsTo s (fnOf name qual params body scope dV kV doc pm an cdv ct) ⟨us, []⟩ (((fps f).map nm).zip (fillU f us))
  loc : ∀ i ∈ fps f, scope.names.lookup (nm i) = some .local
  nd : ((fps f).map nm).Nodup
  co : scope.isCoroutine = false
  gen : scope.isGenerator = false
  kind : scope.kind = .function
  cell : ∀ x ∈ scope.names, x.2 ≠ .cell

theorem fill_rel {ρ : Rho} {f : Nat} {vs : List VV} {us : List Value} (r : VRs ρ vs us) : VRs ρ (fillV f vs) (fillU f us) := by
  unfold fillV fillU
  rw [r.length]
  split
  · exact r.append ⟨_, [], rfl, rfl, rfl⟩
  · exact r

noncomputable def flV : VFl → VV
  | .ret v => v
  | .next => .none

section
variable {S : SE} {d : Nat} {h h' : VH}
set_option tactic.hygienic false
theorem call_def {f : Nat} {vs : List VV} {v : VV} {body : List Stmt} {scope : Scope} (A : FnAt S f body scope) (hl : (fps f).length = (fillV f vs).length)
    (Body : ∀ x' : FX, x'.sc = scope → x'.Ok S d → ∃ fl l', flV fl = v ∧ DenS S x' (execs body x'.env) (bindL (fps f) (fillV f vs)) h fl l' h') : CallS S (d + 1) f vs h v h' := fun x l ok s ρ led ex us R st vrs k => by
  obtain ⟨oc, od, osl, name, qual, params, dV, kV, doc, pm, an, cdv, ct, a1, a2, a3⟩ := A.at_
  obtain ⟨A₀, base, outer, B, hA⟩ := ok.below
  obtain ⟨m, F, LL⟩ := st.fr
  have vr2 := fill_rel (f := f) vrs
  refine code_def B F ok.X st.news ok.T hA rfl ok.kind a1 a2 (by have := ok.dep; omega) (a3 s us (ok.X.keeps F.keep) (by rw [hl, vr2.length])) (fun y hy => ?_) (fun g L' h₁ FG F' N' B' X' T' => ?_) A.co A.gen A.kind A.cell
  · obtain ⟨i, hi, e⟩ := List.mem_map.mp (List.of_mem_zip (show (y.1, y.2) ∈ _ from hy)).1
    rw [← e]
    exact A.loc i hi
  · have ok' : ({ A := x.A.deeper (envOf qual scope L' (S.fa f) cdv), q := qual, sc := scope, L := L', a := S.fa f, cd := cdv, cl := [], h₀ := g } : FX).Ok S d :=
      ⟨⟨x.A, base, x.env :: outer, B', Around.frames_deeper hA⟩, X', T', A.kind, ok.hd, by
        have := ok.dep
        show x.A.depth + 1 + 2 * d < recursionLimit
        omega, by
        have := ok.un
        show x.A.units + 3 + 8 * d + 100 < cLine
        omega⟩
    obtain ⟨fl, l', e, D⟩ := Body _ rfl ok'
    have st1 : St S { A := x.A.deeper (envOf qual scope L' (S.fa f) cdv), q := qual, sc := scope, L := L', a := S.fa f, cd := cdv, cl := [], h₀ := g } h₁ ρ led ex (bindL (fps f) (fillV f vs)) h := ⟨⟨_, F', LR.bind vr2 A.nd⟩, N', st.nod, st.hr⟩
    refine wpAny_mono (D { s with heap := h₁, toks := _ } ρ led ex _ st1 fun f' ρ' led' hp tk st' ext r => ?_) (fun _ _ q => q) fun _ _ q => q.elim
    obtain ⟨m', F2, LL2⟩ := st'.fr
    refine ⟨L', m', _, F2, st'.news, fun Fo No => ?_⟩
    have st2 : St S x hp ρ' led' ex l h' := ⟨⟨m, Fo, LL.ext ext⟩, No, st'.nod, st'.hr⟩
    cases fl with
    | next =>
      rw [show f' = .next from r]
      subst e
      exact k .none ρ' led' hp tk st2 ext rfl
    | ret w =>
      obtain ⟨u, rfl, vr⟩ := r
      subst e
      exact k u ρ' led' hp tk st2 ext vr

noncomputable def SpecF (S : SE) : Prop := ∀ n h v h', (vFresh n h = some (v, h') → CallS S 2 f_RemoteIds_fresh [.ref n] h v h') ∧ (vFrames n h = some (v, h') → CallS S 2 f_RemoteIds_frames [.ref n] h v h')

theorem one_ref {α : Type} {F : Nat → Option α} {vs : List VV} {r : α} (e : (match vs with | [.ref n] => F n | _ => none) = some r) : ∃ m, vs = [.ref m] := by
  rcases vs with _ | ⟨u, _ | _⟩
  · cases e
  · cases u with
    | ref m => exact ⟨m, rfl⟩
    | _ => cases e
  · cases u <;> cases e
set_option tactic.hygienic true
theorem sound_f (G : S.Good) (Fs : ∀ f b, f ≠ f_law → fbd f = some b → ∃ body scope, FnAt S f body scope ∧ mSs scope b body = true) (Lw : ∀ (l : Loc) cl h, vSs cl b_law l h = none) (Sp : SpecF S) :
    ∀ n f vs h v h', vF n f vs h = some (v, h') → CallS S (2 * n) f vs h v h'
  | 0, f, vs, h, v, h', e => nomatch e
  | n + 1, f, vs, h, v, h', e => by
    replace e : (if f = f_RemoteIds_fresh then (match (generalizing := false) vs with | [.ref n] => vFresh n h | _ => none)
      else if f = f_RemoteIds_frames then (match (generalizing := false) vs with | [.ref n] => vFrames n h | _ => none) else (match (generalizing := false) fbd f with
          | some b => if (fps f).length = (fillV f vs).length then (vSs (vF n) b (bindL (fps f) (fillV f vs)) h).map fun (fl, _, h) => (match fl with | .ret v => v | .next => .none, h) else none
          | none => none)) = some (v, h') := e
    by_cases hf : f = f_RemoteIds_fresh
    · rw [if_pos hf] at e
      subst hf
      obtain ⟨m, rfl⟩ := one_ref e
      exact ((Sp _ h v h').1 e).more (by omega)
    · rw [if_neg hf] at e
      clear hf
      by_cases hf : f = f_RemoteIds_frames
      · rw [if_pos hf] at e
        subst hf
        obtain ⟨m, rfl⟩ := one_ref e
        exact ((Sp _ h v h').2 e).more (by omega)
      · rw [if_neg hf] at e
        clear hf
        cases hb : fbd f with
        | none => rw [hb] at e; cases e
        | some b =>
          rw [hb] at e
          dsimp only at e
          split at e
          · rename_i hl
            obtain ⟨⟨fl, l', h2⟩, e1, e2⟩ := Option.map_eq_some_iff.mp e
            have hlaw : f ≠ f_law := by
              intro q
              subst q
              cases hb
              rw [Lw] at e1
              cases e1
            obtain ⟨body, scope, A, hm⟩ := Fs f b hlaw hb
            have ih := sound_f G Fs Lw Sp n
            have hv : flV fl = v ∧ h2 = h' := by
              cases fl <;> cases e2 <;> exact ⟨rfl, rfl⟩
            obtain ⟨e3, rfl⟩ := hv
            exact call_def (d := 2 * n + 1) A hl fun x' hs ok => ⟨fl, l', e3, sound_ss G ok (by omega) ih b body _ h fl l' h2 (hs ▸ hm) e1⟩
          · cases e
end
end Mine
end
section
namespace Mine
open PySem PySem.W PyProof.Rows PySem.Calls PySem.SeqAt

set_option tactic.hygienic false
theorem off1_ne {D : Addr} : ∀ {l : List (Addr × Obj)}, LCg.Off1 D l → ∀ p ∈ l, p.1 ≠ D
  | [], _, _, h => nomatch h
  | _ :: _, x, p, h => by
    rcases List.mem_cons.mp h with rfl | h
    · exact x.1
    · exact off1_ne x.2 p h
theorem mkTups_len : ∀ (vs : List VV) (h : VH), (mkTups h vs).1.length = vs.length
  | [], h => rfl
  | v :: vs, h => by
    unfold mkTups
    simp [mkTups_len vs]
theorem nm_number_dbg : (nm n_number == ("__debug__" : Str)) = false := by decide +kernel

section
variable {S : SE} {x : FX} {d : Nat} {l l1 l2 l3 : Loc} {h h1 h2 h3 h' : VH}

noncomputable abbrev eltF (k1 k2 : Nat) (p1 p2 p3 : Pos) : Expr := .Tuple [.Constant (.str (nm n_retire_connection_id)) k1 p1, .Name (nm n_number) p2] k2 p3

set_option tactic.hygienic false
theorem comp_frames (ok : x.Ok S d) {m : Str → Option Value} {cs : Scope} {k1 k2 : Nat} {p1 p2 p3 : Pos} {s : Shared} {ex : Led} {ax : Addr} {its : Array Value} {Fin : List Value → List (Addr × Obj) → Prop}
    (hx : cs.names.lookup (nm n_number) = some .local) (hk : cs.kind = .function) (h1000 : its.size ≤ 1000) (ρ₀ : Rho) (led₀ : Led) (h₀ : VH) :
    ∀ (vs : List VV) (i : Nat) (acc : List VV) (ys : List Value) (ρ : Rho) (led : Led) (h : VH), i + vs.length = its.size → VRs ρ vs (its.toList.drop i) → VRs ρ acc ys → acc.length = i → HR S ρ led h → ((led ++ ex).map (·.1)).Nodup → Ext ρ₀ ρ led₀ led h₀ h → LCg.SrcAt x.h₀ ax its (led ++ ex) →
      (∀ ρ' led' ys', HR S ρ' led' (mkTups h vs).2 → VRs ρ' (acc ++ (mkTups h vs).1) ys' → ((led' ++ ex).map (·.1)).Nodup → Ext ρ₀ ρ' led₀ led' h₀ (mkTups h vs).2 → Fin ys' (led' ++ ex)) →
      LCg.CompRest S.prog S.w x.A x.h₀ x.L m x.env (eltF k1 k2 p1 p2 p3) (nm n_number) cs [] s (LCg.SrcAt x.h₀ ax its) (fun i v => its[i]? = some v) Fin vs.length i ys (led ++ ex)
  | [], i, acc, ys, ρ, led, h, hi, r, ra, hal, H, nod, e, hS, k => LCg.CompRest.zero (k ρ led ys H (by unfold mkTups; simpa using ra) nod e)
  | v :: vs, i, acc, ys, ρ, led, h, hi, r, ra, hal, H, nod, e, hS, k => LCg.CompRest.succ (by
    intro v' I oI C oC D m₂ hp tk E' hP hC hv F N off ne
    obtain ⟨u, us, hu, vr, vrs⟩ := r
    have hu' : its[i]? = some u := by
      have : (its.toList.drop i)[0]? = some u := by rw [hu]; rfl
      rw [List.getElem?_drop] at this
      simpa using this
    have : v' = u := by
      have := hP.symm.trans hu'
      exact Option.some.inj this
    subst this
    have hd : its.toList.drop (i + 1) = us := by
      have : (its.toList.drop i).drop 1 = us := by rw [hu]; rfl
      rw [List.drop_drop] at this
      rw [← this]
    have off3 := off.mem
    have NC := (N (C, oC) (.tail _ (.head _))).1
    refine Tuple_ ?_
    refine spliced_more (wpAny_Constant_str ?_) rfl
    refine spliced_more (wpAny_Name (wpAny_loadName_local (show cs.kind = .function from hk) (lookup_relabel_local hx) (LCg.NsObj.ns hC NC) hv ?_) nm_number_dbg) rfl
    refine spliced_none ?_
    refine kup_newTuple F N (fun T h' F' N' lt => ?_) (by simp [sizeLine_eq])
    have offT : ∀ q ∈ led ++ ex, q.1 ≠ T := fun q hq => Nat.ne_of_lt (lt q (.tail _ (.tail _ (.tail _ hq))))
    have hT : ∀ q ∈ led ++ ex, q.1 < T := fun q hq => lt q (.tail _ (.tail _ (.tail _ hq)))
    have H' : HR S (ρ ++ [(T, T)]) ((T, tupOf [.str (nm n_retire_connection_id) tk, v']) :: led) (h.newT [.str n_retire_connection_id, v]) :=
      H.newT (fun q hq => offT q (List.mem_append_left _ hq)) ⟨_, _, rfl, ⟨by decide, _, rfl⟩, _, _, rfl, vr, rfl⟩ (by simp)
    refine LCg.CompEnd.intro F' N' ((T, tupOf [.str (nm n_retire_connection_id) tk, v']) :: (led ++ ex)) (fun q hq => ?_) (LCg.Off3.of fun q hq => ?_) ?_ ?_
    · rcases List.mem_cons.mp hq with rfl | hq
      · exact .tail _ (.head _)
      · rcases List.mem_cons.mp hq with rfl | hq
        · exact .tail _ (.tail _ (.head _))
        · rcases List.mem_cons.mp hq with rfl | hq
          · exact .tail _ (.tail _ (.tail _ (.head _)))
          · rcases List.mem_cons.mp hq with rfl | hq
            · exact .head _
            · exact .tail _ (.tail _ (.tail _ (.tail _ hq)))
    · rcases List.mem_cons.mp hq with rfl | hq
      · exact ⟨Ne.symm (Nat.ne_of_lt (lt _ (.head _))), Ne.symm (Nat.ne_of_lt (lt _ (.tail _ (.head _)))), Ne.symm (Nat.ne_of_lt (lt _ (.tail _ (.tail _ (.head _)))))⟩
      · exact off3 q hq
    · rcases hS with q | ⟨o, hm, q⟩
      · exact .inl q
      · exact .inr ⟨o, .tail _ hm, q⟩
    · have vT : VR (ρ ++ [(T, T)]) (.ref h.nxt) (.ref T) := vr_new H.len
      have ext1 : Ext ρ (ρ ++ [(T, T)]) led ((T, tupOf [.str (nm n_retire_connection_id) tk, v']) :: led) h (h.newT [.str n_retire_connection_id, v]) := Ext.newT
      have rest := comp_frames ok (m := m) (cs := cs) (k1 := k1) (k2 := k2) (p1 := p1) (p2 := p2) (p3 := p3) (s := s) (ex := ex) (ax := ax) (its := its) (Fin := Fin) hx hk h1000 ρ₀ led₀ h₀ vs (i + 1) (acc ++ [.ref h.nxt]) (ys ++ [.ref T]) (ρ ++ [(T, T)]) ((T, tupOf [.str (nm n_retire_connection_id) tk, v']) :: led) (h.newT [.str n_retire_connection_id, v])
        (by simp at hi; omega) (by rw [hd]; exact vrs.app _) ((ra.app _).append ⟨_, [], rfl, vT, rfl⟩) (by simp [hal]) H' (nod_cons nod hT) (e.trans ext1) (by
          rcases hS with q | ⟨o, hm, q⟩
          · exact .inl q
          · exact .inr ⟨o, .tail _ hm, q⟩) (fun ρ' led' ys' a b c e => k ρ' led' ys' (by unfold mkTups; exact a) (by unfold mkTups; simpa using b) c (by unfold mkTups; exact e))
      exact rest)

theorem self_attr (G : S.Good) (ok : x.Ok S d) {i n c f : Nat} {v : VV} {p5 p6 : Pos} {s : Shared} {ρ : Rho} {led ex : Led} {m : Str → Option Value} {Q : Value → Shared → Prop} (hdbg : (nm i == ("__debug__" : Str)) = false) (hk : x.sc.names.lookup (nm i) = some .local) (st : St S x s.heap ρ led ex l h) (F : Fr x.h₀ x.L s.heap m) (LL : LR ρ l m)
    (hs : l i = some (.ref n)) (hc : h.cls n = some c) (hf : h.fld n f = some v) (k : ∀ y, VR ρ v y → Q y { s with toks := s.toks + 1 }) : wpAny S.M x.A (eval (.Attribute (.Name (nm i) p5) (nm f) p6) x.env) Q FF s := by
  obtain ⟨u, hu, vu⟩ := LL i _ hs
  refine Attribute_any_ (nameX_L F hu ?_ ok.kind hk hdbg) ?_
  · obtain ⟨a, dd, ks, es, kk, e1, I, _, _, e4, e5, e6, e7⟩ := st.hr.inst st.news hc
    obtain ⟨a', d', rfl, e1'⟩ := vu
    obtain ⟨rfl, rfl⟩ := Prod.mk.inj (Option.some.inj (e1.symm.trans e1'))
    obtain ⟨fi, hi⟩ := Option.isSome_iff_exists.mp (st.hr.co _ _ hc)
    have g := G.cls c fi hi
    obtain ⟨y, hy, vr⟩ := e6.getHit e5 e7 hf
    exact get_own F ok.X I (g.2.2.2.2.2.2.2.2.2 _) g.2.2.2.2.2.2.1 (G.fld c (st.hr.co _ _ hc) f (e5 f (e7 f (by rw [hf]; rfl)))) rfl hy vr.handed (k y vr)
  · show (attributeBase (.Name (nm i) p5) (nm f) x.env (eval (.Name (nm i) p5) x.env) >>= _) = _
    rw [base_plain rfl]

theorem nm_self_dbg : (nm n_self == ("__debug__" : Str)) = false := by decide +kernel
theorem closure_none {cs : Scope} {env : Env} (hn : cs.names = [((".0" : Str), NameKind.local), (nm n_number, NameKind.local)]) : closureFor cs env = pure [] := by
  unfold closureFor
  rw [hn]
  rfl
theorem frames1 (G : S.Good) (ok : x.Ok S d) {n kk c : Nat} {vs : List VV} {cs : Scope} {k1 k2 : Nat} {p1 p2 p3 p4 p5 p6 p7 p8 py : Pos}
    (hself : l n_self = some (.ref n)) (hc : h.cls n = some c) (hf : h.fld n n_to_retire = some (.ref kk)) (hl : h.lst kk = some vs)
    (hsw : swapsWith (.ListComp (eltF k1 k2 p1 p2 p3) [⟨.Name (nm n_number) p4, .Attribute (.Name (nm n_self) p5) (nm n_to_retire) p6, [], 0⟩] cs p7) (some (.Name (nm n_found) py)) p8.line x.env = pure true)
    (hn : cs.names = [((".0" : Str), NameKind.local), (nm n_number, NameKind.local)]) (hk : cs.kind = .function) (h1 : x.sc.names.lookup (nm n_self) = some .local) (h2 : x.sc.names.lookup (nm n_found) = some .local) :
    DenS S x (exec (.Assign [.Name (nm n_found) py] (.ListComp (eltF k1 k2 p1 p2 p3) [⟨.Name (nm n_number) p4, .Attribute (.Name (nm n_self) p5) (nm n_to_retire) p6, [], 0⟩] cs p7) p8) x.env) l h .next
      (upd l n_found (some (.ref (mkTups h vs).2.nxt))) ((mkTups h vs).2.newL (mkTups h vs).1) := fun s ρ led ex Q st k => by
  obtain ⟨m, F, LL⟩ := st.fr
  have hx : cs.names.lookup (nm n_number) = some .local := by rw [hn]; decide +kernel
  refine LCg.Assign_ListComp_U (L := x.L) F rfl hsw (closure_none hn) (fun z hz => ?_) hk (fun z hz e => ?_) hx h2 (kind_no ok) (self_attr G ok nm_self_dbg h1 st F LL hself hc hf fun y vy => ?_)
  · rw [hn] at hz
    rcases List.mem_cons.mp hz with rfl | hz
    · exact fun q => nomatch q
    · rw [List.mem_singleton.mp hz]; exact fun q => nomatch q
  · rw [hn] at hz ⊢
    rcases List.mem_cons.mp hz with rfl | hz
    · decide +kernel
    · rw [List.mem_singleton.mp hz]; decide +kernel
  · obtain ⟨a, dd, rfl, ha⟩ := vy
    obtain ⟨a', d', xs, c', e1, e2, e3, e4⟩ := st.hr.lst kk vs hl
    obtain ⟨rfl, rfl⟩ := Prod.mk.inj (Option.some.inj (e1.symm.trans ha))
    have hz := e3.length
    refine LCg.CompSrc.ledger (s₁ := { s with toks := s.toks + 1 }) ok.hd F st.news (st.mem e2) (by rw [List.size_toArray, hz, sizeLine_eq]; omega) fun g => ?_
    have := comp_frames ok (m := m) (cs := cs) (k1 := k1) (k2 := k2) (p1 := p1) (p2 := p2) (p3 := p3) (s := { s with heap := g, toks := s.toks + 1 }) (ex := ex) (ax := a') (its := xs.toArray)
      (Fin := LCg.FinA x.h₀ x.L m { s with heap := g, toks := s.toks + 1 } (nm n_found) Q) hx hk (by simp [hz]; exact e4) ρ led h vs 0 [] [] ρ led h (by simp [hz]) e3 rfl rfl st.hr st.nod .refl (.inr ⟨_, st.mem e2, rfl, _, rfl⟩)
      (fun ρ' led' ys' H' r nod' ext => by
        intro D hp tk F' N' off
        have hoff := off1_ne off
        have hlen : ((mkTups h vs).1).length ≤ 1000 := by rw [mkTups_len]; exact e4
        rw [List.nil_append] at r
        have H2 : HR S (ρ' ++ [(D, D)]) ((D, W.listOf ys'.toArray ys'.length) :: led') ((mkTups h vs).2.newL (mkTups h vs).1) := H'.newL (fun q hq => hoff q (List.mem_append_left _ hq)) r hlen
        have e1 : Ext ρ' (ρ' ++ [(D, D)]) led' ((D, W.listOf ys'.toArray ys'.length) :: led') (mkTups h vs).2 ((mkTups h vs).2.newL (mkTups h vs).1) := Ext.newL
        refine k .next (ρ' ++ [(D, D)]) ((D, W.listOf ys'.toArray ys'.length) :: led') hp tk ⟨⟨_, F', LR.upd (by decide) (LL.ext (ext.trans e1)) (vr_new H'.len)⟩, N', ?_, H2⟩ (ext.trans e1) rfl
        show (D :: ((led' ++ ex).map (·.1))).Nodup
        exact List.nodup_cons.mpr ⟨fun q => by
          obtain ⟨p, hp, e⟩ := List.mem_map.mp q
          exact hoff p hp e, nod'⟩)
    rw [List.size_toArray, hz]
    exact this
theorem mkTups_cls : ∀ (vs : List VV) (h : VH), (mkTups h vs).2.cls = h.cls
  | [], h => rfl
  | v :: vs, h => by
    unfold mkTups
    exact mkTups_cls vs _

noncomputable def bF2 : PSs := .cons (.asg (.attr (.loc 73) 23) (.list .nil)) (.cons (.ret (.loc 128)) .nil)
noncomputable def pNm (s : Str) (e : Expr) : Bool := dName (fun y => y == s) e
theorem pNm_ok {s : Str} {e : Expr} (h : pNm s e = true) : ∃ p, e = .Name s p :=
  let ⟨_, p, q, z⟩ := dName_ok h
  ⟨p, q.trans (congrArg (Expr.Name · p) (eq_of_beq z))⟩
noncomputable def pAt (P : Expr → Bool) (f : Str) (e : Expr) : Bool := dAttr (fun b g _ => P b && g == f) e
theorem pAt_ok {P : Expr → Bool} {f : Str} {e : Expr} (h : pAt P f e = true) : ∃ b p, e = .Attribute b f p ∧ P b = true :=
  let ⟨b, _, p, q, z⟩ := dAttr_ok h
  ⟨b, p, q.trans (congrArg (Expr.Attribute b · p) (eq_of_beq (and2 z).2)), (and2 z).1⟩
noncomputable def pStr (s : Str) (e : Expr) : Bool := dConst (cStr fun c => c == s) e
theorem pStr_ok {s : Str} {e : Expr} (h : pStr s e = true) : ∃ k p, e = .Constant (.str s) k p := by
  obtain ⟨c, k, p, rfl, z⟩ := dConst_ok h
  obtain ⟨t, rfl, z2⟩ := cStr_ok z
  exact ⟨k, p, by rw [eq_of_beq z2]⟩
noncomputable def pInt (i : Int) (e : Expr) : Bool := dConst (cInt fun c => c == i) e
theorem pInt_ok {i : Int} {e : Expr} (h : pInt i e = true) : ∃ k p, e = .Constant (.int i) k p := by
  obtain ⟨c, k, p, rfl, z⟩ := dConst_ok h
  obtain ⟨t, rfl, z2⟩ := cInt_ok z
  exact ⟨k, p, by rw [eq_of_beq z2]⟩
noncomputable def pTup (P : List Expr → Bool) (e : Expr) : Bool := dTup P e
theorem pTup_ok {P : List Expr → Bool} {e : Expr} (h : pTup P e = true) : ∃ es k p, e = .Tuple es k p ∧ P es = true := dTup_ok h
noncomputable def pLst (P : List Expr → Bool) (e : Expr) : Bool := dList P e
theorem pLst_ok {P : List Expr → Bool} {e : Expr} (h : pLst P e = true) : ∃ es p, e = .List es p ∧ P es = true := dList_ok h
noncomputable def pGen (T I : Expr → Bool) (J : List Expr → Bool) (g : Comprehension) : Bool := T g.target && I g.iter && J g.ifs && g.is_async == 0
theorem pGen_ok {T I : Expr → Bool} {J : List Expr → Bool} {g : Comprehension} (h : pGen T I J g = true) : ∃ t i j, g = ⟨t, i, j, 0⟩ ∧ T t = true ∧ I i = true ∧ J j = true := by
  obtain ⟨t, i, j, k⟩ := g
  obtain ⟨h1, h2, h3, h4⟩ := and4 h
  exact ⟨t, i, j, congrArg (Comprehension.mk t i j) (eq_of_beq h4), h1, h2, h3⟩
noncomputable def pLc (E : Expr → Bool) (G : Comprehension → Bool) (C : Scope → Bool) (x : Expr) : Bool := dLc (fun e gs cs => E e && p1 G gs && C cs) x
theorem pLc_ok {E : Expr → Bool} {G : Comprehension → Bool} {C : Scope → Bool} {x : Expr} (h : pLc E G C x = true) : ∃ e g cs p, x = .ListComp e [g] cs p ∧ E e = true ∧ G g = true ∧ C cs = true := by
  obtain ⟨e, gs, cs, p, rfl, z⟩ := dLc_ok h
  obtain ⟨z1, z2, z3⟩ := and3 z
  obtain ⟨g, rfl, z4⟩ := p1_ok z2
  exact ⟨e, g, cs, p, rfl, z1, z4, z3⟩
noncomputable def pAsg (T V : Expr → Bool) (x : Stmt) : Bool := sAsg (fun ts v => p1 T ts && V v) x
theorem pAsg_ok {T V : Expr → Bool} {x : Stmt} (h : pAsg T V x = true) : ∃ t v p, x = .Assign [t] v p ∧ T t = true ∧ V v = true := by
  obtain ⟨ts, v, p, rfl, z⟩ := sAsg_ok h
  obtain ⟨z1, z2⟩ := and2 z
  obtain ⟨t, rfl, z3⟩ := p1_ok z1
  exact ⟨t, v, p, rfl, z3, z2⟩
noncomputable def sameLn : Stmt → Bool
  | .Assign [t] v _ => t.pos.line == v.pos.line
  | _ => false
noncomputable def isFr : List Stmt → Scope → Bool
  | s :: rest, sc =>
    pAsg (pNm (nm n_found)) (pLc (pTup (p2 (pStr (nm n_retire_connection_id)) (pNm (nm n_number)))) (pGen (pNm (nm n_number)) (pAt (pNm (nm n_self)) (nm n_to_retire)) List.isEmpty) (fun cs => cs.names == [((".0" : Str), NameKind.local), (nm n_number, NameKind.local)] && cs.kind == .function)) s && sameLn s &&
      sc.kind == .function && sc.names.lookup (nm n_self) == some .local && sc.names.lookup (nm n_found) == some .local && mSs sc bF2 rest
  | [], _ => false
theorem run_bF2 {cl : Caller} {n c : Nat} {r : VV} (h1 : l 73 = some (.ref n)) (h2 : l 128 = some r) (hc : h.cls n = some c) : vSs cl bF2 l h = some (.ret r, l, (h.newL []).setF n n_to_retire (.ref h.nxt)) := by
  exact S_cons (X_asg (E_list Es_nil) (A_attr (E_loc h1) hc rfl)) (K_next (S_cons (X_ret (E_loc h2)) K_ret))
theorem nm_found_ne : (((".0" : Str) == nm n_found) || (nm n_number == nm n_found)) = false := by decide +kernel
noncomputable def stF (k1 k2 : Nat) (p1 p2 p3 p4 p5 p6 p7 p8 py : Pos) (cs : Scope) : Stmt := .Assign [.Name (nm n_found) py] (.ListComp (eltF k1 k2 p1 p2 p3) [⟨.Name (nm n_number) p4, .Attribute (.Name (nm n_self) p5) (nm n_to_retire) p6, [], 0⟩] cs p7) p8
structure IsFr (scope cs : Scope) (rest : List Stmt) (py p7 : Pos) : Prop where
  cn : cs.names = [((".0" : Str), NameKind.local), (nm n_number, NameKind.local)]
  ck : cs.kind = .function
  ln : py.line = p7.line
  kd : scope.kind = .function
  ls : scope.names.lookup (nm n_self) = some .local
  lf : scope.names.lookup (nm n_found) = some .local
  ms : mSs scope bF2 rest = true
theorem isFr_e {M : List Stmt → Prop} {body : List Stmt} {scope : Scope} (hb : isFr body scope = true) (k : ∀ k1 k2 p1 p2 p3 p4 p5 p6 p7 p8 py cs rest, IsFr scope cs rest py p7 → M (stF k1 k2 p1 p2 p3 p4 p5 p6 p7 p8 py cs :: rest)) : M body := by
  cases body with
  | nil => cases hb
  | cons st rest =>
    obtain ⟨f1, e1, e4, e5, e6, e7⟩ := and6 (show (_ && _ && _ && _ && _ && _) = true from hb)
    obtain ⟨t, lc, p8, rfl, f2, f3⟩ := pAsg_ok f1
    obtain ⟨py, rfl⟩ := pNm_ok f2
    obtain ⟨el, g, cs, p7, rfl, f4, f5, f6⟩ := pLc_ok f3
    obtain ⟨e2, e3⟩ := and2 f6
    have K : ∀ k1 k2 p1 p2 p3 p4 p5 p6, M (stF k1 k2 p1 p2 p3 p4 p5 p6 p7 p8 py cs :: rest) := fun k1 k2 p1 p2 p3 p4 p5 p6 => k k1 k2 p1 p2 p3 p4 p5 p6 p7 p8 py cs rest ⟨eq_of_beq e2, eq_of_beq e3, eq_of_beq e1, eq_of_beq e4, eq_of_beq e5, eq_of_beq e6, e7⟩
    clear k e1 e2 e3 e4 e5 e6 e7 f1 f2 f3 f6 hb
    obtain ⟨els, k2, p3, rfl, f7⟩ := pTup_ok f4
    obtain ⟨ea, eb, rfl, f8, f9⟩ := p2_ok f7
    obtain ⟨k1, p1, rfl⟩ := pStr_ok f8
    obtain ⟨p2, rfl⟩ := pNm_ok f9
    obtain ⟨gt, gi, gj, rfl, f10, f11, f12⟩ := pGen_ok f5
    obtain ⟨p4, rfl⟩ := pNm_ok f10
    obtain ⟨gb, p6, rfl, f13⟩ := pAt_ok f11
    obtain ⟨p5, rfl⟩ := pNm_ok f13
    obtain rfl := List.isEmpty_iff.mp f12
    exact K k1 k2 p1 p2 p3 p4 p5 p6
theorem sw_ok {x : FX} {y : Str} {cs : Scope} {i j : Nat} (h4 : x.sc.kind = .function) (h6 : x.sc.names.lookup y = some .local) (hl : i = j) (hn : (cs.names.any fun (n, k) => n == y && (k == .local || k == .cell)) = false) :
    (pure (x.env.blockKind == .function && x.env.kindOf y == some .local && i == j && !(cs.names.any fun (n, k) => n == y && (k == .local || k == .cell))) : Sem Bool) = pure true := by
  have hk : x.env.blockKind = .function := by
    unfold Env.blockKind
    rw [show x.env.scope.kind = .function from h4]; rfl
  have h1 : x.env.kindOf y = some .local := h6
  rw [hk, h1, hl, hn, beq_self_eq_true, beq_self_eq_true, beq_self_eq_true]
  rfl
theorem no_found : (([((".0" : Str), NameKind.local), (nm n_number, NameKind.local)] : List (Str × NameKind)).any fun (n, k) => n == nm n_found && (k == .local || k == .cell)) = false := by decide +kernel
theorem vFrames_ok {n : Nat} {h : VH} {r : VV × VH} (hv : vFrames n h = some r) : ∃ c k vs, h.cls n = some c ∧ h.fld n n_to_retire = some (.ref k) ∧ h.lst k = some vs ∧ (.ref (mkTups h vs).2.nxt, (((mkTups h vs).2.newL (mkTups h vs).1).newL []).setF n n_to_retire (.ref ((mkTups h vs).2.nxt + 1))) = r := by
  obtain ⟨c, hc, hv⟩ := Option.bind_eq_some_iff.mp hv
  obtain ⟨k, hf, hv⟩ := Option.bind_eq_some_iff.mp hv
  obtain ⟨vs, hl, hv⟩ := Option.map_eq_some_iff.mp hv
  exact ⟨c, k, vs, hc, asR_ok hf, hl, hv⟩
theorem call_frames (G : S.Good) {body : List Stmt} {scope : Scope} (A : FnAt S f_RemoteIds_frames body scope) (hb : isFr body scope = true) {n : Nat} {v : VV} (hv : vFrames n h = some (v, h')) : CallS S 2 f_RemoteIds_frames [.ref n] h v h' := by
  obtain ⟨c, kk, vs, hc, hf, hl, q⟩ := vFrames_ok hv
  refine isFr_e (M := fun body => FnAt S f_RemoteIds_frames body scope → CallS S 2 f_RemoteIds_frames [.ref n] h v h') hb (fun k1 k2 p1 p2 p3 p4 p5 p6 p7 p8 py cs rest I A => ?_) A
  refine call_def (d := 1) A rfl fun x hs ok => ⟨.ret (.ref (mkTups h vs).2.nxt), upd (bindL (fps f_RemoteIds_frames) (fillV f_RemoteIds_frames [.ref n])) n_found (some (.ref (mkTups h vs).2.nxt)), (Prod.mk.inj q).1, ?_⟩
  subst hs
  refine dens_seq (frames1 G ok (n := n) (kk := kk) (c := c) (vs := vs) rfl hc hf hl (sw_ok I.kd I.lf I.ln (I.cn ▸ no_found)) I.cn I.ck I.ls I.lf) ?_
  refine sound_ss (cl := vF 0) (c := 0) (d := 1) G ok (Nat.zero_lt_one) (fun f vs h v h' e => nomatch e) bF2 rest _ _ _ _ _ I.ms ?_
  rw [← (Prod.mk.inj q).2]
  exact run_bF2 rfl rfl (c := c) (by rw [show ((mkTups h vs).2.newL (mkTups h vs).1).cls = (mkTups h vs).2.cls from rfl, mkTups_cls]; exact hc)

end
end Mine
end
section
namespace Mine
open PySem PySem.W PyProof.Rows PySem.Calls PySem.SeqAt

section
variable {S : SE} {x : FX} {d : Nat} {l l1 l2 l3 : Loc} {h h1 h2 h3 h' : VH}

set_option tactic.hygienic false
theorem attr_get (G : S.Good) (ok : x.Ok S d) {n c f : Nat} {v : VV} {u : Value} {s : Shared} {ρ : Rho} {led ex : Led} {E : Value → Shared → Prop} {Q : Value → Shared → Prop} (st : St S x s.heap ρ led ex l h) (vn : VR ρ (.ref n) u) (hc : h.cls n = some c) (hf : h.fld n f = some v)
    (k : ∀ y, VR ρ v y → Q y { s with toks := s.toks + 1 }) : wpAny S.M x.A (getAttr u (nm f) true) Q E s := by
  obtain ⟨m, F, LL⟩ := st.fr
  obtain ⟨a, dd, ks, es, kk, e1, I, _, _, e4, e5, e6, e7⟩ := st.hr.inst st.news hc
  obtain ⟨a', d', rfl, e1'⟩ := vn
  obtain ⟨rfl, rfl⟩ := Prod.mk.inj (Option.some.inj (e1.symm.trans e1'))
  obtain ⟨fi, hi⟩ := Option.isSome_iff_exists.mp (st.hr.co _ _ hc)
  have g := G.cls c fi hi
  obtain ⟨y, hy, vr⟩ := e6.getHit e5 e7 hf
  exact get_own F ok.X I (g.2.2.2.2.2.2.2.2.2 _) g.2.2.2.2.2.2.1 (G.fld c (st.hr.co _ _ hc) f (e5 f (e7 f (by rw [hf]; rfl)))) rfl hy vr.handed (k y vr)

theorem inL_ints {is : List Int} : ∀ {vs : List VV}, intsOf vs = some is → ∀ z : Int, inL (.int z) vs = some (is.contains z) := by
  intro vs
  induction vs generalizing is with
  | nil =>
    intro e z
    cases e
    rfl
  | cons v vs ih =>
    intro e z
    cases v with
    | int i =>
      unfold intsOf at e
      obtain ⟨r, e1, e2⟩ := Option.map_eq_some_iff.mp e
      subst e2
      have := ih e1 z
      unfold inL
      rw [this]
      show some ((i == z) || r.contains z) = some ((i :: r).contains z)
      rw [List.contains_cons, Bool.beq_comm]
    | none => cases e
    | bool b => cases e
    | str b => cases e
    | bytes b => cases e
    | ref b => cases e
theorem nm_dbgs : (nm n_sorted == ("__debug__" : Str)) = false ∧ (nm n_left == ("__debug__" : Str)) = false := by decide +kernel
noncomputable abbrev ctF (q1 q2 q3 q4 : Pos) : Expr := .Compare (.Name (nm n_number) q1) [.NotIn] [.Attribute (.Name (nm n_self) q2) (nm n_used) q3] q4
noncomputable abbrev namesF : List (Str × NameKind) := [((".0" : Str), NameKind.local), (nm n_number, NameKind.local), (nm n_self, NameKind.free)]
theorem cellF_kind {cs : Scope} {c C : Addr} (hn : cs.names = namesF) (hk : x.sc.kind = .function) (hs : x.sc.names.lookup (nm n_self) = some .cell) : (compEnvC cs [(nm n_self, c)] C x.env).kindOf (nm n_self) = some .cell := by
  have e1 : (x.env.scope.kind == ScopeKind.function) = true := by rw [show x.env.scope.kind = .function from hk]; rfl
  have e2 : (x.env.kindOf (nm n_self) == some NameKind.cell) = true := by rw [show x.env.kindOf (nm n_self) = some .cell from hs]; rfl
  show (cs.names.map fun y => if (y.2 == NameKind.free && x.env.scope.kind == .function && x.env.kindOf y.1 == some .cell) then (y.1, NameKind.cell) else (y.1, y.2)).lookup (nm n_self) = some .cell
  rw [hn]
  simp only [List.map_cons, List.map_nil, e1, e2]
  simp
  decide +kernel
theorem closure_self {cs : Scope} {c : Addr} {env : Env} (hn : cs.names = namesF) (hc : env.cells.lookup (nm n_self) = some c) : closureFor cs env = pure [(nm n_self, c)] := by
  unfold closureFor
  rw [hn]
  have : cellOf env (nm n_self) = pure c := by
    unfold cellOf
    rw [hc]
  simp only [List.forIn_cons, List.forIn_nil, beq_self_eq_true, if_true, this, pure_bind]
  rfl

theorem comp_fresh (G : S.Good) (ok : x.Ok S d) {m : Str → Option Value} {cs : Scope} {q0 q1 q2 q3 q4 : Pos} {s : Shared} {ρ : Rho} {led ex : Led} {ax c n cc u : Nat} {oc : Obj} {uv : Value} {us : List VV} {is : List Int} {its : Array Value} {Fin : List Value → List (Addr × Obj) → Prop}
    (hn : cs.names = namesF) (hk : cs.kind = .function) (hs : x.sc.names.lookup (nm n_self) = some .cell) (hcl : x.cl = [(nm n_self, c)]) (hcm : (c, oc) ∈ led ++ ex) (hcd : oc.data = .cell (some uv)) (vu : VR ρ (.ref n) uv)
    (hc : h.cls n = some cc) (hf : h.fld n n_used = some (.ref u)) (hl : h.lst u = some us) (hi : intsOf us = some is)
    (H : HR S ρ led h) (nod : ((led ++ ex).map (·.1)).Nodup) (LL : LR ρ l m) (hS : LCg.SrcAt x.h₀ ax its (led ++ ex)) :
    ∀ (vs : List Int) (i : Nat) (acc : List Int) (ys : List Value), i + vs.length = its.size → VRs ρ (vs.map .int) (its.toList.drop i) → VRs ρ (acc.map .int) ys →
      (∀ ys', VRs ρ ((acc ++ vs.filter fun z => !is.contains z).map .int) ys' → Fin ys' (led ++ ex)) →
      LCt.CompRestT S.prog S.w x.A x.h₀ x.L m x.env (ctF q1 q2 q3 q4) (.Name (nm n_number) q0) (nm n_number) cs [(nm n_self, c)] s (LCg.SrcAt x.h₀ ax its) (fun i v => its[i]? = some v) Fin vs.length i ys (led ++ ex)
  | [], i, acc, ys, hi', r, ra, k => LCt.CompRestT.zero (k ys (by simpa using ra))
  | v :: vs, i, acc, ys, hi', r, ra, k => LCt.CompRestT.succ (by
    intro v' I oI C oC D m₂ hp tk E' hP hC hv F N off ne
    obtain ⟨w, ws, hu, vr, vrs⟩ := r
    have hu' : its[i]? = some w := by
      have : (its.toList.drop i)[0]? = some w := by rw [hu]; rfl
      rw [List.getElem?_drop] at this
      simpa using this
    have : v' = w := Option.some.inj (hP.symm.trans hu')
    subst this
    have hd : its.toList.drop (i + 1) = ws := by
      have : (its.toList.drop i).drop 1 = ws := by rw [hu]; rfl
      rw [List.drop_drop] at this
      rw [← this]
    have hx : cs.names.lookup (nm n_number) = some .local := by rw [hn]; decide +kernel
    have off3 := off.mem
    have NC := (N (C, oC) (.tail _ (.head _))).1
    have st : St S x hp ρ led ex l h := ⟨⟨m, F, LL⟩, fun p hp => N p (.tail _ (.tail _ (.tail _ hp))), nod, H⟩
    have num : ∀ {Q : Value → Shared → Prop} {E : Value → Shared → Prop} {q : Pos} {tk : Nat}, Q v' { s with heap := hp, toks := tk } → wpAny (model S.prog S.w) x.A (eval (.Name (nm n_number) q) (compEnvC cs [(nm n_self, c)] C x.env)) Q E { s with heap := hp, toks := tk } :=
      fun h => wpAny_Name (wpAny_loadName_local (show cs.kind = .function from hk) (lookup_relabel_local hx) (LCg.NsObj.ns hC NC) hv h) nm_number_dbg
    refine wpAny_isTrue_Compare1 (num (Attribute_any_ (wpAny_Name (wpAny_loadName_cell (show cs.kind = .function from hk) (cellF_kind hn ok.kind hs) rfl ⟨oc, (N (c, oc) (.tail _ (.tail _ (.tail _ hcm)))).1, hcd⟩ ?_) nm_self_dbg) rfl)) rfl
    refine attr_get G ok (s := { s with heap := hp, toks := tk }) st vu hc hf fun y vy => ?_
    have hin : vCmp 9 (.int v) (.ref u) h = some (!is.contains v) := by
      show (isMem (.int v) u h).map (!·) = _
      unfold isMem
      rw [hl]
      dsimp only
      rw [inL_ints hi v]
      rfl
    refine wpAny_mono (cmp_rule ok (op := 9) rfl (s := { s with heap := hp, toks := tk + 1 }) (Q := fun c s₃ => wpAny (model S.prog S.w) x.A (truthy c) _ E' s₃) st hin vr vy fun tk' => wpAny_truthy_bool ?_) (fun _ _ q => q) (fun _ _ q => q.elim)
    cases hb : is.contains v with
    | true =>
      rw [Bool.not_true, if_neg (by decide)]
      refine LCg.CompEnd.intro F N (led ++ ex) (fun q hq => hq) off hS ?_
      have hfl : (v :: vs).filter (fun z => !is.contains z) = vs.filter fun z => !is.contains z := by rw [List.filter_cons, hb]; rfl
      rw [hfl] at k
      exact comp_fresh G ok hn hk hs hcl hcm hcd vu hc hf hl hi H nod LL hS vs (i + 1) acc ys (by simp at hi'; omega) (by rw [hd]; exact vrs) ra k
    | false =>
      rw [Bool.not_false, if_pos rfl]
      refine num (LCg.CompEnd.intro F N (led ++ ex) (fun q hq => hq) off hS ?_)
      have hfl : (v :: vs).filter (fun z => !is.contains z) = v :: vs.filter fun z => !is.contains z := by rw [List.filter_cons, hb]; rfl
      rw [hfl] at k
      exact comp_fresh G ok hn hk hs hcl hcm hcd vu hc hf hl hi H nod LL hS vs (i + 1) (acc ++ [v]) (ys ++ [v']) (by simp at hi'; omega) (by rw [hd]; exact vrs) (by rw [List.map_append]; exact ra.append ⟨_, [], rfl, vr, rfl⟩) (fun ys' r => k ys' (by simpa using r)))

theorem fresh1 (G : S.Good) (ok : x.Ok S d) {n cc kk u c : Nat} {oc : Obj} {uv : Value} {es : List (Int × VV)} {us : List VV} {is : List Int} {cs : Scope} {q0 q1 q2 q3 q4 p4 p5 p6 p7 p8 p9 p10 py : Pos} {s : Shared} {ρ : Rho} {led ex : Led} {Q : Flow → Shared → Prop}
    (hc : h.cls n = some cc) (hf : h.fld n n_known = some (.ref kk)) (hf2 : h.fld n n_used = some (.ref u)) (hi : h.ic kk = some es) (h64 : es.length < 64) (hl : h.lst u = some us) (his : intsOf us = some is)
    (hsw : swapsWith (.ListComp (.Name (nm n_number) q0) [⟨.Name (nm n_number) p4, .Call (.Name (nm n_sorted) p9) [.Attribute (.Name (nm n_self) p5) (nm n_known) p6] [] p10, [ctF q1 q2 q3 q4], 0⟩] cs p7) (some (.Name (nm n_left) py)) p8.line x.env = pure true)
    (hn : cs.names = namesF) (hk : cs.kind = .function) (h1 : x.sc.names.lookup (nm n_self) = some .cell) (h2 : x.sc.names.lookup (nm n_left) = some .local) (h3 : x.sc.names.lookup (nm n_sorted) = some .globalImplicit)
    (hcl : x.cl = [(nm n_self, c)]) (hcm : (c, oc) ∈ ex) (hcd : oc.data = .cell (some uv)) (vu : VR ρ (.ref n) uv) (st : St S x s.heap ρ led ex l h)
    (k : ∀ ρ' led' hp tk, St S x hp ρ' led' ex (upd l n_left (some (.ref (h.nxt + 1)))) ((h.newL ((sortI (es.map (·.1))).map .int)).newL (((sortI (es.map (·.1))).filter fun x => !is.contains x).map .int)) →
      Ext ρ ρ' led led' h ((h.newL ((sortI (es.map (·.1))).map .int)).newL (((sortI (es.map (·.1))).filter fun x => !is.contains x).map .int)) → Q .next { s with heap := hp, toks := tk }) :
    wpAny S.M x.A (exec (.Assign [.Name (nm n_left) py] (.ListComp (.Name (nm n_number) q0) [⟨.Name (nm n_number) p4, .Call (.Name (nm n_sorted) p9) [.Attribute (.Name (nm n_self) p5) (nm n_known) p6] [] p10, [ctF q1 q2 q3 q4], 0⟩] cs p7) p8) x.env) Q FF s := by
  obtain ⟨m, F, LL⟩ := st.fr
  have hx : cs.names.lookup (nm n_number) = some .local := by rw [hn]; decide +kernel
  have hclk : x.env.cells.lookup (nm n_self) = some c := by
    show x.cl.lookup (nm n_self) = some c
    rw [hcl]; simp
  have bo := boot_bf n_sorted (by decide)
  refine LCt.Assign_ListComp_T (L := x.L) F rfl hsw (closure_self hn hclk) (fun z hz => ?_) hk (fun z hz e => ?_) hx h2 (kind_no ok) ?_
  · rw [hn] at hz
    simp only [namesF, List.mem_cons, List.not_mem_nil, or_false] at hz
    rcases hz with rfl | rfl | rfl <;> exact fun q => nomatch q
  · rw [hn] at hz ⊢
    simp only [namesF, List.mem_cons, List.not_mem_nil, or_false] at hz
    rcases hz with rfl | rfl | rfl
    · decide +kernel
    · decide +kernel
    · cases e
  · refine Call_ (nm_builtin ok st (G.bi n_sorted (by decide)) bo.1 bo.2.1 h3 bo.2.2 ?_)
    refine PyProof.Rows.callWith_builtin1 (spliced_more (Attribute_any_ (nameX_C st.news hclk (List.mem_append_right _ hcm) hcd (attr_get G ok st vu hc hf fun y vy => spliced_none ?_) ok.kind h1 nm_self_dbg) rfl) rfl) rfl rfl
    obtain ⟨a, dd, rfl, ha⟩ := vy
    refine bf_sorted_Im ok (s := { s with toks := s.toks + 1 }) st F LL ha hi h64 fun w ρ₁ led₁ hp tk F₁ LL₁ st₁ ext₁ vw => ?_
    obtain ⟨a₁, d₁, rfl, ha₁⟩ := vw
    obtain ⟨a', d', xs, c', e1, e2, e3, e4⟩ := st₁.hr.lst h.nxt ((sortI (es.map (·.1))).map .int) (by simp [VH.newL, upd])
    obtain ⟨rfl, rfl⟩ := Prod.mk.inj (Option.some.inj (e1.symm.trans ha₁))
    have hz := e3.length
    have hks : ((sortI (es.map (·.1)))).length ≤ 1000 := by rw [List.length_map] at e4; exact e4
    have hu : u ≠ h.nxt := by
      obtain ⟨_, _, _, _, e, _⟩ := st.hr.lst u us hl
      have := (List.getElem?_eq_some_iff.mp e).1
      have := st.hr.len
      omega
    refine LCt.CompSrcT.ledger (s₁ := { s with heap := hp, toks := tk }) ok.hd F₁ st₁.news (st₁.mem e2) (by rw [List.size_toArray, hz, List.length_map, sizeLine_eq]; omega) fun g => ?_
    have := comp_fresh G ok (h := h.newL ((sortI (es.map (·.1))).map .int)) (m := m) (cs := cs) (q0 := q0) (q1 := q1) (q2 := q2) (q3 := q3) (q4 := q4) (s := { s with heap := g, toks := tk }) (ρ := ρ₁) (led := led₁) (ex := ex) (ax := a') (c := c) (n := n) (cc := cc) (u := u) (its := xs.toArray)
      (Fin := LCg.FinA x.h₀ x.L m { s with heap := g, toks := tk } (nm n_left) Q) hn hk h1 hcl (List.mem_append_right _ hcm) hcd (vu.ext ext₁) hc hf2 (by show upd h.lst h.nxt _ u = _; unfold upd; rw [if_neg hu]; exact hl) his st₁.hr st₁.nod LL₁ (.inr ⟨_, st₁.mem e2, rfl, _, rfl⟩)
      (sortI (es.map (·.1))) 0 [] [] (by simp [hz]) e3 rfl (fun ys' r => by
        intro D hp tk F' N' off
        have hoff := off1_ne off
        rw [List.nil_append] at r
        have H2 : HR S (ρ₁ ++ [(D, D)]) ((D, W.listOf ys'.toArray ys'.length) :: led₁) ((h.newL ((sortI (es.map (·.1))).map .int)).newL (((sortI (es.map (·.1))).filter fun x => !is.contains x).map .int)) :=
          st₁.hr.newL (fun q hq => hoff q (List.mem_append_left _ hq)) r (by rw [List.length_map]; exact Nat.le_trans (List.length_filter_le ..) hks)
        have e1 : Ext ρ₁ (ρ₁ ++ [(D, D)]) led₁ ((D, W.listOf ys'.toArray ys'.length) :: led₁) (h.newL ((sortI (es.map (·.1))).map .int)) ((h.newL ((sortI (es.map (·.1))).map .int)).newL (((sortI (es.map (·.1))).filter fun x => !is.contains x).map .int)) := Ext.newL
        refine k (ρ₁ ++ [(D, D)]) ((D, W.listOf ys'.toArray ys'.length) :: led₁) hp tk ⟨⟨_, F', LR.upd (by decide) (LL.ext (ext₁.trans e1)) (vr_new st₁.hr.len)⟩, N', ?_, H2⟩ (ext₁.trans e1)
        show (D :: ((led₁ ++ ex).map (·.1))).Nodup
        exact List.nodup_cons.mpr ⟨fun q => by
          obtain ⟨p, hp, e⟩ := List.mem_map.mp q
          exact hoff p hp e, st₁.nod⟩)
    rw [List.size_toArray, hz, List.length_map]
    exact this

structure FnAtC (S : SE) (f : Nat) (body : List Stmt) (scope : Scope) : Prop where
  at_ : ∃ oc od osl name qual params dV kV doc pm an cdv ct, S.K.lookup (S.fa f) = some ⟨oc, od, .func (fnOf name qual params body scope dV kV doc pm an cdv ct), osl⟩ ∧ codeIn S.K cdv qual = true ∧
    ∀ (s : Shared) (us : List Value), S.K.In s.heap → (fps f).length = (fillU f us).length → BindsTo s (fnOf name qual params body scope dV kV doc pm an cdv ct) ⟨us, []⟩ (((fps f).map nm).zip (fillU f us))
  co : scope.isCoroutine = false
  gen : scope.isGenerator = false

noncomputable def bR2 : PSs := .cons (.ret (.ife (.cmp 4 (.bf 101 (.cons (.loc 155) .nil)) (.int 0)) (.sub (.loc 155) (.int 0)) .none)) .nil
noncomputable abbrev namesR : List (Str × NameKind) := [(nm n_self, .cell), (nm n_left, .local), (nm n_sorted, .globalImplicit), (nm n_len, .globalImplicit)]
noncomputable def pCall1 (P Q : Expr → Bool) (e : Expr) : Bool := dCall (fun F Xs _ => P F && p1 Q Xs) e
theorem pCall1_ok {P Q : Expr → Bool} {e : Expr} (h : pCall1 P Q e = true) : ∃ f a p, e = .Call f [a] [] p ∧ P f = true ∧ Q a = true := by
  obtain ⟨f, Xs, p, rfl, z⟩ := dCall_ok h
  obtain ⟨z1, z2⟩ := and2 z
  obtain ⟨a, rfl, z3⟩ := p1_ok z2
  exact ⟨f, a, p, rfl, z1, z3⟩
noncomputable def pNotIn (P Q : Expr → Bool) (e : Expr) : Bool := dCmp (fun l ops rs => P l && p1 (· == .NotIn) ops && p1 Q rs) e
theorem pNotIn_ok {P Q : Expr → Bool} {e : Expr} (h : pNotIn P Q e = true) : ∃ l r p, e = .Compare l [.NotIn] [r] p ∧ P l = true ∧ Q r = true := by
  obtain ⟨l, ops, rs, p, rfl, z⟩ := dCmp_ok h
  obtain ⟨z1, z2, z3⟩ := and3 z
  obtain ⟨o, rfl, z4⟩ := p1_ok z2
  obtain ⟨r, rfl, z5⟩ := p1_ok z3
  obtain rfl := eq_of_beq z4
  exact ⟨l, r, p, rfl, z1, z5⟩
noncomputable def isRs : List Stmt → Scope → Bool
  | s :: rest, sc =>
    pAsg (pNm (nm n_left)) (pLc (pNm (nm n_number)) (pGen (pNm (nm n_number)) (pCall1 (pNm (nm n_sorted)) (pAt (pNm (nm n_self)) (nm n_known))) (p1 (pNotIn (pNm (nm n_number)) (pAt (pNm (nm n_self)) (nm n_used))))) (fun cs => cs.names == namesF && cs.kind == .function)) s && sameLn s &&
      sc.kind == .function && sc.names == namesR && mSs sc bR2 rest
  | [], _ => false
noncomputable def headV : List Int → VV
  | [] => .none
  | z :: _ => .int z
theorem run_len {m : Nat} {ws : List VV} (o : h.lst m = some ws) : vBf 101 [.ref m] h = some (.int ws.length, h) := by
  show lenR m h = _
  unfold lenR
  rw [o]
theorem c0 {y z : Int} {b : Bool} (q : decide (z < y) = b) : vCmp 4 (.int y) (.int z) h = some b := by subst q; rfl
theorem run_bR2 {cl : Caller} {m : Nat} {ks : List Int} (h2 : l 155 = some (.ref m)) (hc : h.lst m = some (ks.map .int)) : vSs cl bR2 l h = some (.ret (headV ks), l, h) := by
  cases ks with
  | nil => exact S_cons (X_ret (E_ife (E_cmp (E_bf (Es_cons (E_loc h2) Es_nil) (run_len hc)) E_int (c0 rfl)) (Ie_f E_none))) K_ret
  | cons z r =>
    have z0 : vSub m (.int 0) h = some (.int z) := by
      unfold vSub
      rw [hc]
      rfl
    exact S_cons (X_ret (E_ife (E_cmp (E_bf (Es_cons (E_loc h2) Es_nil) (run_len hc)) E_int (c0 (decide_eq_true (by simp only [List.map_cons, List.length_cons]; omega)))) (Ie_t (E_sub (E_loc h2) E_int z0)))) K_ret
theorem namesF_ne : ((((".0" : Str) == nm n_left) || (nm n_number == nm n_left)) || (nm n_self == nm n_left)) = false := by decide +kernel
theorem vFresh_ok {n : Nat} {h : VH} {r : VV × VH} (hv : vFresh n h = some r) : ∃ cc kk u es us is, h.cls n = some cc ∧ h.fld n n_known = some (.ref kk) ∧ h.fld n n_used = some (.ref u) ∧ h.ic kk = some es ∧ h.lst u = some us ∧ es.length < 64 ∧ intsOf us = some is ∧
    ((match (sortI (es.map (·.1))).filter fun x => !is.contains x with
          | [] => VV.none
          | x :: _ => .int x), (h.newL ((sortI (es.map (·.1))).map .int)).newL (((sortI (es.map (·.1))).filter fun x => !is.contains x).map .int)) = r := by
  obtain ⟨cc, hc, hv⟩ := Option.bind_eq_some_iff.mp hv
  obtain ⟨kk, hf, hv⟩ := Option.bind_eq_some_iff.mp hv
  obtain ⟨u, hf2, hv⟩ := Option.bind_eq_some_iff.mp hv
  obtain ⟨es, hi, hv⟩ := Option.bind_eq_some_iff.mp hv
  obtain ⟨us, hl, hv⟩ := Option.bind_eq_some_iff.mp hv
  by_cases h64 : es.length < 64
  · rw [if_pos h64] at hv
    obtain ⟨is, his, hv⟩ := Option.map_eq_some_iff.mp hv
    exact ⟨cc, kk, u, es, us, is, hc, asR_ok hf, asR_ok hf2, hi, hl, h64, his, hv⟩
  · rw [if_neg h64] at hv; cases hv
noncomputable def stR (q0 q1 q2 q3 q4 p4 p5 p6 p7 p8 p9 p10 py : Pos) (cs : Scope) : Stmt := .Assign [.Name (nm n_left) py] (.ListComp (.Name (nm n_number) q0) [⟨.Name (nm n_number) p4, .Call (.Name (nm n_sorted) p9) [.Attribute (.Name (nm n_self) p5) (nm n_known) p6] [] p10, [ctF q1 q2 q3 q4], 0⟩] cs p7) p8
structure IsRs (scope cs : Scope) (rest : List Stmt) (py p7 : Pos) : Prop where
  cn : cs.names = namesF
  ck : cs.kind = .function
  ln : py.line = p7.line
  kd : scope.kind = .function
  nms : scope.names = namesR
  ms : mSs scope bR2 rest = true
theorem isRs_e {M : List Stmt → Prop} {body : List Stmt} {scope : Scope} (hb : isRs body scope = true) (k : ∀ q0 q1 q2 q3 q4 p4 p5 p6 p7 p8 p9 p10 py cs rest, IsRs scope cs rest py p7 → M (stR q0 q1 q2 q3 q4 p4 p5 p6 p7 p8 p9 p10 py cs :: rest)) : M body := by
  cases body with
  | nil => cases hb
  | cons st rest =>
    obtain ⟨z, e6⟩ := and2 (show (_ && _ && _ && _ && _) = true from hb)
    obtain ⟨f1, e1, e4, e5⟩ := and4 z
    obtain ⟨t0, lc, p8, rfl, f2, f3⟩ := pAsg_ok f1
    obtain ⟨py, rfl⟩ := pNm_ok f2
    obtain ⟨el, g, cs, p7, rfl, f4, f5, f6⟩ := pLc_ok f3
    obtain ⟨e2, e3⟩ := and2 f6
    have K : ∀ q0 q1 q2 q3 q4 p4 p5 p6 p9 p10, M (stR q0 q1 q2 q3 q4 p4 p5 p6 p7 p8 p9 p10 py cs :: rest) := fun q0 q1 q2 q3 q4 p4 p5 p6 p9 p10 => k q0 q1 q2 q3 q4 p4 p5 p6 p7 p8 p9 p10 py cs rest ⟨eq_of_beq e2, eq_of_beq e3, eq_of_beq e1, eq_of_beq e4, eq_of_beq e5, e6⟩
    clear k e1 e2 e3 e4 e5 e6 f1 f2 f3 f6 z hb
    obtain ⟨q0, rfl⟩ := pNm_ok f4
    obtain ⟨gt, gi, gj, rfl, f7, f8, f9⟩ := pGen_ok f5
    obtain ⟨p4, rfl⟩ := pNm_ok f7
    obtain ⟨cf, ca, p10, rfl, f10, f11⟩ := pCall1_ok f8
    obtain ⟨p9, rfl⟩ := pNm_ok f10
    obtain ⟨gb, p6, rfl, f12⟩ := pAt_ok f11
    obtain ⟨p5, rfl⟩ := pNm_ok f12
    obtain ⟨ct0, rfl, f13⟩ := p1_ok f9
    obtain ⟨cl0, cr, q4, rfl, f14, f15⟩ := pNotIn_ok f13
    obtain ⟨q1, rfl⟩ := pNm_ok f14
    obtain ⟨ub, q3, rfl, f16⟩ := pAt_ok f15
    obtain ⟨q2, rfl⟩ := pNm_ok f16
    exact K q0 q1 q2 q3 q4 p4 p5 p6 p9 p10
theorem no_left : (namesF.any fun (n, k) => n == nm n_left && (k == .local || k == .cell)) = false := by decide +kernel
theorem names_R : namesR.lookup (nm n_self) = some .cell ∧ namesR.lookup (nm n_left) = some .local ∧ namesR.lookup (nm n_sorted) = some .globalImplicit := by decide +kernel
theorem fresh_body (G : S.Good) (ok : x.Ok S 1) {n cc kk u c : Nat} {oc : Obj} {uv : Value} {es : List (Int × VV)} {us : List VV} {is : List Int} {cs : Scope} {q0 q1 q2 q3 q4 p4 p5 p6 p7 p8 p9 p10 py : Pos} {rest : List Stmt} {s : Shared} {ρ : Rho} {led ex : Led} {Q : Flow → Shared → Prop}
    (I : IsRs x.sc cs rest py p7) (hc : h.cls n = some cc) (hf : h.fld n n_known = some (.ref kk)) (hf2 : h.fld n n_used = some (.ref u)) (hi : h.ic kk = some es) (h64 : es.length < 64) (hl : h.lst u = some us) (his : intsOf us = some is)
    (hcl : x.cl = [(nm n_self, c)]) (hcm : (c, oc) ∈ ex) (hcd : oc.data = .cell (some uv)) (vu : VR ρ (.ref n) uv) (st : St S x s.heap ρ led ex l h)
    (k : ∀ u' ρ' led' hp tk, St S x hp ρ' led' ex (upd l n_left (some (.ref (h.nxt + 1)))) ((h.newL ((sortI (es.map (·.1))).map .int)).newL (((sortI (es.map (·.1))).filter fun x => !is.contains x).map .int)) →
      Ext ρ ρ' led led' h ((h.newL ((sortI (es.map (·.1))).map .int)).newL (((sortI (es.map (·.1))).filter fun x => !is.contains x).map .int)) → VR ρ' (headV ((sortI (es.map (·.1))).filter fun x => !is.contains x)) u' → Q (.ret u') { s with heap := hp, toks := tk }) :
    wpAny S.M x.A (execs (stR q0 q1 q2 q3 q4 p4 p5 p6 p7 p8 p9 p10 py cs :: rest) x.env) Q FF s := by
  refine wpAny_execs_cons (fresh1 G ok hc hf hf2 hi h64 hl his (sw_ok I.kd (I.nms ▸ names_R.2.1) I.ln (I.cn ▸ no_left)) I.cn I.ck (I.nms ▸ names_R.1) (I.nms ▸ names_R.2.1) (I.nms ▸ names_R.2.2) hcl hcm hcd vu st fun ρ' led' hp tk' st' ext => ?_)
  refine sound_ss (cl := vF 0) (c := 0) (d := 1) G ok Nat.zero_lt_one (fun f vs h v h' e => nomatch e) bR2 rest _ _ _ _ _ I.ms (run_bR2 (m := h.nxt + 1) (ks := (sortI (es.map (·.1))).filter fun x => !is.contains x) rfl (if_pos rfl)) { s with heap := hp, toks := tk' } ρ' led' _ _ st' fun f' ρ₂ led₂ hp₂ tk₂ st₂ ext₂ r => ?_
  obtain ⟨u', rfl, vr⟩ := r
  exact k u' ρ₂ led₂ hp₂ tk₂ st₂ (ext.trans ext₂) vr
theorem one_vrs {ρ : Rho} {v : VV} {us : List Value} (h : VRs ρ [v] us) : ∃ u, us = [u] ∧ VR ρ v u := by
  obtain ⟨u, r, rfl, vr, e⟩ := h
  exact ⟨u, congrArg (u :: ·) e, vr⟩
theorem cell_self {env : Env} {uv : Value} (h : env.kindOf (nm n_self) = some .cell) : bindC env.kindOf [(nm n_self, uv)] (fun _ => none) (nm n_self) = some uv := by
  unfold bindC
  rw [h]
  simp [bindC]
theorem self_ok {scope : Scope} (h : scope.names = namesR) : (fps f_RemoteIds_fresh).all (fun i => scope.names.lookup (nm i) == some .local || scope.names.lookup (nm i) == some .cell) = true := by
  rw [h]
  decide +kernel
theorem call_fresh (G : S.Good) {body : List Stmt} {scope : Scope} (A : FnAtC S f_RemoteIds_fresh body scope) (hb : isRs body scope = true) {n : Nat} {v : VV} (hv : vFresh n h = some (v, h')) : CallS S 2 f_RemoteIds_fresh [.ref n] h v h' := by
  obtain ⟨cc, kk, u, es, us', is, hc, hf, hf2, hi, hl, h64, his, hv⟩ := vFresh_ok hv
  refine isRs_e (M := fun body => FnAtC S f_RemoteIds_fresh body scope → CallS S 2 f_RemoteIds_fresh [.ref n] h v h') hb (fun q0 q1 q2 q3 q4 p4 p5 p6 p7 p8 p9 p10 py cs rest I A => ?_) A
  intro y l ok s ρ led ex us R st vrs k
  obtain ⟨rfl, rfl⟩ := Prod.mk.inj hv
  obtain ⟨oc, od, osl, name, qual, params, dV, kV, doc, pm, an, cdv, ct, a1, a2, a3⟩ := A.at_
  obtain ⟨A₀, base, outer, B, hA⟩ := ok.below
  obtain ⟨m, F, LL⟩ := st.fr
  obtain ⟨uv, rfl, vu⟩ := one_vrs vrs
  refine code_defC B F ok.X st.news ok.T hA rfl ok.kind a1 a2 (by have := ok.dep; omega) (a3 s [uv] (ok.X.keeps F.keep) rfl) (self_ok I.nms) (by rw [I.nms]; decide +kernel) (fun g L' h₁ tk cells FG F' N' Y B' X' T' lt => ?_) A.co A.gen I.kd
  have hself : scope.names.lookup (nm n_self) = some .cell := I.nms ▸ names_R.1
  have hcl : cellsFrom (L' + 1) scope.names [] = [(nm n_self, L' + 1)] := by rw [I.nms]; rfl
  rw [hcl] at Y
  obtain ⟨o, rfl, ho⟩ := CellsAre.one Y
  refine wpAny_mono (fresh_body (x := { A := y.A.deeper (envOfC qual scope L' (S.fa f_RemoteIds_fresh) cdv), q := qual, sc := scope, L := L', a := S.fa f_RemoteIds_fresh, cd := cdv, cl := cellsFrom (L' + 1) scope.names [], h₀ := g }) (s := { s with heap := h₁, toks := tk }) (l := fun _ => none) (led := led) (ex := (L' + 1, o) :: ex) (ρ := ρ) (n := n) G
    ⟨⟨y.A, base, y.env :: outer, B', Around.frames_deeper hA⟩, X', T', I.kd, ok.hd, by
          have := ok.dep
          show y.A.depth + 1 + 2 * 1 < recursionLimit
          omega, by
          have := ok.un
          show y.A.units + 3 + 8 * 1 + 100 < cLine
          omega⟩ I hc hf hf2 hi h64 hl his hcl (.head _) ?_ vu (St.put_aside F' (fun i v e => nomatch e) N' st.nod (fun p hp => by have := lt p hp; exact Nat.ne_of_lt (Nat.lt_succ_of_lt this)) st.hr) fun u' ρ₂ led₂ hp₂ tk₂ st₂ ext₂ vr => ?_) (fun _ _ q => q) fun _ _ q => q.elim
  · rw [ho]
    exact congrArg Data.cell (cell_self (env := envOfC qual scope L' (S.fa f_RemoteIds_fresh) cdv) hself)
  · obtain ⟨m', F2, LL2⟩ := st₂.fr
    have st3 := st₂.drop_aside
    exact ⟨L', m', _, F2, st3.news, fun Fo No => k u' ρ₂ led₂ hp₂ tk₂ ⟨⟨m, Fo, LL.ext ext₂⟩, No, st3.nod, st3.hr⟩ ext₂ vr⟩

theorem specF (G : S.Good) {b1 b2 : List Stmt} {s1 s2 : Scope} (A1 : FnAtC S f_RemoteIds_fresh b1 s1) (i1 : isRs b1 s1 = true) (A2 : FnAt S f_RemoteIds_frames b2 s2) (i2 : isFr b2 s2 = true) : SpecF S := fun n h v h' =>
  ⟨fun e => call_fresh G A1 i1 e, fun e => call_frames G A2 i2 e⟩

end
end Mine
end
section
namespace Mine
open PySem PySem.W PyProof.Rows PySem.Calls PySem.SeqAt

noncomputable def VH0 : VH := ⟨fun _ => none, fun _ _ => none, fun _ => none, fun _ => none, fun _ => none, fun _ => none, fun _ => 0, 0⟩
noncomputable def boxH (is : List Int) : VH := (VH0.newL ((is.take 40).map .int)).newL [.ref 0, .int 0]
noncomputable def loc0 : Loc := fun _ => none
section
variable {S : SE} {x : FX} {d : Nat} {l l1 l2 l3 : Loc} {h h1 h2 h3 h' : VH}

set_option tactic.hygienic false
theorem HR.zero : HR S [] [] VH0 where
  len := rfl
  dom := fun n a d e => by simp at e
  co := fun n c e => nomatch e
  sx := fun n es e => nomatch e
  inj := fun n m p q e => by simp at e
  ins := fun n c e => nomatch e
  lst := fun n vs e => nomatch e
  tup := fun n vs e => nomatch e
  sd := fun n vs e => nomatch e
  ic := fun n vs e => nomatch e

theorem pick40 (xs : List Value) : kms_pick xs none (some 40) = xs.take 40 := by
  unfold kms_pick kms_lo kms_hi
  simp
  try omega
theorem nm_list_dbg : (nm n_script == ("__debug__" : Str)) = false := by decide +kernel

theorem law_box (G : S.Good) (ok : x.Ok S d) {a : Addr} {xs : List Value} {is : List Int} {s : Shared} {m : Str → Option Value} {Q : Flow → Shared → Prop} {py pl ps p1 p2 p3 p4 p5 p6 p7 : Pos} {k1 k2 : Nat}
    (h1 : x.sc.names.lookup (nm n_script) = some .local) (h2 : x.sc.names.lookup (nm n_box) = some .local) (h3 : x.sc.names.lookup (nm n_list) = some .globalImplicit)
    (F : Fr x.h₀ x.L s.heap m) (hm : m (nm n_script) = some (.ref a)) (hL : x.h₀.IsList a xs.toArray) (hI : IntsAre xs is) (h63 : is.length ≤ 63)
    (k : ∀ ρ led hp tk, St S x hp ρ led [] (upd loc0 n_box (some (.ref 1))) (boxH is) → Q .next { s with heap := hp, toks := tk }) :
    wpAny S.M x.A (exec (.Assign [.Name (nm n_box) py] (.List [.Call (.Name (nm n_list) pl) [.Subscript (.Name (nm n_script) ps) (.Slice none (some (.Constant (.int 40) k1 p1)) none p2) p3] [] p4, .Constant (.int 0) k2 p5] p6) p7) x.env) Q FF s := by
  have st0 : St S x s.heap [] [] [] loc0 VH0 := ⟨⟨m, F, fun i v e => nomatch e⟩, (fun p hp => nomatch hp), List.nodup_nil, HR.zero⟩
  have hxl : xs.length = is.length := hI.length
  have hL' : s.heap.IsList a xs.toArray := hL.at fun o e => F.keep _ _ e
  refine asg_one (List_ (spliced_more (Call_ (nm_builtin ok st0 (G.bi n_list (by decide)) boot_lst.1 boot_lst.2.1 h3 boot_lst.2.2 (PyProof.Rows.callWith_type1 (spliced_more (Subscript_ (nameX_L F hm ?_ ok.kind h1 nm_list_dbg)) rfl) rfl rfl))) rfl)) rfl rfl
  refine wpAny_Slice (wpAny_pure (wpAny_Constant_int (k := k1) (pos := p1) (wpAny_pure ?_)))
  refine tail_any (ops := [.ref s.heap.objs.size, .ref a]) (Heap.IsList.typeIs (hL'.push _)) slot_list_getitem.lookup (wpAny_getItem_list_slice (hL'.push _) (Heap.IsSliceOf.new ..) .none (.int 40 _) .none (by decide) ?_ (by rw [List.size_toArray, hxl, sizeLine_eq]; omega)) rfl
  have N1 := News.push (F.push { cls := .type "slice", data := .fields #[.none, .int 40 s.toks, .none] }) (News.nil (h₀ := x.h₀)) { cls := .type "list", data := .seq (slicePick xs.toArray none (some 40) none) }
  rw [kms_pick_eq] at N1 ⊢
  rw [show kms_pick xs.toArray.toList none (some 40) = xs.take 40 from pick40 _] at N1 ⊢
  refine spliced_none (kup_listOf (zs := xs.take 40) ((F.push _).push _) N1 (.head _) rfl (fun D c hp F1 N2 lt => ?_) (by simp [sizeLine_eq]; omega))
  have hI40 : VRs [] ((is.take 40).map .int) (xs.take 40) := vrs_ints (hI.take 40)
  have st1 : St S x hp [(D, D)] [(D, W.listOf (xs.take 40).toArray c)] [] loc0 (VH0.newL ((is.take 40).map .int)) :=
    ⟨⟨m, F1, fun i v e => nomatch e⟩, fun p hp => N2 p (by rcases List.mem_cons.mp hp with rfl | hp; exact .head _; exact (nomatch hp)), by simp, HR.zero.newL (fun q hq => nomatch hq) hI40 (by simp; omega)⟩
  refine spliced_more (wpAny_Constant_int ?_) rfl
  refine spliced_none (newList_K F1 st1.news (fun D2 hp2 F2 N3 lt2 => ?_) (by simp [sizeLine_eq]))
  have st2 := st1.newL (vs := [.ref 0, .int 0]) (xs := [.ref D, .int 0 _]) (fun i v e => nomatch e) F2 N3 lt2 ⟨_, _, rfl, ⟨D, D, rfl, rfl⟩, _, _, rfl, ⟨_, rfl⟩, rfl⟩ (by simp)
  exact PyProof.Rows.assign_Name (store_rule ok (s := { s with heap := hp2, toks := _ }) (v := .ref 1) (by decide) h2 st2 ⟨D2, D2, rfl, rfl⟩ fun hp3 tk st3 => k _ _ hp3 tk st3)
end
end Mine
end
section
namespace Mine
open PySem PySem.W PyProof.Rows PySem.Calls

noncomputable abbrev pw : Program := PySem.Challenge.pw_pf0278_01
noncomputable abbrev qw : Program := view pw [49]
noncomputable def looseL : List Str := [Str.ofString "_wall", Str.ofString "INITIAL_PACKETS", Str.ofString "INITIAL_OCTETS", Str.ofString "LEAST_PACKETS", Str.ofString "initial_window", Str.ofString "NewReno", Str.ofString "INITIAL_RTT", Str.ofString "without_delay", Str.ofString "Rtt", Str.ofString "begin_anew", Str.ofString "renew_way", Str.ofString "note_move", Str.ofString "take_answer", Str.ofString "CONNECTION_ID_LIMIT_ERROR", Str.ofString "PROTOCOL_VIOLATION", Str.ofString "QuicError", Str.ofString "PacketRefused", Str.ofString "FRAME_NEW", Str.ofString "RemoteIds", Str.ofString "PATH_UNPROVEN", Str.ofString "PATH_TRYING", Str.ofString "PATH_PROVEN", Str.ofString "PATH_FAILED", Str.ofString "Path", Str.ofString "Paths", Str.ofString "add_number", Str.ofString "add_range", Str.ofString "prune", Str.ofString "KEPT_RANGES", Str.ofString "ACK_EACH", Str.ofString "ECN_PLACES", Str.ofString "Space", Str.ofString "kept_ranges", Str.ofString "_law_take", Str.ofString "_law_state", Str.ofString "_law_renews", Str.ofString "_law_packet", Str.ofString "_law_answer", Str.ofString "_law_is_alike"]
noncomputable def treeOf (l : List Obj) : BT := (l.foldl (fun p o => (p.1.ins p.2 o, p.2 + 1)) (BT.nil, 0)).1
noncomputable def env0 : Env := { scope := pw.main.scope, locals := mainNs, globals := mainNs, cells := [], code := .ref 13, frame := some 14 }
noncomputable abbrev p0 : Pos := ⟨0, 0, 0, 0⟩
noncomputable abbrev bodyE : List Stmt := behindTheImports pw
noncomputable abbrev codeE : Code := .body bodyE env0
noncomputable abbrev ann0 : Option Value := some (.ref 6)
noncomputable abbrev Xt0 : Shared → Bool := fun s => xlAt qw [] s && recOk [] s
noncomputable def Sz (w : World) (os : OsState) : Shared := ⟨boot_heap w.params, Array.mk [], boot_drawn, boot_toks, os⟩
noncomputable def Sa (w : World) (os : OsState) : Shared := match topGo treeTable pw w 11 ann0 12 (Sz w os) (topStub pw) with
  | some (s, _) => s
  | none => Sz w os
noncomputable def Ta (w : World) (os : OsState) : SharedT := ⟨treeOf (Sa w os).heap.objs.toList, 15, (Sa w os).heap.life, (Sa w os).gens, (Sa w os).drawn, (Sa w os).toks, os⟩
set_option tactic.hygienic false
theorem pre_run : ∀ (w : World) (os : OsState), topGo treeTable pw w 11 ann0 12 (Sz w os) (topStub pw) = some (Sa w os, ⟨denote treeTable codeE, codeE, p0, [topFrame p0]⟩) := fun w os => by kernel_rfl
theorem block_run : ∀ (w : World) (os : OsState), segRun treeTable pw w 11 ann0 1 1 (Sa w os) (blockOf bodyE env0 codeE p0 [topFrame p0]) = some (.next, Sa w os, codeE, p0) := fun w os => by kernel_rfl
theorem tree_abs : ∀ (w : World) (os : OsState), (Ta w os).abs = Sa w os := fun w os => by kernel_rfl
theorem boot_is : opening pw = plainProg pw.main.scope.names := by kernel_rfl
theorem fence_is : ∀ s, fenceModules? pw s = some s := fun s => by kernel_rfl
theorem size_is : ∀ w : World, ((boot_heap w.params).isNs mainGlobals && (#[] : Array GenState).size == 0, (boot_heap w.params).objs.size, (boot_heap w.params).nsMap mainGlobals "__annotations__") = (true, 11, ann0) := fun w => by kernel_rfl
theorem fin_run (tb : String → Option Builtin) (p : Program) (w : World) (n : Nat) (ann : Option Value) (s : Shared) (c : Code) (pos q : Pos) : topRun tb p w n ann 2 s ⟨doneF .next, c, pos, [topFrame q]⟩ = some s := by kernel_rfl

section
variable {α : Type}
set_option tactic.hygienic false
theorem left_gen {p q : Program} {loose : List Str} {Xt : Shared → Bool} {Yf : Shared → α} {Ya : World → α} {N n1 n2 m₀ : Nat} {H₀ : Params → Heap} {gs₀ : Array GenState} {d₀ : Drawn} {k₀ : Nat} {ann : Option Value}
    {env : Env} {pos q0 : Pos} {b : List Stmt} {Sa : World → OsState → Shared} {Ta : World → OsState → SharedT}
    (open_ : ∀ w : World, (fencedOpening treeTable p w N).map (fun s => (s.heap, s.gens, s.drawn, s.toks)) = some (H₀ w.params, gs₀, d₀, k₀))
    (size : ∀ w : World, ((H₀ w.params).isNs mainGlobals && gs₀.size == 0, (H₀ w.params).objs.size, (H₀ w.params).nsMap mainGlobals "__annotations__") = (true, m₀, ann))
    (pre : ∀ (w : World) (os : OsState), topGo treeTable p w m₀ ann n1 ⟨H₀ w.params, gs₀, d₀, k₀, os⟩ (topStub p) = some (Sa w os, ⟨denote treeTable (.body b env), .body b env, pos, [topFrame q0]⟩))
    (block : ∀ (w : World) (os : OsState), segRun treeTable p w m₀ ann 1 1 (Sa w os) (blockOf b env (.body b env) pos [topFrame q0]) = some (.next, Sa w os, .body b env, pos))
    (tree : ∀ (w : World) (os : OsState), (Ta w os).abs = Sa w os)
    (fin : ∀ (w : World) (s : Shared) (c : Code) (p1 : Pos), topRun treeTable p w m₀ ann 2 s ⟨doneF .next, c, p1, [topFrame q0]⟩ = some s)
    (le : n1 + (1 + (n2 + 2)) ≤ N)
    (main : ∀ (w : World) (os : OsState), (segRunT treeTable p w m₀ ann 1 n2 (Ta w os) (piecesOf b env (.body b env) pos [topFrame q0])).map (fun r => (r.1, r.2.2.1,
      (staticsOk (importedModules p.main.body) (H₀ w.params) r.2.1.abs.heap && namesBound p r.2.1.abs.heap && gensDone r.2.1.abs && laidKept (H₀ w.params) r.2.1.abs.heap), openSeen q loose (importedModules p.main.body) Xt true r.2.1.abs, Yf r.2.1.abs)) =
      some (.next, .body b env, true, openGood q loose, Ya w)) : LeftO p q loose Xt Yf Ya N := fun w => by
  obtain ⟨s, e, e'⟩ := Option.map_eq_some_iff.mp (open_ w)
  obtain ⟨h, gs, d, k, os⟩ := s
  obtain ⟨rfl, rfl, rfl, rfl⟩ : h = H₀ w.params ∧ gs = gs₀ ∧ d = d₀ ∧ k = k₀ := by simpa using e'
  obtain ⟨⟨f, S, c, p1⟩, r1, r2⟩ := Option.map_eq_some_iff.mp (main w os)
  simp only [Prod.mk.injEq] at r2
  obtain ⟨rfl, rfl, l1, l2, l3⟩ := r2
  have g := segRun_of r1
  rw [tree] at g
  have t0 := piece_app (rest := []) g (piece_nil (fin w S.abs (.body b env) p1))
  rw [List.append_nil] at t0
  have t1 := go_top (pre w os) (piece_block (block w os) t0)
  have r := topRun_mono (N - (n1 + (1 + (n2 + 2)))) _ _ _ _ t1
  rw [Nat.add_sub_cancel' le] at r
  obtain ⟨z1, z2, z3⟩ : _ ∧ _ ∧ _ := by simpa only [Prod.mk.injEq] using size w
  have t : topFrom treeTable p w N ⟨H₀ w.params, gs, d, k, os⟩ = some S.abs := by
    unfold topFrom
    dsimp only
    rw [z1, z2, z3, r]
    show (match staticsOk (importedModules p.main.body) (H₀ w.params) S.abs.heap && namesBound p S.abs.heap && gensDone S.abs && laidKept (H₀ w.params) S.abs.heap with | true => _ | false => _) = _
    rw [l1]
  unfold openEnds
  rw [e]
  show (topFrom treeTable p w N _).map _ = _
  rw [t]
  exact congrArg some (Prod.ext l2 l3)
noncomputable abbrev allRun (Yf : Shared → α) (w : World) (os : OsState) :=
  (segRunT treeTable pw w 11 ann0 1 6000 (Ta w os) (piecesOf bodyE env0 codeE p0 [topFrame p0])).map (fun r => (r.1, r.2.2.1,
      (staticsOk (importedModules pw.main.body) (boot_heap w.params) r.2.1.abs.heap && namesBound pw r.2.1.abs.heap && gensDone r.2.1.abs && laidKept (boot_heap w.params) r.2.1.abs.heap), openSeen qw looseL (importedModules pw.main.body) Xt0 true r.2.1.abs, Yf r.2.1.abs))
theorem left_of {Yf : Shared → α} {Ya : World → α} (main : ∀ (w : World) (os : OsState), allRun Yf w os = some (.next, codeE, true, openGood qw looseL, Ya w)) : LeftO pw qw looseL Xt0 Yf Ya 9702 :=
  left_gen (boot_open boot_is (by decide : Nat.ble 600 9702 = true) fence_is) size_is pre_run block_run tree_abs (fun w s c p1 => fin_run _ _ _ _ _ _ _ _ _) (by decide) main
end
end Mine
end
section
namespace Mine
open PySem PySem.W PyProof.Rows PySem.Calls PySem.SeqAt

noncomputable abbrev rowL : OpenRow := PySem.Challenge.rw_pf0278_01.row
noncomputable def seOf (K : Frag) (ca fa : Nat → Addr) (w : World) (mean : ExcName → Option Value) (mg mb : Str → Option Value) : SE := { prog := pw, w, p := qw, loose := looseW qw looseL, mean, mg, mb, K, ca, fa }
noncomputable def b_lawT : PSs := match b_law with
  | .cons _ r => r
  | .nil => .nil
noncomputable def pSub (P Q : Expr → Bool) (e : Expr) : Bool := dSub (fun v s => P v && Q s) e
set_option tactic.hygienic false
theorem pSub_ok {P Q : Expr → Bool} {e : Expr} (h : pSub P Q e = true) : ∃ v s p, e = .Subscript v s p ∧ P v = true ∧ Q s = true :=
  let ⟨v, s, p, q, z⟩ := dSub_ok h
  ⟨v, s, p, q, and2 z⟩
noncomputable def pSlc (P : Expr → Bool) (e : Expr) : Bool := dSlice (fun a b c => a.isNone && oSome P b && c.isNone) e
theorem pSlc_ok {P : Expr → Bool} {e : Expr} (h : pSlc P e = true) : ∃ u p, e = .Slice none (some u) none p ∧ P u = true := by
  obtain ⟨a, b, c, p, rfl, z⟩ := dSlice_ok h
  obtain ⟨z1, z2, z3⟩ := and3 z
  obtain rfl := oNone_ok z1
  obtain rfl := oNone_ok z3
  obtain ⟨u, rfl, z4⟩ := oSome_ok z2
  exact ⟨u, p, rfl, z4⟩
noncomputable def isLaw (d : DefRec) : Bool := match d.body with
  | s :: rest =>
    pAsg (pNm (nm n_box)) (pLst (p2 (pCall1 (pNm (nm n_list)) (pSub (pNm (nm n_script)) (pSlc (pInt 40)))) (pInt 0))) s && d.scope.names.lookup (nm n_script) == some .local && d.scope.names.lookup (nm n_box) == some .local && d.scope.names.lookup (nm n_list) == some .globalImplicit &&
      parOk d.params [nm n_script] && d.params.defaults.isEmpty && d.scope.kind == .function && !d.scope.isCoroutine && !d.scope.isGenerator && d.scope.names.all (fun x => x.2 != .cell) && mSs d.scope b_lawT rest
  | [] => false

noncomputable def Plain (n : Nat) : Prop := ∀ is : List Int, is.length ≤ 63 → ∃ l' h', vSs (vF n) b_lawT (upd loc0 n_box (some (.ref 1))) (boxH is) = some (.ret (.bool true), l', h')

set_option tactic.hygienic true
theorem walkL (n : Nat) (hn : n ≤ 20) (K : Params → Frag) (ca fa : Nat → Addr) {d : DefRec} (hl : isLaw d = true)
    (SG : ∀ w mean mg mb, (seOf (K w.params) ca fa w mean mg mb).Good)
    (Fs : ∀ w mean mg mb, ∀ f b, f ≠ f_law → fbd f = some b → ∃ body scope, FnAt (seOf (K w.params) ca fa w mean mg mb) f body scope ∧ mSs scope b body = true)
    (Sp : ∀ w mean mg mb, SpecF (seOf (K w.params) ca fa w mean mg mb)) (Lw : ∀ (l : Loc) cl h, vSs cl b_law l h = none) (P : Plain n) :
    WalkO qw looseL (XL qw []) (fun w h => (K w.params).In h) rowL.toRowW d [] (fun f vs => PySem.call f vs) := by
  obtain ⟨name, params, body, scope, dpos⟩ := d
  unfold isLaw at hl
  dsimp only at hl
  cases body with
  | nil => cases hl
  | cons st0 rest =>
    simp only [Bool.and_eq_true, beq_iff_eq, List.isEmpty_iff, Bool.not_eq_true', List.all_eq_true, bne_iff_ne] at hl
    obtain ⟨⟨⟨⟨⟨⟨⟨⟨⟨⟨f1, l1⟩, l2⟩, l3⟩, l4⟩, l5⟩, l6⟩, l7⟩, l8⟩, l9⟩, l10⟩ := hl
    obtain ⟨t0, v0, p7, rfl, f2, f3⟩ := pAsg_ok f1
    obtain ⟨py, rfl⟩ := pNm_ok f2
    obtain ⟨els, p6, rfl, f4⟩ := pLst_ok f3
    obtain ⟨ea, eb, rfl, f5, f6⟩ := p2_ok f4
    obtain ⟨k2, p5, rfl⟩ := pInt_ok f6
    obtain ⟨cf, ca, p4, rfl, f7, f8⟩ := pCall1_ok f5
    obtain ⟨pl, rfl⟩ := pNm_ok f7
    obtain ⟨sv, sl, p3, rfl, f9, f10⟩ := pSub_ok f8
    obtain ⟨ps, rfl⟩ := pNm_ok f9
    obtain ⟨su, p2, rfl, f11⟩ := pSlc_ok f10
    obtain ⟨k1, p1, rfl⟩ := pInt_ok f11
    intro w s₀ s₁ mg mb G Y fa' o pm cd doc dV kV ho hd hcd hD hmg hg args vals as hpre hlay hrd hwl hlo
    have X := (Ground.X G).1
    have V := (Ground.X G).2
    refine Ground.open G ?_
    intro T B D TE TW
    wrow_args hpre hlay hrd hwl hlo
    rename_i is _ _ _ _ _ _ _ a xs _ hL _ _ _ hI _ h63 _
    refine enter_call ?_
    refine codeAny_mono ?_ (fun _ _ g => GoodW.toG g)
    dsimp only at hd hcd hD hmg
    have he := Dflts.none hD l5
    subst he
    have hbind := binds_pos (s := s₁) (fd := { docDef name params (.Assign [.Name (nm n_box) py] (.List [.Call (.Name (nm n_list) pl) [.Subscript (.Name (nm n_script) ps) (.Slice none (some (.Constant (.int 40) k1 p1)) none p2) p3] [] p4, .Constant (.int 0) k2 p5] p6) p7 :: rest) scope pm cd doc with defaults := .none, kwdefaults := kV }) (ns := [nm n_script]) (us := [.ref a]) l4 rfl (by simp) rfl
    refine call_fullW (by decide) ho hd (Top.nolimit T) hcd hbind (fun y hy => ?_) (fun h₁ F => ?_) l7 l8 l6 l9
    · rw [show y = (nm n_script, .ref a) from List.mem_singleton.mp hy]
      exact l1
    · have G' := SG w (ExcName.means s₀.heap) mg mb
      have ok : ({ A := callerA.deeper (envOf name scope s₁.heap.objs.size fa' cd), q := name, sc := scope, L := s₁.heap.objs.size, a := fa', cd := cd, cl := [], h₀ := s₁.heap } : FX).Ok (seOf (K w.params) ca fa w (ExcName.means s₀.heap) mg mb) (2 * n + 1) :=
        ⟨⟨callerA, s₁.heap, [], below_caller _, rfl⟩, Y, T, l6, rfl, by
          show 1 + claimMargin + 1 + 2 * (2 * n + 1) < recursionLimit
          have : 1 + claimMargin + 1 + 2 * (2 * 20 + 1) < recursionLimit := by decide
          omega, by
          show 4 + 3 + 8 * (2 * n + 1) + 100 < cLine
          have : 4 + 3 + 8 * (2 * 20 + 1) + 100 < cLine := by decide
          omega⟩
      have h63' : is.length ≤ 63 := by omega
      obtain ⟨l', h', hv⟩ := P is h63'
      refine wpAny_mono (wpAny_execs_cons (law_box (xs := xs) G' ok (s := { s₁ with heap := h₁, toks := _ }) l1 l2 l3 F (a := a) ?_ hL hI h63' fun ρ led hp tk st => ?_)) (fun _ _ q => q) fun _ _ q => q.elim
      · show List.lookup (nm n_script) _ = _
        simp
      · refine sound_ss (cl := vF n) (c := 2 * n) (d := 2 * n + 1) G' ok (by omega) (sound_f G' (Fs w _ mg mb) Lw (Sp w _ mg mb) n) b_lawT rest _ _ _ _ _ l10 hv { s₁ with heap := hp, toks := tk } ρ led [] _ st fun f' ρ₂ led₂ hp₂ tk₂ st₂ ext₂ r => ?_
        obtain ⟨u, rfl, rfl⟩ := r
        obtain ⟨m, F2, _⟩ := st₂.fr
        exact goodW_bool F2 hg (raisesW_false (by wrow_none_raised)) (by wrow_post)
end Mine
end
section
namespace Mine
open PySem PySem.W PyProof.Rows PySem.Calls PySem.SeqAt

noncomputable def isRef (o : Option (Option Value)) (a : Addr) : Bool := o == some (some (.ref a))
set_option tactic.hygienic false
theorem isRef_of {o : Option (Option Value)} {a : Addr} (h : isRef o a = true) : o = some (some (.ref a)) := eq_of_beq h
noncomputable def isBlt (o : Option (Option Value)) (a : String) : Bool := o == some (some (.builtin a))
theorem isBlt_of {o : Option (Option Value)} {a : String} (h : isBlt o a = true) : o = some (some (.builtin a)) := eq_of_beq h
noncomputable def isNo (o : Option (Option Value)) : Bool := o == some none
theorem isNo_of {o : Option (Option Value)} (h : isNo o = true) : o = some none := eq_of_beq h
noncomputable def valI (j : Int) (X : Value) : Bool := Nat.beq X.ctorIdx 4 && (match X with
  | .int i _ => i == j
  | _ => false)
theorem valI_ok {j : Int} {X : Value} (h : valI j X = true) : ∃ t, X = .int j t :=
  Value.int.elim (motive := fun X => valI j X = true → ∃ t, X = .int j t) X (Nat.eq_of_beq_eq_true (Bool.and_eq_true_iff.mp h).1) (fun i t h => ⟨t, by rw [eq_of_beq (Bool.and_eq_true_iff.mp h).2]⟩) h
noncomputable def valS (x : Str) (X : Value) : Bool := Nat.beq X.ctorIdx 6 && (match X with
  | .str y _ => y == x
  | _ => false)
theorem valS_ok {x : Str} {X : Value} (h : valS x X = true) : ∃ t, X = .str x t :=
  Value.str.elim (motive := fun X => valS x X = true → ∃ t, X = .str x t) X (Nat.eq_of_beq_eq_true (Bool.and_eq_true_iff.mp h).1) (fun i t h => ⟨t, by rw [eq_of_beq (Bool.and_eq_true_iff.mp h).2]⟩) h
noncomputable def isVal (o : Option (Option Value)) (v : VV) : Bool := o.any fun o => o.any fun X => match v with
  | .int j => valI j X
  | .str k => valS (nm k) X && decide (k < 176)
  | _ => false
theorem isVal_of {o : Option (Option Value)} {v : VV} (h : isVal o v = true) : ∃ u, o = some (some u) ∧ VR [] v u := by
  match o, h with
  | some (some X), h =>
    refine ⟨X, rfl, ?_⟩
    cases v with
    | int j => exact valI_ok h
    | str k =>
      obtain ⟨h1, h2⟩ := Bool.and_eq_true_iff.mp h
      exact ⟨of_decide_eq_true h2, valS_ok h1⟩
    | _ => cases h

theorem gval_mem {i : Nat} {v : VV} (h : gval i = some v) : (i, v) ∈ gvalL := lkN_mem h
theorem gfn_mem {g f : Nat} (h : gfn g = some f) : (g, f) ∈ gfnL := lkN_mem h
theorem ini_mem {c f : Nat} (h : ini c = some f) : (c, f) ∈ iniL := lkN_mem h
theorem mtb_mem {c m f : Nat} (h : mtb c m = some f) : (c, m, f) ∈ mtbL := lkP_mem h

noncomputable def glbB (K : Frag) : Bool := gvalL.all fun p => decide (p.1 < 176) && isVal (nsIn K mainGlobals (nm p.1)) p.2
noncomputable def fnB (K : Frag) (fa : Nat → Addr) : Bool := gfnL.all fun p => decide (p.1 < 176) && isRef (nsIn K mainGlobals (nm p.1)) (fa p.2) && keepIn K (.ref (fa p.2))
noncomputable def clsB (K : Frag) (ca fa : Nat → Addr) : Bool := iniL.all fun p => decide (p.1 < 176) && isRef (nsIn K mainGlobals (nm p.1)) (ca p.1) && keepIn K (.ref (ca p.1)) && makesIn K (ca p.1) &&
  isRef (findIn K (.ref (ca p.1)) "__init__") (fa p.2) && isFn K (.ref (fa p.2)) && hasDictIn K (ca p.1) && isBlt (findIn K (.ref (ca p.1)) "__setattr__") "object.__setattr__" && plainOver K (ca p.1) && plainGet K (ca p.1) ""
noncomputable def fldB (K : Frag) (ca : Nat → Addr) : Bool := iniL.all fun p => (List.range 64).all fun i => isNo (findIn K (.ref (ca p.1)) (nm i))
noncomputable def mthB (K : Frag) (ca fa : Nat → Addr) : Bool := mtbL.all fun p => decide (64 ≤ p.2.1) && decide (p.2.1 < 176) && isRef (findIn K (.ref (ca p.1)) (nm p.2.1)) (fa p.2.2) && isFn K (.ref (fa p.2.2)) && keepIn K (.ref (fa p.2.2))
noncomputable def biB (K : Frag) : Bool := [n_len, n_abs, n_min, n_max, n_sorted, n_bytes, n_list].all (fun b => isNo (nsIn K mainGlobals (nm b))) && isNo (nsIn K mainGlobals "range")
noncomputable def goodB (K : Frag) (ca fa : Nat → Addr) : Bool := glbB K && fnB K fa && clsB K ca fa && fldB K ca && mthB K ca fa && biB K

theorem good_of {K : Frag} {ca fa : Nat → Addr} {w : World} {mean : ExcName → Option Value} {mg mb : Str → Option Value} (h : goodB K ca fa = true) : (seOf K ca fa w mean mg mb).Good := by
  simp only [goodB, Bool.and_eq_true] at h
  obtain ⟨⟨⟨⟨⟨h1, h2⟩, h3⟩, h4⟩, h5⟩, h67⟩ := h
  obtain ⟨h6, h7⟩ := Bool.and_eq_true_iff.mp h67
  refine ⟨fun i v e => ?_, fun g f e => ?_, fun c f e => ?_, fun c e i hi => ?_, fun c m f e => ?_, fun b hb => ?_, isNo_of h7⟩
  · have := List.all_eq_true.mp h1 _ (gval_mem e)
    simp only [Bool.and_eq_true, decide_eq_true_eq] at this
    exact ⟨this.1, isVal_of this.2⟩
  · have := List.all_eq_true.mp h2 _ (gfn_mem e)
    simp only [Bool.and_eq_true, decide_eq_true_eq] at this
    exact ⟨this.1.1, isRef_of this.1.2, this.2⟩
  · have := List.all_eq_true.mp h3 _ (ini_mem e)
    simp only [Bool.and_eq_true, decide_eq_true_eq] at this
    obtain ⟨⟨⟨⟨⟨⟨⟨⟨⟨a1, a2⟩, a3⟩, a4⟩, a5⟩, a6⟩, a7⟩, a8⟩, a9⟩, a10⟩ := this
    exact ⟨a1, isRef_of a2, a3, a4, isRef_of a5, eq_of_beq a6, a7, isBlt_of a8, a9, fun _ => a10⟩
  · obtain ⟨f, hf⟩ := Option.isSome_iff_exists.mp e
    have := List.all_eq_true.mp h4 _ (ini_mem hf)
    exact isNo_of (List.all_eq_true.mp this i (List.mem_range.mpr hi))
  · have := List.all_eq_true.mp h5 _ (mtb_mem e)
    simp only [Bool.and_eq_true, decide_eq_true_eq] at this
    obtain ⟨⟨⟨⟨a1, a2⟩, a3⟩, a4⟩, a5⟩ := this
    exact ⟨a1, a2, isRef_of a3, a4, a5⟩
  · exact isNo_of (List.all_eq_true.mp h6 b hb)

noncomputable def funD (D : Data) : Option FuncData := if Nat.beq D.ctorIdx 7 = true then (match D with
  | .func fd => some fd
  | _ => none) else none
theorem funD_ok {D : Data} {fd : FuncData} (h : funD D = some fd) : D = .func fd := by
  unfold funD at h
  by_cases q : Nat.beq D.ctorIdx 7 = true
  · rw [if_pos q] at h
    exact Data.func.elim (motive := fun D => (match D with | .func fd => some fd | _ => none) = some fd → D = .func fd) D (Nat.eq_of_beq_eq_true q) (fun f e => by cases e; rfl) h
  · rw [if_neg q] at h; cases h
noncomputable def fdOf (K : Frag) (a : Addr) : Option FuncData := (K.lookup a).bind fun o => funD o.data
theorem any_ok {α : Type} {P : α → Bool} : ∀ {o : Option α}, o.any P = true → ∃ a, o = some a ∧ P a = true
  | some a, h => ⟨a, rfl, h⟩
noncomputable def refA (X : Value) : Option Addr := if Nat.beq X.ctorIdx 10 = true then (match X with
  | .ref a => some a
  | _ => none) else none
theorem refA_ok {X : Value} {a : Addr} (h : refA X = some a) : X = .ref a := by
  unfold refA at h
  by_cases q : Nat.beq X.ctorIdx 10 = true
  · rw [if_pos q] at h
    exact Value.ref.elim (motive := fun X => (match X with | .ref a => some a | _ => none) = some a → X = .ref a) X (Nat.eq_of_beq_eq_true q) (fun f e => by cases e; rfl) h
  · rw [if_neg q] at h; cases h
noncomputable def seqD (D : Data) : Option (Array Value) := if Nat.beq D.ctorIdx 2 = true then (match D with
  | .seq its _ => some its
  | _ => none) else none
theorem seqD_ok {D : Data} {its : Array Value} (h : seqD D = some its) : ∃ n, D = .seq its n := by
  unfold seqD at h
  by_cases q : Nat.beq D.ctorIdx 2 = true
  · rw [if_pos q] at h
    exact Data.seq.elim (motive := fun D => (match D with | .seq its _ => some its | _ => none) = some its → ∃ n, D = .seq its n) D (Nat.eq_of_beq_eq_true q) (fun f n e => by cases e; exact ⟨n, rfl⟩) h
  · rw [if_neg q] at h; cases h
noncomputable def dfltB (K : Frag) (f : Nat) (fd : FuncData) : Bool :=
  if f = f_Rtt_init then ((refA fd.defaults).any fun T => (K.lookup T).any fun o => (seqD o.data).any fun its => its.toList == [.none]) && fd.params.defaults.length == 1
  else fd.defaults == .none
noncomputable def funB (K : Frag) (f : Nat) (fd : FuncData) : Bool :=
  fd.globals == mainGlobals && fd.closure.isEmpty && fd.builtins == builtinsNs && codeIn K fd.code fd.qualname && parOk fd.params ((fps f).map nm) && dfltB K f fd && !fd.scope.isCoroutine && !fd.scope.isGenerator
noncomputable def bodyB (f : Nat) (fd : FuncData) : Bool := match fd.body, fbd f with
  | .stmts body, some b => fd.scope.kind == .function && (fps f).all (fun i => fd.scope.names.lookup (nm i) == some .local) && fd.scope.names.all (fun x => x.2 != .cell) && mSs fd.scope b body
  | _, _ => false
noncomputable def freshB (fd : FuncData) : Bool := match fd.body with
  | .stmts body => isRs body fd.scope
  | _ => false
noncomputable def framesB (fd : FuncData) : Bool := match fd.body with
  | .stmts body => fd.scope.kind == .function && (fps f_RemoteIds_frames).all (fun i => fd.scope.names.lookup (nm i) == some .local) && fd.scope.names.all (fun x => x.2 != .cell) && isFr body fd.scope
  | _ => false
noncomputable def fun1B (K : Frag) (fa : Nat → Addr) (f : Nat) : Bool := match fdOf K (fa f) with
  | some fd => funB K f fd && (if f = f_RemoteIds_fresh then freshB fd else if f = f_RemoteIds_frames then framesB fd else bodyB f fd)
  | none => false
noncomputable def funsB (K : Frag) (fa : Nat → Addr) : Bool := (List.range 37).all fun f => fun1B K fa f

theorem fdOf_of {K : Frag} {a : Addr} {fd : FuncData} (h : fdOf K a = some fd) : ∃ oc od osl, K.lookup a = some ⟨oc, od, .func fd, osl⟩ := by
  obtain ⟨⟨oc, od, D, osl⟩, e, h⟩ := Option.bind_eq_some_iff.mp h
  cases funD_ok h
  exact ⟨oc, od, osl, e⟩
theorem fps_nodup : ∀ f, f < 38 → ((fps f).map nm).Nodup := by decide +kernel
theorem nm_self_since : (nm 6 == nm 73) = false ∧ (nm 73 == nm 6) = false := by decide +kernel
theorem two_fill {x y : Str} {us : List Value} (n1 : (y == x) = false) (hl : us.length = 1 ∨ us.length = 2) : ∃ sl, forIn (([x, y].drop 1).zip [Value.none]) ([x, y].zip us) dfB = pure sl ∧ [x, y].filterMap (fun n => (sl.lookup n).map (n, ·)) = [x, y].zip (if us.length = 1 then us ++ [.none] else us) ∧ (!(([x, y].take 1).filter fun n => (([x, y].zip us).lookup n).isNone).isEmpty) = false ∧ (decide (2 < us.length) && true) = false := by
  have lx : ∀ (u : Value) (r : List (Str × Value)), ((x, u) :: r).lookup x = some u := fun u r => List.lookup_cons_self
  have ly : ∀ (u w : Value), [(x, u), (y, w)].lookup y = some w := fun u w => by rw [List.lookup_cons, n1]; exact List.lookup_cons_self
  rcases us with _ | ⟨a, _ | ⟨b, _ | _⟩⟩
  · rcases hl with h | h <;> cases h
  · have y0 : [(x, a)].lookup y = none := by rw [List.lookup_cons, n1]; rfl
    refine ⟨[(x, a), (y, .none)], ?_, ?_, ?_, rfl⟩
    · show (dfB (y, .none) [(x, a)] >>= _) = _
      unfold dfB
      rw [y0]
      exact pure_bind _ _
    · rw [List.filterMap_cons, lx, List.filterMap_cons, ly]
      rfl
    · show (!(([x]).filter fun n => ((x, a) :: []).lookup n |>.isNone).isEmpty) = false
      rw [List.filter_cons, lx]
      rfl
  · refine ⟨[(x, a), (y, b)], ?_, ?_, ?_, rfl⟩
    · show (dfB (y, .none) [(x, a), (y, b)] >>= _) = _
      unfold dfB
      rw [ly]
      exact pure_bind _ _
    · rw [List.filterMap_cons, lx, List.filterMap_cons, ly]
      rfl
    · show (!(([x]).filter fun n => ((x, a) :: [(y, b)]).lookup n |>.isNone).isEmpty) = false
      rw [List.filter_cons, lx]
      rfl
  · rcases hl with h | h <;> cases h
theorem binds_dflt {s : Shared} {fd : FuncData} {us : List Value} {T : Addr} {o : Obj} {items : Array Value} {n : Nat} (hp : parOk fd.params [nm 73, nm 6] = true) (hd : fd.defaults = .ref T) (ho : s.heap.get? T = some o) (hs : o.data = .seq items n) (hi : items.toList = [.none]) (hl : us.length = 1 ∨ us.length = 2) :
    BindsTo s fd ⟨us, []⟩ ([nm 73, nm 6].zip (if us.length = 1 then us ++ [.none] else us)) := by
  obtain ⟨sl, f1, f2, f3, f4⟩ := two_fill (x := nm 73) (y := nm 6) nm_self_since.1 hl
  refine bind_pars (us := us) (parOk_e hp).1 fun k e1 e2 => BindsTo.of_defaults (k := k) hd ho hs e1 ?_
  rw [← f2]
  refine e2 (some items) [.none] _ 1 sl (parOk_e hp).2 ?_ rfl f4 f3 f1
  show items.toList.drop (items.toList.length - 2) = _
  rw [hi]
  rfl

set_option tactic.hygienic true
theorem bindsB {K : Frag} {f : Nat} {fd : FuncData} {s : Shared} {us : List Value} (hf : f < 38) (X : K.In s.heap) (h : funB K f fd = true) (hl : (fps f).length = (fillU f us).length) : BindsTo s fd ⟨us, []⟩ (((fps f).map nm).zip (fillU f us)) := by
  simp only [funB, Bool.and_eq_true] at h
  obtain ⟨⟨⟨⟨⟨⟨⟨a1, a2⟩, a3⟩, a4⟩, a5⟩, a6⟩, a7⟩, a8⟩ := h
  clear a1 a2 a3 a4 a7 a8
  unfold dfltB at a6
  by_cases q : f = f_Rtt_init
  · subst q
    rw [if_pos rfl] at a6
    have a6 := (Bool.and_eq_true_iff.mp a6).1
    obtain ⟨T, hd, a6⟩ := any_ok a6
    have hd := refA_ok hd
    obtain ⟨⟨oc, od, D, osl⟩, ho, a6⟩ := any_ok a6
    obtain ⟨its, hs, a6⟩ := any_ok a6
    obtain ⟨n, hs⟩ := seqD_ok hs
    dsimp only at hs
    subst hs
    have hi := eq_of_beq a6
    have hl2 : us.length = 1 ∨ us.length = 2 := by
      unfold fillU at hl
      split at hl
      · rename_i h1; exact .inl h1.2
      · exact .inr hl.symm
    have := binds_dflt (us := us) a5 hd (X _ _ ho) rfl hi hl2
    have e : fillU f_Rtt_init us = (if us.length = 1 then us ++ [.none] else us) := by
      unfold fillU
      by_cases h1 : us.length = 1
      · rw [if_pos ⟨rfl, h1⟩, if_pos h1]
      · rw [if_neg fun z => h1 z.2, if_neg h1]
    rw [e]
    exact this
  · rw [if_neg q] at a6
    have e : fillU f us = us := by
      unfold fillU
      rw [if_neg fun z => q z.1]
    rw [e] at hl ⊢
    exact binds_pos a5 (eq_of_beq a6) (fps_nodup f hf) (by rw [List.length_map]; exact hl)

set_option tactic.hygienic false
theorem fd_fnOf {K : Frag} {f : Nat} {fd : FuncData} {body : List Stmt} (h : funB K f fd = true) (hb : fd.body = .stmts body) : fd = fnOf fd.name fd.qualname fd.params body fd.scope fd.defaults fd.kwdefaults fd.doc fd.pyModule fd.annotations fd.code fd.closureTuple := by
  simp only [funB, Bool.and_eq_true] at h
  obtain ⟨⟨⟨⟨⟨⟨⟨a1, a2⟩, a3⟩, a4⟩, a5⟩, a6⟩, a7⟩, a8⟩ := h
  have b1 : fd.globals = mainGlobals := eq_of_beq a1
  have b2 : fd.closure = [] := List.isEmpty_iff.mp a2
  have b3 : fd.builtins = builtinsNs := eq_of_beq a3
  cases fd
  dsimp only at *
  subst b1 b2 b3 hb
  rfl

section
variable {K : Frag} {ca fa : Nat → Addr} {w : World} {mean : ExcName → Option Value} {mg mb : Str → Option Value}
set_option tactic.hygienic false
theorem at_of {f : Nat} {fd : FuncData} {body : List Stmt} (hf : f < 38) (hK : fdOf K (fa f) = some fd) (h : funB K f fd = true) (hb : fd.body = .stmts body) :
    ∃ oc od osl name qual params dV kV doc pm an cdv ct, (seOf K ca fa w mean mg mb).K.lookup ((seOf K ca fa w mean mg mb).fa f) = some ⟨oc, od, .func (fnOf name qual params body fd.scope dV kV doc pm an cdv ct), osl⟩ ∧ codeIn (seOf K ca fa w mean mg mb).K cdv qual = true ∧
    ∀ (s : Shared) (us : List Value), (seOf K ca fa w mean mg mb).K.In s.heap → (fps f).length = (fillU f us).length → BindsTo s (fnOf name qual params body fd.scope dV kV doc pm an cdv ct) ⟨us, []⟩ (((fps f).map nm).zip (fillU f us)) := by
  obtain ⟨oc, od, osl, e⟩ := fdOf_of hK
  have e2 := fd_fnOf h hb
  refine ⟨oc, od, osl, fd.name, fd.qualname, fd.params, fd.defaults, fd.kwdefaults, fd.doc, fd.pyModule, fd.annotations, fd.code, fd.closureTuple, ?_, ?_, fun s us X hl => ?_⟩
  · rw [← e2]; exact e
  · have h' := h
    simp only [funB, Bool.and_eq_true] at h'
    obtain ⟨⟨⟨⟨⟨⟨⟨a1, a2⟩, a3⟩, a4⟩, a5⟩, a6⟩, a7⟩, a8⟩ := h'
    exact a4
  · rw [← e2]; exact bindsB hf X h hl
theorem fbd_lt {f : Nat} {b : PSs} (h : fbd f = some b) : f < 38 ∧ f ≠ f_RemoteIds_fresh ∧ f ≠ f_RemoteIds_frames := by
  have m : f ∈ fbdL.map (·.1) := List.mem_map.mpr ⟨_, lkN_mem h, rfl⟩
  exact (by decide +kernel : ∀ i ∈ fbdL.map (·.1), i < 38 ∧ i ≠ f_RemoteIds_fresh ∧ i ≠ f_RemoteIds_frames) f m

set_option tactic.hygienic true
theorem fnAt_of (h : funsB K fa = true) {f : Nat} {b : PSs} (hl : f ≠ f_law) (hb : fbd f = some b) : ∃ body scope, FnAt (seOf K ca fa w mean mg mb) f body scope ∧ mSs scope b body = true := by
  obtain ⟨h38, h1, h2⟩ := fbd_lt hb
  have h37 : f < 37 := by have : f ≠ 37 := hl; omega
  have := List.all_eq_true.mp h f (List.mem_range.mpr h37)
  unfold fun1B at this
  split at this
  · rename_i fd hK
    obtain ⟨g1, g2⟩ := Bool.and_eq_true_iff.mp this
    rw [if_neg h1, if_neg h2] at g2
    unfold bodyB at g2
    rw [hb] at g2
    cases e1 : fd.body with
    | expr => rw [e1] at g2; cases g2
    | stmts body =>
      rw [e1] at g2
      dsimp only at g2
      simp only [Bool.and_eq_true, List.all_eq_true, beq_iff_eq, bne_iff_ne] at g2
      obtain ⟨⟨⟨c1, c2⟩, c3⟩, c4⟩ := g2
      have g1' := g1
      simp only [funB, Bool.and_eq_true, Bool.not_eq_true'] at g1'
      obtain ⟨⟨_, a7⟩, a8⟩ := g1'
      exact ⟨body, fd.scope, ⟨at_of h38 hK g1 e1, c2, fps_nodup f h38, a7, a8, c1, c3⟩, c4⟩
  · cases this
theorem spec_of (G : (seOf K ca fa w mean mg mb).Good) (h : funsB K fa = true) : SpecF (seOf K ca fa w mean mg mb) := by
  have hr := List.all_eq_true.mp h f_RemoteIds_fresh (List.mem_range.mpr (by decide))
  have hr2 := List.all_eq_true.mp h f_RemoteIds_frames (List.mem_range.mpr (by decide))
  unfold fun1B at hr hr2
  split at hr
  · rename_i fd hK
    split at hr2
    · rename_i fd2 hK2
      obtain ⟨g1, g2⟩ := Bool.and_eq_true_iff.mp hr
      obtain ⟨k1, k2⟩ := Bool.and_eq_true_iff.mp hr2
      rw [if_pos rfl] at g2
      rw [if_neg (by decide), if_pos rfl] at k2
      unfold freshB at g2
      unfold framesB at k2
      cases e1 : fd.body with
      | expr => rw [e1] at g2; cases g2
      | stmts body =>
        cases e2 : fd2.body with
        | expr => rw [e2] at k2; cases k2
        | stmts body2 =>
          rw [e1] at g2
          rw [e2] at k2
          dsimp only at g2 k2
          simp only [Bool.and_eq_true, List.all_eq_true, beq_iff_eq, bne_iff_ne] at k2
          obtain ⟨⟨⟨c1, c2⟩, c3⟩, c4⟩ := k2
          have g1' := g1
          simp only [funB, Bool.and_eq_true, Bool.not_eq_true'] at g1'
          obtain ⟨⟨_, a7⟩, a8⟩ := g1'
          have k1' := k1
          simp only [funB, Bool.and_eq_true, Bool.not_eq_true'] at k1'
          obtain ⟨⟨_, b7⟩, b8⟩ := k1'
          exact specF G ⟨at_of (by decide) hK g1 e1, a7, a8⟩ g2 ⟨at_of (by decide) hK2 k1 e2, c2, fps_nodup _ (by decide), b7, b8, c1, c3⟩ c4
    · cases hr2
  · cases hr
end

end Mine
end
section
namespace Mine
open PySem PySem.W PyProof.Rows PySem.Calls PySem.SeqAt

noncomputable def caT : Nat → Nat
  | 75 => 115 | 76 => 179 | 100 => 341 | 114 => 425 | 125 => 544 | 134 => 709 | _ => 0
noncomputable def faL : List Nat := [28, 42, 141, 190, 197, 204, 211, 265, 279, 286, 293, 300, 307, 314, 319, 326, 331, 359, 366, 387, 401, 408, 422, 443, 450, 457, 464, 471, 499, 520, 582, 727, 734, 741, 748, 755, 762, 769]
noncomputable def faT (f : Nat) : Nat := faL.getD f 0
noncomputable def asT : List Nat := [3, 115, 114, 179, 178, 341, 340, 425, 424, 544, 543, 709, 708] ++ faL ++ [27, 41, 140, 189, 196, 203, 210, 264, 278, 285, 292, 299, 306, 313, 318, 325, 330, 358, 365, 386, 400, 407, 421, 442, 449, 456, 463, 470, 498, 519, 581, 726, 733, 740, 747, 754, 761, 134]
noncomputable def fragFrom (h : Heap) : List Nat → Frag
  | [] => []
  | a :: r => match h.get? a with
    | some o => (a, o) :: fragFrom h r
    | none => fragFrom h r
set_option tactic.hygienic true
theorem frag_in {h : Heap} : ∀ (as : List Nat), (fragFrom h as).In h
  | [], a, o, e => nomatch e
  | b :: r, a, o, e => by
    unfold fragFrom at e
    split at e
    · rename_i ob hb
      rw [List.lookup_cons] at e
      split at e
      · rename_i q
        cases e
        rw [eq_of_beq q]
        exact hb
      · exact frag_in r a o e
    · exact frag_in r a o e
noncomputable def fragT (t : BT) : List Nat → Frag
  | [] => []
  | a :: r => match (t.get a).bind alive with
    | some o => (a, o) :: fragT t r
    | none => fragT t r
noncomputable def fragOk (n : Nat) (t : BT) (as : List Nat) : Bool := as.all fun a => Nat.blt a n && (t.get a).isSome
set_option tactic.hygienic false
theorem frag_eq {n : Nat} {t : BT} {life : Life} : ∀ (as : List Nat), fragOk n t as = true → fragFrom (absHeap t n life) as = fragT t as
  | [], _ => rfl
  | a :: r, h => by
    obtain ⟨h1, h2⟩ := Bool.and_eq_true_iff.mp (show ((Nat.blt a n && (t.get a).isSome) && fragOk n t r) = true from h)
    obtain ⟨h3, h4⟩ := and2 h1
    obtain ⟨o, ho⟩ := Option.isSome_iff_exists.mp h4
    have e : (absHeap t n life).get? a = (t.get a).bind alive := by
      rw [abs_get (Nat.blt_eq.mp h3) ho, ho]
      rfl
    show (match (absHeap t n life).get? a with
      | some o => (a, o) :: fragFrom (absHeap t n life) r
      | none => fragFrom (absHeap t n life) r) = (match (t.get a).bind alive with
      | some o => (a, o) :: fragT t r
      | none => fragT t r)
    rw [e, frag_eq r h2]
noncomputable def half1 : List Nat := [0, 1, 2, 3, 4, 5, 6, 7, 8, 9, 10, 11, 12, 13, 14, 15, 16, 17, 18]
noncomputable def half2 : List Nat := [19, 20, 21, 22, 23, 24, 25, 26, 27, 28, 29, 30, 31, 32, 33, 34, 35, 36]
noncomputable def mostB (K : Frag) (ca fa : Nat → Addr) : Bool := glbB K && fnB K fa && clsB K ca fa && mthB K ca fa && biB K
theorem good_of' {K : Frag} {ca fa : Nat → Addr} (h : mostB K ca fa = true) (h4 : fldB K ca = true) : goodB K ca fa = true := by
  obtain ⟨h, h6⟩ := and2 h
  obtain ⟨h1, h2, h3, h5⟩ := and4 h
  show (glbB K && fnB K fa && clsB K ca fa && fldB K ca && mthB K ca fa && biB K) = true
  rw [h1, h2, h3, h4, h5, h6]
  rfl
theorem funs_of {K : Frag} {fa : Nat → Addr} (h1 : (half1.all fun f => fun1B K fa f) = true) (h2 : (half2.all fun f => fun1B K fa f) = true) : funsB K fa = true := by
  show ((List.range 37).all fun f => fun1B K fa f) = true
  rw [show List.range 37 = half1 ++ half2 from rfl, List.all_append, h1, h2]
  rfl
noncomputable def lookK (K : Frag) : Bool := goodB K caT faT && funsB K faT
noncomputable def Yk (s : Shared) : Bool := lookK (fragFrom s.heap asT)
noncomputable def YP (_ : World) (h : Heap) : Prop := ∃ K : Frag, K.In h ∧ lookK K = true
theorem yk_of (w : World) (s : Shared) (e : Yk s = true) : YP w s.heap := ⟨_, frag_in asT, e⟩
theorem yp_keeps (w : World) (h h' : Heap) (y : YP w h) (k : ∀ b o, h.get? b = some o → h'.get? b = some o) : YP w h' :=
  let ⟨K, a, b⟩ := y; ⟨K, a.keeps k, b⟩
end Mine
end
section
namespace Mine
open PySem PySem.W PyProof.Rows PySem.Calls

noncomputable abbrev runX (w : World) (os : OsState) := segRunT treeTable pw w 11 ann0 1 6000 (Ta w os) (piecesOf bodyE env0 codeE p0 [topFrame p0])
set_option tactic.hygienic false
theorem head_A : ∀ (w : World) (os : OsState), allRun (fun _ => true) w os = some (.next, codeE, true, openGood qw looseL, true) := fun w os => by kernel_rfl
theorem head_B : ∀ (w : World) (os : OsState), (runX w os).map (fun r => fragOk r.2.1.n r.2.1.tree asT && (mostB (fragT r.2.1.tree asT) caT faT && half1.all fun f => fun1B (fragT r.2.1.tree asT) faT f)) = some true := fun w os => by kernel_rfl
theorem head_C : ∀ (w : World) (os : OsState), (runX w os).map (fun r => fldB (fragT r.2.1.tree asT) caT) = some true := fun w os => by kernel_rfl
theorem head_D : ∀ (w : World) (os : OsState), (runX w os).map (fun r => half2.all fun f => fun1B (fragT r.2.1.tree asT) faT f) = some true := fun w os => by kernel_rfl
theorem head_all (w : World) (os : OsState) : allRun Yk w os = some (.next, codeE, true, openGood qw looseL, (fun _ => true : World → Bool) w) := by
  obtain ⟨r, e, hA⟩ := Option.map_eq_some_iff.mp (head_A w os)
  obtain ⟨r2, e2, hB⟩ := Option.map_eq_some_iff.mp (head_B w os)
  obtain ⟨r3, e3, hC⟩ := Option.map_eq_some_iff.mp (head_C w os)
  obtain ⟨r4, e4, hD⟩ := Option.map_eq_some_iff.mp (head_D w os)
  obtain rfl : r = r2 := Option.some.inj (e.symm.trans e2)
  obtain rfl : r = r3 := Option.some.inj (e.symm.trans e3)
  obtain rfl : r = r4 := Option.some.inj (e.symm.trans e4)
  refine Option.map_eq_some_iff.mpr ⟨r, e, ?_⟩
  simp only [Prod.mk.injEq, and_true] at hA ⊢
  refine ⟨hA.1, hA.2.1, hA.2.2.1, hA.2.2.2, ?_⟩
  obtain ⟨h1, h2⟩ := Bool.and_eq_true_iff.mp hB
  obtain ⟨h2, h4⟩ := Bool.and_eq_true_iff.mp h2
  have q : fragFrom r.2.1.abs.heap asT = fragT r.2.1.tree asT := frag_eq asT h1
  show lookK (fragFrom r.2.1.abs.heap asT) = true
  rw [q]
  unfold lookK
  rw [good_of' h2 hC, funs_of h4 hD]
  rfl
theorem left1 : LeftO pw qw looseL Xt0 Yk (fun _ => true) 9702 := left_of head_all
end Mine
end
section
namespace Mine
open PySem PySem.W PyProof.Rows PySem.Calls

noncomputable def lawD : DefRec := ((defOf qw (PySem.Str.ofString "law")).map (·.1)).getD ⟨PySem.Str.ofString "", ⟨[], [], none, [], [], none, []⟩, [], ⟨.module, [], false, false, []⟩, p0⟩
set_option tactic.hygienic false
theorem law_def : defOf qw rowL.name = some (lawD, []) := by kernel_rfl
theorem law_the : rowL.prog.theDef rowL.name = some (lawD.params, lawD.body, lawD.scope) := by kernel_rfl
theorem law_kw : kwWritten? lawD.params.kwonlyargs lawD.params.kw_defaults = some [] := by kernel_rfl
theorem law_is : isLaw lawD = true := by decide +kernel
theorem law_first (l : Loc) (cl : Caller) (h : VH) : vSs cl b_law l h = none := by
  have e1 : vE cl l (.slc (.loc 165) none (some 40)) h = none := by
    show (vE cl l (.loc 165) h).bind _ = none
    rcases vE cl l (.loc 165) h with _ | ⟨v, _⟩
    · rfl
    · cases v <;> rfl
  have e2 : vEs cl l (.cons (.slc (.loc 165) none (some 40)) .nil) h = none := by
    show (vE cl l (.slc (.loc 165) none (some 40)) h).bind _ = none
    rw [e1]
    rfl
  have e3 : vE cl l (.bf 169 (.cons (.slc (.loc 165) none (some 40)) .nil)) h = none := by
    show (vEs cl l _ h).bind _ = none
    rw [e2]
    rfl
  have e4 : vE cl l (.list (.cons (.bf 169 (.cons (.slc (.loc 165) none (some 40)) .nil)) (.cons (.int 0) .nil))) h = none := by
    show ((vE cl l (.bf 169 (.cons (.slc (.loc 165) none (some 40)) .nil)) h).bind _).bind _ = none
    rw [e3]
    rfl
  show ((vE cl l (.list (.cons (.bf 169 (.cons (.slc (.loc 165) none (some 40)) .nil)) (.cons (.int 0) .nil))) h).bind _).bind _ = none
  rw [e4]
  rfl
theorem said_law : PySem.Challenge.rw_pf0278_01.wellSaid = true := by decide +kernel
theorem walkY (n : Nat) (hn : n ≤ 20) (P : Plain n) : WalkO qw looseL (XL qw []) YP rowL.toRowW lawD [] (fun f vs => PySem.call f vs) :=
  fun w s₀ s₁ mg mb G y => by
    obtain ⟨K, Y, hK⟩ := y
    obtain ⟨g1, g2⟩ := Bool.and_eq_true_iff.mp (show (goodB K caT faT && funsB K faT) = true from hK)
    have SG : ∀ w mean mg mb, (seOf K caT faT w mean mg mb).Good := fun w mean mg mb => good_of g1
    exact walkL n hn (fun _ => K) caT faT law_is SG (fun w mean mg mb f b hl hb => fnAt_of g2 hl hb) (fun w mean mg mb => spec_of (SG w mean mg mb) g2) law_first P w s₀ s₁ mg mb G Y
theorem holds_of (n : Nat) (hn : n ≤ 20) (P : Plain n) : PySem.Challenge.rw_pf0278_01.Holds :=
  holds_law said_law fun said => holds_open (q := qw) (loose := looseL) (Xt := Xt0) (XP := XL qw []) (Yf := Yk) (Ya := fun _ => true) (YP := YP) (N := 9702) left1 (fun w s e => yk_of w s e) yp_keeps
    (fun s e => xl_of s (Bool.and_eq_true_iff.mp e).1) XL.keeps law_def law_the law_kw (fun s e => recFacts_of (Bool.and_eq_true_iff.mp e).2) (by rfl) said (by decide +kernel) ⟨rfl, rfl, rfl, rfl, rfl, by decide +kernel⟩
    ⟨[WData.list [.int 3, .int 1]], by decide +kernel, by decide +kernel⟩ (walkY n hn P)
end Mine
end
section
namespace Mine

structure Keep (F L D I : List Nat) (h h' : VH) : Prop where
  nxt : h.nxt ≤ h'.nxt
  cls : ∀ r, r < h.nxt → h'.cls r = h.cls r
  fld : ∀ r, r < h.nxt → r ∉ F → h'.fld r = h.fld r
  lst : ∀ r, r < h.nxt → r ∉ L → h'.lst r = h.lst r
  tup : ∀ r, r < h.nxt → h'.tup r = h.tup r
  sd : ∀ r, r < h.nxt → r ∉ D → h'.sd r = h.sd r
  ic : ∀ r, r < h.nxt → r ∉ I → h'.ic r = h.ic r
  emp : (∀ r, h.nxt ≤ r → h.lst r = none) → ∀ r, h'.nxt ≤ r → h'.lst r = none

set_option tactic.hygienic false
theorem Keep.refl {F L D I : List Nat} {h : VH} : Keep F L D I h h := ⟨Nat.le_refl _, fun _ _ => rfl, fun _ _ _ => rfl, fun _ _ _ => rfl, fun _ _ => rfl, fun _ _ _ => rfl, fun _ _ _ => rfl, fun e => e⟩
theorem Keep.trans {F L D I F' L' D' I' : List Nat} {h h1 h2 : VH} (a : Keep F L D I h h1) (b : Keep F' L' D' I' h1 h2) (hF : ∀ r ∈ F', r ∈ F ∨ h.nxt ≤ r) (hL : ∀ r ∈ L', r ∈ L ∨ h.nxt ≤ r) (hD : ∀ r ∈ D', r ∈ D ∨ h.nxt ≤ r) (hI : ∀ r ∈ I', r ∈ I ∨ h.nxt ≤ r) : Keep F L D I h h2 :=
  ⟨Nat.le_trans a.nxt b.nxt, fun r q => (b.cls r (Nat.lt_of_lt_of_le q a.nxt)).trans (a.cls r q), fun r q m => (b.fld r (Nat.lt_of_lt_of_le q a.nxt) fun x => (hF r x).elim m (Nat.not_le.mpr q)).trans (a.fld r q m), fun r q m => (b.lst r (Nat.lt_of_lt_of_le q a.nxt) fun x => (hL r x).elim m (Nat.not_le.mpr q)).trans (a.lst r q m),
    fun r q => (b.tup r (Nat.lt_of_lt_of_le q a.nxt)).trans (a.tup r q), fun r q m => (b.sd r (Nat.lt_of_lt_of_le q a.nxt) fun x => (hD r x).elim m (Nat.not_le.mpr q)).trans (a.sd r q m), fun r q m => (b.ic r (Nat.lt_of_lt_of_le q a.nxt) fun x => (hI r x).elim m (Nat.not_le.mpr q)).trans (a.ic r q m), fun e => b.emp (a.emp e)⟩
theorem Keep.mono {F L D I F' L' D' I' : List Nat} {h h1 : VH} (a : Keep F L D I h h1) (hF : ∀ r ∈ F, r ∈ F') (hL : ∀ r ∈ L, r ∈ L') (hD : ∀ r ∈ D, r ∈ D') (hI : ∀ r ∈ I, r ∈ I') : Keep F' L' D' I' h h1 :=
  ⟨a.nxt, a.cls, fun r q m => a.fld r q fun x => m (hF r x), fun r q m => a.lst r q fun x => m (hL r x), a.tup, fun r q m => a.sd r q fun x => m (hD r x), fun r q m => a.ic r q fun x => m (hI r x), a.emp⟩
theorem Keep.step {F L D I : List Nat} {h h1 h2 : VH} (a : Keep F L D I h h1) (b : Keep F L D I h1 h2) : Keep F L D I h h2 := a.trans b (fun _ => .inl) (fun _ => .inl) (fun _ => .inl) fun _ => .inl
theorem Keep.newL {F L D I : List Nat} {h h1 : VH} {vs : List VV} (a : Keep F L D I h h1) : Keep F L D I h (h1.newL vs) := a.step
  ⟨Nat.le_succ _, fun _ _ => rfl, fun _ _ _ => rfl, fun r q _ => by show upd h1.lst h1.nxt _ r = _; unfold upd; rw [if_neg (Nat.ne_of_lt q)], fun _ _ => rfl, fun _ _ _ => rfl, fun _ _ _ => rfl,
    fun e r q => by show upd h1.lst h1.nxt _ r = _; unfold upd; rw [if_neg (Nat.ne_of_gt q)]; exact e r (Nat.le_of_succ_le q)⟩
theorem Keep.newT {F L D I : List Nat} {h h1 : VH} {vs : List VV} (a : Keep F L D I h h1) : Keep F L D I h (h1.newT vs) := a.step
  ⟨Nat.le_succ _, fun _ _ => rfl, fun _ _ _ => rfl, fun _ _ _ => rfl, fun r q => by show upd h1.tup h1.nxt _ r = _; unfold upd; rw [if_neg (Nat.ne_of_lt q)], fun _ _ _ => rfl, fun _ _ _ => rfl, fun e r q => e r (Nat.le_of_succ_le q)⟩
theorem Keep.newC {F L D I : List Nat} {h h1 : VH} {c : Nat} (a : Keep F L D I h h1) : Keep F L D I h (h1.newC c) := a.step
  ⟨Nat.le_succ _, fun r q => by show upd h1.cls h1.nxt _ r = _; unfold upd; rw [if_neg (Nat.ne_of_lt q)], fun r q _ => by show upd h1.fld h1.nxt _ r = _; unfold upd; rw [if_neg (Nat.ne_of_lt q)], fun _ _ _ => rfl, fun _ _ => rfl, fun _ _ _ => rfl, fun _ _ _ => rfl, fun e r q => e r (Nat.le_of_succ_le q)⟩
theorem Keep.setF {F L D I : List Nat} {h h1 : VH} {n f : Nat} {v : VV} (a : Keep F L D I h h1) (hn : n ∈ F ∨ h.nxt ≤ n) : Keep F L D I h (h1.setF n f v) := a.trans (F' := [n]) (L' := []) (D' := []) (I' := [])
  ⟨Nat.le_refl _, fun _ _ => rfl, fun r q m => by
    show upd h1.fld n _ r = _
    unfold upd
    rw [if_neg]
    exact fun e => m (e ▸ List.mem_singleton.mpr rfl), fun _ _ _ => rfl, fun _ _ => rfl, fun _ _ _ => rfl, fun _ _ _ => rfl, fun e => e⟩ (fun r m => by rw [List.mem_singleton.mp m]; exact hn) (fun _ m => nomatch m) (fun _ m => nomatch m) fun _ m => nomatch m
theorem Keep.setL {F L D I : List Nat} {h h1 : VH} {n : Nat} {vs : List VV} (a : Keep F L D I h h1) (hn : n ∈ L ∨ h.nxt ≤ n) (hlt : n < h1.nxt) : Keep F L D I h (h1.setL n vs) := a.trans (F' := []) (L' := [n]) (D' := []) (I' := [])
  ⟨Nat.le_refl _, fun _ _ => rfl, fun _ _ _ => rfl, fun r q m => by
    show upd h1.lst n _ r = _
    unfold upd
    rw [if_neg]
    exact fun e => m (e ▸ List.mem_singleton.mpr rfl), fun _ _ => rfl, fun _ _ _ => rfl, fun _ _ _ => rfl, fun e r q => by
    show upd h1.lst n _ r = _
    unfold upd
    rw [if_neg (Nat.ne_of_gt (Nat.lt_of_lt_of_le hlt q))]
    exact e r q⟩ (fun _ m => nomatch m) (fun r m => by rw [List.mem_singleton.mp m]; exact hn) (fun _ m => nomatch m) fun _ m => nomatch m
theorem Keep.setS {F L D I : List Nat} {h h1 : VH} {n : Nat} {vs : List (Nat × VV)} (a : Keep F L D I h h1) (hn : n ∈ D ∨ h.nxt ≤ n) : Keep F L D I h (h1.setS n vs) := a.trans (F' := []) (L' := []) (D' := [n]) (I' := [])
  ⟨Nat.le_refl _, fun _ _ => rfl, fun _ _ _ => rfl, fun _ _ _ => rfl, fun _ _ => rfl, fun r q m => by
    show upd h1.sd n _ r = _
    unfold upd
    rw [if_neg]
    exact fun e => m (e ▸ List.mem_singleton.mpr rfl), fun _ _ _ => rfl, fun e => e⟩ (fun _ m => nomatch m) (fun _ m => nomatch m) (fun r m => by rw [List.mem_singleton.mp m]; exact hn) fun _ m => nomatch m
theorem Keep.setI {F L D I : List Nat} {h h1 : VH} {n : Nat} {vs : List (Int × VV)} (a : Keep F L D I h h1) (hn : n ∈ I ∨ h.nxt ≤ n) : Keep F L D I h (h1.setI n vs) := a.trans (F' := []) (L' := []) (D' := []) (I' := [n])
  ⟨Nat.le_refl _, fun _ _ => rfl, fun _ _ _ => rfl, fun _ _ _ => rfl, fun _ _ => rfl, fun _ _ _ => rfl, fun r q m => by
    show upd h1.ic n _ r = _
    unfold upd
    rw [if_neg]
    exact fun e => m (e ▸ List.mem_singleton.mpr rfl), fun e => e⟩ (fun _ m => nomatch m) (fun _ m => nomatch m) (fun _ m => nomatch m) (fun r m => by rw [List.mem_singleton.mp m]; exact hn)

theorem setF_cls (h : VH) (n f : Nat) (v : VV) : (h.setF n f v).cls = h.cls := rfl
theorem setF_lst (h : VH) (n f : Nat) (v : VV) : (h.setF n f v).lst = h.lst := rfl
theorem setF_tup (h : VH) (n f : Nat) (v : VV) : (h.setF n f v).tup = h.tup := rfl
theorem setF_sd (h : VH) (n f : Nat) (v : VV) : (h.setF n f v).sd = h.sd := rfl
theorem setF_ic (h : VH) (n f : Nat) (v : VV) : (h.setF n f v).ic = h.ic := rfl
theorem setF_ver (h : VH) (n f : Nat) (v : VV) : (h.setF n f v).ver = h.ver := rfl
theorem setF_nxt (h : VH) (n f : Nat) (v : VV) : (h.setF n f v).nxt = h.nxt := rfl
theorem setF_fld (h : VH) (n f m g : Nat) (v : VV) : (h.setF n f v).fld m g = if m = n then (if g = f then some v else h.fld n g) else h.fld m g := by
  show upd h.fld n (upd (h.fld n) f (some v)) m g = _
  unfold upd
  split <;> rfl
theorem setL_cls (h : VH) (n : Nat) (v : List VV) : (h.setL n v).cls = h.cls := rfl
theorem setL_fld (h : VH) (n : Nat) (v : List VV) : (h.setL n v).fld = h.fld := rfl
theorem setL_tup (h : VH) (n : Nat) (v : List VV) : (h.setL n v).tup = h.tup := rfl
theorem setL_sd (h : VH) (n : Nat) (v : List VV) : (h.setL n v).sd = h.sd := rfl
theorem setL_ic (h : VH) (n : Nat) (v : List VV) : (h.setL n v).ic = h.ic := rfl
theorem setL_nxt (h : VH) (n : Nat) (v : List VV) : (h.setL n v).nxt = h.nxt := rfl
theorem setL_lst (h : VH) (n m : Nat) (v : List VV) : (h.setL n v).lst m = if m = n then some v else h.lst m := rfl
theorem setS_cls (h : VH) (n : Nat) (v : List (Nat × VV)) : (h.setS n v).cls = h.cls := rfl
theorem setS_fld (h : VH) (n : Nat) (v : List (Nat × VV)) : (h.setS n v).fld = h.fld := rfl
theorem setS_tup (h : VH) (n : Nat) (v : List (Nat × VV)) : (h.setS n v).tup = h.tup := rfl
theorem setS_lst (h : VH) (n : Nat) (v : List (Nat × VV)) : (h.setS n v).lst = h.lst := rfl
theorem setS_ic (h : VH) (n : Nat) (v : List (Nat × VV)) : (h.setS n v).ic = h.ic := rfl
theorem setS_nxt (h : VH) (n : Nat) (v : List (Nat × VV)) : (h.setS n v).nxt = h.nxt := rfl
theorem setS_sd (h : VH) (n m : Nat) (v : List (Nat × VV)) : (h.setS n v).sd m = if m = n then some v else h.sd m := rfl
theorem setI_cls (h : VH) (n : Nat) (v : List (Int × VV)) : (h.setI n v).cls = h.cls := rfl
theorem setI_fld (h : VH) (n : Nat) (v : List (Int × VV)) : (h.setI n v).fld = h.fld := rfl
theorem setI_tup (h : VH) (n : Nat) (v : List (Int × VV)) : (h.setI n v).tup = h.tup := rfl
theorem setI_lst (h : VH) (n : Nat) (v : List (Int × VV)) : (h.setI n v).lst = h.lst := rfl
theorem setI_sd (h : VH) (n : Nat) (v : List (Int × VV)) : (h.setI n v).sd = h.sd := rfl
theorem setI_nxt (h : VH) (n : Nat) (v : List (Int × VV)) : (h.setI n v).nxt = h.nxt := rfl
theorem setI_ic (h : VH) (n m : Nat) (v : List (Int × VV)) : (h.setI n v).ic m = if m = n then some v else h.ic m := rfl
theorem newC_cls (h : VH) (c m : Nat) : (h.newC c).cls m = if m = h.nxt then some c else h.cls m := rfl
theorem newC_fld (h : VH) (c m g : Nat) : (h.newC c).fld m g = if m = h.nxt then none else h.fld m g := by
  show upd h.fld h.nxt (fun _ => none) m g = _
  unfold upd
  split <;> rfl
theorem newC_lst (h : VH) (c : Nat) : (h.newC c).lst = h.lst := rfl
theorem newC_tup (h : VH) (c : Nat) : (h.newC c).tup = h.tup := rfl
theorem newC_sd (h : VH) (c : Nat) : (h.newC c).sd = h.sd := rfl
theorem newC_ic (h : VH) (c : Nat) : (h.newC c).ic = h.ic := rfl
theorem newC_nxt (h : VH) (c : Nat) : (h.newC c).nxt = h.nxt + 1 := rfl
theorem newL_cls (h : VH) (v : List VV) : (h.newL v).cls = h.cls := rfl
theorem newL_fld (h : VH) (v : List VV) : (h.newL v).fld = h.fld := rfl
theorem newL_tup (h : VH) (v : List VV) : (h.newL v).tup = h.tup := rfl
theorem newL_sd (h : VH) (v : List VV) : (h.newL v).sd = h.sd := rfl
theorem newL_ic (h : VH) (v : List VV) : (h.newL v).ic = h.ic := rfl
theorem newL_nxt (h : VH) (v : List VV) : (h.newL v).nxt = h.nxt + 1 := rfl
theorem newL_lst (h : VH) (m : Nat) (v : List VV) : (h.newL v).lst m = if m = h.nxt then some v else h.lst m := rfl
theorem newT_cls (h : VH) (v : List VV) : (h.newT v).cls = h.cls := rfl
theorem newT_fld (h : VH) (v : List VV) : (h.newT v).fld = h.fld := rfl
theorem newT_lst (h : VH) (v : List VV) : (h.newT v).lst = h.lst := rfl
theorem newT_sd (h : VH) (v : List VV) : (h.newT v).sd = h.sd := rfl
theorem newT_ic (h : VH) (v : List VV) : (h.newT v).ic = h.ic := rfl
theorem newT_nxt (h : VH) (v : List VV) : (h.newT v).nxt = h.nxt + 1 := rfl
theorem newT_tup (h : VH) (m : Nat) (v : List VV) : (h.newT v).tup m = if m = h.nxt then some v else h.tup m := rfl
theorem newS_cls (h : VH) (v : List (Nat × VV)) : (h.newS v).cls = h.cls := rfl
theorem newS_fld (h : VH) (v : List (Nat × VV)) : (h.newS v).fld = h.fld := rfl
theorem newS_lst (h : VH) (v : List (Nat × VV)) : (h.newS v).lst = h.lst := rfl
theorem newS_tup (h : VH) (v : List (Nat × VV)) : (h.newS v).tup = h.tup := rfl
theorem newS_ic (h : VH) (v : List (Nat × VV)) : (h.newS v).ic = h.ic := rfl
theorem newS_nxt (h : VH) (v : List (Nat × VV)) : (h.newS v).nxt = h.nxt + 1 := rfl
theorem newS_sd (h : VH) (m : Nat) (v : List (Nat × VV)) : (h.newS v).sd m = if m = h.nxt then some v else h.sd m := rfl
theorem newI_cls (h : VH) (v : List (Int × VV)) : (h.newI v).cls = h.cls := rfl
theorem newI_fld (h : VH) (v : List (Int × VV)) : (h.newI v).fld = h.fld := rfl
theorem newI_lst (h : VH) (v : List (Int × VV)) : (h.newI v).lst = h.lst := rfl
theorem newI_tup (h : VH) (v : List (Int × VV)) : (h.newI v).tup = h.tup := rfl
theorem newI_sd (h : VH) (v : List (Int × VV)) : (h.newI v).sd = h.sd := rfl
theorem newI_nxt (h : VH) (v : List (Int × VV)) : (h.newI v).nxt = h.nxt + 1 := rfl
theorem newI_ic (h : VH) (m : Nat) (v : List (Int × VV)) : (h.newI v).ic m = if m = h.nxt then some v else h.ic m := rfl

theorem vF_of {n f : Nat} {vs : List VV} {h h' : VH} {b : PSs} {fl : VFl} {l' : Loc} (h1 : f ≠ f_RemoteIds_fresh) (h2 : f ≠ f_RemoteIds_frames) (hb : fbd f = some b) (hl : (fps f).length = (fillV f vs).length)
    (e : vSs (vF n) b (bindL (fps f) (fillV f vs)) h = some (fl, l', h')) : vF (n + 1) f vs h = some (flV fl, h') := by
  show (if f = f_RemoteIds_fresh then _ else if f = f_RemoteIds_frames then _ else _) = _
  rw [if_neg h1, if_neg h2]
  have e' : (match fbd f with
    | some b => if (fps f).length = (fillV f vs).length then (vSs (vF n) b (bindL (fps f) (fillV f vs)) h).map fun (fl, _, h) => (match fl with | .ret v => v | .next => .none, h) else none
    | none => none) = some (flV fl, h') := by
    rw [hb]
    dsimp only
    rw [if_pos hl, e]
    cases fl <;> rfl
  exact e'

theorem vF_run {n f : Nat} {vs : List VV} {v : VV} {h h' : VH} {b : PSs} (h1 : f ≠ f_RemoteIds_fresh) (h2 : f ≠ f_RemoteIds_frames) (hb : fbd f = some b) (hl : (fps f).length = (fillV f vs).length)
    (e : ((vSs (vF n) b (bindL (fps f) (fillV f vs)) h).map fun r => (flV r.1, r.2.2)) = some (v, h')) : vF (n + 1) f vs h = some (v, h') := by
  obtain ⟨⟨fl, l', h2'⟩, e1, e2⟩ := Option.map_eq_some_iff.mp e
  cases e2
  exact vF_of h1 h2 hb hl e1

theorem vF_go {n f : Nat} {vs : List VV} {v : VV} {h h' : VH} {b : PSs} (h1 : f ≠ f_RemoteIds_fresh) (h2 : f ≠ f_RemoteIds_frames) (h3 : f ≠ f_Rtt_init) (hb : fbd f = some b) (hl : (fps f).length = vs.length)
    (e : ((vSs (vF n) b (bindL (fps f) vs) h).map fun r => (flV r.1, r.2.2)) = some (v, h')) : vF (n + 1) f vs h = some (v, h') := by
  have hf : fillV f vs = vs := by
    unfold fillV
    rw [if_neg fun q => h3 q.1]
  exact vF_run h1 h2 hb (by rw [hf]; exact hl) (by rw [hf]; exact e)

end Mine
end
section
namespace Mine

section
variable {cl : Caller} {l l1 l2 : Loc} {h h1 h2 h3 : VH} {e e1 e2 e3 : PE} {es : PEs} {s : PS} {ss A B : PSs} {v v1 v2 : VV} {vs : List VV} {n n2 c f g op x k : Nat} {b : Bool} {t : PT} {fl : VFl}

set_option tactic.hygienic false
theorem X_asgT {ts : List PT} (a : vEs cl l es h = some (vs, h1)) (len : (ts.length == vs.length) = true) (z : ts.all PT.isName = false) (d : vAsgs cl (ts.zip vs) l (h1.newT vs) = some (l2, h2)) : vS cl (.asgT ts (.tup es)) l h = some (.next, l2, h2) := by
  show (vE cl l (.tup es) h).bind _ = _
  rw [E_tup a]
  show ((h1.newT vs).tup h1.nxt).bind _ = _
  simp only [Option.bind_some, newT_tup, if_true, if_pos (eq_of_beq len), z, Bool.false_eq_true, if_false, d, Option.map_some]
theorem X_asgN {y : Nat} (a : vEs cl l es h = some ([v, v1], h1)) : vS cl (.asgT [.name x, .name y] (.tup es)) l h = some (.next, upd (upd l y (some v1)) x (some v), h1.newT [v, v1]) := by
  show (vE cl l (.tup es) h).bind _ = _
  rw [E_tup a]
  show ((h1.newT [v, v1]).tup h1.nxt).bind _ = _
  rw [newT_tup, if_pos rfl]
  rfl
theorem F_hit : (h.setF n f v).fld n f = some v := by
  rw [setF_fld, if_pos rfl, if_pos rfl]
set_option tactic.hygienic true
theorem F_miss (hn : (g == f) = false) (a : h.fld n2 g = some v1) : (h.setF n f v).fld n2 g = some v1 := by
  rw [setF_fld]
  split
  · rename_i q
    rw [if_neg (by simpa using hn), ← q]; exact a
  · exact a
set_option tactic.hygienic false
theorem F_other (hn : n2 ≠ n) (a : h.fld n2 g = some v1) : (h.setF n f v).fld n2 g = some v1 := by
  rw [setF_fld, if_neg hn]; exact a
theorem C_newC (a : h.cls n = some c) (hn : n ≠ h.nxt) : (h.newC g).cls n = some c := by
  rw [newC_cls, if_neg hn]; exact a
theorem C_new : (h.newC g).cls h.nxt = some g := by
  rw [newC_cls, if_pos rfl]
theorem L_hit : (h.newL vs).lst h.nxt = some vs := by
  rw [newL_lst, if_pos rfl]
theorem L_miss {w : List VV} (hn : n ≠ h.nxt) (a : h.lst n = some w) : (h.newL vs).lst n = some w := by
  rw [newL_lst, if_neg hn]; exact a
theorem Ls_hit : (h.setL n vs).lst n = some vs := by
  rw [setL_lst, if_pos rfl]
theorem D_hit {w : List (Nat × VV)} : (h.setS n w).sd n = some w := by
  rw [setS_sd, if_pos rfl]

theorem Q_str {y : Nat} (q : (x == y) = b) : vCmp 0 (.str x) (.str y) h = some b := by subst q; rfl
theorem Qn_str {y : Nat} {b2 : Bool} (q : (x == y) = b) (q2 : (!b) = b2) : vCmp 1 (.str x) (.str y) h = some b2 := by subst q q2; rfl
theorem Q_bytes {y z : List Int} (q : (y == z) = b) : vCmp 0 (.bytes y) (.bytes z) h = some b := by subst q; rfl
theorem Qn_bytes {y z : List Int} {b2 : Bool} (q : (y == z) = b) (q2 : (!b) = b2) : vCmp 1 (.bytes y) (.bytes z) h = some b2 := by subst q q2; rfl
theorem Q_int {y z : Int} (q : (y == z) = b) : vCmp 0 (.int y) (.int z) h = some b := by subst q; rfl
theorem Qn_int {y z : Int} {b2 : Bool} (q : (y == z) = b) (q2 : (!b) = b2) : vCmp 1 (.int y) (.int z) h = some b2 := by subst q q2; rfl
theorem Q_gt {y z : Int} (q : decide (z < y) = b) : vCmp 4 (.int y) (.int z) h = some b := by subst q; rfl
theorem Q_lt {y z : Int} (q : decide (y < z) = b) : vCmp 2 (.int y) (.int z) h = some b := by subst q; rfl
theorem Q_le {y z : Int} (q : decide (y ≤ z) = b) : vCmp 3 (.int y) (.int z) h = some b := by subst q; rfl
theorem Q_in {w : List VV} (o : h.lst n = some w) (q : inL v w = some b) : vCmp 8 v (.ref n) h = some b := by
  show isMem v n h = _
  unfold isMem
  rw [o]
  exact q
theorem Q_nin {w : List VV} {b2 : Bool} (o : h.lst n = some w) (q : inL v w = some b) (q2 : (!b) = b2) : vCmp 9 v (.ref n) h = some b2 := by
  subst q2
  show (isMem v n h).map _ = _
  unfold isMem
  rw [o]
  show (inL v w).map _ = _
  rw [q]
  rfl
theorem Q_inS {w : List (Nat × VV)} (o1 : h.lst n = none) (o : h.sd n = some w) (q : hasK x w = b) : vCmp 8 (.str x) (.ref n) h = some b := by
  show isMem _ n h = _
  unfold isMem
  rw [o1, o, ← q]
theorem Q_ninS {w : List (Nat × VV)} {b2 : Bool} (o1 : h.lst n = none) (o : h.sd n = some w) (q : hasK x w = b) (q2 : (!b) = b2) : vCmp 9 (.str x) (.ref n) h = some b2 := by
  subst q2
  show (isMem _ n h).map _ = _
  unfold isMem
  rw [o1, o, ← q]
  rfl
theorem Q_isN {i : Nat} : vCmp 6 (.ref i) .none h = some false := rfl
theorem Q_isN0 : vCmp 6 .none .none h = some true := rfl
theorem Q_noN {i : Nat} : vCmp 7 (.ref i) .none h = some true := rfl
theorem Q_noN0 : vCmp 7 .none .none h = some false := rfl
theorem Qn_bool {y z : Bool} {b2 : Bool} (q : (y == z) = b) (q2 : (!b) = b2) : vCmp 1 (.bool y) (.bool z) h = some b2 := by subst q q2; rfl
theorem B_max {y z : Int} : vBf 69 [.int y, .int z] h = some (.int (max y z), h) := rfl
theorem B_min {y z : Int} : vBf 68 [.int y, .int z] h = some (.int (min y z), h) := rfl
theorem B_len {w : List VV} (o : h.lst n = some w) : vBf 101 [.ref n] h = some (.int w.length, h) := by
  show lenR n h = _
  unfold lenR
  rw [o]
theorem N_add {y z : Int} : vBin 0 (.int y) (.int z) h = some (.int (y + z), h) := rfl
theorem N_sub {y z : Int} : vBin 1 (.int y) (.int z) h = some (.int (y - z), h) := rfl
theorem N_mod {y z : Int} (m : 0 < z) : vBin 4 (.int y) (.int z) h = some (.int (y % z), h) := by
  show (if 0 < z then some (y % z) else none).map (fun z => (VV.int z, h)) = _
  rw [if_pos m]
  rfl
theorem M_app {w : List VV} (o : h.lst n = some w) (len : w.length < 1000) : vBm 92 n [v] h = some (.none, h.setL n (w ++ [v])) := by
  show apV n v h = _
  unfold apV
  simp only [o, Option.bind_some, if_pos len]
theorem O_app {w : List VV} (o : h.lst n = some w) : bmOk 92 n h = true := by
  unfold bmOk
  simp [o]
theorem U_str {w : List (Nat × VV)} (o : h.sd n = some w) (q : look x w = some v) : vSub n (.str x) h = some v := by
  unfold vSub
  simp only [o, Option.bind_some, q]
theorem U_lst {w : List VV} {i : Int} (o : h.lst n = some w) (q : (if 0 ≤ i ∧ i < 1000 then w[i.toNat]? else none) = some v) : vSub n (.int i) h = some v := by
  unfold vSub
  simp only [o]
  exact q
theorem rep_list (k : Nat) (hk : (0 : Int) ≤ k ∧ (k : Int) ≤ 64) (z : Int) (g : VH) : vBin 2 (.ref g.nxt) (.int k) (g.newL [.int z]) = some (.ref (g.newL [.int z]).nxt, (g.newL [.int z]).newL (List.replicate k (.int z))) := by
  have e : (g.newL [.int z]).lst g.nxt = some [.int z] := L_hit
  show repV (.ref g.nxt) (.int k) (g.newL [.int z]) = _
  unfold repV
  simp only [e, if_pos hk, Int.toNat_natCast]
  try rfl
theorem ints_rep (z : Int) : ∀ k : Nat, intsOf (List.replicate k (.int z)) = some (List.replicate k z)
  | 0 => rfl
  | k + 1 => by
    rw [List.replicate_succ, List.replicate_succ]
    unfold intsOf
    rw [ints_rep z k]
    rfl
theorem rep_bytes (k : Nat) (hk : k ≤ 64) {z : Int} (z0 : 0 ≤ z) (z1 : z < 256) (g : VH) : vBf 141 [.ref g.nxt] (g.newL (List.replicate k (.int z))) = some (.bytes (List.replicate k z), g.newL (List.replicate k (.int z))) := by
  have e : (g.newL (List.replicate k (.int z))).lst g.nxt = some (List.replicate k (.int z)) := L_hit
  have c : (List.replicate k z).length ≤ 64 ∧ ∀ i ∈ List.replicate k z, 0 ≤ i ∧ i < 256 := ⟨by rw [List.length_replicate]; exact hk, fun i m => by rw [(List.mem_replicate.mp m).2]; exact ⟨z0, z1⟩⟩
  show bytR g.nxt _ = _
  unfold bytR
  simp only [e, ints_rep, Option.bind_some, if_pos c]
theorem go_of {o : Option (VFl × Loc × VH)} {l' : Loc} {h' h'' : VH} (a : o = some (fl, l', h'')) (q : flV fl = v) (w : h'' = h') : (o.map fun r => (flV r.1, r.2.2)) = some (v, h') := by
  subst q w
  rw [a]
  rfl
end
end Mine
end
section
namespace Mine

set_option tactic.hygienic false
theorem c_take {n bx bl : Nat} {is : List Int} {c m : Int} {h : VH} (hm : 0 < m) (h1 : h.lst bx = some [.ref bl, .int c]) (h2 : h.lst bl = some (is.map .int)) (hc : 0 ≤ c) (hc2 : c < 900) (hne : bl ≠ bx) :
    ∃ v, 0 ≤ v ∧ v < m ∧ vF (n + 1) 31 [.ref bx, .int m] h = some (.int v, h.setL bx [.ref bl, .int (c + 1)]) := by
  have hne' : bx ≠ bl := Ne.symm hne
  have g1 : (h.setL bx [.ref bl, .int (c + 1)]).lst bx = some [.ref bl, .int (c + 1)] := Ls_hit
  have g2 : (h.setL bx [.ref bl, .int (c + 1)]).lst bl = some (is.map .int) := by rw [setL_lst, if_neg hne]; exact h2
  have z0 : (0 : Int) ≤ 1 ∧ (1 : Int) < ([VV.ref bl, .int c].length : Int) ∧ (1 : Int) < 1000 := ⟨by decide, by show (1 : Int) < 2; decide, by decide⟩
  by_cases hlt : c + 1 ≤ is.length
  · have hk : c.toNat < is.length := by omega
    refine ⟨(is[c.toNat]'hk).natAbs % m, Int.emod_nonneg _ (by omega), Int.emod_lt_of_pos _ hm, ?_⟩
    refine vF_of (fl := .ret _) (by decide) (by decide) rfl rfl (l' := bindL (fps 31) [.ref bx, .int m]) ?_
    have e3 : c < 1000 := by omega
    have e4 : (is.map VV.int)[c.toNat]? = some (.int (is[c.toNat]'hk)) := by rw [List.getElem?_map, List.getElem?_eq_getElem hk]; rfl
    have z1 : (if 0 ≤ c + 1 - 1 ∧ c + 1 - 1 < 1000 then (is.map VV.int)[(c + 1 - 1).toNat]? else none) = some (.int (is[c.toNat]'hk)) := by
      rw [show c + 1 - 1 = c by omega, if_pos ⟨hc, e3⟩]; exact e4
    have z2 : decide (c + 1 ≤ ((is.map VV.int).length : Int)) = true := by rw [List.length_map]; exact decide_eq_true hlt
    unfold b_law_take
    repeat' (first | (with_reducible first | exact S_nil | apply S_cons | apply K_next | exact K_ret | apply X_asg | apply X_ret | apply X_if | apply If_t | apply If_f | apply E_loc | exact E_int | apply E_bf | apply E_bin | apply E_cmp | apply E_sub | exact Es_nil | apply Es_cons | exact N_add | exact N_sub | apply Q_le) | apply A_subL | apply U_lst | apply N_mod | exact h1 | exact g1 | exact g2 | exact B_len g2 | exact z0 | exact z1 | exact z2 | exact hm | (first | exact (rfl : _ = true) | exact (rfl : _ = false) | exact F_hit | (apply F_miss; · exact rfl) | exact C_new | exact L_hit | exact Ls_hit | exact D_hit | exact rfl | decide))
  · refine ⟨(7 * (c + 1) + (c + 1) / 4) % m, Int.emod_nonneg _ (by omega), Int.emod_lt_of_pos _ hm, ?_⟩
    refine vF_of (fl := .ret _) (by decide) (by decide) rfl rfl (l' := bindL (fps 31) [.ref bx, .int m]) ?_
    have z2 : decide (c + 1 ≤ ((is.map VV.int).length : Int)) = false := by rw [List.length_map]; exact decide_eq_false hlt
    unfold b_law_take
    repeat' (first | (with_reducible first | exact S_nil | apply S_cons | apply K_next | exact K_ret | apply X_asg | apply X_ret | apply X_if | apply If_t | apply If_f | apply E_loc | exact E_int | apply E_bf | apply E_bin | apply E_cmp | apply E_sub | exact Es_nil | apply Es_cons | exact N_add | exact N_sub | apply Q_le) | apply A_subL | apply U_lst | apply N_mod | exact h1 | exact g1 | exact g2 | exact B_len g2 | exact z0 | exact z1 | exact z2 | exact hm | (first | exact (rfl : _ = true) | exact (rfl : _ = false) | exact F_hit | (apply F_miss; · exact rfl) | exact C_new | exact L_hit | exact Ls_hit | exact D_hit | exact rfl | decide))
inductive PSt where
  | un | pr | tr (d : Int)
noncomputable def stV : PSt → VV
  | .un => .str 173
  | .pr => .str 146
  | .tr _ => .str 174
noncomputable def stN : PSt → Nat
  | .un => 173
  | .pr => 146
  | .tr _ => 174
theorem stV_eq (s : PSt) : stV s = .str (stN s) := by cases s <;> rfl
noncomputable def dat (d : Int) : List Int := List.replicate 8 d
noncomputable def chV : PSt → List VV
  | .tr d => [.bytes (dat d)]
  | _ => []
structure AP where
  ref : Nat
  a : Nat
  st : PSt
noncomputable def pref (p : AP) : VV := .ref p.ref

structure PathAt (Ls : List Nat) (h : VH) (p : AP) : Prop where
  lt : p.ref < h.nxt
  cls : h.cls p.ref = some 114
  adr : h.fld p.ref 25 = some (.str p.a)
  st : h.fld p.ref 26 = some (stV p.st)
  rcd : ∃ r, h.fld p.ref 28 = some (.int r)
  more : h.fld p.ref 32 = some (.bool false)
  ch : ∃ c, c < h.nxt ∧ h.fld p.ref 30 = some (.ref c) ∧ h.lst c = some (chV p.st) ∧ c ∉ Ls

theorem PathAt.keep {Ls F L D I : List Nat} {h h' : VH} {p : AP} (x : PathAt Ls h p) (k : Keep F L D I h h') (hF : p.ref ∉ F) (hL : ∀ r ∈ L, r ∈ Ls) : PathAt Ls h' p := by
  have e := k.fld _ x.lt hF
  obtain ⟨c, c1, c2, c3, c4⟩ := x.ch
  exact ⟨Nat.lt_of_lt_of_le x.lt k.nxt, (k.cls _ x.lt).trans x.cls, by rw [e]; exact x.adr, by rw [e]; exact x.st, by rw [e]; exact x.rcd, by rw [e]; exact x.more,
    c, Nat.lt_of_lt_of_le c1 k.nxt, by rw [e]; exact c2, (k.lst c c1 fun m => c4 (hL c m)).trans c3, c4⟩

noncomputable def found : Option AP → VV
  | some p => .ref p.ref
  | none => .none
noncomputable def seek (a : Nat) (ps : List AP) : Option AP := ps.find? fun p => p.a == a

structure PathsAt (Ls : List Nat) (h : VH) (pa kl : Nat) (ps : List AP) (act : AP) (hi : Int) : Prop where
  lt : pa < h.nxt
  klt : kl < h.nxt
  cls : h.cls pa = some 125
  role : h.fld pa 33 = some (.str 142)
  may : h.fld pa 34 = some (.bool true)
  known : h.fld pa 18 = some (.ref kl)
  active : h.fld pa 35 = some (.ref act.ref)
  high : h.fld pa 37 = some (.int hi)
  lst : h.lst kl = some (ps.map pref)
  each : ∀ p ∈ ps, PathAt Ls h p
  nod : (ps.map (·.ref)).Nodup
  nod2 : (ps.map (·.a)).Nodup
  act : act ∈ ps
  adrs : ∀ p ∈ ps, p.a = 64 ∨ p.a = 65 ∨ p.a = 66

theorem PathsAt.keep {Ls F L D I : List Nat} {h h' : VH} {pa kl : Nat} {ps : List AP} {act : AP} {hi : Int} (x : PathsAt Ls h pa kl ps act hi) (k : Keep F L D I h h') (hF : pa ∉ F) (hP : ∀ p ∈ ps, p.ref ∉ F) (hk : kl ∉ L) (hL : ∀ r ∈ L, r ∈ Ls) : PathsAt Ls h' pa kl ps act hi := by
  have e := k.fld _ x.lt hF
  exact ⟨Nat.lt_of_lt_of_le x.lt k.nxt, Nat.lt_of_lt_of_le x.klt k.nxt, (k.cls _ x.lt).trans x.cls, by rw [e]; exact x.role, by rw [e]; exact x.may, by rw [e]; exact x.known, by rw [e]; exact x.active, by rw [e]; exact x.high,
    (k.lst _ x.klt hk).trans x.lst, fun p hp => (x.each p hp).keep k (hP p hp) hL, x.nod, x.nod2, x.act, x.adrs⟩

noncomputable def b_pof : PSs := (.cons (.ifs (.cmp 0 (.attr (.loc 84) 25) (.loc 25)) (.cons (.ret (.loc 84)) .nil) .nil) .nil)
theorem loop_path_of {cl : Caller} {h : VH} {a : Nat} {chk : VH → Bool} (hc : chk h = true) : ∀ (ps : List AP) (l : Loc), l 25 = some (.str a) → (∀ p ∈ ps, h.cls p.ref = some 114 ∧ h.fld p.ref 25 = some (.str p.a)) →
    ∃ l', loopV (vSs cl b_pof) chk 84 (ps.map pref) l h = some (match seek a ps with | some p => .ret (.ref p.ref) | none => .next, l', h) ∧ l' 25 = some (.str a)
  | [], l, hl, _ => ⟨l, rfl, hl⟩
  | p :: ps, l, hl, hp => by
    obtain ⟨c1, c2⟩ := hp p (.head _)
    rw [List.map_cons]
    have hu : upd l 84 (some (pref p)) 25 = some (.str a) := by simp [upd, hl]
    have hu2 : upd l 84 (some (pref p)) 84 = some (.ref p.ref) := by simp [upd, pref]
    by_cases e : p.a = a
    · have hs : seek a (p :: ps) = some p := by simp [seek, e]
      rw [hs]
      refine ⟨upd l 84 (some (pref p)), ?_, hu⟩
      have e' : (p.a == a) = true := by simp [e]
      have step : vSs cl b_pof (upd l 84 (some (pref p))) h = some (.ret (.ref p.ref), upd l 84 (some (pref p)), h) := by
        unfold b_pof
        repeat' (first | (with_reducible first | exact S_nil | apply S_cons | apply K_next | exact K_ret | apply X_ret | apply X_if | apply If_t | apply If_f | apply E_loc | apply E_attr | apply E_cmp | apply Q_str) | exact hu | exact hu2 | exact c1 | exact c2 | exact e' | (first | exact (rfl : _ = true) | exact (rfl : _ = false) | exact F_hit | (apply F_miss; · exact rfl) | exact C_new | exact L_hit | exact Ls_hit | exact D_hit | exact rfl | decide))
      exact loop_ret step
    · have hs : seek a (p :: ps) = seek a ps := by simp [seek, e]
      obtain ⟨l', e1, e2⟩ := loop_path_of (cl := cl) hc ps (upd l 84 (some (pref p))) hu fun q hq => hp q (.tail _ hq)
      rw [hs]
      refine ⟨l', ?_, e2⟩
      have e' : (p.a == a) = false := by simp [e]
      have step : vSs cl b_pof (upd l 84 (some (pref p))) h = some (.next, upd l 84 (some (pref p)), h) := by
        unfold b_pof
        repeat' (first | (with_reducible first | exact S_nil | apply S_cons | apply K_next | exact K_ret | apply X_ret | apply X_if | apply If_t | apply If_f | apply E_loc | apply E_attr | apply E_cmp | apply Q_str) | exact hu | exact hu2 | exact c1 | exact c2 | exact e' | (first | exact (rfl : _ = true) | exact (rfl : _ = false) | exact F_hit | (apply F_miss; · exact rfl) | exact C_new | exact L_hit | exact Ls_hit | exact D_hit | exact rfl | decide))
      exact loop_next step hc e1

section
variable {Ls : List Nat} {h : VH} {pa kl : Nat} {ps : List AP} {act : AP} {hi : Int}
set_option tactic.hygienic false
theorem c_path_of (n : Nat) (x : PathsAt Ls h pa kl ps act hi) (a : Nat) : vF (n + 1) 24 [.ref pa, .str a] h = some (found (seek a ps), h) := by
  refine vF_go (by decide) (by decide) (by decide) rfl rfl ?_
  obtain ⟨l', e1, e2⟩ := loop_path_of (cl := vF n) (h := h) (a := a) (chk := fun h' => h'.ver kl == h.ver kl) (by simp) ps (bindL [73, 25] [.ref pa, .str a]) rfl fun p hp => ⟨(x.each p hp).cls, (x.each p hp).adr⟩
  have hs : bindL (fps 24) [.ref pa, .str a] 73 = some (.ref pa) := rfl
  have st : vS (vF n) (.forL 84 (.attr (.loc 73) 18) b_pof) (bindL (fps 24) [.ref pa, .str a]) h = some (match seek a ps with | some p => .ret (.ref p.ref) | none => .next, l', h) := by
    exact X_forL (E_attr (E_loc hs) x.cls x.known) x.lst e1
  show ((vSs (vF n) (.cons (.forL 84 (.attr (.loc 73) 18) b_pof) (.cons (.ret (.none)) .nil)) (bindL (fps 24) [.ref pa, .str a]) h).map fun r => (flV r.1, r.2.2)) = _
  cases e : seek a ps with
  | none =>
    rw [e] at st
    exact go_of (S_cons st (K_next (S_cons (X_ret E_none) K_ret))) rfl rfl
  | some p =>
    rw [e] at st
    exact go_of (S_cons st K_ret) rfl rfl

theorem c_is_proven (n : Nat) {p s : Nat} {c : Nat} (hc : h.cls p = some c) (hs : h.fld p 26 = some (.str s)) : vF (n + 1) 18 [.ref p] h = some (.bool (s == 146), h) := by
  refine vF_go (by decide) (by decide) (by decide) rfl rfl ?_
  apply go_of
  unfold b_Path_is_proven
  repeat' (first | (with_reducible first | apply S_cons | exact K_ret | apply X_ret | apply E_loc | apply E_glb | apply E_attr | apply E_cmp | apply Q_str) | exact hc | exact hs | (first | exact (rfl : _ = true) | exact (rfl : _ = false) | exact F_hit | (apply F_miss; · exact rfl) | exact C_new | exact L_hit | exact Ls_hit | exact D_hit | exact rfl | decide))
theorem PathsAt.short (x : PathsAt Ls h pa kl ps act hi) : ps.length ≤ 67 := by
  have := nodup_lt 67 (ps.map (·.a)) x.nod2 fun i m => by
    obtain ⟨p, hp, rfl⟩ := List.mem_map.mp m
    rcases x.adrs p hp with e | e | e <;> omega
  simpa using this
theorem seek_none {a : Nat} {ps : List AP} (e : seek a ps = none) : ∀ p ∈ ps, p.a ≠ a := fun p hp q => by
  have := List.find?_eq_none.mp e p hp
  simp [q] at this
theorem seek_some {a : Nat} {ps : List AP} {p : AP} (e : seek a ps = some p) : p ∈ ps ∧ p.a = a := by
  have h1 := List.mem_of_find?_eq_some e
  have h2 := List.find?_some e
  exact ⟨h1, by simpa using h2⟩
theorem seek_app {a : Nat} {ps : List AP} {p : AP} (e : seek a ps = none) (h : p.a = a) : seek a (ps ++ [p]) = some p := by
  unfold seek at *
  rw [List.find?_append, e]
  simp [h]

noncomputable def pathH (p a : Nat) (h : VH) : VH :=
  ((((((((h.setF p 25 (.str a)).setF p 26 (.str 173)).setF p 27 (.bool false)).setF p 28 (.int 0)).setF p 29 (.int 0)).newL []).setF p 30 (.ref h.nxt)).setF p 31 .none).setF p 32 (.bool false)
theorem c_Path_init (n : Nat) {p a c : Nat} (hc : h.cls p = some c) : vF (n + 1) 17 [.ref p, .str a, .bool false] h = some (.none, pathH p a h) := by
  refine vF_go (by decide) (by decide) (by decide) rfl rfl ?_
  apply go_of
  unfold b_Path_init
  repeat' (first | (with_reducible first | exact S_nil | apply S_cons | apply K_next | apply X_asg | apply A_attr | apply E_loc | exact E_none | exact E_int | exact E_bool | apply E_glb | apply E_ife | apply Ie_f | apply E_list | exact Es_nil) | exact hc | (first | exact (rfl : _ = true) | exact (rfl : _ = false) | exact F_hit | (apply F_miss; · exact rfl) | exact C_new | exact L_hit | exact Ls_hit | exact D_hit | exact rfl | decide))

theorem c_opened (n : Nat) (x : PathsAt Ls h pa kl ps act hi) {a : Nat} (ha : a = 64 ∨ a = 65 ∨ a = 66) (hkl : kl ∈ Ls) (hLs : ∀ r ∈ Ls, r < h.nxt) :
    ∃ ps' p h', vF (n + 2) 25 [.ref pa, .str a] h = some (.ref p.ref, h') ∧ PathsAt Ls h' pa kl ps' act hi ∧ seek a ps' = some p ∧ ((ps' = ps ∧ h' = h) ∨ (seek a ps = none ∧ ps' = ps ++ [p] ∧ p = ⟨h.nxt, a, .un⟩)) ∧ Keep [] [kl] [] [] h h' := by
  have hp := c_path_of n x a
  cases e : seek a ps with
  | some p =>
    rw [e] at hp
    refine ⟨ps, p, h, ?_, x, e, .inl ⟨rfl, rfl⟩, .refl⟩
    refine vF_go (by decide) (by decide) (by decide) rfl rfl ?_
    have hp' : vF (n + 1) 24 [.ref pa, .str a] h = some (.ref p.ref, h) := hp
    apply go_of
    unfold b_Paths_opened
    repeat' (first | (with_reducible first | exact S_nil | apply S_cons | apply K_next | exact K_ret | apply X_asg | apply X_ret | apply X_expr | apply X_if | apply If_t | apply If_f | exact A_name | apply E_loc | exact E_none | exact E_bool | apply E_attr | apply E_meth | apply E_new | apply E_bm | apply E_cmp | exact Es_nil | apply Es_cons | exact Q_isN | exact Q_isN0 | apply M_app) | exact x.cls | with_reducible exact hp' | (first | exact (rfl : _ = true) | exact (rfl : _ = false) | exact F_hit | (apply F_miss; · exact rfl) | exact C_new | exact L_hit | exact Ls_hit | exact D_hit | exact rfl | decide))
  | none =>
    rw [e] at hp
    have hp' : vF (n + 1) 24 [.ref pa, .str a] h = some (.none, h) := hp
    have hi' : vF (n + 1) 17 [.ref h.nxt, .str a, .bool false] (h.newC 114) = some (.none, pathH h.nxt a (h.newC 114)) := c_Path_init n (c := 114) (by simp [newC_cls])
    have hne : pa ≠ h.nxt := Nat.ne_of_lt x.lt
    have hne2 : kl ≠ h.nxt := Nat.ne_of_lt x.klt
    have hne3 : kl ≠ h.nxt + 1 := Nat.ne_of_lt (Nat.lt_succ_of_lt x.klt)
    have hsh := x.short
    have K : Keep [] [kl] [] [] h ((pathH h.nxt a (h.newC 114)).setL kl (ps.map pref ++ [.ref h.nxt])) := by
      unfold pathH
      refine Keep.setL (.setF (.setF (.setF (.newL (.setF (.setF (.setF (.setF (.setF (.newC .refl) ?_) ?_) ?_) ?_) ?_)) ?_) ?_) ?_) (.inl (.head _)) ?_
      all_goals first | exact .inr (Nat.le_refl _) | skip
      simp [setF_nxt, newC_nxt, newL_nxt]
      exact Nat.lt_succ_of_lt (Nat.lt_succ_of_lt x.klt)
    have K2 : Keep [] [kl] [] [] h (pathH h.nxt a (h.newC 114)) := by
      unfold pathH
      refine .setF (.setF (.setF (.newL (.setF (.setF (.setF (.setF (.setF (.newC .refl) ?_) ?_) ?_) ?_) ?_)) ?_) ?_) ?_
      all_goals exact .inr (Nat.le_refl _)
    have fl : ∀ g, ((pathH h.nxt a (h.newC 114)).setL kl (ps.map pref ++ [.ref h.nxt])).fld pa g = h.fld pa g := fun g => by
      rw [setL_fld, K2.fld pa x.lt (fun m => nomatch m)]
    refine ⟨ps ++ [⟨h.nxt, a, .un⟩], ⟨h.nxt, a, .un⟩, (pathH h.nxt a (h.newC 114)).setL kl (ps.map pref ++ [.ref h.nxt]), ?_, ?_, seek_app e rfl, .inr ⟨rfl, rfl, rfl⟩, K⟩
    · refine vF_go (by decide) (by decide) (by decide) rfl rfl ?_
      have c1 : (pathH h.nxt a (h.newC 114)).fld pa 18 = some (.ref kl) := by rw [K2.fld pa x.lt (fun m => nomatch m)]; exact x.known
      have c2 : (pathH h.nxt a (h.newC 114)).cls pa = some 125 := by rw [K2.cls pa x.lt]; exact x.cls
      have c3 : (pathH h.nxt a (h.newC 114)).lst kl = some (ps.map pref) := by simp [setF_lst, setF_nxt, newC_lst, newC_nxt, newL_lst, pathH, hne2, hne3, x.lst]
      have hsh' : (ps.map pref).length < 1000 := by rw [List.length_map]; omega
      apply go_of
      unfold b_Paths_opened
      repeat' (first | (with_reducible first | exact S_nil | apply S_cons | apply K_next | exact K_ret | apply X_asg | apply X_ret | apply X_expr | apply X_if | apply If_t | apply If_f | exact A_name | apply E_loc | exact E_none | exact E_bool | apply E_attr | apply E_meth | apply E_new | apply E_bm | apply E_cmp | exact Es_nil | apply Es_cons | exact Q_isN | exact Q_isN0 | apply M_app) | exact x.cls | exact c1 | exact c2 | exact c3 | exact O_app c3 | exact hsh' | with_reducible exact hp' | with_reducible exact hi' | (first | exact (rfl : _ = true) | exact (rfl : _ = false) | exact F_hit | (apply F_miss; · exact rfl) | exact C_new | exact L_hit | exact Ls_hit | exact D_hit | exact rfl | decide))
    · refine ⟨Nat.lt_of_lt_of_le x.lt K.nxt, Nat.lt_of_lt_of_le x.klt K.nxt, (K.cls _ x.lt).trans x.cls, by rw [fl]; exact x.role, by rw [fl]; exact x.may, by rw [fl]; exact x.known, by rw [fl]; exact x.active, by rw [fl]; exact x.high, ?_, ?_, ?_, ?_, List.mem_append_left _ x.act, ?_⟩
      · simp [setL_lst, pref]
      · intro q hq
        rcases List.mem_append.mp hq with hq | hq
        · exact (x.each q hq).keep K (fun m => nomatch m) fun r m => by rw [List.mem_singleton.mp m]; exact hkl
        · rw [List.mem_singleton.mp hq]
          refine ⟨?_, ?_, ?_, ?_, ⟨0, ?_⟩, ?_, h.nxt + 1, ?_, ?_, ?_, ?_⟩
          · simp [setF_nxt, setL_nxt, newC_nxt, newL_nxt, pathH]; omega
          · simp [setF_cls, setL_cls, newC_cls, newC_nxt, newL_cls, pathH]
          · simp [setF_fld, setL_fld, newC_nxt, newL_fld, pathH]
          · simp [setF_fld, setL_fld, newC_nxt, newL_fld, pathH, stV]
          · simp [setF_fld, setL_fld, newC_nxt, newL_fld, pathH]
          · simp [setF_fld, setL_fld, newC_nxt, pathH]
          · simp [setF_nxt, setL_nxt, newC_nxt, newL_nxt, pathH]
          · simp [setF_fld, setL_fld, newC_nxt, pathH]
          · simp [setF_lst, setF_nxt, setL_lst, newC_nxt, newL_lst, pathH, chV, Ne.symm hne3]
          · intro m
            have := hLs _ m
            omega
      · rw [List.map_append]
        refine List.nodup_append.mpr ⟨x.nod, by simp, fun r hr s hs q => ?_⟩
        obtain ⟨q', hq', rfl⟩ := List.mem_map.mp hr
        have := (x.each q' hq').lt
        simp at hs
        omega
      · rw [List.map_append]
        refine List.nodup_append.mpr ⟨x.nod2, by simp, fun r hr s hs q => ?_⟩
        obtain ⟨q', hq', rfl⟩ := List.mem_map.mp hr
        simp at hs
        exact seek_none e q' hq' (q.trans hs)
      · intro q hq
        rcases List.mem_append.mp hq with hq | hq
        · exact x.adrs q hq
        · rw [List.mem_singleton.mp hq]; exact ha

end
end Mine
end
section
namespace Mine

noncomputable def re1 (q p : AP) : AP := if p.a = q.a then q else p
noncomputable def repl (q : AP) (ps : List AP) : List AP := ps.map (re1 q)
set_option tactic.hygienic false
theorem uniq_a {ps : List AP} (n : (ps.map (·.a)).Nodup) : ∀ {p q : AP}, p ∈ ps → q ∈ ps → p.a = q.a → p = q := by
  induction ps with
  | nil => intro p q h; cases h
  | cons r rs ih =>
    rw [List.map_cons] at n
    obtain ⟨n1, n2⟩ := List.nodup_cons.mp n
    intro p q hp hq e
    rcases List.mem_cons.mp hp with rfl | hp2
    · rcases List.mem_cons.mp hq with rfl | hq2
      · rfl
      · exact (n1 (List.mem_map.mpr ⟨q, hq2, e.symm⟩)).elim
    · rcases List.mem_cons.mp hq with rfl | hq2
      · exact (n1 (List.mem_map.mpr ⟨p, hp2, e⟩)).elim
      · exact ih n2 hp2 hq2 e
theorem uniq_ref {ps : List AP} (n : (ps.map (·.ref)).Nodup) : ∀ {p q : AP}, p ∈ ps → q ∈ ps → p.ref = q.ref → p = q := by
  induction ps with
  | nil => intro p q h; cases h
  | cons r rs ih =>
    rw [List.map_cons] at n
    obtain ⟨n1, n2⟩ := List.nodup_cons.mp n
    intro p q hp hq e
    rcases List.mem_cons.mp hp with rfl | hp2
    · rcases List.mem_cons.mp hq with rfl | hq2
      · rfl
      · exact (n1 (List.mem_map.mpr ⟨q, hq2, e.symm⟩)).elim
    · rcases List.mem_cons.mp hq with rfl | hq2
      · exact (n1 (List.mem_map.mpr ⟨p, hp2, e⟩)).elim
      · exact ih n2 hp2 hq2 e
set_option tactic.hygienic true
theorem repl_self {ps : List AP} {q : AP} (n : (ps.map (·.a)).Nodup) (h : q ∈ ps) : repl q ps = ps := by
  unfold repl
  have : ∀ p ∈ ps, re1 q p = p := fun p hp => by
    unfold re1
    split
    · rename_i e; exact (uniq_a n hp h e).symm
    · rfl
  rw [List.map_congr_left this, List.map_id']
set_option tactic.hygienic false
theorem repl_seek {q : AP} : ∀ {ps : List AP} {p : AP}, seek q.a ps = some p → seek q.a (repl q ps) = some q
  | [], _, h => by simp [seek] at h
  | r :: rs, p, h => by
    by_cases e : r.a = q.a
    · simp [seek, repl, re1, e]
    · have h' : seek q.a rs = some p := by
        unfold seek at h ⊢
        simpa [e] using h
      have ih := repl_seek (q := q) h'
      unfold seek repl at ih ⊢
      rw [List.map_cons, List.find?_cons_of_neg (by simp [re1, e])]
      exact ih
theorem repl_seek_ne {q : AP} {b : Nat} (hb : b ≠ q.a) : ∀ {ps : List AP}, seek b (repl q ps) = seek b ps
  | [] => rfl
  | r :: rs => by
    have ih := repl_seek_ne (q := q) hb (ps := rs)
    unfold seek repl at ih ⊢
    rw [List.map_cons]
    by_cases e : r.a = q.a
    · have h1 : ¬ r.a = b := fun z => hb (z.symm.trans e)
      have h2 : ¬ q.a = b := fun z => hb z.symm
      simp only [re1, e, if_true]
      rw [List.find?_cons_of_neg (by simp [h2]), List.find?_cons_of_neg (by simp [h1])]
      exact ih
    · simp only [re1, e, if_false]
      by_cases h1 : r.a = b
      · rw [List.find?_cons_of_pos (by simp [h1]), List.find?_cons_of_pos (by simp [h1])]
      · rw [List.find?_cons_of_neg (by simp [h1]), List.find?_cons_of_neg (by simp [h1])]
        exact ih
theorem repl_app {q p : AP} {ps : List AP} : repl q (ps ++ [p]) = repl q ps ++ [re1 q p] := by simp [repl]

section
variable {Ls : List Nat} {h h' : VH} {pa kl : Nat} {ps : List AP} {act : AP} {hi : Int}
set_option tactic.hygienic false
theorem PathsAt.ne (x : PathsAt Ls h pa kl ps act hi) {q : AP} (hq : q ∈ ps) : pa ≠ q.ref := fun e => by
  have := (x.each q hq).cls
  rw [← e, x.cls] at this
  cases this
set_option tactic.hygienic true
theorem PathsAt.put (x : PathsAt Ls h pa kl ps act hi) {q q' : AP} (hq : q ∈ ps) (e1 : q'.ref = q.ref) (e2 : q'.a = q.a) {L D I : List Nat} (k : Keep [q.ref] L D I h h') (hk : kl ∉ L) (hL : ∀ r ∈ L, r ∈ Ls) (y : PathAt Ls h' q') : PathsAt Ls h' pa kl (repl q' ps) (re1 q' act) hi := by
  have hm1 : ∀ p ∈ ps, (re1 q' p).ref = p.ref ∧ (re1 q' p).a = p.a := fun p hp => by
    unfold re1
    split
    · rename_i e
      have := uniq_a x.nod2 hp hq (e.trans e2)
      subst this
      exact ⟨e1, e2⟩
    · exact ⟨rfl, rfl⟩
  have r1 : (repl q' ps).map (·.ref) = ps.map (·.ref) := by
    unfold repl
    rw [List.map_map]
    exact List.map_congr_left fun p hp => (hm1 p hp).1
  have r2 : (repl q' ps).map (·.a) = ps.map (·.a) := by
    unfold repl
    rw [List.map_map]
    exact List.map_congr_left fun p hp => (hm1 p hp).2
  have r3 : (repl q' ps).map pref = ps.map pref := by
    unfold repl
    rw [List.map_map]
    exact List.map_congr_left fun p hp => congrArg VV.ref (hm1 p hp).1
  have e := k.fld _ x.lt fun m => x.ne hq (List.mem_singleton.mp m)
  refine ⟨Nat.lt_of_lt_of_le x.lt k.nxt, Nat.lt_of_lt_of_le x.klt k.nxt, (k.cls _ x.lt).trans x.cls, by rw [e]; exact x.role, by rw [e]; exact x.may, by rw [e]; exact x.known, by rw [e, (hm1 act x.act).1]; exact x.active, by rw [e]; exact x.high,
    by rw [k.lst _ x.klt hk, r3]; exact x.lst, fun p hp => ?_, by rw [r1]; exact x.nod, by rw [r2]; exact x.nod2, List.mem_map.mpr ⟨act, x.act, rfl⟩, fun p hp => ?_⟩
  · obtain ⟨p0, hp0, rfl⟩ := List.mem_map.mp hp
    unfold re1
    split
    · exact y
    · rename_i ne
      refine (x.each p0 hp0).keep k (fun m => ne ?_) hL
      rw [uniq_ref x.nod hp0 hq (List.mem_singleton.mp m)]
      exact e2.symm
  · obtain ⟨p0, hp0, rfl⟩ := List.mem_map.mp hp
    rw [(hm1 p0 hp0).2]
    exact x.adrs p0 hp0

set_option tactic.hygienic false
theorem c_on_received (n : Nat) {p c : Nat} {r s : Int} (hc : h.cls p = some c) (hr : h.fld p 28 = some (.int r)) : vF (n + 1) 19 [.ref p, .int s] h = some (.none, h.setF p 28 (.int (r + s))) := by
  refine vF_go (by decide) (by decide) (by decide) rfl rfl ?_
  apply go_of
  unfold b_Path_on_received
  repeat' (first | (with_reducible first | exact S_nil | apply S_cons | apply K_next | apply X_aug | apply E_loc) | exact hc | exact hr | (first | exact (rfl : _ = true) | exact (rfl : _ = false) | exact F_hit | (apply F_miss; · exact rfl) | exact C_new | exact L_hit | exact Ls_hit | exact D_hit | exact rfl | decide))

set_option tactic.hygienic true
theorem c_on_datagram (n : Nat) (x : PathsAt Ls h pa kl ps act hi) {a : Nat} {s : Int} (ha : a = 64 ∨ a = 65 ∨ a = 66) (hkl : kl ∈ Ls) (hLs : ∀ r ∈ Ls, r < h.nxt) :
    ∃ ps' p h', vF (n + 3) 26 [.ref pa, .str a, .int s] h = some (.ref p.ref, h') ∧ PathsAt Ls h' pa kl ps' act hi ∧ seek a ps' = some p ∧ (ps' = ps ∨ (seek a ps = none ∧ ps' = ps ++ [p] ∧ p = ⟨h.nxt, a, .un⟩)) ∧ Keep (ps.map (·.ref)) [kl] [] [] h h' := by
  obtain ⟨ps', p, h1, e1, x1, s1, or1, k1⟩ := c_opened n x ha hkl hLs
  have hp := seek_some s1
  obtain ⟨r, hr⟩ := (x1.each p hp.1).rcd
  have e0 := c_path_of (n + 1) x a
  have e2 := c_on_received (n + 1) (s := s) (x1.each p hp.1).cls hr
  have k2 : Keep [p.ref] [] [] [] h1 (h1.setF p.ref 28 (.int (r + s))) := .setF .refl (.inl (.head _))
  have y : PathAt Ls (h1.setF p.ref 28 (.int (r + s))) p := by
    have z := x1.each p hp.1
    obtain ⟨c, q1, q2, q3, q4⟩ := z.ch
    exact ⟨z.lt, z.cls, by simp [setF_fld, z.adr], by simp [setF_fld, z.st], ⟨r + s, by simp [setF_fld]⟩, by simp [setF_fld, z.more], c, q1, by simp [setF_fld, q2], q3, q4⟩
  have x2 := x1.put hp.1 rfl rfl k2 (fun m => nomatch m) (fun r m => nomatch m) y
  rw [repl_self x1.nod2 hp.1] at x2
  have ha' : re1 p act = act := by
    unfold re1
    split
    · rename_i e; exact (uniq_a x1.nod2 x1.act hp.1 e).symm
    · rfl
  rw [ha'] at x2
  refine ⟨ps', p, _, ?_, x2, s1, or1.imp (fun z => z.1) id, ?_⟩
  · refine vF_go (by decide) (by decide) (by decide) rfl rfl ?_
    have c1 := (x1.each p hp.1).cls
    have e2' : vF (n + 2) 19 [.ref p.ref, .int s] h1 = some (.none, h1.setF p.ref 28 (.int (r + s))) := e2
    have hrole : h.fld pa 33 = some (.str 142) := x.role
    cases hs : seek a ps with
    | none =>
      rw [hs] at e0
      have e0' : vF (n + 2) 24 [.ref pa, .str a] h = some (.none, h) := e0
      apply go_of
      unfold b_Paths_on_datagram
      repeat' (first | (with_reducible first | exact S_nil | apply S_cons | apply K_next | exact K_ret | apply X_asg | apply X_ret | apply X_expr | apply X_if | apply If_f | exact A_name | apply E_loc | exact E_none | exact E_str | apply E_attr | apply E_meth | apply E_cmp | apply E_and | apply E_or | apply E_not | exact Es_nil | apply Es_cons | apply V_one | apply V_cons | apply Vk_gt | apply Vk_gf | exact Vk_st | apply Q_str | exact Q_isN | exact Q_isN0) | exact x.cls | exact x.role | exact x.may | exact c1 | with_reducible exact e0' | with_reducible exact e1 | with_reducible exact e2' | (first | exact (rfl : _ = true) | exact (rfl : _ = false) | exact F_hit | (apply F_miss; · exact rfl) | exact C_new | exact L_hit | exact Ls_hit | exact D_hit | exact rfl | decide))
    | some p0 =>
      rw [hs] at e0
      have e0' : vF (n + 2) 24 [.ref pa, .str a] h = some (.ref p0.ref, h) := e0
      apply go_of
      unfold b_Paths_on_datagram
      repeat' (first | (with_reducible first | exact S_nil | apply S_cons | apply K_next | exact K_ret | apply X_asg | apply X_ret | apply X_expr | apply X_if | apply If_f | exact A_name | apply E_loc | exact E_none | exact E_str | apply E_attr | apply E_meth | apply E_cmp | apply E_and | apply E_or | apply E_not | exact Es_nil | apply Es_cons | apply V_one | apply V_cons | apply Vk_gt | apply Vk_gf | exact Vk_st | apply Q_str | exact Q_isN | exact Q_isN0) | exact x.cls | exact x.role | exact x.may | exact c1 | with_reducible exact e0' | with_reducible exact e1 | with_reducible exact e2' | (first | exact (rfl : _ = true) | exact (rfl : _ = false) | exact F_hit | (apply F_miss; · exact rfl) | exact C_new | exact L_hit | exact Ls_hit | exact D_hit | exact rfl | decide))
  · refine Keep.trans (k1.mono (fun r m => nomatch m) (fun r m => m) (fun r m => nomatch m) fun r m => nomatch m) k2 (fun r m => ?_) (fun r m => nomatch m) (fun r m => nomatch m) fun r m => nomatch m
    rw [List.mem_singleton.mp m]
    rcases or1 with ⟨rfl, _⟩ | ⟨_, _, rfl⟩
    · exact .inl (List.mem_map.mpr ⟨p, hp.1, rfl⟩)
    · exact .inr (Nat.le_refl _)
end
end Mine
end
section
namespace Mine

section
variable {Ls : List Nat} {h h' : VH} {pa kl : Nat} {ps : List AP} {act : AP} {hi : Int}

set_option tactic.hygienic false
theorem c_renew (n : Nat) {p c : Nat} {st : PSt} (hc : h.cls p = some c) (hs : h.fld p 26 = some (stV st)) : vF (n + 1) 22 [.ref p] h = some (.none, h) := by
  refine vF_go (by decide) (by decide) (by decide) rfl rfl ?_
  rw [stV_eq] at hs
  have q : (stN st == 175) = false := by cases st <;> rfl
  apply go_of
  unfold b_Path_renew
  repeat' (first | (with_reducible first | exact S_nil | apply S_cons | apply K_next | apply X_if | apply If_f | apply E_loc | apply E_glb | apply E_attr | apply E_cmp | apply Q_str) | exact hc | exact hs | exact q | (first | exact (rfl : _ = true) | exact (rfl : _ = false) | exact F_hit | (apply F_miss; · exact rfl) | exact C_new | exact L_hit | exact Ls_hit | exact D_hit | exact rfl | decide))

theorem PathsAt.own (x : PathsAt Ls h pa kl ps act hi) {f : Nat} {v : VV} (h1 : f ≠ 33) (h2 : f ≠ 34) (h3 : f ≠ 18) (h4 : f ≠ 35) (h5 : f ≠ 37) : PathsAt Ls (h.setF pa f v) pa kl ps act hi :=
  ⟨x.lt, x.klt, x.cls, by simp [setF_fld, Ne.symm h1, x.role], by simp [setF_fld, Ne.symm h2, x.may], by simp [setF_fld, Ne.symm h3, x.known], by simp [setF_fld, Ne.symm h4, x.active], by simp [setF_fld, Ne.symm h5, x.high], x.lst,
    fun p hp => (x.each p hp).keep (Keep.setF (F := [pa]) (L := []) (D := []) (I := []) .refl (.inl (.head _))) (fun m => x.ne hp (List.mem_singleton.mp m).symm) (fun r m => nomatch m), x.nod, x.nod2, x.act, x.adrs⟩
theorem PathsAt.setHigh (x : PathsAt Ls h pa kl ps act hi) {v : Int} : PathsAt Ls (h.setF pa 37 (.int v)) pa kl ps act v :=
  ⟨x.lt, x.klt, x.cls, by simp [setF_fld, x.role], by simp [setF_fld, x.may], by simp [setF_fld, x.known], by simp [setF_fld, x.active], by simp [setF_fld], x.lst,
    fun p hp => (x.each p hp).keep (Keep.setF (F := [pa]) (L := []) (D := []) (I := []) .refl (.inl (.head _))) (fun m => x.ne hp (List.mem_singleton.mp m).symm) (fun r m => nomatch m), x.nod, x.nod2, x.act, x.adrs⟩
theorem PathsAt.setAct (x : PathsAt Ls h pa kl ps act hi) {q : AP} (hq : q ∈ ps) : PathsAt Ls (h.setF pa 35 (.ref q.ref)) pa kl ps q hi :=
  ⟨x.lt, x.klt, x.cls, by simp [setF_fld, x.role], by simp [setF_fld, x.may], by simp [setF_fld, x.known], by simp [setF_fld], by simp [setF_fld, x.high], x.lst,
    fun p hp => (x.each p hp).keep (Keep.setF (F := [pa]) (L := []) (D := []) (I := []) .refl (.inl (.head _))) (fun m => x.ne hp (List.mem_singleton.mp m).symm) (fun r m => nomatch m), x.nod, x.nod2, hq, x.adrs⟩

noncomputable def moves (hi num : Int) (probe : Bool) (a b : Nat) : Bool := decide (hi < num) && !probe && !(a == b)
theorem c_on_packet (n : Nat) (x : PathsAt Ls h pa kl ps act hi) {a : Nat} {num : Int} {probe : Bool} {p : AP} (hs : seek a ps = some p) :
    ∃ h', vF (n + 3) 27 [.ref pa, .str a, .int num, .bool probe] h = some (.bool (moves hi num probe a act.a), h') ∧ PathsAt Ls h' pa kl ps (if moves hi num probe a act.a then p else act) (max hi num) ∧ Keep [pa] [] [] [] h h' := by
  have hp := seek_some hs
  have x1 : PathsAt Ls (h.setF pa 37 (.int (max hi num))) pa kl ps act (max hi num) := x.setHigh
  have e0 : vF (n + 2) 24 [.ref pa, .str a] (h.setF pa 37 (.int (max hi num))) = some (.ref p.ref, h.setF pa 37 (.int (max hi num))) := by
    have := c_path_of (n + 1) x1 a
    rw [hs] at this
    exact this
  have k1 : Keep [pa] [] [] [] h (h.setF pa 37 (.int (max hi num))) := .setF .refl (.inl (.head _))
  have g1 : (h.setF pa 37 (.int (max hi num))).fld p.ref 25 = some (.str a) := F_miss rfl (by rw [← hp.2]; exact (x.each p hp.1).adr)
  have g2 := (x1.each act x.act).adr
  by_cases hm : moves hi num probe a act.a = true
  · have hm' := hm
    simp only [moves, Bool.and_eq_true, Bool.not_eq_true'] at hm'
    obtain ⟨⟨m1, m2⟩, m3⟩ := hm'
    subst m2
    have hip : vF (n + 2) 18 [.ref act.ref] (h.setF pa 37 (.int (max hi num))) = some (.bool (stN act.st == 146), h.setF pa 37 (.int (max hi num))) := c_is_proven (n + 1) (x1.each act x.act).cls (by rw [← stV_eq]; exact (x1.each act x.act).st)
    rw [if_pos hm, hm]
    cases hv : (stN act.st == 146)
    · rw [hv] at hip
      refine ⟨_, ?_, x1.setAct hp.1, k1.setF (.inl (.head _))⟩
      have r1 : vF (n + 2) 22 [.ref p.ref] (h.setF pa 37 (.int (max hi num))) = some (.none, h.setF pa 37 (.int (max hi num))) := c_renew (n + 1) (x1.each p hp.1).cls (x1.each p hp.1).st
      refine vF_go (by decide) (by decide) (by decide) rfl rfl ?_
      apply go_of; unfold b_Paths_on_packet
      repeat' (first | (with_reducible first | exact S_nil | apply S_cons | apply K_next | exact K_ret | apply X_asg | apply X_ret | apply X_expr | apply X_if | apply If_t | apply If_f | exact A_name | apply A_attr | apply E_loc | exact E_str | exact E_bool | apply E_attr | apply E_meth | apply E_bf | apply E_cmp | apply E_or | apply E_not | exact Es_nil | apply Es_cons | apply V_one | apply V_cons | apply Vk_gf | exact Vk_sf | exact B_max | apply Q_str | apply Q_gt) | exact m3 | exact m1 | exact x.cls | exact x.high | exact x1.role | exact x1.active | with_reducible exact e0 | exact (x.each p hp.1).cls | exact (x.each act x.act).cls | exact g1 | exact g2 | with_reducible exact hip | with_reducible exact r1 | (first | exact (rfl : _ = true) | exact (rfl : _ = false) | exact F_hit | (apply F_miss; · exact rfl) | exact C_new | exact L_hit | exact Ls_hit | exact D_hit | exact rfl | decide))
    · rw [hv] at hip
      have x2 : PathsAt Ls ((h.setF pa 37 (.int (max hi num))).setF pa 36 (.ref act.ref)) pa kl ps act (max hi num) := x1.own (by decide) (by decide) (by decide) (by decide) (by decide)
      refine ⟨_, ?_, x2.setAct hp.1, (k1.setF (.inl (.head _))).setF (.inl (.head _))⟩
      have r1 : vF (n + 2) 22 [.ref p.ref] ((h.setF pa 37 (.int (max hi num))).setF pa 36 (.ref act.ref)) = some (.none, (h.setF pa 37 (.int (max hi num))).setF pa 36 (.ref act.ref)) := c_renew (n + 1) (x2.each p hp.1).cls (x2.each p hp.1).st
      refine vF_go (by decide) (by decide) (by decide) rfl rfl ?_
      apply go_of; unfold b_Paths_on_packet
      repeat' (first | (with_reducible first | exact S_nil | apply S_cons | apply K_next | exact K_ret | apply X_asg | apply X_ret | apply X_expr | apply X_if | apply If_t | apply If_f | exact A_name | apply A_attr | apply E_loc | exact E_str | exact E_bool | apply E_attr | apply E_meth | apply E_bf | apply E_cmp | apply E_or | apply E_not | exact Es_nil | apply Es_cons | apply V_one | apply V_cons | apply Vk_gf | exact Vk_sf | exact B_max | apply Q_str | apply Q_gt) | exact m3 | exact m1 | exact x.cls | exact x.high | exact x1.role | exact x1.active | with_reducible exact e0 | exact (x.each p hp.1).cls | exact (x.each act x.act).cls | exact g1 | exact g2 | with_reducible exact hip | with_reducible exact r1 | (first | exact (rfl : _ = true) | exact (rfl : _ = false) | exact F_hit | (apply F_miss; · exact rfl) | exact C_new | exact L_hit | exact Ls_hit | exact D_hit | exact rfl | decide))
  · have hmf : moves hi num probe a act.a = false := by simpa using hm
    refine ⟨h.setF pa 37 (.int (max hi num)), ?_, by rw [if_neg hm]; exact x1, k1⟩
    rw [hmf]
    refine vF_go (by decide) (by decide) (by decide) rfl rfl ?_
    cases m1 : decide (hi < num)
    · cases probe with
      | true =>
        apply go_of; unfold b_Paths_on_packet
        repeat' (first | (with_reducible first | exact S_nil | apply S_cons | apply K_next | exact K_ret | apply X_asg | apply X_ret | apply X_expr | apply X_if | apply If_t | apply If_f | exact A_name | apply A_attr | apply E_loc | exact E_str | exact E_bool | apply E_attr | apply E_meth | apply E_bf | apply E_cmp | apply E_or | apply E_not | exact Es_nil | apply Es_cons | apply V_one | apply V_cons | apply Vk_gf | exact Vk_sf | exact B_max | apply Q_str | apply Q_gt) | exact m1 | exact x.cls | exact x.high | exact x1.role | exact x1.active | with_reducible exact e0 | exact (x.each p hp.1).cls | exact (x.each act x.act).cls | exact g1 | exact g2 | (first | exact (rfl : _ = true) | exact (rfl : _ = false) | exact F_hit | (apply F_miss; · exact rfl) | exact C_new | exact L_hit | exact Ls_hit | exact D_hit | exact rfl | decide))
      | false =>
        apply go_of; unfold b_Paths_on_packet
        repeat' (first | (with_reducible first | exact S_nil | apply S_cons | apply K_next | exact K_ret | apply X_asg | apply X_ret | apply X_expr | apply X_if | apply If_t | apply If_f | exact A_name | apply A_attr | apply E_loc | exact E_str | exact E_bool | apply E_attr | apply E_meth | apply E_bf | apply E_cmp | apply E_or | apply E_not | exact Es_nil | apply Es_cons | apply V_one | apply V_cons | apply Vk_gf | exact Vk_sf | exact B_max | apply Q_str | apply Q_gt) | exact m1 | exact x.cls | exact x.high | exact x1.role | exact x1.active | with_reducible exact e0 | exact (x.each p hp.1).cls | exact (x.each act x.act).cls | exact g1 | exact g2 | (first | exact (rfl : _ = true) | exact (rfl : _ = false) | exact F_hit | (apply F_miss; · exact rfl) | exact C_new | exact L_hit | exact Ls_hit | exact D_hit | exact rfl | decide))
    · cases probe with
      | true =>
        apply go_of; unfold b_Paths_on_packet
        repeat' (first | (with_reducible first | exact S_nil | apply S_cons | apply K_next | exact K_ret | apply X_asg | apply X_ret | apply X_expr | apply X_if | apply If_t | apply If_f | exact A_name | apply A_attr | apply E_loc | exact E_str | exact E_bool | apply E_attr | apply E_meth | apply E_bf | apply E_cmp | apply E_or | apply E_not | exact Es_nil | apply Es_cons | apply V_one | apply V_cons | apply Vk_gf | exact Vk_sf | exact B_max | apply Q_str | apply Q_gt) | exact m1 | exact x.cls | exact x.high | exact x1.role | exact x1.active | with_reducible exact e0 | exact (x.each p hp.1).cls | exact (x.each act x.act).cls | exact g1 | exact g2 | (first | exact (rfl : _ = true) | exact (rfl : _ = false) | exact F_hit | (apply F_miss; · exact rfl) | exact C_new | exact L_hit | exact Ls_hit | exact D_hit | exact rfl | decide))
      | false =>
        have m3 : (a == act.a) = true := by simpa [moves, m1] using hmf
        apply go_of; unfold b_Paths_on_packet
        repeat' (first | (with_reducible first | exact S_nil | apply S_cons | apply K_next | exact K_ret | apply X_asg | apply X_ret | apply X_expr | apply X_if | apply If_t | apply If_f | exact A_name | apply A_attr | apply E_loc | exact E_str | exact E_bool | apply E_attr | apply E_meth | apply E_bf | apply E_cmp | apply E_or | apply E_not | exact Es_nil | apply Es_cons | apply V_one | apply V_cons | apply Vk_gf | exact Vk_sf | exact B_max | apply Q_str | apply Q_gt) | exact m3 | exact m1 | exact x.cls | exact x.high | exact x1.role | exact x1.active | with_reducible exact e0 | exact (x.each p hp.1).cls | exact (x.each act x.act).cls | exact g1 | exact g2 | (first | exact (rfl : _ = true) | exact (rfl : _ = false) | exact F_hit | (apply F_miss; · exact rfl) | exact C_new | exact L_hit | exact Ls_hit | exact D_hit | exact rfl | decide))

theorem c_wants (n : Nat) (x : PathsAt Ls h pa kl ps act hi) : vF (n + 1) 28 [.ref pa] h = some (match act.st with | .un => .ref act.ref | _ => .none, h) := by
  have hac := (x.each act x.act)
  have hs := hac.st
  refine vF_go (by decide) (by decide) (by decide) rfl rfl ?_
  have hc := hac.cls
  have hm := hac.more
  cases e : act.st <;> rw [e] at hs <;> simp only [stV] at hs <;> apply go_of <;> try unfold b_Paths_wants_challenge
  all_goals
  repeat' (first | (with_reducible first | apply S_cons | apply K_next | exact K_ret | apply X_asg | apply X_ret | exact A_name | apply E_loc | exact E_none | apply E_glb | apply E_attr | apply E_cmp | apply E_and | apply E_or | apply E_ife | apply Ie_t | apply Ie_f | apply V_one | apply V_cons | apply Vk_gt | apply Vk_gf | exact Vk_st | exact Vk_sf | apply Q_str) | exact x.cls | exact x.active | exact hc | exact hs | exact hm | (first | exact (rfl : _ = true) | exact (rfl : _ = false) | exact F_hit | (apply F_miss; · exact rfl) | exact C_new | exact L_hit | exact Ls_hit | exact D_hit | exact rfl | decide))

noncomputable def chalA (p : Nat) (dl : Int) (h : VH) : VH := (((h.setF p 26 (.str 174)).newL []).setF p 30 (.ref h.nxt)).setF p 31 (.int dl)
noncomputable def chalH (p : Nat) (bs : List Int) (dl : Int) (h : VH) : VH :=
  (((((h.setF p 26 (.str 174)).newL []).setF p 30 (.ref h.nxt)).setF p 31 (.int dl)).setL h.nxt [.bytes bs]).setF p 32 (.bool false)
theorem c_challenge (n : Nat) {q : AP} (y : PathAt Ls h q) (hst : q.st = .un) {d now wait : Int} (hLs : ∀ r ∈ Ls, r < h.nxt) :
    vF (n + 1) 21 [.ref q.ref, .bytes (dat d), .int now, .int wait] h = some (.none, chalH q.ref (dat d) (now + wait) h) ∧ PathAt Ls (chalH q.ref (dat d) (now + wait) h) ⟨q.ref, q.a, .tr d⟩ ∧ Keep [q.ref] [] [] [] h (chalH q.ref (dat d) (now + wait) h) := by
  have hs := y.st
  rw [hst] at hs
  refine ⟨?_, ?_, ?_⟩
  · refine vF_go (by decide) (by decide) (by decide) rfl rfl ?_
    have hs : h.fld q.ref 26 = some (.str 173) := hs
    have hn : ((chalA q.ref (now + wait) h)).lst h.nxt = some [] := by simp [setF_lst, setF_nxt, newL_lst, chalA]
    apply go_of
    unfold b_Path_challenge
    repeat' (first | (with_reducible first | exact S_nil | apply S_cons | apply K_next | apply X_asg | apply X_expr | apply X_if | apply If_t | apply A_attr | apply E_loc | exact E_bool | apply E_glb | apply E_attr | apply E_bm | apply E_bin | apply E_cmp | apply E_list | exact Es_nil | apply Es_cons | exact N_add | apply Qn_str | apply M_app) | exact y.cls | exact hs | exact hn | exact O_app hn | (first | exact (rfl : _ = true) | exact (rfl : _ = false) | exact F_hit | (apply F_miss; · exact rfl) | exact C_new | exact L_hit | exact Ls_hit | exact D_hit | exact rfl | decide))
  · exact ⟨by simp [setF_nxt, setL_nxt, newL_nxt, chalH]; exact Nat.lt_succ_of_lt y.lt, by simp [setF_cls, setL_cls, newL_cls, chalH, y.cls], by simp [setF_fld, setL_fld, newL_fld, chalH, y.adr], by simp [setF_fld, setL_fld, newL_fld, chalH, stV], by obtain ⟨r, hr⟩ := y.rcd; exact ⟨r, by simp [setF_fld, setL_fld, newL_fld, chalH, hr]⟩, by simp [setF_fld, chalH],
      h.nxt, by simp [setF_nxt, setL_nxt, newL_nxt, chalH], by simp [setF_fld, setL_fld, chalH], by simp [setF_lst, setL_lst, chalH, chV], fun m => by have := hLs _ m; omega⟩
  · unfold chalH
    refine .setF (.setL (.setF (.setF (.newL (.setF .refl (.inl (.head _)))) (.inl (.head _))) (.inl (.head _))) (.inr (Nat.le_refl _)) ?_) (.inl (.head _))
    simp [setF_nxt, newL_nxt]

noncomputable def proveH (p : Nat) (h : VH) : VH := (((((h.setF p 26 (.str 146)).setF p 27 (.bool true)).newL []).setF p 30 (.ref h.nxt)).setF p 31 .none).setF p 32 (.bool false)
theorem c_prove (n : Nat) {q : AP} (y : PathAt Ls h q) (hLs : ∀ r ∈ Ls, r < h.nxt) :
    vF (n + 1) 20 [.ref q.ref] h = some (.none, proveH q.ref h) ∧ PathAt Ls (proveH q.ref h) ⟨q.ref, q.a, .pr⟩ ∧ Keep [q.ref] [] [] [] h (proveH q.ref h) := by
  refine ⟨?_, ?_, ?_⟩
  · refine vF_go (by decide) (by decide) (by decide) rfl rfl ?_
    apply go_of
    unfold b_Path_prove
    repeat' (first | (with_reducible first | exact S_nil | apply S_cons | apply K_next | apply X_asg | apply A_attr | apply E_loc | exact E_none | exact E_bool | apply E_glb | apply E_list | exact Es_nil) | exact y.cls | (first | exact (rfl : _ = true) | exact (rfl : _ = false) | exact F_hit | (apply F_miss; · exact rfl) | exact C_new | exact L_hit | exact Ls_hit | exact D_hit | exact rfl | decide))
  · exact ⟨by simp [setF_nxt, newL_nxt, proveH]; exact Nat.lt_succ_of_lt y.lt, by simp [setF_cls, newL_cls, proveH, y.cls], by simp [setF_fld, newL_fld, proveH, y.adr], by simp [setF_fld, newL_fld, proveH, stV], by obtain ⟨r, hr⟩ := y.rcd; exact ⟨r, by simp [setF_fld, newL_fld, proveH, hr]⟩, by simp [setF_fld, proveH],
      h.nxt, by simp [setF_nxt, newL_nxt, proveH], by simp [setF_fld, proveH], by simp [setF_lst, setF_nxt, newL_lst, proveH, chV], fun m => by have := hLs _ m; omega⟩
  · unfold proveH
    exact .setF (.setF (.setF (.newL (.setF (.setF .refl (.inl (.head _))) (.inl (.head _)))) (.inl (.head _))) (.inl (.head _))) (.inl (.head _))
end
end Mine
end
section
namespace Mine

section
variable {Ls : List Nat} {h h' : VH} {pa kl : Nat} {ps : List AP} {act : AP} {hi : Int}
noncomputable def hit (bs : List Int) (p : AP) : Bool := match p.st with
  | .tr d => dat d == bs
  | _ => false
set_option tactic.hygienic false
theorem inL_hit (bs : List Int) (p : AP) : inL (.bytes bs) (chV p.st) = some (hit bs p) := by
  unfold hit chV
  cases p.st <;> simp [asB_bytes, inL, aeq]
noncomputable def takeH (pa : Nat) (act q : AP) (h : VH) : VH := if q.a = act.a then (proveH q.ref h).setF pa 36 (.ref q.ref) else proveH q.ref h
noncomputable def b_tr : PSs := (.cons (.ifs (.cmp 8 (.loc 95) (.attr (.loc 84) 30)) (.cons (.expr (.meth (.loc 84) 119 .nil)) (.cons (.ifs (.cmp 0 (.attr (.loc 84) 25) (.attr (.attr (.loc 73) 35) 25)) (.cons (.asg (.attr (.loc 73) 36) (.loc 84)) .nil) .nil) (.cons (.ret (.loc 84)) .nil))) .nil) .nil)
theorem loop_tr (n : Nat) (x : PathsAt Ls h pa kl ps act hi) (hLs : ∀ r ∈ Ls, r < h.nxt) {bs : List Int} {chk : VH → Bool} (hc : chk h = true) : ∀ (qs : List AP) (l : Loc), l 73 = some (.ref pa) → l 95 = some (.bytes bs) → (∀ p ∈ qs, p ∈ ps) →
    ∃ l', loopV (vSs (vF (n + 1)) b_tr) chk 84 (qs.map pref) l h = some (match qs.find? (hit bs) with | some q => .ret (.ref q.ref) | none => .next, l', match qs.find? (hit bs) with | some q => takeH pa act q h | none => h)
  | [], l, _, _, _ => ⟨l, rfl⟩
  | p :: qs, l, hl, hl2, hp => by
    have y := x.each p (hp p (.head _))
    have ne := x.ne (hp p (.head _))
    obtain ⟨c, c1, c2, c3, c4⟩ := y.ch
    rw [List.map_cons]
    have hu : upd l 84 (some (pref p)) 73 = some (.ref pa) := by simp [upd, hl]
    have hu1 : upd l 84 (some (pref p)) 95 = some (.bytes bs) := by simp [upd, hl2]
    have hu2 : upd l 84 (some (pref p)) 84 = some (.ref p.ref) := by simp [upd, pref]
    have hin := inL_hit bs p
    cases e : hit bs p with
    | true =>
      have hs : (p :: qs).find? (hit bs) = some p := by simp [e]
      rw [hs]
      rw [e] at hin
      obtain ⟨p1, p2, p3⟩ := c_prove n y hLs
      have za := (x.each act x.act)
      have step : vSs (vF (n + 1)) b_tr (upd l 84 (some (pref p))) h = some (.ret (.ref p.ref), upd l 84 (some (pref p)), takeH pa act p h) := by
        have q1 : (proveH p.ref h).cls pa = some 125 := (p3.cls pa x.lt).trans x.cls
        have q2 : (proveH p.ref h).fld pa 35 = some (.ref act.ref) := by rw [p3.fld pa x.lt fun m => ne (List.mem_singleton.mp m)]; exact x.active
        have q3 : (proveH p.ref h).cls act.ref = some 114 := (p3.cls _ za.lt).trans za.cls
        have q4 : (proveH p.ref h).fld act.ref 25 = some (.str act.a) := by
          by_cases z : act.ref = p.ref
          · have := uniq_ref x.nod x.act (hp p (.head _)) z
            subst this
            exact p2.adr
          · rw [p3.fld _ za.lt fun m => z (List.mem_singleton.mp m)]; exact za.adr
        have q5 := p2.cls
        have q6 := p2.adr
        unfold takeH b_tr
        by_cases z : p.a = act.a
        · have z' : (p.a == act.a) = true := by simp [z]
          rw [if_pos z]
          repeat' (first | (with_reducible first | exact S_nil | apply S_cons | apply K_next | exact K_ret | apply X_asg | apply X_ret | apply X_expr | apply X_if | apply If_t | apply If_f | apply A_attr | apply E_loc | apply E_attr | apply E_meth | apply E_cmp | exact Es_nil | apply Q_str) | exact hu | exact hu1 | exact hu2 | exact y.cls | exact c2 | exact Q_in c3 hin | exact q1 | exact q2 | exact q3 | exact q4 | exact q5 | exact q6 | exact z' | with_reducible exact p1 | (first | exact (rfl : _ = true) | exact (rfl : _ = false) | exact F_hit | (apply F_miss; · exact rfl) | exact C_new | exact L_hit | exact Ls_hit | exact D_hit | exact rfl | decide))
        · have z' : (p.a == act.a) = false := by simp [z]
          rw [if_neg z]
          repeat' (first | (with_reducible first | exact S_nil | apply S_cons | apply K_next | exact K_ret | apply X_asg | apply X_ret | apply X_expr | apply X_if | apply If_t | apply If_f | apply A_attr | apply E_loc | apply E_attr | apply E_meth | apply E_cmp | exact Es_nil | apply Q_str) | exact hu | exact hu1 | exact hu2 | exact y.cls | exact c2 | exact Q_in c3 hin | exact q1 | exact q2 | exact q3 | exact q4 | exact q5 | exact q6 | exact z' | with_reducible exact p1 | (first | exact (rfl : _ = true) | exact (rfl : _ = false) | exact F_hit | (apply F_miss; · exact rfl) | exact C_new | exact L_hit | exact Ls_hit | exact D_hit | exact rfl | decide))
      exact ⟨_, loop_ret step⟩
    | false =>
      have hs : (p :: qs).find? (hit bs) = qs.find? (hit bs) := by simp [e]
      rw [hs]
      rw [e] at hin
      obtain ⟨l', e1⟩ := loop_tr n x hLs (bs := bs) hc qs (upd l 84 (some (pref p))) hu hu1 fun q hq => hp q (.tail _ hq)
      refine ⟨l', ?_⟩
      have step : vSs (vF (n + 1)) b_tr (upd l 84 (some (pref p))) h = some (.next, upd l 84 (some (pref p)), h) := by
        unfold b_tr
        repeat' (first | (with_reducible first | exact S_nil | apply S_cons | apply K_next | exact K_ret | apply X_asg | apply X_ret | apply X_expr | apply X_if | apply If_t | apply If_f | apply A_attr | apply E_loc | apply E_attr | apply E_meth | apply E_cmp | exact Es_nil | apply Q_str) | exact hu | exact hu1 | exact hu2 | exact y.cls | exact c2 | exact Q_in c3 hin | (first | exact (rfl : _ = true) | exact (rfl : _ = false) | exact F_hit | (apply F_miss; · exact rfl) | exact C_new | exact L_hit | exact Ls_hit | exact D_hit | exact rfl | decide))
      exact loop_next step hc e1

noncomputable def prv (q : AP) : AP := ⟨q.ref, q.a, .pr⟩
theorem c_take_response (n : Nat) (x : PathsAt Ls h pa kl ps act hi) (hLs : ∀ r ∈ Ls, r < h.nxt) (bs : List Int) :
    ∃ v h', vF (n + 2) 29 [.ref pa, .bytes bs] h = some (v, h') ∧ Keep (pa :: ps.map (·.ref)) [] [] [] h h' ∧ match ps.find? (hit bs) with
      | some q => PathsAt Ls h' pa kl (repl (prv q) ps) (re1 (prv q) act) hi
      | none => h' = h := by
  obtain ⟨l', e1⟩ := loop_tr n x hLs (bs := bs) (chk := fun h' => h'.ver kl == h.ver kl) (by simp) ps (bindL [73, 95] [.ref pa, .bytes bs]) rfl rfl fun p hp => hp
  have hs : bindL (fps 29) [.ref pa, .bytes bs] 73 = some (.ref pa) := rfl
  have st : vS (vF (n + 1)) (.forL 84 (.attr (.loc 73) 18) b_tr) (bindL (fps 29) [.ref pa, .bytes bs]) h = some (match ps.find? (hit bs) with | some q => .ret (.ref q.ref) | none => .next, l', match ps.find? (hit bs) with | some q => takeH pa act q h | none => h) := by
    exact X_forL (E_attr (E_loc hs) x.cls x.known) x.lst e1
  have run : ∀ v h', ((vSs (vF (n + 1)) (.cons (.forL 84 (.attr (.loc 73) 18) b_tr) (.cons (.ret (.none)) .nil)) (bindL (fps 29) [.ref pa, .bytes bs]) h).map fun r => (flV r.1, r.2.2)) = some (v, h') → vF (n + 2) 29 [.ref pa, .bytes bs] h = some (v, h') :=
    fun v h' e => vF_go (by decide) (by decide) (by decide) rfl rfl e
  cases e : ps.find? (hit bs) with
  | none =>
    rw [e] at st
    refine ⟨.none, h, run _ _ ?_, .refl, rfl⟩
    exact go_of (S_cons st (K_next (S_cons (X_ret E_none) K_ret))) rfl rfl
  | some q =>
    rw [e] at st
    have hq := List.mem_of_find?_eq_some e
    obtain ⟨p1, p2, p3⟩ := c_prove n (x.each q hq) hLs
    have k1 : Keep (pa :: ps.map (·.ref)) [] [] [] h (proveH q.ref h) := p3.mono (fun r m => .tail _ (List.mem_map.mpr ⟨q, hq, (List.mem_singleton.mp m).symm⟩)) (fun r m => m) (fun r m => m) fun r m => m
    have x2 := x.put (q' := prv q) hq rfl rfl p3 (fun m => nomatch m) (fun r m => nomatch m) p2
    refine ⟨.ref q.ref, takeH pa act q h, run _ _ ?_, ?_, ?_⟩
    · exact go_of (S_cons st K_ret) rfl rfl
    · unfold takeH
      split
      · exact k1.setF (.inl (.head _))
      · exact k1
    · show PathsAt Ls (takeH pa act q h) pa kl _ _ hi
      unfold takeH
      split
      · exact x2.own (by decide) (by decide) (by decide) (by decide) (by decide)
      · exact x2
end
end Mine
end
section
namespace Mine

set_option tactic.hygienic false
theorem PathAt.keep2 {Ls Ls' F L D I : List Nat} {h h' : VH} {p : AP} (x : PathAt Ls h p) (k : Keep F L D I h h') (hF : p.ref ∉ F) (hL : ∀ r ∈ L, r ∈ Ls) (hLs : ∀ r ∈ Ls', r ∈ Ls ∨ h.nxt ≤ r) : PathAt Ls' h' p := by
  have e := k.fld _ x.lt hF
  obtain ⟨c, c1, c2, c3, c4⟩ := x.ch
  exact ⟨Nat.lt_of_lt_of_le x.lt k.nxt, (k.cls _ x.lt).trans x.cls, by rw [e]; exact x.adr, by rw [e]; exact x.st, by rw [e]; exact x.rcd, by rw [e]; exact x.more,
    c, Nat.lt_of_lt_of_le c1 k.nxt, by rw [e]; exact c2, (k.lst c c1 fun m => c4 (hL c m)).trans c3, fun m => (hLs c m).elim c4 (Nat.not_le.mpr c1)⟩
theorem PathsAt.keep2 {Ls Ls' F L D I : List Nat} {h h' : VH} {pa kl : Nat} {ps : List AP} {act : AP} {hi : Int} (x : PathsAt Ls h pa kl ps act hi) (k : Keep F L D I h h') (hF : pa ∉ F) (hP : ∀ p ∈ ps, p.ref ∉ F) (hk : kl ∉ L) (hL : ∀ r ∈ L, r ∈ Ls) (hLs : ∀ r ∈ Ls', r ∈ Ls ∨ h.nxt ≤ r) : PathsAt Ls' h' pa kl ps act hi := by
  have e := k.fld _ x.lt hF
  exact ⟨Nat.lt_of_lt_of_le x.lt k.nxt, Nat.lt_of_lt_of_le x.klt k.nxt, (k.cls _ x.lt).trans x.cls, by rw [e]; exact x.role, by rw [e]; exact x.may, by rw [e]; exact x.known, by rw [e]; exact x.active, by rw [e]; exact x.high,
    (k.lst _ x.klt hk).trans x.lst, fun p hp => (x.each p hp).keep2 k (hP p hp) hL hLs, x.nod, x.nod2, x.act, x.adrs⟩

noncomputable def cidB (j : Nat) : List Int := if j = 0 then [122, 101, 114, 111] else List.replicate 4 (j : Int)
noncomputable def ents (t : Nat → Nat) : Nat → Nat → List (Int × VV)
  | k, 0 => [((k : Int), .ref (t k))]
  | k, m + 1 => ((k : Int), .ref (t k)) :: ents t (k + 1) m
noncomputable def upto : Nat → List VV
  | 0 => [.int 0]
  | k + 1 => upto k ++ [.int ((k : Int) + 1)]
structure RemAt (Ls : List Nat) (h : VH) (rm kn us tq k m : Nat) (t : Nat → Nat) (q : List VV) : Prop where
  lt : rm < h.nxt
  lt1 : kn < h.nxt
  lt2 : us < h.nxt
  lt3 : tq < h.nxt
  cls : h.cls rm = some 100
  known : h.fld rm 18 = some (.ref kn)
  cur : h.fld rm 19 = some (.int k)
  used : h.fld rm 20 = some (.ref us)
  ret : h.fld rm 23 = some (.ref tq)
  lused : h.lst us = some (upto k)
  lret : h.lst tq = some q
  ikn : h.ic kn = some (ents t k m)
  nokn : h.lst kn = none ∧ h.tup kn = none ∧ kn ∉ Ls
  tups : ∀ j, k ≤ j → j ≤ k + m → t j < h.nxt ∧ t j ∉ Ls ∧ h.lst (t j) = none ∧ ∃ v, h.tup (t j) = some [.bytes (cidB j), v]
  small : k + m ≤ 2

theorem RemAt.keep {Ls Ls' F L D I : List Nat} {h h' : VH} {rm kn us tq k m : Nat} {t : Nat → Nat} {q : List VV} (x : RemAt Ls h rm kn us tq k m t q) (K : Keep F L D I h h') (hF : rm ∉ F) (h1 : us ∉ L) (h2 : tq ∉ L) (hI : kn ∉ I) (hL : ∀ r ∈ L, r ∈ Ls) (hLs : ∀ r ∈ Ls', r ∈ Ls ∨ h.nxt ≤ r) : RemAt Ls' h' rm kn us tq k m t q := by
  have e := K.fld _ x.lt hF
  exact ⟨Nat.lt_of_lt_of_le x.lt K.nxt, Nat.lt_of_lt_of_le x.lt1 K.nxt, Nat.lt_of_lt_of_le x.lt2 K.nxt, Nat.lt_of_lt_of_le x.lt3 K.nxt, (K.cls _ x.lt).trans x.cls, by rw [e]; exact x.known, by rw [e]; exact x.cur, by rw [e]; exact x.used, by rw [e]; exact x.ret,
    (K.lst _ x.lt2 h1).trans x.lused, (K.lst _ x.lt3 h2).trans x.lret, (K.ic _ x.lt1 hI).trans x.ikn,
    ⟨(K.lst _ x.lt1 fun z => x.nokn.2.2 (hL _ z)).trans x.nokn.1, (K.tup _ x.lt1).trans x.nokn.2.1, fun z => (hLs _ z).elim x.nokn.2.2 (Nat.not_le.mpr x.lt1)⟩,
    fun j j1 j2 => by
      obtain ⟨a, b, c, v, d⟩ := x.tups j j1 j2
      exact ⟨Nat.lt_of_lt_of_le a K.nxt, fun z => (hLs _ z).elim b (Nat.not_le.mpr a), (K.lst _ a fun z => b (hL _ z)).trans c, v, (K.tup _ a).trans d⟩, x.small⟩

section
variable {Ls : List Nat} {h h' : VH} {rm kn us tq k m : Nat} {t : Nat → Nat} {q : List VV}
set_option tactic.hygienic false
theorem ents_look : ∀ (k m : Nat), look (k : Int) (ents t k m) = some (.ref (t k))
  | k, 0 => by simp [ents, look]
  | k, m + 1 => by simp [ents, look]
theorem c_present (n : Nat) (x : RemAt Ls h rm kn us tq k m t q) : vF (n + 1) 13 [.ref rm] h = some (.bytes (cidB k), h) := by
  obtain ⟨a, b, c, v, d⟩ := x.tups k (Nat.le_refl _) (by omega)
  refine vF_go (by decide) (by decide) (by decide) rfl rfl ?_
  have u1 : vSub kn (.int k) h = some (.ref (t k)) := by
    unfold vSub
    simp only [x.nokn.1, x.nokn.2.1, x.ikn, Option.bind_some, ents_look]
  have u2 : vSub (t k) (.int 0) h = some (.bytes (cidB k)) := by
    unfold vSub
    simp only [c, d]
    rfl
  apply go_of
  unfold b_RemoteIds_present
  repeat' (first | (with_reducible first | apply S_cons | exact K_ret | apply X_ret | apply E_loc | exact E_int | apply E_attr | apply E_sub) | exact x.cls | exact x.known | exact x.cur | exact u1 | exact u2 | (first | exact (rfl : _ = true) | exact (rfl : _ = false) | exact F_hit | (apply F_miss; · exact rfl) | exact C_new | exact L_hit | exact Ls_hit | exact D_hit | exact rfl | decide))

theorem cases_km (hk : k + m ≤ 2) : (k = 0 ∧ m = 0) ∨ (k = 0 ∧ m = 1) ∨ (k = 0 ∧ m = 2) ∨ (k = 1 ∧ m = 0) ∨ (k = 1 ∧ m = 1) ∨ (k = 2 ∧ m = 0) := by omega

theorem fresh_val {us0 : Nat} {es : List (Int × VV)} {us : List VV} {is : List Int} (hc : h.cls rm = some 100) (hf : h.fld rm 18 = some (.ref kn)) (hf2 : h.fld rm 20 = some (.ref us0)) (hi : h.ic kn = some es) (hl : h.lst us0 = some us) (len : es.length < 64) (hu : intsOf us = some is) :
    ∃ a b, vFresh rm h = some ((match (sortI (es.map (·.1))).filter fun x => !is.contains x with
          | [] => VV.none
          | x :: _ => .int x), (h.newL a).newL b) := by
  unfold vFresh
  have hf : h.fld rm n_known = some (.ref kn) := hf
  have hf2 : h.fld rm n_used = some (.ref us0) := hf2
  rw [hc, hf, hf2]
  dsimp only [Option.bind_some, asR]
  rw [hi, Option.bind_some, hl, Option.bind_some, if_pos len, hu]
  exact ⟨_, _, rfl⟩
theorem c_fresh_no (n : Nat) (x : RemAt Ls h rm kn us tq k 0 t q) : ∃ a b, vF (n + 1) 14 [.ref rm] h = some (.none, (h.newL a).newL b) := by
  have i := x.ikn
  have u := x.lused
  have hk := x.small
  rcases (by omega : k = 0 ∨ k = 1 ∨ k = 2) with rfl | rfl | rfl
  · exact fresh_val (es := [_]) (us := [_]) (is := [0]) x.cls x.known x.used i u (show 1 < 64 by decide) rfl
  · exact fresh_val (es := [_]) (us := [_, _]) (is := [0, 1]) x.cls x.known x.used i u (show 1 < 64 by decide) rfl
  · exact fresh_val (es := [_]) (us := [_, _, _]) (is := [0, 1, 2]) x.cls x.known x.used i u (show 1 < 64 by decide) rfl
theorem c_fresh_yes (n : Nat) (x : RemAt Ls h rm kn us tq k (m + 1) t q) : ∃ a b, vF (n + 1) 14 [.ref rm] h = some (.int ((k : Int) + 1), (h.newL a).newL b) := by
  have i := x.ikn
  have u := x.lused
  rcases cases_km x.small with ⟨h1, h2⟩ | ⟨h1, h2⟩ | ⟨h1, h2⟩ | ⟨h1, h2⟩ | ⟨h1, h2⟩ | ⟨h1, h2⟩ <;> (try (cases h2)) <;> subst h1
  · exact fresh_val (es := [_, _]) (us := [_]) (is := [0]) x.cls x.known x.used i u (show 2 < 64 by decide) rfl
  · exact fresh_val (es := [_, _, _]) (us := [_]) (is := [0]) x.cls x.known x.used i u (show 3 < 64 by decide) rfl
  · exact fresh_val (es := [_, _]) (us := [_, _]) (is := [0, 1]) x.cls x.known x.used i u (show 2 < 64 by decide) rfl
end
end Mine
end
section
namespace Mine
section
variable {Ls : List Nat} {h h' : VH} {rm kn us tq k m : Nat} {t : Nat → Nat} {q : List VV}
set_option tactic.hygienic false
theorem c_change_no (n : Nat) (x : RemAt Ls h rm kn us tq k 0 t q) : ∃ h', vF (n + 2) 15 [.ref rm] h = some (.bool false, h') ∧ Keep [] [] [] [] h h' := by
  obtain ⟨a, b, e⟩ := c_fresh_no n x
  refine ⟨((h.newL a).newL b).newT [.none, .int k], ?_, .newT (.newL (.newL .refl))⟩
  refine vF_go (by decide) (by decide) (by decide) rfl rfl ?_
  have d1 : ((h.newL a).newL b).fld rm 19 = some (.int k) := x.cur
  apply go_of
  unfold b_RemoteIds_change
  repeat' (first | (with_reducible first | apply S_cons | apply K_next | exact K_ret | apply X_ret | apply X_if | apply If_t | apply X_asgN | apply E_loc | exact E_none | exact E_bool | apply E_attr | apply E_meth | apply E_cmp | exact Es_nil | apply Es_cons | exact Q_isN0) | exact x.cls | exact x.cur | with_reducible exact e | (first | exact (rfl : _ = true) | exact (rfl : _ = false) | exact F_hit | (apply F_miss; · exact rfl) | exact C_new | exact L_hit | exact Ls_hit | exact D_hit | exact rfl | decide))

theorem upto_ints : ∀ k, intsOf (upto k) = some ((List.range (k + 1)).map fun j : Nat => (j : Int))
  | 0 => rfl
  | k + 1 => by
    have : ∀ (l : List VV) (is : List Int) (z : Int), intsOf l = some is → intsOf (l ++ [.int z]) = some (is ++ [z]) := by
      intro l
      induction l with
      | nil => intro is z e; cases e; rfl
      | cons v r ih =>
        intro is z e
        cases v <;> simp [intsOf] at e ⊢
        obtain ⟨js, h1, h2⟩ := e
        exact ⟨_, ih _ z h1, by rw [← h2]; rfl⟩
    have := this _ _ ((k : Int) + 1) (upto_ints k)
    rw [upto, this, List.range_succ (n := k + 1), List.map_append]
    rfl
theorem upto_new (k : Nat) : inL (.int ((k : Int) + 1)) (upto k) = some false := by
  rw [inL_ints (upto_ints k)]
  have : ((List.range (k + 1)).map fun j : Nat => (j : Int)).contains ((k : Int) + 1) = false := by
    rw [← Bool.not_eq_true, List.contains_iff_mem]
    intro m
    obtain ⟨j, h1, h2⟩ := List.mem_map.mp m
    have := List.mem_range.mp h1
    omega
  rw [this]
theorem upto_len : ∀ k, (upto k).length = k + 1
  | 0 => rfl
  | k + 1 => by simp [upto, upto_len k]
theorem c_use (n : Nat) {c : Nat} (h1 : h.cls rm = some c) (h2 : h.fld rm 20 = some (.ref us)) (h3 : h.lst us = some (upto k)) (hk : k ≤ 2) :
    vF (n + 1) 12 [.ref rm, .int ((k : Int) + 1)] h = some (.none, (h.setF rm 19 (.int ((k : Int) + 1))).setL us (upto (k + 1))) := by
  refine vF_go (by decide) (by decide) (by decide) rfl rfl ?_
  have e := upto_new k
  have hl : (upto k).length < 1000 := by rw [upto_len]; omega
  have h2' : (h.setF rm 19 (.int ((k : Int) + 1))).fld rm 20 = some (.ref us) := F_miss rfl h2
  have h3' : (h.setF rm 19 (.int ((k : Int) + 1))).lst us = some (upto k) := h3
  apply go_of
  unfold b_RemoteIds_use
  repeat' (first | (with_reducible first | exact S_nil | apply S_cons | apply K_next | apply X_asg | apply X_expr | apply X_if | apply If_t | apply A_attr | apply E_loc | apply E_attr | apply E_bm | apply E_cmp | exact Es_nil | apply Es_cons | apply M_app) | exact h1 | exact h2' | exact h3' | exact (Q_nin h3' e rfl : vCmp 9 _ _ _ = some true) | exact O_app h3' | exact hl | (first | exact (rfl : _ = true) | exact (rfl : _ = false) | exact F_hit | (apply F_miss; · exact rfl) | exact C_new | exact L_hit | exact Ls_hit | exact D_hit | exact rfl | decide))
theorem ents_drp (k m : Nat) : drp (k : Int) (ents t k (m + 1)) = ents t (k + 1) m := by simp [ents, drp]
theorem c_retire (n : Nat) {c : Nat} {z : Int} {l : List VV} (h1 : h.cls rm = some c) (h2 : h.fld rm 18 = some (.ref kn)) (h3 : h.fld rm 23 = some (.ref tq)) (h4 : h.ic kn = some (ents t k (m + 1))) (h5 : h.lst tq = some l) (h6 : h.fld rm 19 = some (.int z)) (hz : z ≠ k) (hl : l.length < 1000) :
    vF (n + 1) 11 [.ref rm, .int k] h = some (.none, (h.setI kn (ents t (k + 1) m)).setL tq (l ++ [.int k])) := by
  refine vF_go (by decide) (by decide) (by decide) rfl rfl ?_
  have e1 := ents_look (t := t) k (m + 1)
  have e2 := ents_drp (t := t) k m
  have hz' : ((k : Int) == z) = false := by simp [Ne.symm hz]
  have o1 : bmOk 111 kn h = true := by simp [bmOk, h4, n_append, n_extend]
  have o2 : vBm 111 kn [.int k] h = some (.ref (t k), h.setI kn (ents t (k + 1) m)) := by
    show popV kn (.int k) h = _
    simp [popV, h4, e1, e2]
  have g5 : (h.setI kn (ents t (k + 1) m)).lst tq = some l := h5
  apply go_of
  unfold b_RemoteIds_retire
  repeat' (first | (with_reducible first | exact S_nil | apply S_cons | apply K_next | apply X_expr | apply X_if | apply If_f | apply E_loc | apply E_attr | apply E_bm | apply E_cmp | apply E_and | exact Es_nil | apply Es_cons | apply V_cons | exact Vk_st | apply Q_int | apply M_app) | exact h1 | exact h2 | exact h3 | exact h6 | exact o1 | exact o2 | exact O_app g5 | exact g5 | exact hl | exact hz' | (first | exact (rfl : _ = true) | exact (rfl : _ = false) | exact F_hit | (apply F_miss; · exact rfl) | exact C_new | exact L_hit | exact Ls_hit | exact D_hit | exact rfl | decide))

theorem c_change_yes (n : Nat) (x : RemAt Ls h rm kn us tq k (m + 1) t []) (hne : us ≠ tq) (hu : us ∈ Ls) (hq : tq ∈ Ls) :
    ∃ h', vF (n + 2) 15 [.ref rm] h = some (.bool true, h') ∧ RemAt Ls h' rm kn us tq (k + 1) m t [.int k] ∧ Keep [rm] [us, tq] [] [kn] h h' := by
  obtain ⟨a, b, e⟩ := c_fresh_yes n x
  have hk2 : k ≤ 2 := by have := x.small; omega
  have hus1 : us ≠ h.nxt := Nat.ne_of_lt x.lt2
  have hus2 : us ≠ h.nxt + 1 := Nat.ne_of_lt (Nat.lt_succ_of_lt x.lt2)
  have htq1 : tq ≠ h.nxt := Nat.ne_of_lt x.lt3
  have htq2 : tq ≠ h.nxt + 1 := Nat.ne_of_lt (Nat.lt_succ_of_lt x.lt3)
  let h1 := ((h.newL a).newL b).newT [.int ((k : Int) + 1), .int k]
  have e1 := c_use (h := h1) (rm := rm) (us := us) (k := k) n (c := 100) x.cls x.used (by simp [newL_nxt, newL_lst, newT_lst, h1, x.lused, hus1, hus2]) hk2
  let h2 := (h1.setF rm 19 (.int ((k : Int) + 1))).setL us (upto (k + 1))
  have e2 := c_retire (h := h2) (rm := rm) (kn := kn) (tq := tq) (t := t) (k := k) (m := m) n (c := 100) (z := ((k : Int) + 1)) (l := []) x.cls (by simp [setF_fld, setL_fld, newL_fld, newT_fld, h2, h1, x.known]) (by simp [setF_fld, setL_fld, newL_fld, newT_fld, h2, h1, x.ret]) (by simp [setF_ic, setL_ic, newL_ic, newT_ic, h2, h1, x.ikn]) (by simp [setF_lst, setL_lst, newL_nxt, newL_lst, newT_lst, h2, h1, x.lret, Ne.symm hne, htq1, htq2]) (by simp [setF_fld, setL_fld, h2]) (by omega) (by simp)
  let h3 := (h2.setI kn (ents t (k + 1) m)).setL tq [.int k]
  have K : Keep [rm] [us, tq] [] [kn] h h3 := by
    refine .setL (.setI (.setL (.setF (.newT (.newL (.newL .refl))) (.inl (.head _))) (.inl (.head _)) ?_) (.inl (.head _))) (.inl (.tail _ (.head _))) ?_
    · simp [setF_nxt]; exact Nat.lt_succ_of_lt (Nat.lt_succ_of_lt (Nat.lt_succ_of_lt x.lt2))
    · simp [setF_nxt, setL_nxt, setI_nxt, newL_nxt, newT_nxt, h2, h1]; exact Nat.lt_succ_of_lt (Nat.lt_succ_of_lt (Nat.lt_succ_of_lt x.lt3))
  refine ⟨h3, ?_, ?_, K⟩
  · refine vF_go (by decide) (by decide) (by decide) rfl rfl ?_
    have e1' : vF (n + 1) 12 [.ref rm, .int ((k : Int) + 1)] (((h.newL a).newL b).newT [.int ((k : Int) + 1), .int k]) = some (.none, h2) := by simpa [h2, h1] using e1
    have e2' : vF (n + 1) 11 [.ref rm, .int k] h2 = some (.none, h3) := by simpa [h3] using e2
    have e' : vF (n + 1) 14 [.ref rm] h = some (.int ((k : Int) + 1), (h.newL a).newL b) := by simpa using e
    have c2 : h2.cls rm = some 100 := x.cls
    apply go_of
    unfold b_RemoteIds_change
    repeat' (first | (with_reducible first | exact S_nil | apply S_cons | apply K_next | exact K_ret | apply X_ret | apply X_expr | apply X_if | apply If_f | apply X_asgN | apply E_loc | exact E_none | exact E_bool | apply E_attr | apply E_meth | apply E_cmp | exact Es_nil | apply Es_cons) | exact x.cls | exact x.cur | exact c2 | with_reducible exact e' | with_reducible exact e1' | with_reducible exact e2' | (first | exact (rfl : _ = true) | exact (rfl : _ = false) | exact F_hit | (apply F_miss; · exact rfl) | exact C_new | exact L_hit | exact Ls_hit | exact D_hit | exact rfl | decide))
  · refine ⟨Nat.lt_of_lt_of_le x.lt K.nxt, Nat.lt_of_lt_of_le x.lt1 K.nxt, Nat.lt_of_lt_of_le x.lt2 K.nxt, Nat.lt_of_lt_of_le x.lt3 K.nxt, (K.cls _ x.lt).trans x.cls, by simp [setF_fld, setL_fld, setI_fld, newL_fld, newT_fld, h3, h2, h1, x.known], by simp [setF_fld, setL_fld, setI_fld, h3, h2, h1], by simp [setF_fld, setL_fld, setI_fld, newL_fld, newT_fld, h3, h2, h1, x.used], by simp [setF_fld, setL_fld, setI_fld, newL_fld, newT_fld, h3, h2, h1, x.ret],
      by simp [setL_lst, setI_lst, h3, h2, h1, hne], by simp [setL_lst, h3, h2, h1], by simp [setL_ic, setI_ic, h3, h2, h1], ?_, ?_, by have := x.small; omega⟩
    · refine ⟨?_, (K.tup _ x.lt1).trans x.nokn.2.1, x.nokn.2.2⟩
      rw [K.lst _ x.lt1 fun z => ?_]
      · exact x.nokn.1
      · simp at z
        rcases z with z | z
        · exact x.nokn.2.2 (z ▸ hu)
        · exact x.nokn.2.2 (z ▸ hq)
    · intro j j1 j2
      obtain ⟨a1, a2, a3, v, a4⟩ := x.tups j (by omega) (by omega)
      refine ⟨Nat.lt_of_lt_of_le a1 K.nxt, a2, ?_, v, (K.tup _ a1).trans a4⟩
      rw [K.lst _ a1 fun z => ?_]
      · exact a3
      · simp at z
        rcases z with z | z
        · exact a2 (z ▸ hu)
        · exact a2 (z ▸ hq)

theorem c_frames (n : Nat) {z : Int} (x : RemAt Ls h rm kn us tq k m t [.int z]) : vF (n + 1) 16 [.ref rm] h = some (.ref (h.nxt + 1), ((((h.newT [.str 154, .int z]).newL [.ref h.nxt]).newL []).setF rm 23 (.ref (h.nxt + 2)))) := by
  have e : vF (n + 1) 16 [.ref rm] h = vFrames rm h := rfl
  rw [e]
  have hr : h.fld rm n_to_retire = some (.ref tq) := x.ret
  show (h.cls rm).bind _ = _
  rw [x.cls]
  show (asR (h.fld rm n_to_retire)).bind _ = _
  rw [hr]
  show (h.lst tq).map _ = _
  rw [x.lret]
  rfl
end
end Mine
end
section
namespace Mine

structure ConnAt (h : VH) (cn pa rm ct rt ow ev cf : Nat) (cb : List Int) (way : Nat) (el : VV) : Prop where
  lt : cn < h.nxt
  cls : h.cls cn = some 134
  paths : h.fld cn 54 = some (.ref pa)
  remote : h.fld cn 55 = some (.ref rm)
  control : h.fld cn 12 = some (.ref ct)
  rtt : h.fld cn 13 = some (.ref rt)
  owed : h.fld cn 56 = some (.ref ow)
  events : h.fld cn 57 = some (.ref ev)
  config : h.fld cn 58 = some (.ref cf)
  came : h.fld cn 16 = some (.bytes cb)
  way : h.fld cn 14 = some (.str way)
  elder : h.fld cn 15 = some el
  clt : cf < h.nxt
  conf : h.sd cf = some [(0, .int 1200)]
set_option tactic.hygienic false
theorem ConnAt.keep {h h' : VH} {cn pa rm ct rt ow ev cf : Nat} {cb : List Int} {way : Nat} {el : VV} {F L D I : List Nat} (x : ConnAt h cn pa rm ct rt ow ev cf cb way el) (k : Keep F L D I h h') (hF : cn ∉ F) (hD : cf ∉ D) : ConnAt h' cn pa rm ct rt ow ev cf cb way el := by
  have e := k.fld _ x.lt hF
  exact ⟨Nat.lt_of_lt_of_le x.lt k.nxt, (k.cls _ x.lt).trans x.cls, by rw [e]; exact x.paths, by rw [e]; exact x.remote, by rw [e]; exact x.control, by rw [e]; exact x.rtt, by rw [e]; exact x.owed, by rw [e]; exact x.events, by rw [e]; exact x.config, by rw [e]; exact x.came, by rw [e]; exact x.way, by rw [e]; exact x.elder,
    Nat.lt_of_lt_of_le x.clt k.nxt, (k.sd _ x.clt hD).trans x.conf⟩
structure CtlAt (h : VH) (ct rt : Nat) (W T R S N : VV) : Prop where
  lt : ct < h.nxt
  lt2 : rt < h.nxt
  cls : h.cls ct = some 75
  cls2 : h.cls rt = some 76
  win : h.fld ct 1 = some W
  thr : h.fld ct 2 = some T
  rec_at : h.fld ct 3 = some R
  fly : h.fld ct 4 = some (.int 700)
  smo : h.fld rt 9 = some S
  since : h.fld rt 6 = some N
theorem CtlAt.keep {h h' : VH} {ct rt : Nat} {W T R S N : VV} {F L D I : List Nat} (x : CtlAt h ct rt W T R S N) (k : Keep F L D I h h') (h1 : ct ∉ F) (h2 : rt ∉ F) : CtlAt h' ct rt W T R S N := by
  have e := k.fld _ x.lt h1
  have e2 := k.fld _ x.lt2 h2
  exact ⟨Nat.lt_of_lt_of_le x.lt k.nxt, Nat.lt_of_lt_of_le x.lt2 k.nxt, (k.cls _ x.lt).trans x.cls, (k.cls _ x.lt2).trans x.cls2, by rw [e]; exact x.win, by rw [e]; exact x.thr, by rw [e]; exact x.rec_at, by rw [e]; exact x.fly, by rw [e2]; exact x.smo, by rw [e2]; exact x.since⟩
theorem ne_cls {h : VH} {a b c d : Nat} (h1 : h.cls a = some c) (h2 : h.cls b = some d) (hn : c ≠ d) : a ≠ b := fun e => by
  subst e
  rw [h1] at h2
  exact hn (Option.some.inj h2)

section
variable {h : VH}
set_option tactic.hygienic false
theorem c_window (n : Nat) (h : VH) : vF (n + 1) 0 [.int 1200] h = some (.int 12000, h) := by
  refine vF_go (by decide) (by decide) (by decide) rfl rfl ?_
  apply go_of
  unfold b_initial_window
  repeat' (first | (with_reducible first | apply S_cons | exact K_ret | apply X_ret | apply E_loc | apply E_glb | apply E_bf | apply E_bin | exact Es_nil | apply Es_cons | exact B_max | exact B_min) | (first | exact (rfl : _ = true) | exact (rfl : _ = false) | exact F_hit | (apply F_miss; · exact rfl) | exact C_new | exact L_hit | exact Ls_hit | exact D_hit | exact rfl | decide))
noncomputable def renoH (r : Nat) (h : VH) : VH := (((((h.setF r 0 (.int 1200)).setF r 1 (.int 12000)).setF r 2 .none).setF r 3 .none).setF r 4 (.int 0)).setF r 5 (.int 0)
theorem c_reno (n : Nat) {r c : Nat} (hc : h.cls r = some c) : vF (n + 2) 1 [.ref r, .int 1200] h = some (.none, renoH r h) := by
  refine vF_go (by decide) (by decide) (by decide) rfl rfl ?_
  have e := c_window n (h.setF r 0 (.int 1200))
  apply go_of
  unfold b_NewReno_init
  repeat' (first | (with_reducible first | exact S_nil | apply S_cons | apply K_next | apply X_asg | apply A_attr | apply E_loc | exact E_none | exact E_int | apply E_fn | exact Es_nil | apply Es_cons) | exact hc | with_reducible exact e | (first | exact (rfl : _ = true) | exact (rfl : _ = false) | exact F_hit | (apply F_miss; · exact rfl) | exact C_new | exact L_hit | exact Ls_hit | exact D_hit | exact rfl | decide))
noncomputable def rttH (r : Nat) (v : VV) (h : VH) : VH := (((((h.setF r 6 v).setF r 7 (.int 0)).setF r 8 (.int 0)).setF r 9 (.int 2664000)).setF r 10 (.int 666000)).setF r 11 .none
theorem c_rtt (n : Nat) {r c : Nat} {v : VV} (hc : h.cls r = some c) : vF (n + 1) 2 [.ref r, v] h = some (.none, rttH r v h) := by
  refine vF_run (by decide) (by decide) rfl rfl ?_
  apply go_of
  unfold b_Rtt_init
  repeat' (first | (with_reducible first | exact S_nil | apply S_cons | apply K_next | apply X_asg | apply A_attr | apply E_loc | exact E_none | exact E_int | apply E_glb | apply E_bin) | exact hc | (first | exact (rfl : _ = true) | exact (rfl : _ = false) | exact F_hit | (apply F_miss; · exact rfl) | exact C_new | exact L_hit | exact Ls_hit | exact D_hit | exact rfl | decide))
theorem c_rtt0 (n : Nat) {r c : Nat} (hc : h.cls r = some c) : vF (n + 1) 2 [.ref r] h = some (.none, rttH r .none h) := by
  refine vF_run (by decide) (by decide) rfl rfl ?_
  apply go_of
  unfold b_Rtt_init
  repeat' (first | (with_reducible first | exact S_nil | apply S_cons | apply K_next | apply X_asg | apply A_attr | apply E_loc | exact E_none | exact E_int | apply E_glb | apply E_bin) | exact hc | (first | exact (rfl : _ = true) | exact (rfl : _ = false) | exact F_hit | (apply F_miss; · exact rfl) | exact C_new | exact L_hit | exact Ls_hit | exact D_hit | exact rfl | decide))

variable {cn pa rm ct rt ow ev cf : Nat} {cb : List Int} {way : Nat} {el W T R S N : VV}
theorem c_anew (n : Nat) (x : ConnAt h cn pa rm ct rt ow ev cf cb way el) (y : CtlAt h ct rt W T R S N) (now : Int) :
    ∃ h', vF (n + 3) 3 [.ref cn, .int now] h = some (.none, h') ∧ ConnAt h' cn pa rm h.nxt (h.nxt + 1) ow ev cf cb way el ∧ CtlAt h' h.nxt (h.nxt + 1) (.int 12000) .none (.int now) (.int 2664000) (.int now) ∧ Keep [cn] [] [] [] h h' := by
  have hne : cn ≠ h.nxt := Nat.ne_of_lt x.lt
  have hne1 : cn ≠ h.nxt + 1 := Nat.ne_of_lt (Nat.lt_succ_of_lt x.lt)
  let h1 := renoH h.nxt (h.newC 75)
  have e1 : vF (n + 2) 1 [.ref h.nxt, .int 1200] (h.newC 75) = some (.none, h1) := c_reno n (c := 75) (by simp [newC_cls])
  let h2 := rttH (h.nxt + 1) (.int now) (h1.newC 76)
  have n1 : h1.nxt = h.nxt + 1 := rfl
  have e2 : vF (n + 2) 2 [.ref (h.nxt + 1), .int now] (h1.newC 76) = some (.none, h2) := c_rtt (n + 1) (c := 76) (by simp [newC_cls, n1])
  let h3 := ((h2.newT [.ref h.nxt, .ref (h.nxt + 1)]).setF cn 12 (.ref h.nxt)).setF cn 13 (.ref (h.nxt + 1))
  let h4 := ((h3.newT [.int 700, .int now]).setF h.nxt 4 (.int 700)).setF h.nxt 3 (.int now)
  have K : Keep [cn] [] [] [] h h4 := by
    have a1 : Keep [cn] [] [] [] h h1 := by
      refine .setF (.setF (.setF (.setF (.setF (.setF (.newC .refl) ?_) ?_) ?_) ?_) ?_) ?_ <;> exact .inr (Nat.le_refl _)
    have a2 : Keep [cn] [] [] [] h h2 := by
      refine .setF (.setF (.setF (.setF (.setF (.setF (.newC a1) ?_) ?_) ?_) ?_) ?_) ?_ <;> exact .inr (Nat.le_succ _)
    exact .setF (.setF (.newT (.setF (.setF (.newT a2) (.inl (.head _))) (.inl (.head _)))) (.inr (Nat.le_refl _))) (.inr (Nat.le_refl _))
  have c2 : h2.nxt = h.nxt + 2 := rfl
  have d1 : h2.cls cn = some 134 := by simp [setF_cls, setF_nxt, newC_cls, newC_nxt, h2, h1, rttH, renoH, hne, hne1, x.cls]
  refine ⟨h4, ?_, ?_, ?_, K⟩
  · refine vF_go (by decide) (by decide) (by decide) rfl rfl ?_
    have c3 : h3.nxt = h.nxt + 3 := rfl
    have d2 : h3.cls cn = some 134 := d1
    have d3 : h3.fld cn 12 = some (.ref h.nxt) := by simp [setF_fld, h3]
    have d4 : h2.cls h.nxt = some 75 := by simp [setF_cls, setF_nxt, newC_cls, newC_nxt, h2, h1, rttH, renoH]
    have d5 : h3.cls h.nxt = some 75 := d4
    have d6 : (((h2.newT [.ref h.nxt, .ref (h.nxt + 1)]).setF cn 12 (.ref h.nxt)).setF cn 13 (.ref (h.nxt + 1))) = h3 := rfl
    have d7 : (h3.newT [.int 700, .int now]).setF h.nxt 4 (.int 700) = (h3.newT [.int 700, .int now]).setF h.nxt 4 (.int 700) := rfl
    have d8 : (h2.newT [.ref h.nxt, .ref (h.nxt + 1)]).cls cn = some 134 := d1
    have d9 : (h3.newT [.int 700, .int now]).fld cn 12 = some (.ref h.nxt) := d3
    have d10 : (h3.newT [.int 700, .int now]).cls h.nxt = some 75 := d5
    have d11 : ((h3.newT [.int 700, .int now]).setF h.nxt 4 (.int 700)).fld cn 12 = some (.ref h.nxt) := F_other hne d9
    have e2 : vF (n + 2) 2 [.ref h1.nxt, .int now] (h1.newC 76) = some (.none, h2) := e2
    apply go_of
    unfold b_begin_anew
    repeat' (first | (with_reducible first | exact S_nil | apply S_cons | apply K_next | apply X_asg | apply X_asgT | exact A_name | apply A_attr | exact Az_nil | apply Az_cons | apply E_loc | exact E_str | apply E_attr | apply E_new | apply E_sub | exact Es_nil | apply Es_cons | apply U_str) | exact x.cls | exact x.control | exact y.cls | exact y.fly | exact x.config | exact x.conf | exact d8 | exact d1 | exact d2 | exact d9 | exact d11 | exact d10 | exact d5 | with_reducible exact e1 | with_reducible exact e2 | (first | exact (rfl : _ = true) | exact (rfl : _ = false) | exact F_hit | (apply F_miss; · exact rfl) | exact C_new | exact L_hit | exact Ls_hit | exact D_hit | exact rfl | decide))
  · have fd : ∀ g, g ≠ 12 → g ≠ 13 → h4.fld cn g = h.fld cn g := fun g g1 g2 => by simp [setF_nxt, setF_fld, newC_fld, newC_nxt, newT_fld, h4, h3, h2, h1, rttH, renoH, hne, hne1, g1, g2]
    exact ⟨Nat.lt_of_lt_of_le x.lt K.nxt, (K.cls _ x.lt).trans x.cls, (fd _ (by decide) (by decide)).trans x.paths, (fd _ (by decide) (by decide)).trans x.remote, by simp [setF_fld, newT_fld, h4, h3, hne, hne1], by simp [setF_fld, newT_fld, h4, h3, hne, hne1],
      (fd _ (by decide) (by decide)).trans x.owed, (fd _ (by decide) (by decide)).trans x.events, (fd _ (by decide) (by decide)).trans x.config, (fd _ (by decide) (by decide)).trans x.came, (fd _ (by decide) (by decide)).trans x.way, (fd _ (by decide) (by decide)).trans x.elder, Nat.lt_of_lt_of_le x.clt K.nxt, (K.sd _ x.clt fun m => nomatch m).trans x.conf⟩
  · have s1 : h.nxt ≠ cn := Ne.symm hne
    have s2 : h.nxt + 1 ≠ cn := Ne.symm hne1
    refine ⟨?_, ?_, ?_, ?_, ?_, ?_, ?_, ?_, ?_, ?_⟩ <;> simp [setF_cls, setF_nxt, setF_fld, newC_cls, newC_fld, newC_nxt, newT_cls, newT_fld, newT_nxt, h4, h3, h2, h1, rttH, renoH, s1, s2]
    all_goals omega
end
end Mine
end
section
namespace Mine

section
variable {Ls : List Nat} {h : VH} {pa kl : Nat} {ps : List AP} {act : AP} {hi : Int}
variable {cn rm ct rt ow ev cf : Nat} {cb : List Int} {way : Nat} {el W T R S N : VV}
noncomputable def rnw (act : AP) (way : Nat) : Bool := (stN act.st == 146) && !(act.a == way)
noncomputable def pick {α : Type} (b : Bool) (x y : α) : α := if b then x else y
set_option tactic.hygienic false
theorem pick_true {α : Type} (x y : α) : pick true x y = x := rfl
theorem pick_false {α : Type} (x y : α) : pick false x y = y := rfl

theorem c_renew_way (n : Nat) (x : ConnAt h cn pa rm ct rt ow ev cf cb way el) (y : CtlAt h ct rt W T R S N) (z : PathsAt Ls h pa kl ps act hi) (now : Int) :
    ∃ h' ct' rt', vF (n + 4) 4 [.ref cn, .int now] h = some (.none, h') ∧ ConnAt h' cn pa rm ct' rt' ow ev cf cb (pick (rnw act way) act.a way) el ∧
      CtlAt h' ct' rt' (pick (rnw act way) (.int 12000) W) (pick (rnw act way) .none T) (pick (rnw act way) (.int now) R) (pick (rnw act way) (.int 2664000) S) (pick (rnw act way) (.int now) N) ∧ Keep [cn] [] [] [] h h' := by
  have za := z.each act z.act
  have e1 : vF (n + 3) 18 [.ref act.ref] h = some (.bool (stN act.st == 146), h) := c_is_proven (n + 2) za.cls (by rw [← stV_eq]; exact za.st)
  have hne : act.ref ≠ cn := ne_cls za.cls x.cls (by decide)
  by_cases h1 : stN act.st = 146
  · have b1 : (stN act.st == 146) = true := by simp [h1]
    rw [b1] at e1
    by_cases h2 : act.a = way
    · have b2 : (act.a == way) = true := by simp [h2]
      have hr : rnw act way = false := by simp [rnw, b1, b2]
      rw [hr]
      refine ⟨h, ct, rt, ?_, x, y, .refl⟩
      refine vF_go (by decide) (by decide) (by decide) rfl rfl ?_
      apply go_of
      unfold b_renew_way
      repeat' (first | (with_reducible first | exact S_nil | apply S_cons | apply K_next | apply X_asg | apply X_expr | apply X_if | apply If_t | apply If_f | exact A_name | apply A_attr | apply E_loc | apply E_attr | apply E_fn | apply E_meth | apply E_cmp | apply E_and | exact Es_nil | apply Es_cons | apply V_one | apply V_cons | apply Vk_gt | exact Vk_st | apply Qn_str) | exact x.cls | exact x.paths | exact z.cls | exact z.active | exact za.cls | exact za.adr | exact x.way | exact b2 | with_reducible exact e1 | (first | exact (rfl : _ = true) | exact (rfl : _ = false) | exact F_hit | (apply F_miss; · exact rfl) | exact C_new | exact L_hit | exact Ls_hit | exact D_hit | exact rfl | decide))
    · have b2 : (act.a == way) = false := by simp [h2]
      have hr : rnw act way = true := by simp [rnw, b1, b2]
      rw [hr]
      have x1 : ConnAt (h.setF cn 14 (.str act.a)) cn pa rm ct rt ow ev cf cb act.a el :=
        ⟨x.lt, x.cls, by simp [setF_fld, x.paths], by simp [setF_fld, x.remote], by simp [setF_fld, x.control], by simp [setF_fld, x.rtt], by simp [setF_fld, x.owed], by simp [setF_fld, x.events], by simp [setF_fld, x.config], by simp [setF_fld, x.came], by simp [setF_fld], by simp [setF_fld, x.elder], x.clt, x.conf⟩
      have k1 : Keep [cn] [] [] [] h (h.setF cn 14 (.str act.a)) := .setF .refl (.inl (.head _))
      have y1 := y.keep k1 (fun m => ne_cls y.cls x.cls (by decide) (List.mem_singleton.mp m)) (fun m => ne_cls y.cls2 x.cls (by decide) (List.mem_singleton.mp m))
      obtain ⟨h', q1, q2, q3, q4⟩ := c_anew n x1 y1 now
      refine ⟨h', _, _, ?_, q2, q3, k1.step q4⟩
      refine vF_go (by decide) (by decide) (by decide) rfl rfl ?_
      apply go_of
      unfold b_renew_way
      repeat' (first | (with_reducible first | exact S_nil | apply S_cons | apply K_next | apply X_asg | apply X_expr | apply X_if | apply If_t | apply If_f | exact A_name | apply A_attr | apply E_loc | apply E_attr | apply E_fn | apply E_meth | apply E_cmp | apply E_and | exact Es_nil | apply Es_cons | apply V_one | apply V_cons | apply Vk_gt | exact Vk_st | apply Qn_str) | exact x.cls | exact x.paths | exact z.cls | exact z.active | exact za.cls | exact za.adr | exact x.way | exact b2 | exact F_other hne za.adr | with_reducible exact e1 | with_reducible exact q1 | (first | exact (rfl : _ = true) | exact (rfl : _ = false) | exact F_hit | (apply F_miss; · exact rfl) | exact C_new | exact L_hit | exact Ls_hit | exact D_hit | exact rfl | decide))
  · have b1 : (stN act.st == 146) = false := by simp [h1]
    rw [b1] at e1
    have hr : rnw act way = false := by simp [rnw, b1]
    rw [hr]
    refine ⟨h, ct, rt, ?_, x, y, .refl⟩
    refine vF_go (by decide) (by decide) (by decide) rfl rfl ?_
    apply go_of
    unfold b_renew_way
    repeat' (first | (with_reducible first | exact S_nil | apply S_cons | apply K_next | apply X_asg | apply X_expr | apply X_if | apply If_t | apply If_f | exact A_name | apply A_attr | apply E_loc | apply E_attr | apply E_fn | apply E_meth | apply E_cmp | apply E_and | exact Es_nil | apply Es_cons | apply V_one | apply V_cons | apply Vk_gt | exact Vk_st | apply Qn_str) | exact x.cls | exact x.paths | exact z.cls | exact z.active | exact za.cls | exact za.adr | exact x.way | with_reducible exact e1 | (first | exact (rfl : _ = true) | exact (rfl : _ = false) | exact F_hit | (apply F_miss; · exact rfl) | exact C_new | exact L_hit | exact Ls_hit | exact D_hit | exact rfl | decide))

theorem PathsAt.disj (z : PathsAt Ls h pa kl ps act hi) {b c : Nat} (hb : h.cls b = some c) (h1 : c ≠ 125) (h2 : c ≠ 114) : b ∉ pa :: ps.map (·.ref) := fun m => by
  rcases List.mem_cons.mp m with e | m
  · subst e
    rw [z.cls] at hb
    exact h1 (Option.some.inj hb).symm
  · obtain ⟨p, hp, e⟩ := List.mem_map.mp m
    subst e
    rw [(z.each p hp).cls] at hb
    exact h2 (Option.some.inj hb).symm

theorem c_take_answer (n : Nat) (x : ConnAt h cn pa rm ct rt ow ev cf cb way el) (y : CtlAt h ct rt W T R S N) (z : PathsAt Ls h pa kl ps act hi) (hLs : ∀ r ∈ Ls, r < h.nxt) (bs : List Int) (now : Int) :
    ∃ h' ct' rt' ps' act', vF (n + 5) 6 [.ref cn, .bytes bs, .int now] h = some (.none, h') ∧ (ps', act') = (match ps.find? (hit bs) with | some q => (repl (prv q) ps, re1 (prv q) act) | none => (ps, act)) ∧ PathsAt Ls h' pa kl ps' act' hi ∧
      ConnAt h' cn pa rm ct' rt' ow ev cf cb (pick (rnw act' way) act'.a way) el ∧
      CtlAt h' ct' rt' (pick (rnw act' way) (.int 12000) W) (pick (rnw act' way) .none T) (pick (rnw act' way) (.int now) R) (pick (rnw act' way) (.int 2664000) S) (pick (rnw act' way) (.int now) N) ∧ Keep (cn :: pa :: ps.map (·.ref)) [] [] [] h h' := by
  obtain ⟨v, h1, e1, k1, w⟩ := c_take_response (n + 2) z hLs bs
  have x1 := x.keep k1 (z.disj x.cls (by decide) (by decide)) (fun m => nomatch m)
  have y1 := y.keep k1 (z.disj y.cls (by decide) (by decide)) (z.disj y.cls2 (by decide) (by decide))
  have key : ∀ ps' act', PathsAt Ls h1 pa kl ps' act' hi → (∀ p ∈ ps', p.ref ∈ ps.map (·.ref)) → ∃ h' ct' rt', vF (n + 5) 6 [.ref cn, .bytes bs, .int now] h = some (.none, h') ∧ PathsAt Ls h' pa kl ps' act' hi ∧
      ConnAt h' cn pa rm ct' rt' ow ev cf cb (pick (rnw act' way) act'.a way) el ∧
      CtlAt h' ct' rt' (pick (rnw act' way) (.int 12000) W) (pick (rnw act' way) .none T) (pick (rnw act' way) (.int now) R) (pick (rnw act' way) (.int 2664000) S) (pick (rnw act' way) (.int now) N) ∧ Keep (cn :: pa :: ps.map (·.ref)) [] [] [] h h' := fun ps' act' z1 hp => by
    obtain ⟨h', ct', rt', q1, q2, q3, q4⟩ := c_renew_way n x1 y1 z1 now
    refine ⟨h', ct', rt', ?_, ?_, q2, q3, ?_⟩
    · refine vF_go (by decide) (by decide) (by decide) rfl rfl ?_
      have e1' : vF (n + 4) 29 [.ref pa, .bytes bs] h = some (v, h1) := e1
      apply go_of
      unfold b_take_answer
      repeat' (first | (with_reducible first | exact S_nil | apply S_cons | apply K_next | apply X_expr | apply E_loc | apply E_attr | apply E_fn | apply E_meth | exact Es_nil | apply Es_cons) | exact x.cls | exact x.paths | exact z.cls | with_reducible exact e1' | with_reducible exact q1 | (first | exact (rfl : _ = true) | exact (rfl : _ = false) | exact F_hit | (apply F_miss; · exact rfl) | exact C_new | exact L_hit | exact Ls_hit | exact D_hit | exact rfl | decide))
    · exact z1.keep q4 (fun m => ne_cls z1.cls x1.cls (by decide) (List.mem_singleton.mp m)) (fun p hp m => ne_cls (z1.each p hp).cls x1.cls (by decide) (List.mem_singleton.mp m)) (fun m => nomatch m) (fun r m => nomatch m)
    · exact Keep.trans (k1.mono (fun r m => .tail _ m) (fun r m => m) (fun r m => m) fun r m => m) q4 (fun r m => .inl (by rw [List.mem_singleton.mp m]; exact .head _)) (fun r m => nomatch m) (fun r m => nomatch m) fun r m => nomatch m
  cases e : ps.find? (hit bs) with
  | none =>
    rw [e] at w
    have w : h1 = h := w
    subst w
    obtain ⟨h', ct', rt', q⟩ := key ps act z fun p hp => List.mem_map.mpr ⟨p, hp, rfl⟩
    exact ⟨h', ct', rt', ps, act, q.1, rfl, q.2⟩
  | some q0 =>
    rw [e] at w
    have hq := List.mem_of_find?_eq_some e
    obtain ⟨h', ct', rt', q⟩ := key (repl (prv q0) ps) (re1 (prv q0) act) w fun p hp => by
      obtain ⟨p0, hp0, rfl⟩ := List.mem_map.mp hp
      unfold re1
      split
      · exact List.mem_map.mpr ⟨q0, hq, rfl⟩
      · exact List.mem_map.mpr ⟨p0, hp0, rfl⟩
    exact ⟨h', ct', rt', _, _, q.1, rfl, q.2⟩
end
end Mine
end
section
namespace Mine

noncomputable def Emp (h : VH) : Prop := ∀ r, h.nxt ≤ r → h.lst r = none
set_option tactic.hygienic false
theorem Keep.empty {F L D I : List Nat} {h h' : VH} (k : Keep F L D I h h') (e : Emp h) : Emp h' := k.emp e

structure TupAt (h : VH) (r : Nat) (v : List VV) : Prop where
  lt : r < h.nxt
  no : h.lst r = none
  tup : h.tup r = some v
theorem TupAt.keep {F L D I : List Nat} {h h' : VH} {r : Nat} {v : List VV} (x : TupAt h r v) (k : Keep F L D I h h') (hL : r ∉ L) : TupAt h' r v :=
  ⟨Nat.lt_of_lt_of_le x.lt k.nxt, (k.lst _ x.lt hL).trans x.no, (k.tup _ x.lt).trans x.tup⟩

section
variable {Ls0 : List Nat} {h : VH} {pa kl : Nat} {ps : List AP} {act : AP} {hi : Int}
variable {cn rm ct rt ow ev cf kn us tq k m : Nat} {t : Nat → Nat} {cb : List Int} {way : Nat} {el W T R S N : VV} {ows evs : List VV}

structure LsOk (Ls0 : List Nat) (h : VH) (tq kl us ow ev : Nat) : Prop where
  lt : ∀ r ∈ Ls0, r < h.nxt
  ltq : tq < h.nxt
  ntq : tq ∉ Ls0
  mkl : kl ∈ Ls0
  mus : us ∈ Ls0
  mow : ow ∈ Ls0
  mev : ev ∈ Ls0
  n1 : us ≠ ow
  n2 : us ≠ ev
  n3 : us ≠ kl
  n4 : ow ≠ ev
  n5 : ow ≠ kl
  n6 : ev ≠ kl
set_option tactic.hygienic false
theorem LsOk.all (L : LsOk Ls0 h tq kl us ow ev) : ∀ r ∈ tq :: Ls0, r < h.nxt := fun r m => by
  rcases List.mem_cons.mp m with rfl | m
  · exact L.ltq
  · exact L.lt r m
theorem LsOk.keep {h' : VH} {F L D I : List Nat} (x : LsOk Ls0 h tq kl us ow ev) (k : Keep F L D I h h') : LsOk Ls0 h' tq kl us ow ev :=
  { x with lt := fun r m => Nat.lt_of_lt_of_le (x.lt r m) k.nxt, ltq := Nat.lt_of_lt_of_le x.ltq k.nxt }

theorem c_note_stay (n : Nat) (x : ConnAt h cn pa rm ct rt ow ev cf cb way el) (z : PathsAt (tq :: Ls0) h pa kl ps act hi) (L : LsOk Ls0 h tq kl us ow ev) {cb' : List Int} {a : Nat} {num now : Int} {probe : Bool} {p : AP} (hs : seek a ps = some p) (hm : moves hi num probe a act.a = false) :
    ∃ h', vF (n + 4) 5 [.ref cn, .bytes cb', .str a, .int num, .bool probe, .int now] h = some (.none, h') ∧ PathsAt (tq :: Ls0) h' pa kl ps act (max hi num) ∧ ConnAt h' cn pa rm ct rt ow ev cf (if a = act.a then cb' else cb) way el ∧ Keep [cn, pa] [] [] [] h h' := by
  obtain ⟨h1, e1, z1, k1⟩ := c_on_packet n z (num := num) (probe := probe) hs
  rw [hm] at e1 z1
  have z1 : PathsAt (tq :: Ls0) h1 pa kl ps act (max hi num) := z1
  have x1 := x.keep k1 (fun m => ne_cls x.cls z.cls (by decide) (List.mem_singleton.mp m)) (fun m => nomatch m)
  have za := z1.each act z1.act
  by_cases ha : a = act.a
  · refine ⟨h1.setF cn 16 (.bytes cb'), ?_, ?_, ?_, ?_⟩
    · refine vF_go (by decide) (by decide) (by decide) rfl rfl ?_
      have hb : (a == act.a) = true := by simp [ha]
      apply go_of
      unfold b_note_move
      repeat' (first | (with_reducible first | exact S_nil | apply S_cons | apply K_next | apply X_asg | apply X_if | apply If_t | apply If_f | exact A_name | apply A_attr | apply E_loc | apply E_attr | apply E_meth | apply E_cmp | exact Es_nil | apply Es_cons | apply Q_str) | exact x.cls | exact x.paths | exact z.cls | exact z.active | exact x1.cls | exact x1.paths | exact z1.cls | exact z1.active | exact za.cls | exact za.adr | exact hb | with_reducible exact e1 | (first | exact (rfl : _ = true) | exact (rfl : _ = false) | exact F_hit | (apply F_miss; · exact rfl) | exact C_new | exact L_hit | exact Ls_hit | exact D_hit | exact rfl | decide))
    · exact z1.keep (Keep.setF (F := [cn]) (L := []) (D := []) (I := []) .refl (.inl (.head _))) (fun m => ne_cls z1.cls x1.cls (by decide) (List.mem_singleton.mp m)) (fun p hp m => ne_cls (z1.each p hp).cls x1.cls (by decide) (List.mem_singleton.mp m)) (fun m => nomatch m) (fun r m => nomatch m)
    · rw [if_pos ha]
      exact ⟨x1.lt, x1.cls, by simp [setF_fld, x1.paths], by simp [setF_fld, x1.remote], by simp [setF_fld, x1.control], by simp [setF_fld, x1.rtt], by simp [setF_fld, x1.owed], by simp [setF_fld, x1.events], by simp [setF_fld, x1.config], by simp [setF_fld], by simp [setF_fld, x1.way], by simp [setF_fld, x1.elder], x1.clt, x1.conf⟩
    · exact (k1.mono (fun r m => .tail _ m) (fun r m => m) (fun r m => m) fun r m => m).setF (.inl (.head _))
  · refine ⟨h1, ?_, z1, ?_, k1.mono (fun r m => .tail _ m) (fun r m => m) (fun r m => m) fun r m => m⟩
    · refine vF_go (by decide) (by decide) (by decide) rfl rfl ?_
      have hb2 : (a == act.a) = false := by simp [ha]
      apply go_of
      unfold b_note_move
      repeat' (first | (with_reducible first | exact S_nil | apply S_cons | apply K_next | apply X_asg | apply X_if | apply If_t | apply If_f | exact A_name | apply A_attr | apply E_loc | apply E_attr | apply E_meth | apply E_cmp | exact Es_nil | apply Es_cons | apply Q_str) | exact x.cls | exact x.paths | exact z.cls | exact z.active | exact x1.cls | exact x1.paths | exact z1.cls | exact z1.active | exact za.cls | exact za.adr | exact hb2 | with_reducible exact e1 | (first | exact (rfl : _ = true) | exact (rfl : _ = false) | exact F_hit | (apply F_miss; · exact rfl) | exact C_new | exact L_hit | exact Ls_hit | exact D_hit | exact rfl | decide))
    · rw [if_neg ha]; exact x1
end
end Mine
end
section
namespace Mine
section
variable {Ls0 : List Nat} {h : VH} {pa kl : Nat} {ps : List AP} {act : AP} {hi : Int}
variable {cn rm ct rt ow ev cf kn us tq k m : Nat} {t : Nat → Nat} {cb : List Int} {way : Nat} {el W T R S N : VV} {ows evs : List VV}

set_option tactic.hygienic false
theorem note_tail (n : Nat) {H : VH} {Ls : List Nat} (x : ConnAt H cn pa rm ct rt ow ev cf cb way el) (y : CtlAt H ct rt W T R S N) (z : PathsAt Ls H pa kl ps act hi) (cb' : List Int) (now : Int) :
    ∃ hr ct' rt', vF (n + 4) 4 [.ref cn, .int now] H = some (.none, hr) ∧ ConnAt hr cn pa rm ct' rt' ow ev cf cb (pick (rnw act way) act.a way) el ∧ PathsAt Ls hr pa kl ps act hi ∧
      ConnAt (hr.setF cn 16 (.bytes cb')) cn pa rm ct' rt' ow ev cf cb' (pick (rnw act way) act.a way) el ∧
      CtlAt (hr.setF cn 16 (.bytes cb')) ct' rt' (pick (rnw act way) (.int 12000) W) (pick (rnw act way) .none T) (pick (rnw act way) (.int now) R) (pick (rnw act way) (.int 2664000) S) (pick (rnw act way) (.int now) N) ∧
      PathsAt Ls (hr.setF cn 16 (.bytes cb')) pa kl ps act hi ∧ Keep [cn] [] [] [] H (hr.setF cn 16 (.bytes cb')) := by
  obtain ⟨hr, ct', rt', e, x1, y1, k1⟩ := c_renew_way n x y z now
  have z1 : PathsAt Ls hr pa kl ps act hi := z.keep k1 (fun m => ne_cls z.cls x.cls (by decide) (List.mem_singleton.mp m)) (fun p hp m => ne_cls (z.each p hp).cls x.cls (by decide) (List.mem_singleton.mp m)) (fun m => nomatch m) (fun r m => nomatch m)
  have k2 : Keep [cn] [] [] [] hr (hr.setF cn 16 (.bytes cb')) := .setF .refl (.inl (.head _))
  refine ⟨hr, ct', rt', e, x1, z1, ?_, ?_, ?_, k1.step k2⟩
  · exact ⟨x1.lt, x1.cls, by simp [setF_fld, x1.paths], by simp [setF_fld, x1.remote], by simp [setF_fld, x1.control], by simp [setF_fld, x1.rtt], by simp [setF_fld, x1.owed], by simp [setF_fld, x1.events], by simp [setF_fld, x1.config], by simp [setF_fld], by simp [setF_fld, x1.way], by simp [setF_fld, x1.elder], x1.clt, x1.conf⟩
  · exact y1.keep k2 (fun m => ne_cls y1.cls x1.cls (by decide) (List.mem_singleton.mp m)) (fun m => ne_cls y1.cls2 x1.cls (by decide) (List.mem_singleton.mp m))
  · exact z1.keep k2 (fun m => ne_cls z1.cls x1.cls (by decide) (List.mem_singleton.mp m)) (fun p hp m => ne_cls (z1.each p hp).cls x1.cls (by decide) (List.mem_singleton.mp m)) (fun m => nomatch m) (fun r m => nomatch m)

noncomputable abbrev nm_mid : PS := (.ifs (.and (.cons (.cmp 1 (.loc 16) (.attr (.loc 78) 16)) (.cons (.meth (.attr (.loc 78) 55) 89 .nil) .nil))) (.cons (.expr (.bm (.attr (.loc 78) 56) 90 (.cons (.meth (.attr (.loc 78) 55) 91 .nil) .nil))) .nil) .nil)
noncomputable abbrev nmLo (cn : Nat) (cb' : List Int) (a : Nat) (num : Int) (probe : Bool) (now : Int) (ar : Nat) : Loc := upd (bindL (fps 5) [.ref cn, .bytes cb', .str a, .int num, .bool probe, .int now]) 94 (some (.ref ar))
theorem note_run (n : Nat) {h1 H hr : VH} {cb' : List Int} {a ar c' pr : Nat} {num now : Int} {probe pv : Bool} (a1 : h.cls cn = some 134) (a2 : h.fld cn 54 = some (.ref pa)) (a3 : h.cls pa = some 125) (a4 : h.fld pa 35 = some (.ref ar))
    (e1 : vF (n + 5) 27 [.ref pa, .str a, .int num, .bool probe] h = some (.bool true, h1)) (b1 : h1.cls cn = some 134) (b2 : h1.cls ar = some 114) (e2 : vF (n + 5) 18 [.ref ar] h1 = some (.bool pv, h1)) (b3 : h1.fld cn 15 = some el) (b4 : h1.fld cn 57 = some (.ref ev)) (b5 : h1.lst ev = some evs) (b6 : evs.length < 1000)
    (mid : vS (vF (n + 5)) nm_mid (nmLo cn cb' a num probe now ar) (((h1.setF cn 15 (pick pv (.ref ar) el)).newT [.str 93, .str a]).setL ev (evs ++ [.ref (h1.setF cn 15 (pick pv (.ref ar) el)).nxt])) = some (.next, nmLo cn cb' a num probe now ar, H))
    (e3 : vF (n + 5) 4 [.ref cn, .int now] H = some (.none, hr)) (c1 : hr.cls cn = some 134) (c2 : hr.fld cn 54 = some (.ref pa)) (c3 : hr.cls pa = some 125) (c4 : hr.fld pa 35 = some (.ref pr)) (c5 : hr.cls pr = some c') (c6 : hr.fld pr 25 = some (.str a)) :
    vF (n + 6) 5 [.ref cn, .bytes cb', .str a, .int num, .bool probe, .int now] h = some (.none, hr.setF cn 16 (.bytes cb')) := by
  refine vF_go (by decide) (by decide) (by decide) rfl rfl ?_
  have b4' : ∀ v, (h1.setF cn 15 v).fld cn 57 = some (.ref ev) := fun v => F_miss rfl b4
  have b5' : ∀ v, (h1.setF cn 15 v).lst ev = some evs := fun v => b5
  have q : (a == a) = true := by simp
  cases pv <;> simp only [pick_true, pick_false] at mid
  · apply go_of
    unfold b_note_move
    repeat' (first | with_reducible exact mid | (with_reducible first | exact S_nil | apply S_cons | apply K_next | apply X_asg | apply X_expr | apply X_if | apply If_t | exact A_name | apply A_attr | apply E_loc | exact E_str | apply E_attr | apply E_fn | apply E_meth | apply E_bm | apply E_cmp | apply E_ife | apply Ie_t | apply Ie_f | apply E_tup | exact Es_nil | apply Es_cons | apply Q_str | apply M_app) | exact a1 | exact a2 | exact a3 | exact a4 | exact b1 | exact b2 | exact b3 | exact b4 | exact b4' _ | exact b5 | exact b5' _ | exact O_app (b5' _) | exact b6 | exact c1 | exact c2 | exact c3 | exact c4 | exact c5 | exact c6 | exact q | with_reducible exact e1 | with_reducible exact e2 | with_reducible exact e3 | (first | exact (rfl : _ = true) | exact (rfl : _ = false) | exact F_hit | (apply F_miss; · exact rfl) | exact C_new | exact L_hit | exact Ls_hit | exact D_hit | exact rfl | decide))
  · apply go_of
    unfold b_note_move
    repeat' (first | with_reducible exact mid | (with_reducible first | exact S_nil | apply S_cons | apply K_next | apply X_asg | apply X_expr | apply X_if | apply If_t | exact A_name | apply A_attr | apply E_loc | exact E_str | apply E_attr | apply E_fn | apply E_meth | apply E_bm | apply E_cmp | apply E_ife | apply Ie_t | apply Ie_f | apply E_tup | exact Es_nil | apply Es_cons | apply Q_str | apply M_app) | exact a1 | exact a2 | exact a3 | exact a4 | exact b1 | exact b2 | exact b3 | exact b4 | exact b4' _ | exact b5 | exact b5' _ | exact O_app (b5' _) | exact b6 | exact c1 | exact c2 | exact c3 | exact c4 | exact c5 | exact c6 | exact q | with_reducible exact e1 | with_reducible exact e2 | with_reducible exact e3 | (first | exact (rfl : _ = true) | exact (rfl : _ = false) | exact F_hit | (apply F_miss; · exact rfl) | exact C_new | exact L_hit | exact Ls_hit | exact D_hit | exact rfl | decide))

theorem mid_same (cl : Caller) {l : Loc} {cb' : List Int} (l1 : l 78 = some (.ref cn)) (l2 : l 16 = some (.bytes cb')) (c1 : h.cls cn = some 134) (c2 : h.fld cn 16 = some (.bytes cb)) (hc : cb' = cb) : vS cl nm_mid l h = some (.next, l, h) := by
  have q : (cb' == cb) = true := by simp [hc]
  unfold nm_mid
  repeat' (first | (with_reducible first | exact S_nil | apply X_if | apply If_f | apply E_loc | apply E_attr | apply E_cmp | apply E_and | apply V_cons | exact Vk_st | apply Qn_bytes) | exact l1 | exact l2 | exact c1 | exact c2 | exact q | (first | exact (rfl : _ = true) | exact (rfl : _ = false) | exact F_hit | (apply F_miss; · exact rfl) | exact C_new | exact L_hit | exact Ls_hit | exact D_hit | exact rfl | decide))
theorem mid_no (cl : Caller) {l : Loc} {h1 : VH} {cb' : List Int} (l1 : l 78 = some (.ref cn)) (l2 : l 16 = some (.bytes cb')) (c1 : h.cls cn = some 134) (c2 : h.fld cn 16 = some (.bytes cb)) (hc : cb' ≠ cb) (c3 : h.fld cn 55 = some (.ref rm)) (c4 : h.cls rm = some 100) (e1 : cl 15 [.ref rm] h = some (.bool false, h1)) : vS cl nm_mid l h = some (.next, l, h1) := by
  have q : (cb' == cb) = false := by simp [hc]
  unfold nm_mid
  repeat' (first | (with_reducible first | exact S_nil | apply X_if | apply If_f | apply E_loc | apply E_attr | apply E_meth | apply E_cmp | apply E_and | exact Es_nil | apply V_one | apply V_cons | apply Vk_gt | apply Qn_bytes) | exact l1 | exact l2 | exact c1 | exact c2 | exact c3 | exact c4 | exact q | with_reducible exact e1 | (first | exact (rfl : _ = true) | exact (rfl : _ = false) | exact F_hit | (apply F_miss; · exact rfl) | exact C_new | exact L_hit | exact Ls_hit | exact D_hit | exact rfl | decide))
theorem mid_yes (cl : Caller) {l : Loc} {h1 h2 : VH} {r : Nat} {ys : List VV} {cb' : List Int} (l1 : l 78 = some (.ref cn)) (l2 : l 16 = some (.bytes cb')) (c1 : h.cls cn = some 134) (c2 : h.fld cn 16 = some (.bytes cb)) (hc : cb' ≠ cb) (c3 : h.fld cn 55 = some (.ref rm)) (c4 : h.cls rm = some 100) (e1 : cl 15 [.ref rm] h = some (.bool true, h1))
    (d1 : h1.cls cn = some 134) (d2 : h1.fld cn 55 = some (.ref rm)) (d3 : h1.cls rm = some 100) (d4 : h1.fld cn 56 = some (.ref ow)) (d5 : h1.lst ow = some ows) (e2 : cl 16 [.ref rm] h1 = some (.ref r, h2)) (g1 : h2.lst ow = some ows) (g2 : h2.lst r = some ys) (g3 : r ≠ ow) (g4 : ows.length + ys.length < 1000) (g5 : ys.isEmpty = false) : vS cl nm_mid l h = some (.next, l, h2.setL ow (ows ++ ys)) := by
  have q : (cb' == cb) = false := by simp [hc]
  have o1 : bmOk 90 ow h1 = true := by simp [bmOk, n_extend, d5]
  have o2 : vBm 90 ow [.ref r] h2 = some (.none, h2.setL ow (ows ++ ys)) := by
    show exV ow (.ref r) h2 = _
    unfold exV
    simp only [if_neg g3, g1, g2, Option.bind_some]
    rw [if_pos ⟨g4, g5⟩]
  unfold nm_mid
  repeat' (first | (with_reducible first | exact S_nil | apply S_cons | apply K_next | apply X_expr | apply X_if | apply If_t | apply E_loc | apply E_attr | apply E_meth | apply E_bm | apply E_cmp | apply E_and | exact Es_nil | apply Es_cons | apply V_one | apply V_cons | apply Vk_gt | apply Qn_bytes) | exact l1 | exact l2 | exact c1 | exact c2 | exact c3 | exact c4 | exact q | exact d1 | exact d2 | exact d3 | exact d4 | exact o1 | exact o2 | with_reducible exact e1 | with_reducible exact e2 | (first | exact (rfl : _ = true) | exact (rfl : _ = false) | exact F_hit | (apply F_miss; · exact rfl) | exact C_new | exact L_hit | exact Ls_hit | exact D_hit | exact rfl | decide))

structure MV (v : Option (VV × VH)) (Ls0 : List Nat) (h : VH) (cn pa kl rm ow ev cf kn us tq k m : Nat) (t : Nat → Nat) (cb cb' : List Int) (way' : Nat) (el W T R S N : VV) (ps : List AP) (p : AP) (hi : Int) (ows evs : List VV) (a : Nat) (h' : VH) (ct' rt' tq' te : Nat) : Prop where
  run : v = some (.none, h')
  pat : PathsAt (tq' :: Ls0) h' pa kl ps p hi
  con : ConnAt h' cn pa rm ct' rt' ow ev cf cb' way' el
  ctl : CtlAt h' ct' rt' W T R S N
  ls : LsOk Ls0 h' tq' kl us ow ev
  htq : tq' = tq ∨ h.nxt ≤ tq'
  keep : Keep [cn, pa, rm] [ow, ev, us, tq] [] [kn] h h'
  emp : Emp h'
  lev : h'.lst ev = some (evs ++ [.ref te])
  tup : TupAt h' te [.str 93, .str a]
  ge : h.nxt ≤ te
  alt : ((cb' = cb ∨ m = 0) ∧ RemAt (tq' :: Ls0) h' rm kn us tq' k m t [] ∧ h'.lst ow = some ows) ∨
        (cb' ≠ cb ∧ ∃ m' to, m = m' + 1 ∧ RemAt (tq' :: Ls0) h' rm kn us tq' (k + 1) m' t [] ∧ h'.lst ow = some (ows ++ [.ref to]) ∧ TupAt h' to [.str 154, .int k] ∧ h.nxt ≤ to)
structure NQ (n : Nat) (Ls0 : List Nat) (H : VH) (cn pa kl rm ow ev cf kn us tq k m : Nat) (t : Nat → Nat) (cb cb' : List Int) (way' : Nat) (el W T R S N : VV) (ps : List AP) (p : AP) (hi : Int) (ows : List VV) (now : Int) (hr : VH) (ct' rt' : Nat) : Prop where
  run : vF (n + 4) 4 [.ref cn, .int now] H = some (.none, hr)
  con : ConnAt hr cn pa rm ct' rt' ow ev cf cb way' el
  pat : PathsAt (tq :: Ls0) hr pa kl ps p hi
  con2 : ConnAt (hr.setF cn 16 (.bytes cb')) cn pa rm ct' rt' ow ev cf cb' way' el
  ctl : CtlAt (hr.setF cn 16 (.bytes cb')) ct' rt' W T R S N
  pat2 : PathsAt (tq :: Ls0) (hr.setF cn 16 (.bytes cb')) pa kl ps p hi
  keep : Keep [cn] [] [] [] H (hr.setF cn 16 (.bytes cb'))
  rem : RemAt (tq :: Ls0) (hr.setF cn 16 (.bytes cb')) rm kn us tq k m t []
  low : (hr.setF cn 16 (.bytes cb')).lst ow = some ows
structure NY (cl : Caller) (l : Loc) (Ls0 : List Nat) (h : VH) (cn pa kl rm ct rt ow ev cf kn us tq k m : Nat) (t : Nat → Nat) (cb : List Int) (way : Nat) (el W T R S N : VV) (ps : List AP) (p : AP) (hi : Int) (ows : List VV) (H : VH) (to tq' : Nat) : Prop where
  run : vS cl nm_mid l h = some (.next, l, H)
  con : ConnAt H cn pa rm ct rt ow ev cf cb way el
  ctl : CtlAt H ct rt W T R S N
  pat : PathsAt (tq' :: Ls0) H pa kl ps p hi
  rem : RemAt (tq' :: Ls0) H rm kn us tq' (k + 1) m t []
  low : H.lst ow = some (ows ++ [.ref to])
  tup : TupAt H to [.str 154, .int k]
  ge : h.nxt ≤ to
  ge2 : h.nxt ≤ tq'
  lt : tq' < H.nxt
  keep : Keep [rm] [ow, us, tq] [] [kn] h H
theorem nm_quiet (n : Nat) {H : VH} {p : AP} (x : ConnAt H cn pa rm ct rt ow ev cf cb way el) (y : CtlAt H ct rt W T R S N) (z : PathsAt (tq :: Ls0) H pa kl ps p hi) (r : RemAt (tq :: Ls0) H rm kn us tq k m t []) (lo : H.lst ow = some ows) (wlt : ow < H.nxt) (cb' : List Int) (now : Int) :
    ∃ hr ct' rt', NQ n Ls0 H cn pa kl rm ow ev cf kn us tq k m t cb cb' (pick (rnw p way) p.a way) el (pick (rnw p way) (.int 12000) W) (pick (rnw p way) .none T) (pick (rnw p way) (.int now) R) (pick (rnw p way) (.int 2664000) S) (pick (rnw p way) (.int now) N) ps p hi ows now hr ct' rt' := by
  obtain ⟨hr, ct', rt', e5, x5, z5, x6, y6, z6, k6⟩ := note_tail n x y z cb' now
  exact ⟨hr, ct', rt', e5, x5, z5, x6, y6, z6, k6, r.keep k6 (fun m => ne_cls r.cls x.cls (by decide) (List.mem_singleton.mp m)) (fun m => nomatch m) (fun m => nomatch m) (fun m => nomatch m) (fun r m => nomatch m) (fun r m => .inl m), (k6.lst ow wlt fun m => nomatch m).trans lo⟩

theorem nm_yes (n : Nat) {p : AP} (x : ConnAt h cn pa rm ct rt ow ev cf cb way el) (y : CtlAt h ct rt W T R S N) (z : PathsAt (tq :: Ls0) h pa kl ps p hi) (r : RemAt (tq :: Ls0) h rm kn us tq k (m + 1) t []) (L : LsOk Ls0 h tq kl us ow ev) (E : Emp h) (lo : h.lst ow = some ows) (l1 : ows.length < 900) {l : Loc} {cb' : List Int} (q1 : l 78 = some (.ref cn)) (q2 : l 16 = some (.bytes cb')) (hc : cb' ≠ cb) :
    ∃ H to tq', NY (vF (n + 2)) l Ls0 h cn pa kl rm ct rt ow ev cf kn us tq k m t cb way el W T R S N ps p hi ows H to tq' := by
  have nrm : rm ≠ cn := ne_cls r.cls x.cls (by decide)
  have nrp : rm ≠ pa := ne_cls r.cls z.cls (by decide)
  have nut : us ≠ tq := fun q => L.ntq (q ▸ L.mus)
  have owlt : ow < h.nxt := L.lt _ L.mow
  obtain ⟨h5, q5, r5, k5⟩ := c_change_yes n r nut (.tail _ L.mus) (.head _)
  have q6 := c_frames (n + 1) r5
  have k5' : Keep [rm] [ow, us, tq] [] [kn] h h5 := k5.mono (fun r m => m) (fun r m => .tail _ m) (fun r m => m) (fun r m => m)
  let h6 := (((h5.newT [.str 154, .int k]).newL [.ref h5.nxt]).newL []).setF rm 23 (.ref (h5.nxt + 2))
  have owlt5 : ow < h5.nxt := Nat.lt_of_lt_of_le owlt k5.nxt
  let h7 := h6.setL ow (ows ++ [.ref h5.nxt])
  have k57 : Keep [rm] [ow] [] [] h5 h7 := .setL (.setF (.newL (.newL (.newT .refl))) (.inl (.head _))) (.inl (.head _)) (by show ow < h5.nxt + 1 + 1 + 1; omega)
  have lo5 : h5.lst ow = some ows := (k5.lst ow owlt fun m => by
    rcases List.mem_cons.mp m with m | m
    · exact L.n1 m.symm
    · exact L.ntq (List.mem_singleton.mp m ▸ L.mow)).trans lo
  have x5 := x.keep k5 (fun m => nrm (List.mem_singleton.mp m).symm) (fun m => nomatch m)
  have y5 := y.keep k5 (fun m => ne_cls y.cls r.cls (by decide) (List.mem_singleton.mp m)) (fun m => ne_cls y.cls2 r.cls (by decide) (List.mem_singleton.mp m))
  have z5 : PathsAt (tq :: Ls0) h5 pa kl ps p hi := z.keep k5 (fun m => nrp (List.mem_singleton.mp m).symm) (fun p hp m => ne_cls (z.each p hp).cls r.cls (by decide) (List.mem_singleton.mp m)) (fun m => by
    rcases List.mem_cons.mp m with m | m
    · exact L.n3 m.symm
    · exact L.ntq (List.mem_singleton.mp m ▸ L.mkl)) (fun r m => by
    rcases List.mem_cons.mp m with m | m
    · exact .tail _ (m ▸ L.mus)
    · exact List.mem_singleton.mp m ▸ .head _)
  have hLs7 : ∀ r ∈ (h5.nxt + 2) :: Ls0, r ∈ tq :: Ls0 ∨ h5.nxt ≤ r := fun r m => by
    rcases List.mem_cons.mp m with rfl | m
    · exact .inr (Nat.le_add_right _ _)
    · exact .inl (.tail _ m)
  have mow : ∀ r ∈ [ow], r ∈ tq :: Ls0 := fun r m => by rw [List.mem_singleton.mp m]; exact .tail _ L.mow
  have no1 : ow ≠ h5.nxt + 1 := by omega
  have no2 : ow ≠ h5.nxt + 1 + 1 := by omega
  have b1 : h6.lst ow = some ows := L_miss no2 (L_miss no1 lo5)
  have b2 : h6.lst (h5.nxt + 1) = some [.ref h5.nxt] := L_miss (Nat.ne_of_lt (Nat.lt_succ_self _)) L_hit
  have e5' : h5.nxt ≤ h7.nxt := k57.nxt
  refine ⟨h7, h5.nxt, h5.nxt + 2, mid_yes (vF (n + 2)) q1 q2 x.cls x.came hc x.remote r.cls q5 x5.cls x5.remote r5.cls x5.owed lo5 q6 b1 b2 (Ne.symm no1) (by show ows.length + 1 < 1000; omega) rfl, x5.keep k57 (fun m => nrm (List.mem_singleton.mp m).symm) (fun m => nomatch m),
    y5.keep k57 (fun m => ne_cls y5.cls r5.cls (by decide) (List.mem_singleton.mp m)) (fun m => ne_cls y5.cls2 r5.cls (by decide) (List.mem_singleton.mp m)),
    z5.keep2 k57 (fun m => nrp (List.mem_singleton.mp m).symm) (fun p hp m => ne_cls (z5.each p hp).cls r5.cls (by decide) (List.mem_singleton.mp m)) (fun m => L.n5 (List.mem_singleton.mp m).symm) mow hLs7, ?_, Ls_hit, ⟨Nat.lt_of_lt_of_le (Nat.lt_add_of_pos_right (by decide) : h5.nxt < h5.nxt + 3) (Nat.le_refl _), ?_, if_pos rfl⟩, k5.nxt, Nat.le_trans k5.nxt (Nat.le_add_right _ _), Nat.lt_succ_self _,
    k5'.step (k57.mono (fun r m => m) (fun r m => by rw [List.mem_singleton.mp m]; exact .head _) (fun r m => m) (fun r m => nomatch m))⟩
  · have kf : ∀ f, f ≠ 23 → ∀ v, h5.fld rm f = some v → h7.fld rm f = some v := fun f hf v e => F_miss (by simpa using hf) e
    have us5 : h7.lst us = h5.lst us := k57.lst _ r5.lt2 fun m => L.n1 (List.mem_singleton.mp m)
    refine ⟨Nat.lt_of_lt_of_le r5.lt e5', Nat.lt_of_lt_of_le r5.lt1 e5', Nat.lt_of_lt_of_le r5.lt2 e5', Nat.lt_succ_self _, r5.cls, kf _ (by decide) _ r5.known, kf _ (by decide) _ r5.cur, kf _ (by decide) _ r5.used, F_hit, us5.trans r5.lused, ?_, r5.ikn, ?_, ?_, r5.small⟩
    · show (h6.setL ow _).lst (h5.nxt + 2) = _
      rw [setL_lst, if_neg (by omega)]
      show (if h5.nxt + 2 = h5.nxt + 2 then some [] else _) = _
      exact if_pos rfl
    · exact ⟨(k57.lst _ r5.lt1 fun m => r5.nokn.2.2 (mow _ m)).trans r5.nokn.1, (k57.tup _ r5.lt1).trans r5.nokn.2.1, fun m => (hLs7 _ m).elim r5.nokn.2.2 (Nat.not_le.mpr r5.lt1)⟩
    · intro j j1 j2
      obtain ⟨a1, a2, a3, v, a4⟩ := r5.tups j j1 j2
      exact ⟨Nat.lt_of_lt_of_le a1 e5', fun m => (hLs7 _ m).elim a2 (Nat.not_le.mpr a1), (k57.lst _ a1 fun m => a2 (mow _ m)).trans a3, v, (k57.tup _ a1).trans a4⟩
  · show (h6.setL ow _).lst h5.nxt = none
    rw [setL_lst, if_neg (by omega)]
    have n2 : ¬ h5.nxt = h5.nxt + 1 + 1 := by omega
    have n3 : ¬ h5.nxt = h5.nxt + 1 := by omega
    show (if h5.nxt = h5.nxt + 1 + 1 then _ else if h5.nxt = h5.nxt + 1 then _ else h5.lst h5.nxt) = none
    rw [if_neg n2, if_neg n3]
    exact (k5.empty E) _ (Nat.le_refl _)

structure Noted (Ls0 : List Nat) (h h4 : VH) (cn pa kl rm ct rt ow ev cf kn us tq k m : Nat) (t : Nat → Nat) (cb : List Int) (way : Nat) (el W T R S N : VV) (ps : List AP) (p : AP) (hi : Int) (ows evs : List VV) (te a : Nat) : Prop where
  x : ConnAt h4 cn pa rm ct rt ow ev cf cb way el
  y : CtlAt h4 ct rt W T R S N
  z : PathsAt (tq :: Ls0) h4 pa kl ps p hi
  r : RemAt (tq :: Ls0) h4 rm kn us tq k m t []
  L : LsOk Ls0 h4 tq kl us ow ev
  E : Emp h4
  keep : Keep [cn, pa, rm] [ow, ev, us, tq] [] [kn] h h4
  lo : h4.lst ow = some ows
  le : h4.lst ev = some (evs ++ [.ref te])
  tup : TupAt h4 te [.str 93, .str a]
  ge : h.nxt ≤ te
  Lh : LsOk Ls0 h tq kl us ow ev
theorem noted (x : ConnAt h cn pa rm ct rt ow ev cf cb way el) (y : CtlAt h ct rt W T R S N) {h1 : VH} {p : AP} {hi' : Int} {a : Nat} {el' : VV} (z1 : PathsAt (tq :: Ls0) h1 pa kl ps p hi') (k1 : Keep [pa] [] [] [] h h1) (r : RemAt (tq :: Ls0) h rm kn us tq k m t []) (L : LsOk Ls0 h tq kl us ow ev) (E : Emp h) (lo : h.lst ow = some ows) (le : h.lst ev = some evs) (hz : h.cls pa = some 125) :
    Noted Ls0 h (((h1.setF cn 15 el').newT [.str 93, .str a]).setL ev (evs ++ [.ref h1.nxt])) cn pa kl rm ct rt ow ev cf kn us tq k m t cb way el' W T R S N ps p hi' ows evs h1.nxt a := by
  have npa : cn ≠ pa := ne_cls x.cls hz (by decide)
  have x1 := x.keep k1 (fun m => npa (List.mem_singleton.mp m)) (fun m => nomatch m)
  have y1 := y.keep k1 (fun m => ne_cls y.cls hz (by decide) (List.mem_singleton.mp m)) (fun m => ne_cls y.cls2 hz (by decide) (List.mem_singleton.mp m))
  have r1 : RemAt (tq :: Ls0) h1 rm kn us tq k m t [] := r.keep k1 (fun m => ne_cls r.cls hz (by decide) (List.mem_singleton.mp m)) (fun m => nomatch m) (fun m => nomatch m) (fun m => nomatch m) (fun r m => nomatch m) (fun r m => .inl m)
  have evlt : ev < h.nxt := L.lt _ L.mev
  have owlt : ow < h.nxt := L.lt _ L.mow
  have evlt1 : ev < h1.nxt := Nat.lt_of_lt_of_le evlt k1.nxt
  have mev : ∀ r ∈ [ev], r ∈ tq :: Ls0 := fun r m => by rw [List.mem_singleton.mp m]; exact .tail _ L.mev
  have k4 : Keep [cn] [ev] [] [] h1 (((h1.setF cn 15 el').newT [.str 93, .str a]).setL ev (evs ++ [.ref h1.nxt])) := .setL (.newT (.setF .refl (.inl (.head _)))) (.inl (.head _)) (Nat.lt_succ_of_lt evlt1)
  have keep : Keep [cn, pa, rm] [ow, ev, us, tq] [] [kn] h (((h1.setF cn 15 el').newT [.str 93, .str a]).setL ev (evs ++ [.ref h1.nxt])) := (k1.mono (fun r m => by rw [List.mem_singleton.mp m]; exact .tail _ (.head _)) (fun r m => nomatch m) (fun r m => m) (fun r m => nomatch m)).step (k4.mono (fun r m => by rw [List.mem_singleton.mp m]; exact .head _) (fun r m => by rw [List.mem_singleton.mp m]; exact .tail _ (.head _)) (fun r m => m) (fun r m => nomatch m))
  have F : ∀ {f : Nat} {v : VV}, (f == 15) = false → h1.fld cn f = some v → (((h1.setF cn 15 el').newT [.str 93, .str a]).setL ev (evs ++ [.ref h1.nxt])).fld cn f = some v := fun q e => F_miss q e
  exact {
    x := ⟨Nat.lt_of_lt_of_le x1.lt k4.nxt, x1.cls, F rfl x1.paths, F rfl x1.remote, F rfl x1.control, F rfl x1.rtt, F rfl x1.owed, F rfl x1.events, F rfl x1.config, F rfl x1.came, F rfl x1.way, F_hit, Nat.lt_of_lt_of_le x1.clt k4.nxt, x1.conf⟩
    y := y1.keep k4 (fun m => ne_cls y1.cls x1.cls (by decide) (List.mem_singleton.mp m)) (fun m => ne_cls y1.cls2 x1.cls (by decide) (List.mem_singleton.mp m))
    z := z1.keep k4 (fun m => npa (List.mem_singleton.mp m).symm) (fun p hp m => ne_cls (z1.each p hp).cls x1.cls (by decide) (List.mem_singleton.mp m)) (fun m => L.n6 (List.mem_singleton.mp m).symm) mev
    r := r1.keep k4 (fun m => ne_cls r1.cls x1.cls (by decide) (List.mem_singleton.mp m)) (fun m => L.n2 (List.mem_singleton.mp m)) (fun m => L.ntq (by rw [List.mem_singleton.mp m]; exact L.mev)) (fun m => nomatch m) mev (fun r m => .inl m)
    L := L.keep keep
    E := keep.empty E
    keep := keep
    lo := (k4.lst _ (Nat.lt_of_lt_of_le owlt k1.nxt) fun m => L.n4 (List.mem_singleton.mp m)).trans ((k1.lst _ owlt fun m => nomatch m).trans lo)
    le := Ls_hit
    tup := ⟨Nat.lt_succ_self _, by
      show (if h1.nxt = ev then _ else h1.lst h1.nxt) = none
      rw [if_neg (Ne.symm (Nat.ne_of_lt evlt1))]
      exact (k1.empty E) _ (Nat.le_refl _), if_pos rfl⟩
    ge := k1.nxt
    Lh := L }

theorem note_end (n : Nat) {h4 : VH} {p : AP} {te a : Nat} {cb' : List Int} {now : Int} {l : Loc} {v : Option (VV × VH)} (q1 : l 78 = some (.ref cn)) (q2 : l 16 = some (.bytes cb')) (nn : Noted Ls0 h h4 cn pa kl rm ct rt ow ev cf kn us tq k m t cb way el W T R S N ps p hi ows evs te a) (l1 : ows.length < 900)
    (run : ∀ H hr ct' rt' way' el2 tq', vS (vF (n + 5)) nm_mid l h4 = some (.next, l, H) → vF (n + 5) 4 [.ref cn, .int now] H = some (.none, hr) → ConnAt hr cn pa rm ct' rt' ow ev cf cb way' el2 → PathsAt (tq' :: Ls0) hr pa kl ps p hi → v = some (.none, hr.setF cn 16 (.bytes cb'))) :
    ∃ h' ct' rt' tq' te, MV v Ls0 h cn pa kl rm ow ev cf kn us tq k m t cb cb' (pick (rnw p way) p.a way) el (pick (rnw p way) (.int 12000) W) (pick (rnw p way) .none T) (pick (rnw p way) (.int now) R) (pick (rnw p way) (.int 2664000) S) (pick (rnw p way) (.int now) N) ps p hi ows evs a h' ct' rt' tq' te := by
  have evlt : ev < h4.nxt := nn.L.lt _ nn.L.mev
  have owlt : ow < h4.nxt := nn.L.lt _ nn.L.mow
  have mono1 : ∀ r ∈ [cn], r ∈ [cn, pa, rm] := fun r m => by rw [List.mem_singleton.mp m]; exact .head _
  have stay : ∀ H, vS (vF (n + 5)) nm_mid l h4 = some (.next, l, H) → Keep [] [] [] [] h4 H → (cb' = cb ∨ m = 0) → ∃ h' ct' rt' tq' te, MV v Ls0 h cn pa kl rm ow ev cf kn us tq k m t cb cb' (pick (rnw p way) p.a way) el (pick (rnw p way) (.int 12000) W) (pick (rnw p way) .none T) (pick (rnw p way) (.int now) R) (pick (rnw p way) (.int 2664000) S) (pick (rnw p way) (.int now) N) ps p hi ows evs a h' ct' rt' tq' te := fun H mid k5 or1 => by
    obtain ⟨hr, ct', rt', e6, x6, z6, x7, y7, z7, k7, r7, lo7⟩ := nm_quiet (n + 1) (nn.x.keep k5 (fun m => nomatch m) (fun m => nomatch m)) (nn.y.keep k5 (fun m => nomatch m) (fun m => nomatch m)) (nn.z.keep k5 (fun m => nomatch m) (fun p hp m => nomatch m) (fun m => nomatch m) (fun r m => nomatch m)) (nn.r.keep k5 (fun m => nomatch m) (fun m => nomatch m) (fun m => nomatch m) (fun m => nomatch m) (fun r m => nomatch m) (fun r m => .inl m)) ((k5.lst ow owlt fun m => nomatch m).trans nn.lo) (Nat.lt_of_lt_of_le owlt k5.nxt) cb' now
    have K : Keep [cn] [] [] [] h4 (hr.setF cn 16 (.bytes cb')) := (k5.mono (fun r m => nomatch m) (fun r m => m) (fun r m => m) fun r m => m).step k7
    exact ⟨_, ct', rt', tq, te, run H hr ct' rt' _ _ tq mid e6 x6 z6, z7, x7, y7, nn.L.keep K, .inl rfl, nn.keep.step (K.mono mono1 (fun r m => nomatch m) (fun r m => m) (fun r m => nomatch m)), K.empty nn.E, (K.lst ev evlt fun m => nomatch m).trans nn.le, nn.tup.keep K (fun m => nomatch m), nn.ge, .inl ⟨or1, r7, lo7⟩⟩
  by_cases hc : cb' = cb
  · exact stay h4 (mid_same _ q1 q2 nn.x.cls nn.x.came hc) .refl (.inl hc)
  · cases m with
    | zero =>
      obtain ⟨h5, q5, k5⟩ := c_change_no (n + 3) nn.r
      exact stay h5 (mid_no _ q1 q2 nn.x.cls nn.x.came hc nn.x.remote nn.r.cls q5) k5 (.inr rfl)
    | succ m' =>
      obtain ⟨H, to, tq', mid, x5, y5, z5, r5, lo5, to5, ge1, ge2, lt5, k5⟩ := nm_yes (n + 3) nn.x nn.y nn.z nn.r nn.L nn.E nn.lo l1 q1 q2 hc
      obtain ⟨hr, ct', rt', e6, x6, z6, x7, y7, z7, k7, r7, lo7⟩ := nm_quiet (n + 1) x5 y5 z5 r5 lo5 (Nat.lt_of_lt_of_le owlt k5.nxt) cb' now
      have k5' : Keep [cn, pa, rm] [ow, ev, us, tq] [] [kn] h4 H := k5.mono (fun r m => by rw [List.mem_singleton.mp m]; exact .tail _ (.tail _ (.head _))) (fun r m => by
        rcases List.mem_cons.mp m with e | m
        · rw [e]; exact .head _
        · exact .tail _ (.tail _ m)) (fun r m => m) (fun r m => m)
      have K := nn.keep.step (k5'.step (k7.mono mono1 (fun r m => nomatch m) (fun r m => m) (fun r m => nomatch m)))
      have out : ∀ r, r ∈ [ow, us, tq] → r ∈ tq :: Ls0 := fun r m => by
        rcases List.mem_cons.mp m with e | m
        · rw [e]; exact .tail _ nn.L.mow
        · rcases List.mem_cons.mp m with e | m
          · rw [e]; exact .tail _ nn.L.mus
          · rw [List.mem_singleton.mp m]; exact .head _
      have nte : te ∉ [ow, us, tq] := fun m => Nat.not_le.mpr (nn.Lh.all _ (out _ m)) nn.ge
      have nev : ev ∉ [ow, us, tq] := fun m => by
        rcases List.mem_cons.mp m with e | m
        · exact nn.L.n4 e.symm
        · rcases List.mem_cons.mp m with e | m
          · exact nn.L.n2 e.symm
          · exact nn.L.ntq (List.mem_singleton.mp m ▸ nn.L.mev)
      have L5 : LsOk Ls0 H tq' kl us ow ev := { nn.L.keep k5 with ltq := lt5, ntq := fun m => Nat.not_le.mpr (nn.L.lt _ m) ge2 }
      have g := nn.keep.nxt
      exact ⟨_, ct', rt', tq', te, run H hr ct' rt' _ _ tq' mid e6 x6 z6, z7, x7, y7, L5.keep k7, .inr (Nat.le_trans g ge2), K, k7.empty (k5.empty nn.E), (k7.lst ev (Nat.lt_of_lt_of_le evlt k5.nxt) fun m => nomatch m).trans ((k5.lst ev evlt nev).trans nn.le), (nn.tup.keep k5 nte).keep k7 (fun m => nomatch m), nn.ge, .inr ⟨hc, m', to, rfl, r7, lo7, to5.keep k7 (fun m => nomatch m), Nat.le_trans g ge1⟩⟩

theorem c_note_move (n : Nat) (x : ConnAt h cn pa rm ct rt ow ev cf cb way el) (y : CtlAt h ct rt W T R S N) (z : PathsAt (tq :: Ls0) h pa kl ps act hi) (r : RemAt (tq :: Ls0) h rm kn us tq k m t []) (L : LsOk Ls0 h tq kl us ow ev) (E : Emp h)
    (lo : h.lst ow = some ows) (le : h.lst ev = some evs) (l1 : ows.length < 900) (l2 : evs.length < 900) {cb' : List Int} {a : Nat} {num now : Int} {probe : Bool} {p : AP} (hs : seek a ps = some p) (hm : moves hi num probe a act.a = true) :
    ∃ h' ct' rt' tq' te, MV (vF (n + 6) 5 [.ref cn, .bytes cb', .str a, .int num, .bool probe, .int now] h) Ls0 h cn pa kl rm ow ev cf kn us tq k m t cb cb' (pick (rnw p way) p.a way) (pick (stN act.st == 146) (.ref act.ref) el) (pick (rnw p way) (.int 12000) W) (pick (rnw p way) .none T) (pick (rnw p way) (.int now) R) (pick (rnw p way) (.int 2664000) S) (pick (rnw p way) (.int now) N) ps p (max hi num) ows evs a h' ct' rt' tq' te := by
  obtain ⟨h1, e1, z1, k1⟩ := c_on_packet (n + 2) z (num := num) (probe := probe) hs
  rw [hm] at e1 z1
  have z1 : PathsAt (tq :: Ls0) h1 pa kl ps p (max hi num) := z1
  have hp := seek_some hs
  have za := z1.each act z.act
  have e2 : vF (n + 5) 18 [.ref act.ref] h1 = some (.bool (stN act.st == 146), h1) := c_is_proven (n + 4) za.cls (by rw [← stV_eq]; exact za.st)
  have nn := noted (el' := pick (stN act.st == 146) (.ref act.ref) el) (a := a) x y z1 k1 r L E lo le z.cls
  have x1 := x.keep k1 (fun m => ne_cls x.cls z.cls (by decide) (List.mem_singleton.mp m)) (fun m => nomatch m)
  have le1 : h1.lst ev = some evs := (k1.lst _ (L.lt _ L.mev) fun m => nomatch m).trans le
  have run : ∀ H hr ct' rt' way' el2 tq', vS (vF (n + 5)) nm_mid (nmLo cn cb' a num probe now act.ref) (((h1.setF cn 15 (pick (stN act.st == 146) (.ref act.ref) el)).newT [.str 93, .str a]).setL ev (evs ++ [.ref h1.nxt])) = some (.next, nmLo cn cb' a num probe now act.ref, H) → vF (n + 5) 4 [.ref cn, .int now] H = some (.none, hr) → ConnAt hr cn pa rm ct' rt' ow ev cf cb way' el2 → PathsAt (tq' :: Ls0) hr pa kl ps p (max hi num) →
      vF (n + 6) 5 [.ref cn, .bytes cb', .str a, .int num, .bool probe, .int now] h = some (.none, hr.setF cn 16 (.bytes cb')) := fun H hr ct' rt' way' el2 tq' mid e3 xr zr =>
    note_run n x.cls x.paths z.cls z.active e1 x1.cls za.cls e2 x1.elder x1.events le1 (by omega) mid e3 xr.cls xr.paths zr.cls zr.active (zr.each p hp.1).cls (by rw [← hp.2]; exact (zr.each p hp.1).adr)
  exact note_end (l := nmLo cn cb' a num probe now act.ref) n rfl rfl nn l1 run
end
end Mine
end
section
namespace Mine

noncomputable def okV (v : VV) : Prop := (∃ s, v = .str s) ∨ ∃ i, v = .int i
inductive TL (h : VH) : List VV → List VV → Prop
  | nil : TL h [] []
  | cons {x y c : Nat} {v : VV} {xs ys : List VV} : TupAt h x [.str c, v] → TupAt h y [.str c, v] → okV v → TL h xs ys → TL h (.ref x :: xs) (.ref y :: ys)
set_option tactic.hygienic false
theorem TL.len {h : VH} {xs ys : List VV} (x : TL h xs ys) : xs.length = ys.length := by
  induction x with
  | nil => rfl
  | cons _ _ _ _ ih => simp [ih]
theorem TL.keep {F L D I : List Nat} {h h' : VH} {xs ys : List VV} (x : TL h xs ys) (k : Keep F L D I h h') (hL : ∀ r ∈ L, h.lst r ≠ none) : TL h' xs ys := by
  induction x with
  | nil => exact .nil
  | cons a b c _ ih => exact .cons (a.keep k fun m => hL _ m a.no) (b.keep k fun m => hL _ m b.no) c ih
theorem TL.snoc {h : VH} {xs ys : List VV} (x : TL h xs ys) {a b c : Nat} {v : VV} (ha : TupAt h a [.str c, v]) (hb : TupAt h b [.str c, v]) (ho : okV v) : TL h (xs ++ [.ref a]) (ys ++ [.ref b]) := by
  induction x with
  | nil => exact .cons ha hb ho .nil
  | cons p q r _ ih => exact .cons p q r ih
theorem TL.eq {h : VH} {xs ys : List VV} (x : TL h xs ys) (d : Nat) : veqsW (veq (d + 2) h) xs ys = some true := by
  induction x with
  | nil => rfl
  | @cons a b c v xs ys p q r _ ih =>
    have e : veq (d + 2) h (.ref a) (.ref b) = some true := by
      show veqR (veq (d + 1) h) h a b = _
      unfold veqR
      by_cases hab : a = b
      · rw [if_pos hab]
      · simp only [if_neg hab, p.no, q.no, p.tup, q.tup, veqL, if_true]
        rcases r with ⟨s, rfl⟩ | ⟨i, rfl⟩ <;> simp [veqsW, veq]
    show (veq (d + 2) h (.ref a) (.ref b)).bind _ = _
    rw [e]
    show (veqsW (veq (d + 2) h) xs ys).map _ = _
    rw [ih]
    rfl

structure Rf where
  cn : Nat
  pa : Nat
  kl : Nat
  rm : Nat
  kn : Nat
  us : Nat
  ow : Nat
  ev : Nat
  cf : Nat
  bx : Nat
  bl : Nat
  w : Nat
  wp : Nat
  tr : Nat
  wo : Nat
  we : Nat
noncomputable def Rf.Ls (R : Rf) : List Nat := [R.kl, R.us, R.ow, R.ev, R.wp, R.wo, R.we, R.bx]
theorem m_kl {R : Rf} {q : Nat} : R.kl ∈ q :: R.Ls := .tail _ (.head _)
theorem m_us {R : Rf} {q : Nat} : R.us ∈ q :: R.Ls := .tail _ (.tail _ (.head _))
theorem m_ow {R : Rf} {q : Nat} : R.ow ∈ q :: R.Ls := .tail _ (.tail _ (.tail _ (.head _)))
theorem m_ev {R : Rf} {q : Nat} : R.ev ∈ q :: R.Ls := .tail _ (.tail _ (.tail _ (.tail _ (.head _))))
theorem m_wp {R : Rf} {q : Nat} : R.wp ∈ q :: R.Ls := .tail _ (.tail _ (.tail _ (.tail _ (.tail _ (.head _)))))
theorem m_wo {R : Rf} {q : Nat} : R.wo ∈ q :: R.Ls := .tail _ (.tail _ (.tail _ (.tail _ (.tail _ (.tail _ (.head _))))))
theorem m_we {R : Rf} {q : Nat} : R.we ∈ q :: R.Ls := .tail _ (.tail _ (.tail _ (.tail _ (.tail _ (.tail _ (.tail _ (.head _)))))))
theorem m_bx {R : Rf} {q : Nat} : R.bx ∈ q :: R.Ls := .tail _ (.tail _ (.tail _ (.tail _ (.tail _ (.tail _ (.tail _ (.tail _ (.head _))))))))
structure Dy where
  ct : Nat
  rt : Nat
  tq : Nat
  sp : Nat
  ps : List AP
  act : AP
  hi : Int
  cb : List Int
  way : Nat
  el : VV
  left : VV
  k : Nat
  m : Nat
  t : Nat → Nat
  ows : List VV
  evs : List VV
  wows : List VV
  wevs : List VV
  pv : List VV
  tes : List (Nat × VV)
  c : Int
noncomputable def wents (here way wp tr : Nat) (hi : Int) (cb : List Int) (k : Nat) (sp wo we : Nat) (left : VV) : List (Nat × VV) :=
  [(145, .str here), (14, .str way), (146, .ref wp), (161, .ref tr), (156, .int hi), (151, .bytes cb), (102, .int k), (139, .ref sp), (56, .ref wo), (57, .ref we), (155, left)]
noncomputable def isPr : Option AP → Bool
  | some p => stN p.st == 146
  | none => false
noncomputable def tdat : Option AP → Option VV
  | some p => (match p.st with | .tr d => some (.bytes (dat d)) | _ => none)
  | none => none
noncomputable def spl : Nat → Nat → List VV
  | _, 0 => []
  | k, m + 1 => .int ((k : Int) + 1) :: spl (k + 1) m
noncomputable def A3 (a : Nat) : Prop := a = 64 ∨ a = 65 ∨ a = 66
structure TR (tes : List (Nat × VV)) (ps : List AP) (T : Int) : Prop where
  look : ∀ a, A3 a → look a tes = tdat (seek a ps)
  shape : tes = [] ∨ (∃ a v, tes = [(a, v)] ∧ (a = 64 ∨ a = 66)) ∨ ∃ a v b u, tes = [(a, v), (b, u)] ∧ (a = 64 ∧ b = 66 ∨ a = 66 ∧ b = 64)
  small : ∀ p ∈ ps, ∀ d, p.st = .tr d → 0 ≤ d ∧ d < T
  own : ∀ p ∈ ps, ∀ q ∈ ps, ∀ d, p.st = .tr d → q.st = .tr d → p = q

structure Inv (R : Rf) (is : List Int) (T B : Int) (D : Dy) (h : VH) : Prop where
  con : ConnAt h R.cn R.pa R.rm D.ct D.rt R.ow R.ev R.cf D.cb D.way D.el
  pat : PathsAt (D.tq :: R.Ls) h R.pa R.kl D.ps D.act D.hi
  rem : RemAt (D.tq :: R.Ls) h R.rm R.kn R.us D.tq D.k D.m D.t []
  emp : Emp h
  lows : h.lst R.ow = some D.ows
  levs : h.lst R.ev = some D.evs
  lwows : h.lst R.wo = some D.wows
  lwevs : h.lst R.we = some D.wevs
  twO : TL h D.ows D.wows
  twE : TL h D.evs D.wevs
  lenO : (D.ows.length : Int) ≤ B
  lenE : (D.evs.length : Int) ≤ B
  wor : h.sd R.w = some (wents D.act.a D.way R.wp R.tr D.hi D.cb D.k D.sp R.wo R.we D.left)
  lwp : h.lst R.wp = some D.pv
  pvlen : (D.pv.length : Int) ≤ B
  prov : ∀ a, A3 a → inL (.str a) D.pv = some (isPr (seek a D.ps))
  home : ∃ p, seek 65 D.ps = some p ∧ p.st = .pr
  ltr : h.sd R.tr = some D.tes
  notr : h.lst R.tr = none
  icn : h.ic R.tr = none
  tri : TR D.tes D.ps T
  lsp : h.lst D.sp = some (spl D.k D.m)
  lbx : h.lst R.bx = some [.ref R.bl, .int D.c]
  lbl : h.lst R.bl = some (is.map .int)
  c0 : 0 ≤ D.c
  c1 : D.c ≤ B
  lef : (D.el = .none ∧ D.left = .none) ∨ ∃ q ∈ D.ps, D.el = .ref q.ref ∧ D.left = .str q.a
  nod : (D.tq :: R.Ls).Nodup
  lts : ∀ r ∈ D.tq :: R.Ls, r < h.nxt
  spn : D.sp ∉ D.tq :: R.Ls
  bln : R.bl ∉ D.tq :: R.Ls
  splt : D.sp < h.nxt
  bllt : R.bl < h.nxt
  wlt : R.w < h.nxt
  trlt : R.tr < h.nxt
  wtr : R.w ≠ R.tr
  cw : R.cf ≠ R.w
  ctr : R.cf ≠ R.tr

theorem ne_lst {h : VH} {a b : Nat} {v : List VV} (h1 : h.lst a = none) (h2 : h.lst b = some v) : a ≠ b := fun e => by
  subst e
  rw [h1] at h2
  cases h2
section
variable {R : Rf} {is : List Int} {T B : Int} {D : Dy} {h h' : VH}
set_option tactic.hygienic false
theorem Inv.LsOk (x : Inv R is T B D h) : LsOk R.Ls h D.tq R.kl R.us R.ow R.ev := by
  have nd := x.nod
  simp only [Rf.Ls, List.nodup_cons, List.mem_cons, List.not_mem_nil, or_false, not_or] at nd
  obtain ⟨n0, ⟨n1, n2⟩⟩ := nd
  exact ⟨fun r m => x.lts r (.tail _ m), x.lts _ (.head _), (List.nodup_cons.mp x.nod).1, by simp [Rf.Ls], by simp [Rf.Ls], by simp [Rf.Ls], by simp [Rf.Ls], n2.1.1, n2.1.2.1, fun e => n1.1 e.symm, n2.2.1.1, fun e => n1.2.1 e.symm, fun e => n1.2.2.1 e.symm⟩

theorem Inv.still (x : Inv R is T B D h) (k : Keep [] [] [] [] h h') : Inv R is T B D h' where
  con := x.con.keep k (fun m => nomatch m) (fun m => nomatch m)
  pat := x.pat.keep k (fun m => nomatch m) (fun p hp m => nomatch m) (fun m => nomatch m) (fun r m => nomatch m)
  rem := x.rem.keep k (fun m => nomatch m) (fun m => nomatch m) (fun m => nomatch m) (fun m => nomatch m) (fun r m => nomatch m) (fun r m => .inl m)
  emp := k.empty x.emp
  lows := (k.lst _ (x.lts _ m_ow) fun m => nomatch m).trans x.lows
  levs := (k.lst _ (x.lts _ m_ev) fun m => nomatch m).trans x.levs
  lwows := (k.lst _ (x.lts _ m_wo) fun m => nomatch m).trans x.lwows
  lwevs := (k.lst _ (x.lts _ m_we) fun m => nomatch m).trans x.lwevs
  twO := x.twO.keep k fun r m => nomatch m
  twE := x.twE.keep k fun r m => nomatch m
  lenO := x.lenO
  lenE := x.lenE
  wor := (k.sd _ x.wlt fun m => nomatch m).trans x.wor
  lwp := (k.lst _ (x.lts _ m_wp) fun m => nomatch m).trans x.lwp
  pvlen := x.pvlen
  prov := x.prov
  home := x.home
  ltr := (k.sd _ x.trlt fun m => nomatch m).trans x.ltr
  notr := (k.lst _ x.trlt fun m => nomatch m).trans x.notr
  icn := (k.ic _ x.trlt fun m => nomatch m).trans x.icn
  tri := x.tri
  lsp := (k.lst _ x.splt fun m => nomatch m).trans x.lsp
  lbx := (k.lst _ (x.lts _ m_bx) fun m => nomatch m).trans x.lbx
  lbl := (k.lst _ x.bllt fun m => nomatch m).trans x.lbl
  c0 := x.c0
  c1 := x.c1
  lef := x.lef
  nod := x.nod
  lts := fun r m => Nat.lt_of_lt_of_le (x.lts r m) k.nxt
  spn := x.spn
  bln := x.bln
  splt := Nat.lt_of_lt_of_le x.splt k.nxt
  bllt := Nat.lt_of_lt_of_le x.bllt k.nxt
  wlt := Nat.lt_of_lt_of_le x.wlt k.nxt
  trlt := Nat.lt_of_lt_of_le x.trlt k.nxt
  wtr := x.wtr
  cw := x.cw
  ctr := x.ctr
theorem Inv.more (x : Inv R is T B D h) {T' B' : Int} (hT : T ≤ T') (hB : B ≤ B') : Inv R is T' B' D h :=
  { x with lenO := Int.le_trans x.lenO hB, lenE := Int.le_trans x.lenE hB, pvlen := Int.le_trans x.pvlen hB, c1 := Int.le_trans x.c1 hB, tri := { x.tri with small := fun p hp d e => ⟨(x.tri.small p hp d e).1, Int.lt_of_lt_of_le (x.tri.small p hp d e).2 hT⟩ } }

theorem Inv.drawn (x : Inv R is T B D h) : Inv R is T (B + 1) { D with c := D.c + 1 } (h.setL R.bx [.ref R.bl, .int (D.c + 1)]) := by
  have L := x.LsOk
  have nd := x.nod
  simp only [Rf.Ls, List.nodup_cons, List.mem_cons, List.not_mem_nil, or_false, not_or] at nd
  obtain ⟨⟨b1, b2, b3, b4, b5, b6, b7, b8⟩, ⟨c1, c2, c3, c4, c5, c6, c7⟩, ⟨d1, d2, d3, d4, d5, d6⟩, ⟨e1, e2, e3, e4, e5⟩, ⟨f1, f2, f3, f4⟩, ⟨g1, g2, g3⟩, ⟨h1, h2⟩, i1, _⟩ := nd
  have bxlt := x.lts R.bx m_bx
  have k : Keep [] [R.bx] [] [] h (h.setL R.bx [.ref R.bl, .int (D.c + 1)]) := .setL .refl (.inl (.head _)) bxlt
  have hs : ∀ r ∈ [R.bx], r ∈ D.tq :: R.Ls := fun r m => by rw [List.mem_singleton.mp m]; simp [Rf.Ls]
  have sn : ∀ r ∈ [R.bx], h.lst r ≠ none := fun r m => by rw [List.mem_singleton.mp m, x.lbx]; exact fun q => nomatch q
  have spx : D.sp ≠ R.bx := fun q => x.spn (q ▸ m_bx)
  have blx : R.bl ≠ R.bx := fun q => x.bln (q ▸ m_bx)
  have ni : ∀ {r : Nat}, r ≠ R.bx → r ∉ [R.bx] := fun q m => q (List.mem_singleton.mp m)
  exact {
    con := x.con.keep k (fun m => nomatch m) (fun m => nomatch m)
    pat := x.pat.keep k (fun m => nomatch m) (fun p hp m => nomatch m) (ni c7) hs
    rem := x.rem.keep k (fun m => nomatch m) (ni d6) (ni b8) (fun m => nomatch m) hs (fun r m => .inl m)
    emp := k.empty x.emp
    lows := (k.lst _ (x.lts _ m_ow) (ni e5)).trans x.lows
    levs := (k.lst _ (x.lts _ m_ev) (ni f4)).trans x.levs
    lwows := (k.lst _ (x.lts _ m_wo) (ni h2)).trans x.lwows
    lwevs := (k.lst _ (x.lts _ m_we) (ni i1)).trans x.lwevs
    twO := x.twO.keep k sn
    twE := x.twE.keep k sn
    lenO := by have := x.lenO; show (D.ows.length : Int) ≤ B + 1; omega
    lenE := by have := x.lenE; show (D.evs.length : Int) ≤ B + 1; omega
    wor := (k.sd _ x.wlt fun m => nomatch m).trans x.wor
    lwp := (k.lst _ (x.lts _ m_wp) (ni g3)).trans x.lwp
    pvlen := by have := x.pvlen; show (D.pv.length : Int) ≤ B + 1; omega
    prov := x.prov
    home := x.home
    ltr := (k.sd _ x.trlt fun m => nomatch m).trans x.ltr
    notr := (k.lst _ x.trlt (ni (ne_lst x.notr x.lbx))).trans x.notr
    icn := (k.ic _ x.trlt fun m => nomatch m).trans x.icn
    tri := x.tri
    lsp := (k.lst _ x.splt (ni spx)).trans x.lsp
    lbx := by simp [setL_lst]
    lbl := (k.lst _ x.bllt (ni blx)).trans x.lbl
    c0 := by have := x.c0; show 0 ≤ D.c + 1; omega
    c1 := by have := x.c1; show D.c + 1 ≤ B + 1; omega
    lef := x.lef
    nod := x.nod
    lts := fun r m => Nat.lt_of_lt_of_le (x.lts r m) k.nxt
    spn := x.spn
    bln := x.bln
    splt := Nat.lt_of_lt_of_le x.splt k.nxt
    bllt := Nat.lt_of_lt_of_le x.bllt k.nxt
    wlt := Nat.lt_of_lt_of_le x.wlt k.nxt
    trlt := Nat.lt_of_lt_of_le x.trlt k.nxt
    wtr := x.wtr
    cw := x.cw
    ctr := x.ctr }

structure DrawS (D D1 : Dy) : Prop where
  ct : D1.ct = D.ct
  rt : D1.rt = D.rt
  tes : D1.tes = D.tes
theorem DrawS.trans {D D1 D2 : Dy} (a : DrawS D D1) (b : DrawS D1 D2) : DrawS D D2 := ⟨b.ct.trans a.ct, b.rt.trans a.rt, b.tes.trans a.tes⟩
structure Drew (n : Nat) (R : Rf) (is : List Int) (T B : Int) (D : Dy) (h : VH) (m v : Int) (h' : VH) (D1 : Dy) : Prop where
  v0 : 0 ≤ v
  v1 : v < m
  run : vF (n + 1) 31 [.ref R.bx, .int m] h = some (.int v, h')
  nxt : h'.nxt = h.nxt
  keep : Keep [] [R.bx] [] [] h h'
  inv : Inv R is T (B + 1) D1 h'
  same : DrawS D D1
theorem Inv.draw (n : Nat) (x : Inv R is T B D h) (hB : B < 800) {m : Int} (hm : 0 < m) : ∃ v h' D1, Drew n R is T B D h m v h' D1 := by
  have blx : R.bl ≠ R.bx := fun q => x.bln (q ▸ m_bx)
  obtain ⟨v, v0, v1, e⟩ := c_take (n := n) hm x.lbx x.lbl x.c0 (by have := x.c1; omega) blx
  exact ⟨v, _, _, v0, v1, e, rfl, .setL .refl (.inl (.head _)) (x.lts _ m_bx), x.drawn, rfl, rfl, rfl⟩
end
end Mine
end
section
namespace Mine
section
variable {h : VH} {n : Nat} {vs : List VV}
set_option tactic.hygienic false
theorem T_hit : (h.newT vs).tup h.nxt = some vs := if_pos rfl
theorem T_miss {w : List VV} (hn : n ≠ h.nxt) (a : h.tup n = some w) : (h.newT vs).tup n = some w := (if_neg hn).trans a
theorem veqs_refl {d : Nat} : ∀ {xs : List VV}, xs.all atom = true → veqsW (veq (d + 1) h) xs xs = some true
  | [], _ => rfl
  | v :: xs, q => by
    obtain ⟨q1, q2⟩ := Bool.and_eq_true_iff.mp (show (atom v && xs.all atom) = true from q)
    have e : veq (d + 1) h v v = some true := by cases v <;> simp [atom] at q1 <;> simp [veq]
    show (veq (d + 1) h v v).bind _ = _
    rw [e]
    show (veqsW (veq (d + 1) h) xs xs).map _ = _
    rw [veqs_refl q2]
    rfl
theorem tup_same {n2 : Nat} {xs : List VV} (o1 : h.lst n = none) (o2 : h.lst n2 = none) (t1 : h.tup n = some xs) (t2 : h.tup n2 = some xs) (ne : n ≠ n2) (q : xs.all atom = true) : veqT h (.ref n) (.ref n2) = some true := by
  show (if n = n2 then none else veq 6 h (.ref n) (.ref n2)) = _
  rw [if_neg ne]
  show veqR (veq 5 h) h n n2 = _
  unfold veqR veqL
  simp only [if_neg ne, o1, o2, t1, t2, if_true]
  exact veqs_refl q
theorem Qn_tup {n2 : Nat} {xs : List VV} (o1 : h.lst n = none) (o2 : h.lst n2 = none) (t1 : h.tup n = some xs) (t2 : h.tup n2 = some xs) (ne : n ≠ n2) (q : xs.all atom = true) : vCmp 1 (.ref n) (.ref n2) h = some false := by
  simp only [vCmp]
  rw [tup_same o1 o2 t1 t2 ne q]
  rfl
theorem Q_tup {n2 : Nat} {xs : List VV} (o1 : h.lst n = none) (o2 : h.lst n2 = none) (t1 : h.tup n = some xs) (t2 : h.tup n2 = some xs) (ne : n ≠ n2) (q : xs.all atom = true) : vCmp 0 (.ref n) (.ref n2) h = some true := by
  simp only [vCmp]
  exact tup_same o1 o2 t1 t2 ne q
end
noncomputable def al0 : PS := (.asg (.name 164) (.tup (.cons (.attr (.attr (.loc 78) 12) 1) (.cons (.attr (.attr (.loc 78) 12) 2) (.cons (.attr (.attr (.loc 78) 12) 3) (.cons (.attr (.attr (.loc 78) 12) 4) .nil))))))
noncomputable def al1 : PS := (.ifs (.cmp 1 (.loc 164) (.ife (.loc 149) (.tup (.cons (.int 12000) (.cons (.none) (.cons (.bin 0 (.int 50) (.loc 147)) (.cons (.int 700) .nil))))) (.tup (.cons (.bin 0 (.int 3000) (.loc 147)) (.cons (.int 2000) (.cons (.none) (.cons (.int 700) .nil))))))) (.cons (.ret (.bool false)) .nil) .nil)
noncomputable def al2 : PS := (.ifs (.cmp 1 (.tup (.cons (.attr (.attr (.loc 78) 13) 9) (.cons (.attr (.attr (.loc 78) 13) 6) .nil))) (.ife (.loc 149) (.tup (.cons (.bin 2 (.int 8) (.int 333000)) (.cons (.bin 0 (.int 50) (.loc 147)) .nil))) (.tup (.cons (.bin 0 (.int 8000) (.loc 147)) (.cons (.none) .nil))))) (.cons (.ret (.bool false)) .nil) .nil)
noncomputable def al3 : PS := (.ifs (.cmp 1 (.tup (.cons (.attr (.loc 78) 56) (.cons (.attr (.loc 78) 57) (.cons (.attr (.loc 78) 14) .nil)))) (.tup (.cons (.sub (.loc 143) (.str 56)) (.cons (.sub (.loc 143) (.str 57)) (.cons (.sub (.loc 143) (.str 14)) .nil))))) (.cons (.ret (.bool false)) .nil) .nil)
noncomputable def al4 : PS := (.ifs (.cmp 1 (.ife (.cmp 6 (.attr (.loc 78) 15) (.none)) (.none) (.attr (.attr (.loc 78) 15) 25)) (.sub (.loc 143) (.str 155))) (.cons (.ret (.bool false)) .nil) .nil)
noncomputable def al5 : PS := (.asg (.name 163) (.tup (.cons (.attr (.attr (.attr (.loc 78) 54) 35) 25) (.cons (.attr (.loc 78) 16) (.cons (.meth (.attr (.loc 78) 55) 112 .nil) .nil)))))
noncomputable def al6 : PS := (.ret (.cmp 0 (.loc 163) (.tup (.cons (.sub (.loc 143) (.str 145)) (.cons (.sub (.loc 143) (.str 151)) (.cons (.ife (.cmp 0 (.sub (.loc 143) (.str 102)) (.int 0)) (.bytes [122, 101, 114, 111]) (.bf 141 (.cons (.bin 2 (.list (.cons (.sub (.loc 143) (.str 102)) .nil)) (.int 4)) .nil))) .nil))))))
set_option tactic.hygienic false
theorem al_is : b_law_is_alike = (.cons al0 (.cons al1 (.cons al2 (.cons al3 (.cons al4 (.cons al5 (.cons al6 .nil))))))) := rfl
noncomputable def pk0 : PS := (.asgT [.name 150, .name 85] (.tup (.cons (.sub (.list (.cons (.str 65) (.cons (.str 64) (.cons (.str 66) .nil)))) (.fn 137 (.cons (.loc 135) (.cons (.int 3) .nil)))) (.cons (.bin 0 (.bin 2 (.int 2) (.loc 147)) (.fn 137 (.cons (.loc 135) (.cons (.int 4) .nil)))) .nil))))
noncomputable def pk1 : PS := (.asgT [.name 152, .name 102] (.tup (.cons (.cmp 0 (.fn 137 (.cons (.loc 135) (.cons (.int 4) .nil))) (.int 3)) (.cons (.sub (.list (.cons (.bytes [111, 110, 101]) (.cons (.bytes [116, 119, 111]) .nil))) (.fn 137 (.cons (.loc 135) (.cons (.int 2) .nil)))) .nil))))
noncomputable def pk2 : PS := (.expr (.meth (.attr (.loc 78) 54) 129 (.cons (.loc 150) (.cons (.int 100) .nil))))
noncomputable def pk3 : PS := (.expr (.fn 87 (.cons (.loc 78) (.cons (.loc 102) (.cons (.loc 150) (.cons (.loc 85) (.cons (.loc 152) (.cons (.bin 0 (.int 50) (.loc 147)) .nil))))))))
noncomputable def pk4 : PS := (.asgT [.name 153, .name 149] (.tup (.cons (.cmp 4 (.loc 85) (.sub (.loc 143) (.str 156))) (.cons (.bool false) .nil))))
noncomputable def pk5 : PS := (.asg (.sub (.loc 143) (.str 156)) (.bf 69 (.cons (.loc 85) (.cons (.sub (.loc 143) (.str 156)) .nil))))
noncomputable def pk6 : PS := (.ifs (.and (.cons (.loc 153) (.cons (.not (.loc 152)) (.cons (.cmp 1 (.loc 150) (.sub (.loc 143) (.str 145))) .nil)))) (.cons (.asg (.sub (.loc 143) (.str 155)) (.ife (.cmp 8 (.sub (.loc 143) (.str 145)) (.sub (.loc 143) (.str 146))) (.sub (.loc 143) (.str 145)) (.sub (.loc 143) (.str 155)))) (.cons (.asg (.sub (.loc 143) (.str 145)) (.loc 150)) (.cons (.expr (.bm (.sub (.loc 143) (.str 57)) 92 (.cons (.tup (.cons (.str 93) (.cons (.loc 150) .nil))) .nil))) (.cons (.ifs (.and (.cons (.cmp 1 (.loc 102) (.sub (.loc 143) (.str 151))) (.cons (.cmp 1 (.sub (.loc 143) (.str 139)) (.list .nil)) .nil))) (.cons (.expr (.bm (.sub (.loc 143) (.str 56)) 92 (.cons (.tup (.cons (.str 154) (.cons (.sub (.loc 143) (.str 102)) .nil))) .nil))) (.cons (.asgT [.sub (.loc 143) (.str 102), .sub (.loc 143) (.str 139)] (.tup (.cons (.sub (.sub (.loc 143) (.str 139)) (.int 0)) (.cons (.slc (.sub (.loc 143) (.str 139)) (some 1) none) .nil)))) .nil)) .nil) (.cons (.asg (.name 149) (.fn 144 (.cons (.loc 143) .nil))) .nil))))) .nil)
noncomputable def pk7 : PS := (.ifs (.cmp 0 (.loc 150) (.sub (.loc 143) (.str 145))) (.cons (.asg (.sub (.loc 143) (.str 151)) (.loc 102)) .nil) .nil)
noncomputable def pk8 : PS := (.ret (.loc 149))
theorem pk_is : b_law_packet = (.cons pk0 (.cons pk1 (.cons pk2 (.cons pk3 (.cons pk4 (.cons pk5 (.cons pk6 (.cons pk7 (.cons pk8 .nil))))))))) := rfl
noncomputable def an0 : PS := (.asg (.name 158) (.bf 108 (.cons (.sub (.loc 143) (.str 161)) .nil)))
noncomputable def an1 : PS := (.asgT [.name 159, .name 160] (.tup (.cons (.cmp 1 (.fn 137 (.cons (.loc 135) (.cons (.int 3) .nil))) (.int 0)) (.cons (.fn 137 (.cons (.loc 135) (.cons (.int 2) .nil))) .nil))))
noncomputable def an2 : PS := (.asg (.name 95) (.ife (.and (.cons (.loc 159) (.cons (.cmp 1 (.loc 158) (.list .nil)) .nil))) (.sub (.sub (.loc 143) (.str 161)) (.sub (.loc 158) (.bin 4 (.loc 160) (.bf 101 (.cons (.loc 158) .nil))))) (.bf 141 (.cons (.bin 2 (.list (.cons (.int 99) .nil)) (.int 8)) .nil))))
noncomputable def an3 : PS := (.expr (.fn 96 (.cons (.loc 78) (.cons (.loc 95) (.cons (.bin 0 (.int 50) (.loc 147)) .nil)))))
noncomputable def an4 : PS := (.ifs (.and (.cons (.loc 159) (.cons (.cmp 1 (.loc 158) (.list .nil)) .nil))) (.cons (.expr (.bm (.sub (.loc 143) (.str 161)) 111 (.cons (.sub (.loc 158) (.bin 4 (.loc 160) (.bf 101 (.cons (.loc 158) .nil)))) .nil))) (.cons (.expr (.bm (.sub (.loc 143) (.str 146)) 92 (.cons (.sub (.loc 158) (.bin 4 (.loc 160) (.bf 101 (.cons (.loc 158) .nil)))) .nil))) .nil)) .nil)
noncomputable def an5 : PS := (.ret (.fn 144 (.cons (.loc 143) .nil)))
theorem an_is : b_law_answer = (.cons an0 (.cons an1 (.cons an2 (.cons an3 (.cons an4 (.cons an5 .nil)))))) := rfl
noncomputable def lw0 : PS := (.asg (.name 135) (.list (.cons (.bf 169 (.cons (.slc (.loc 165) none (some 40)) .nil)) (.cons (.int 0) .nil))))
noncomputable def lw1 : PS := (.asg (.name 139) (.bin 1 (.int 2) (.fn 137 (.cons (.loc 135) (.cons (.int 3) .nil)))))
noncomputable def lw2 : PS := (.asg (.name 78) (.fn 140 (.cons (.loc 139) .nil)))
noncomputable def lw3 : PS := (.asg (.name 143) (.sdict [145, 14, 146, 161, 156, 151, 102] (.cons (.str 65) (.cons (.str 65) (.cons (.list (.cons (.str 65) .nil)) (.cons (.sdict [] .nil) (.cons (.int (-1)) (.cons (.bytes [111, 110, 101]) (.cons (.int 0) .nil)))))))))
noncomputable def lw4 : PS := (.expr (.bm (.loc 143) 168 (.cons (.sdict [139, 56, 57, 155] (.cons (.lrange (.int 1) (.bin 0 (.loc 139) (.int 1))) (.cons (.list .nil) (.cons (.list .nil) (.cons (.none) .nil))))) .nil)))
noncomputable def lw5 : PS := (.forR 147 (.none) (.int 6) (.cons (.asg (.name 167) (.and (.cons (.cmp 9 (.sub (.loc 143) (.str 145)) (.sub (.loc 143) (.str 146))) (.cons (.cmp 9 (.sub (.loc 143) (.str 145)) (.sub (.loc 143) (.str 161))) .nil)))) (.cons (.asg (.name 84) (.meth (.attr (.loc 78) 54) 132 .nil)) (.cons (.ifs (.cmp 1 (.cmp 7 (.loc 84) (.none)) (.loc 167)) (.cons (.ret (.bool false)) .nil) .nil) (.cons (.ifs (.loc 167) (.cons (.asg (.sub (.sub (.loc 143) (.str 161)) (.sub (.loc 143) (.str 145))) (.bf 141 (.cons (.bin 2 (.list (.cons (.loc 147) .nil)) (.int 8)) .nil))) (.cons (.expr (.meth (.loc 84) 121 (.cons (.bf 141 (.cons (.bin 2 (.list (.cons (.loc 147) .nil)) (.int 8)) .nil)) (.cons (.bin 0 (.int 50) (.loc 147)) (.cons (.int 900) .nil))))) .nil)) .nil) (.cons (.asgT [.attr (.attr (.loc 78) 12) 1, .attr (.attr (.loc 78) 12) 2, .attr (.attr (.loc 78) 12) 3] (.tup (.cons (.bin 0 (.int 3000) (.loc 147)) (.cons (.int 2000) (.cons (.none) .nil))))) (.cons (.asgT [.attr (.attr (.loc 78) 13) 9, .attr (.attr (.loc 78) 13) 6] (.tup (.cons (.bin 0 (.int 8000) (.loc 147)) (.cons (.none) .nil)))) (.cons (.ifs (.cmp 0 (.fn 137 (.cons (.loc 135) (.cons (.int 3) .nil))) (.int 2)) (.cons (.asg (.name 149) (.fn 157 (.cons (.loc 135) (.cons (.loc 78) (.cons (.loc 143) (.cons (.loc 147) .nil)))))) .nil) (.cons (.asg (.name 149) (.fn 148 (.cons (.loc 135) (.cons (.loc 78) (.cons (.loc 143) (.cons (.loc 147) .nil)))))) .nil)) (.cons (.ifs (.not (.fn 162 (.cons (.loc 78) (.cons (.loc 143) (.cons (.loc 149) (.cons (.loc 147) .nil)))))) (.cons (.ret (.bool false)) .nil) .nil) .nil)))))))))
noncomputable def lw6 : PS := (.ret (.bool true))
theorem lw_is : b_law = (.cons lw0 (.cons lw1 (.cons lw2 (.cons lw3 (.cons lw4 (.cons lw5 (.cons lw6 .nil))))))) := rfl
noncomputable def tb0 : PS := (.asg (.name 167) (.and (.cons (.cmp 9 (.sub (.loc 143) (.str 145)) (.sub (.loc 143) (.str 146))) (.cons (.cmp 9 (.sub (.loc 143) (.str 145)) (.sub (.loc 143) (.str 161))) .nil))))
noncomputable def tb1 : PS := (.asg (.name 84) (.meth (.attr (.loc 78) 54) 132 .nil))
noncomputable def tb2 : PS := (.ifs (.cmp 1 (.cmp 7 (.loc 84) (.none)) (.loc 167)) (.cons (.ret (.bool false)) .nil) .nil)
noncomputable def tb3 : PS := (.ifs (.loc 167) (.cons (.asg (.sub (.sub (.loc 143) (.str 161)) (.sub (.loc 143) (.str 145))) (.bf 141 (.cons (.bin 2 (.list (.cons (.loc 147) .nil)) (.int 8)) .nil))) (.cons (.expr (.meth (.loc 84) 121 (.cons (.bf 141 (.cons (.bin 2 (.list (.cons (.loc 147) .nil)) (.int 8)) .nil)) (.cons (.bin 0 (.int 50) (.loc 147)) (.cons (.int 900) .nil))))) .nil)) .nil)
noncomputable def tb4 : PS := (.asgT [.attr (.attr (.loc 78) 12) 1, .attr (.attr (.loc 78) 12) 2, .attr (.attr (.loc 78) 12) 3] (.tup (.cons (.bin 0 (.int 3000) (.loc 147)) (.cons (.int 2000) (.cons (.none) .nil)))))
noncomputable def tb5 : PS := (.asgT [.attr (.attr (.loc 78) 13) 9, .attr (.attr (.loc 78) 13) 6] (.tup (.cons (.bin 0 (.int 8000) (.loc 147)) (.cons (.none) .nil))))
noncomputable def tb6 : PS := (.ifs (.cmp 0 (.fn 137 (.cons (.loc 135) (.cons (.int 3) .nil))) (.int 2)) (.cons (.asg (.name 149) (.fn 157 (.cons (.loc 135) (.cons (.loc 78) (.cons (.loc 143) (.cons (.loc 147) .nil)))))) .nil) (.cons (.asg (.name 149) (.fn 148 (.cons (.loc 135) (.cons (.loc 78) (.cons (.loc 143) (.cons (.loc 147) .nil)))))) .nil))
noncomputable def tb7 : PS := (.ifs (.not (.fn 162 (.cons (.loc 78) (.cons (.loc 143) (.cons (.loc 149) (.cons (.loc 147) .nil)))))) (.cons (.ret (.bool false)) .nil) .nil)
noncomputable def b_turn : PSs := (.cons tb0 (.cons tb1 (.cons tb2 (.cons tb3 (.cons tb4 (.cons tb5 (.cons tb6 (.cons tb7 .nil))))))))
theorem lw5_is : lw5 = .forR 147 .none (.int 6) b_turn := rfl

theorem seq_next {cl : Caller} {s : PS} {ss : PSs} {l l1 : Loc} {h h1 : VH} {r : Option (VFl × Loc × VH)} (a : vS cl s l h = some (.next, l1, h1)) (b : vSs cl ss l1 h1 = r) : vSs cl (.cons s ss) l h = r := S_cons a (K_next b)
theorem seq_ret {cl : Caller} {s : PS} {ss : PSs} {l l1 : Loc} {h h1 : VH} {v : VV} (a : vS cl s l h = some (.ret v, l1, h1)) : vSs cl (.cons s ss) l h = some (.ret v, l1, h1) := S_cons a K_ret

section
variable {R : Rf} {is : List Int} {T B : Int} {D : Dy} {h h' : VH} {l : Loc}
set_option tactic.hygienic false
theorem c_renews (n : Nat) {w here way wp tr k sp wo we : Nat} {hi : Int} {cb : List Int} {left : VV} {pv : List VV} {b : Bool} (hw : h.sd w = some (wents here way wp tr hi cb k sp wo we left)) (hp : h.lst wp = some pv) (hb : inL (.str here) pv = some b) :
    vF (n + 1) 33 [.ref w] h = some (.bool (b && !(here == way)), if (b && !(here == way)) = true then h.setS w (wents here here wp tr hi cb k sp wo we left) else h) := by
  refine vF_go (by decide) (by decide) (by decide) rfl rfl ?_
  have len : (wents here way wp tr hi cb k sp wo we left).length < 1000 := by show 11 < 1000; decide
  cases b with
  | false =>
    have q : vCmp 9 (.str here) (.ref wp) h = some true := Q_nin hp hb rfl
    apply go_of
    unfold b_law_renews
    repeat' (first | (with_reducible first | exact S_nil | apply S_cons | apply K_next | exact K_ret | apply X_asg | apply X_ret | apply X_if | apply If_t | apply If_f | apply A_subS | apply E_loc | exact E_str | exact E_bool | apply E_cmp | apply E_or | apply E_sub | apply V_one | apply V_cons | apply Vk_gf | exact Vk_sf | apply Q_str | apply U_str) | exact hw | exact q | exact e | exact len | (first | exact (rfl : _ = true) | exact (rfl : _ = false) | exact F_hit | (apply F_miss; · exact rfl) | exact C_new | exact L_hit | exact Ls_hit | exact D_hit | exact rfl | decide))
  | true =>
    have q : vCmp 9 (.str here) (.ref wp) h = some false := Q_nin hp hb rfl
    cases e : (here == way) with
    | true =>
      apply go_of
      unfold b_law_renews
      repeat' (first | (with_reducible first | exact S_nil | apply S_cons | apply K_next | exact K_ret | apply X_asg | apply X_ret | apply X_if | apply If_t | apply If_f | apply A_subS | apply E_loc | exact E_str | exact E_bool | apply E_cmp | apply E_or | apply E_sub | apply V_one | apply V_cons | apply Vk_gf | exact Vk_sf | apply Q_str | apply U_str) | exact hw | exact q | exact e | exact len | (first | exact (rfl : _ = true) | exact (rfl : _ = false) | exact F_hit | (apply F_miss; · exact rfl) | exact C_new | exact L_hit | exact Ls_hit | exact D_hit | exact rfl | decide))
    | false =>
      apply go_of
      unfold b_law_renews
      repeat' (first | (with_reducible first | exact S_nil | apply S_cons | apply K_next | exact K_ret | apply X_asg | apply X_ret | apply X_if | apply If_t | apply If_f | apply A_subS | apply E_loc | exact E_str | exact E_bool | apply E_cmp | apply E_or | apply E_sub | apply V_one | apply V_cons | apply Vk_gf | exact Vk_sf | apply Q_str | apply U_str) | exact hw | exact q | exact e | exact len | (first | exact (rfl : _ = true) | exact (rfl : _ = false) | exact F_hit | (apply F_miss; · exact rfl) | exact C_new | exact L_hit | exact Ls_hit | exact D_hit | exact rfl | decide))

theorem fresh_lst (E : Emp h) (j : Nat) : h.lst (h.nxt + j) = none := E _ (Nat.le_add_right _ _)
theorem fresh_lst0 (E : Emp h) : h.lst h.nxt = none := E _ (Nat.le_refl _)

theorem al_0 (cl : Caller) {r : Bool} {t : Int} (x : Inv R is T B D h) (y : CtlAt h D.ct D.rt (pick r (.int 12000) (.int (3000 + t))) (pick r .none (.int 2000)) (pick r (.int (50 + t)) .none) (pick r (.int 2664000) (.int (8000 + t))) (pick r (.int (50 + t)) .none)) (h1 : l 78 = some (.ref R.cn)) (h2 : l 149 = some (.bool r)) (h3 : l 147 = some (.int t)) :
    ∃ h', (∀ ss r, vSs cl ss (upd l 164 (some (.ref h.nxt))) h' = r → vSs cl (.cons al0 (.cons al1 (.cons al2 ss))) l h = r) ∧ Keep [] [] [] [] h h' := by
  have c := x.con
  have f0 := fresh_lst0 x.emp
  have f1 := fresh_lst x.emp 1
  have f2 := fresh_lst x.emp 2
  have f3 := fresh_lst x.emp 3
  have yw := y.win
  have yt := y.thr
  have yr := y.rec_at
  have ys := y.smo
  have yn := y.since
  unfold al0 al1 al2
  cases r <;> simp only [pick_true, pick_false] at yw yt yr ys yn
  all_goals
    have n0 : h.nxt ≠ h.nxt + 1 := Nat.ne_of_lt (Nat.lt_succ_self _)
    have n2 : h.nxt + 2 ≠ h.nxt + 3 := Nat.ne_of_lt (Nat.lt_succ_self _)
    apply Exists.intro
    apply And.intro
    intro ss r kk
    repeat' (first | exact kk | (with_reducible first | exact S_nil | apply S_cons | apply K_next | apply X_asg | apply X_if | apply If_f | exact A_name | apply E_loc | exact E_none | exact E_int | apply E_attr | apply E_bin | apply E_cmp | apply E_ife | apply Ie_t | apply Ie_f | apply E_tup | exact Es_nil | apply Es_cons | exact N_add) | exact Keep.newT (Keep.newT (Keep.newT (Keep.newT .refl))) | (with_reducible apply Qn_tup) | exact h1 | exact h2 | exact h3 | exact c.cls | exact c.control | exact c.rtt | exact y.cls | exact y.cls2 | exact yw | exact yt | exact yr | exact ys | exact yn | exact y.fly | exact f0 | exact f1 | exact f2 | exact f3 | exact n0 | exact n2 | exact T_hit | exact T_miss n0 T_hit | exact T_miss n2 T_hit | (first | exact (rfl : _ = true) | exact (rfl : _ = false) | exact F_hit | (apply F_miss; · exact rfl) | exact C_new | exact L_hit | exact Ls_hit | exact D_hit | exact rfl | decide))
theorem al_3 (cl : Caller) (x : Inv R is T B D h) (h1 : l 78 = some (.ref R.cn)) (h2 : l 143 = some (.ref R.w)) :
    ∃ h', vS cl al3 l h = some (.next, l, h') ∧ Keep [] [] [] [] h h' := by
  have c := x.con
  have f0 := fresh_lst0 x.emp
  have f1 := fresh_lst x.emp 1
  have nd := x.nod
  simp only [Rf.Ls, List.nodup_cons, List.mem_cons, List.not_mem_nil, or_false, not_or] at nd
  have n1 : R.ow ≠ R.wo := nd.2.2.2.1.2.2.1
  have n2 : R.ev ≠ R.we := nd.2.2.2.2.1.2.2.1
  have e1 := x.twO.len
  have e2 := x.twE.len
  have e3 := x.twO.eq 2
  have e4 := x.twE.eq 2
  have hw := x.wor
  refine ⟨(h.newT [.ref R.ow, .ref R.ev, .str D.way]).newT [.ref R.wo, .ref R.we, .str D.way], ?_, .newT (.newT .refl)⟩
  have q0 : ∀ r : Nat, r < h.nxt → ∀ v : List VV, ∀ u : List VV, ((h.newT v).newT u).lst r = h.lst r := fun r _ v u => rfl
  have t0 : TL ((h.newT [.ref R.ow, .ref R.ev, .str D.way]).newT [.ref R.wo, .ref R.we, .str D.way]) D.ows D.wows := x.twO.keep (F := []) (L := []) (D := []) (I := []) (.newT (.newT .refl)) fun r m => nomatch m
  have t1 : TL ((h.newT [.ref R.ow, .ref R.ev, .str D.way]).newT [.ref R.wo, .ref R.we, .str D.way]) D.evs D.wevs := x.twE.keep (F := []) (L := []) (D := []) (I := []) (.newT (.newT .refl)) fun r m => nomatch m
  have e3' := t0.eq 2
  have e4' := t1.eq 2
  simp only [Nat.reduceAdd] at e3' e4'
  have g : vCmp 1 (.ref h.nxt) (.ref (h.nxt + 1)) ((h.newT [.ref R.ow, .ref R.ev, .str D.way]).newT [.ref R.wo, .ref R.we, .str D.way]) = some false := by
    have w0 : veq 5 ((h.newT [.ref R.ow, .ref R.ev, .str D.way]).newT [.ref R.wo, .ref R.we, .str D.way]) (.ref R.ow) (.ref R.wo) = some true := by
      show veqR (veq 4 _) _ R.ow R.wo = _
      unfold veqR veqL
      simp only [n1, if_false, newT_lst, x.lows, x.lwows, e1, if_true]
      exact e3'
    have w1 : veq 5 ((h.newT [.ref R.ow, .ref R.ev, .str D.way]).newT [.ref R.wo, .ref R.we, .str D.way]) (.ref R.ev) (.ref R.we) = some true := by
      show veqR (veq 4 _) _ R.ev R.we = _
      unfold veqR veqL
      simp only [n2, if_false, newT_lst, x.levs, x.lwevs, e2, if_true]
      exact e4'
    have w2 : veq 6 ((h.newT [.ref R.ow, .ref R.ev, .str D.way]).newT [.ref R.wo, .ref R.we, .str D.way]) (.ref h.nxt) (.ref (h.nxt + 1)) = some true := by
      have w3 : veq 5 ((h.newT [.ref R.ow, .ref R.ev, .str D.way]).newT [.ref R.wo, .ref R.we, .str D.way]) (.str D.way) (.str D.way) = some true := by simp [veq]
      have a1 : ¬ h.nxt = h.nxt + 1 := by omega
      show veqR (veq 5 _) _ h.nxt (h.nxt + 1) = _
      unfold veqR veqL
      simp [newT_lst, newT_nxt, newT_tup, a1, f0, f1, veqsW, w0, w1, w3]
    have a1 : ¬ h.nxt = h.nxt + 1 := by omega
    have w3 : veqT ((h.newT [.ref R.ow, .ref R.ev, .str D.way]).newT [.ref R.wo, .ref R.we, .str D.way]) (.ref h.nxt) (.ref (h.nxt + 1)) = some true := by
      show (if h.nxt = h.nxt + 1 then none else veq 6 _ (.ref h.nxt) (.ref (h.nxt + 1))) = _
      rw [if_neg a1]; exact w2
    show (veqT _ _ _).map _ = _
    rw [w3]
    rfl
  have sb : ∀ {k : Nat} {v : VV}, look k (wents D.act.a D.way R.wp R.tr D.hi D.cb D.k D.sp R.wo R.we D.left) = some v → ∀ g : VH, g.sd R.w = some (wents D.act.a D.way R.wp R.tr D.hi D.cb D.k D.sp R.wo R.we D.left) → vE cl l (.sub (.loc 143) (.str k)) g = some (v, g) := fun q g w => E_sub (E_loc h2) E_str (U_str w q)
  exact X_if (E_cmp (E_tup (Es_cons (E_attr (E_loc h1) c.cls c.owed) (Es_cons (E_attr (E_loc h1) c.cls c.events) (Es_cons (E_attr (E_loc h1) c.cls c.way) Es_nil)))) (E_tup (Es_cons (sb rfl _ hw) (Es_cons (sb rfl _ hw) (Es_cons (sb rfl _ hw) Es_nil)))) g) (If_f S_nil)
theorem al_4 (cl : Caller) (x : Inv R is T B D h) (h1 : l 78 = some (.ref R.cn)) (h2 : l 143 = some (.ref R.w)) : vS cl al4 l h = some (.next, l, h) := by
  have c := x.con
  have hw := x.wor
  rcases x.lef with ⟨e1, e2⟩ | ⟨q, hq, e1, e2⟩
  · have ce := c.elder
    rw [e1] at ce
    rw [e2] at hw
    have q : vCmp 1 .none .none h = some false := rfl
    exact X_if (E_cmp (E_ife (E_cmp (E_attr (E_loc h1) c.cls ce) E_none Q_isN0) (Ie_t E_none)) (E_sub (E_loc h2) E_str (U_str hw rfl)) q) (If_f S_nil)
  · have ce := c.elder
    rw [e1] at ce
    rw [e2] at hw
    have z := x.pat.each q hq
    have ea := E_attr (cl := cl) (E_loc h1) c.cls ce
    exact X_if (E_cmp (E_ife (E_cmp ea E_none Q_isN) (Ie_f (E_attr ea z.cls z.adr))) (E_sub (E_loc h2) E_str (U_str hw rfl)) (Qn_str (b := true) (by simp) rfl)) (If_f S_nil)
theorem cid_bytes (k : Nat) (hk : k ≤ 2) (h0 : k ≠ 0) : cidB k = List.replicate 4 (k : Int) := by
  unfold cidB
  rw [if_neg h0]
theorem mk_bytes {k : Nat} {g : VH} (k2 : (k : Int) < 256) : vBf 141 [.ref (g.nxt + 1)] ((g.newL [.int k]).newL (List.replicate 4 (.int k))) = some (.bytes (List.replicate 4 (k : Int)), (g.newL [.int k]).newL (List.replicate 4 (.int k))) := rep_bytes 4 (by decide) (by omega) k2 (g.newL [.int k])
theorem al_5 (n : Nat) (x : Inv R is T B D h) (h1 : l 78 = some (.ref R.cn)) (h2 : l 143 = some (.ref R.w)) :
    ∃ l' h', vSs (vF (n + 1)) (.cons al5 (.cons al6 .nil)) l h = some (.ret (.bool true), l', h') ∧ Keep [] [] [] [] h h' := by
  have c := x.con
  have hw := x.wor
  have z := x.pat.each _ x.pat.act
  have e1 := c_present n x.rem
  have f0 := fresh_lst0 x.emp
  have f1 := fresh_lst x.emp 1
  have f3 := fresh_lst x.emp 3
  have hs := x.rem.small
  unfold al5 al6
  by_cases hk : D.k = 0
  · have b0 : cidB D.k = [122, 101, 114, 111] := by rw [hk]; rfl
    have k0 : ((D.k : Int) == 0) = true := by rw [hk]; rfl
    have n0 : h.nxt ≠ h.nxt + 1 := Nat.ne_of_lt (Nat.lt_succ_self _)
    rw [b0] at e1
    apply Exists.intro
    apply Exists.intro
    apply And.intro
    repeat' (first | (with_reducible first | apply S_cons | apply K_next | exact K_ret | apply X_asg | apply X_ret | exact A_name | apply E_loc | exact E_int | exact E_str | exact E_bytes | apply E_attr | apply E_meth | apply E_bf | apply E_bin | apply E_cmp | apply E_ife | apply Ie_t | apply Ie_f | apply E_tup | apply E_list | apply E_sub | exact Es_nil | apply Es_cons | apply Q_int | apply U_str) | exact Keep.newT (Keep.newT .refl) | (with_reducible apply Q_tup) | exact h1 | exact h2 | exact c.cls | exact c.paths | exact c.remote | exact c.came | exact x.pat.cls | exact x.pat.active | exact z.cls | exact z.adr | exact x.rem.cls | with_reducible exact e1 | exact hw | exact k0 | exact f0 | exact f1 | exact n0 | exact T_hit | exact T_miss n0 T_hit | (first | exact (rfl : _ = true) | exact (rfl : _ = false) | exact F_hit | (apply F_miss; · exact rfl) | exact C_new | exact L_hit | exact Ls_hit | exact D_hit | exact rfl | decide))
  · have b0 : cidB D.k = List.replicate 4 (D.k : Int) := cid_bytes _ (by omega) hk
    rw [b0] at e1
    have k0 : ((D.k : Int) == 0) = false := by simp [hk]
    have n1 : h.nxt ≠ h.nxt + 1 := Nat.ne_of_lt (Nat.lt_succ_self _)
    have n2 : h.nxt ≠ h.nxt + 1 + 1 := by omega
    have n3 : h.nxt ≠ h.nxt + 1 + 1 + 1 := by omega
    have nx : ∀ (g : VH), vBin 2 (.ref g.nxt) (.int 4) (g.newL [.int D.k]) = some (.ref (g.nxt + 1), (g.newL [.int D.k]).newL (List.replicate 4 (.int D.k))) := fun g => rep_list 4 (by decide) _ g
    have g3 : h.lst (h.nxt + 1 + 1 + 1) = none := f3
    have k2 : (D.k : Int) < 256 := by omega
    have o1 : ∀ v1 v2 v3 v4, ((((h.newT v1).newL v2).newL v3).newT v4).lst h.nxt = none := fun v1 v2 v3 v4 => by
      show (if h.nxt = h.nxt + 1 + 1 then _ else if h.nxt = h.nxt + 1 then _ else h.lst h.nxt) = none
      rw [if_neg n2, if_neg n1]; exact f0
    have o2 : ∀ v1 v2 v3 v4, ((((h.newT v1).newL v2).newL v3).newT v4).lst (h.nxt + 1 + 1 + 1) = none := fun v1 v2 v3 v4 => by
      show (if h.nxt + 1 + 1 + 1 = h.nxt + 1 + 1 then _ else if h.nxt + 1 + 1 + 1 = h.nxt + 1 then _ else h.lst (h.nxt + 1 + 1 + 1)) = none
      rw [if_neg (by omega), if_neg (by omega)]; exact g3
    apply Exists.intro
    apply Exists.intro
    apply And.intro
    repeat' (first | (with_reducible first | apply S_cons | apply K_next | exact K_ret | apply X_asg | apply X_ret | exact A_name | apply E_loc | exact E_int | exact E_str | exact E_bytes | apply E_attr | apply E_meth | apply E_bf | apply E_bin | apply E_cmp | apply E_ife | apply Ie_t | apply Ie_f | apply E_tup | apply E_list | apply E_sub | exact Es_nil | apply Es_cons | apply Q_int | apply U_str) | exact Keep.newT (Keep.newL (Keep.newL (Keep.newT .refl))) | (with_reducible apply Q_tup) | exact nx _ | exact mk_bytes k2 | exact h1 | exact h2 | exact c.cls | exact c.paths | exact c.remote | exact c.came | exact x.pat.cls | exact x.pat.active | exact z.cls | exact z.adr | exact x.rem.cls | with_reducible exact e1 | exact hw | exact k0 | exact o1 _ _ _ _ | exact o2 _ _ _ _ | exact n3 | exact T_hit | exact T_miss n3 T_hit | (first | exact (rfl : _ = true) | exact (rfl : _ = false) | exact F_hit | (apply F_miss; · exact rfl) | exact C_new | exact L_hit | exact Ls_hit | exact D_hit | exact rfl | decide))
theorem c_alike (n : Nat) {r : Bool} {t : Int} (x : Inv R is T B D h) (y : CtlAt h D.ct D.rt (pick r (.int 12000) (.int (3000 + t))) (pick r .none (.int 2000)) (pick r (.int (50 + t)) .none) (pick r (.int 2664000) (.int (8000 + t))) (pick r (.int (50 + t)) .none)) :
    ∃ h', vF (n + 2) 36 [.ref R.cn, .ref R.w, .bool r, .int t] h = some (.bool true, h') ∧ Keep [] [] [] [] h h' := by
  have b1 : bindL (fps 36) [.ref R.cn, .ref R.w, .bool r, .int t] 78 = some (.ref R.cn) := rfl
  have b2 : bindL (fps 36) [.ref R.cn, .ref R.w, .bool r, .int t] 143 = some (.ref R.w) := rfl
  obtain ⟨h1, e1, k1⟩ := al_0 (l := bindL (fps 36) [.ref R.cn, .ref R.w, .bool r, .int t]) (vF (n + 1)) x y b1 rfl rfl
  have x1 := x.still k1
  obtain ⟨h2, e2, k2⟩ := al_3 (l := upd (bindL (fps 36) [.ref R.cn, .ref R.w, .bool r, .int t]) 164 (some (.ref h.nxt))) (vF (n + 1)) x1 (by simp [upd, b1]) (by simp [upd, b2])
  have x2 := x1.still k2
  have e3 := al_4 (l := upd (bindL (fps 36) [.ref R.cn, .ref R.w, .bool r, .int t]) 164 (some (.ref h.nxt))) (vF (n + 1)) x2 (by simp [upd, b1]) (by simp [upd, b2])
  obtain ⟨l', h3, e4, k3⟩ := al_5 (l := upd (bindL (fps 36) [.ref R.cn, .ref R.w, .bool r, .int t]) 164 (some (.ref h.nxt))) n x2 (by simp [upd, b1]) (by simp [upd, b2])
  refine ⟨h3, ?_, (k1.step k2).step k3⟩
  refine vF_go (b := b_law_is_alike) (by decide) (by decide) (by decide) rfl rfl ?_
  have e : vSs (vF (n + 1)) b_law_is_alike (bindL (fps 36) [.ref R.cn, .ref R.w, .bool r, .int t]) h = some (.ret (.bool true), l', h3) := by
    rw [al_is]
    exact e1 _ _ (seq_next e2 (seq_next e3 e4))
  rw [e]
  rfl
end
end Mine
end
section
namespace Mine

set_option tactic.hygienic false
theorem vS_to {o : Option (VFl × Loc × VH)} {fl : VFl} {l' l'' : Loc} {h' h'' : VH} (a : o = some (fl, l'', h'')) (q : l'' = l') (w : h'' = h') : o = some (fl, l', h') := by
  subst q w
  exact a
theorem Qn_nil {h : VH} {n n2 : Nat} {xs : List VV} {b : Bool} (o1 : h.lst n = some xs) (o2 : h.lst n2 = some []) (ne : n ≠ n2) (q : (!xs.isEmpty) = b) : vCmp 1 (.ref n) (.ref n2) h = some b := by
  subst q
  have e : veqT h (.ref n) (.ref n2) = some xs.isEmpty := by
    show (if n = n2 then none else veq 6 h (.ref n) (.ref n2)) = _
    rw [if_neg ne]
    show veqR (veq 5 h) h n n2 = _
    unfold veqR veqL
    simp only [if_neg ne, o1, o2]
    cases xs with
    | nil => rfl
    | cons v r => rfl
  simp only [vCmp]
  rw [e]
  rfl
theorem wlen {here way wp tr k sp wo we : Nat} {hi : Int} {cb : List Int} {left : VV} : (wents here way wp tr hi cb k sp wo we left).length < 1000 := by show 11 < 1000; decide

section
variable {H : VH} {l : Loc} {w here way wp tr k sp wo we : Nat} {hi : Int} {cb : List Int} {left : VV}
set_option tactic.hygienic false
theorem w_stay (cl : Caller) {a : Nat} {num : Int} {probe : Bool} {cb' : List Int} (hw : H.sd w = some (wents here way wp tr hi cb k sp wo we left)) (l1 : l 143 = some (.ref w)) (l2 : l 150 = some (.str a)) (l3 : l 85 = some (.int num)) (l4 : l 152 = some (.bool probe)) (l5 : l 102 = some (.bytes cb'))
    (hm : moves hi num probe a here = false) :
    ∃ l' H', vSs cl (.cons pk4 (.cons pk5 (.cons pk6 (.cons pk7 (.cons pk8 .nil))))) l H = some (.ret (.bool false), l', H') ∧ H'.sd w = some (wents here way wp tr (max hi num) (if a = here then cb' else cb) k sp wo we left) ∧ Keep [] [] [w] [] H H' := by
  have hmx : max num hi = max hi num := Int.max_comm ..
  let H1 := (H.newT [.bool (decide (hi < num)), .bool false]).setS w (wents here way wp tr (max hi num) cb k sp wo we left)
  let la : Loc := upd (upd l 149 (some (.bool false))) 153 (some (.bool (decide (hi < num))))
  have k1 : Keep [] [] [w] [] H H1 := .setS (.newT .refl) (.inl (.head _))
  have q1 : H1.sd w = some (wents here way wp tr (max hi num) cb k sp wo we left) := by simp [setS_sd, H1]
  have e45 : ∀ r, vSs cl (.cons pk6 (.cons pk7 (.cons pk8 .nil))) la H1 = r → vSs cl (.cons pk4 (.cons pk5 (.cons pk6 (.cons pk7 (.cons pk8 .nil))))) l H = r := fun r e => by
    refine seq_next (l1 := la) (h1 := H.newT [.bool (decide (hi < num)), .bool false]) ?_ (seq_next (l1 := la) (h1 := H1) ?_ e)
    · unfold pk4
      apply vS_to
      repeat' (first | (with_reducible first | exact S_nil | apply S_cons | apply K_next | apply X_asg | apply X_ret | apply X_if | apply If_t | apply If_f | apply X_asgN | apply A_subS | apply E_loc | exact E_str | exact E_bool | apply E_bf | apply E_cmp | apply E_and | apply E_not | apply E_sub | exact Es_nil | apply Es_cons | apply V_one | apply V_cons | apply Vk_gt | exact Vk_st | exact B_max | apply Q_str | apply Qn_str | apply Q_gt | apply U_str) | exact l1 | exact l3 | exact hw | (first | exact (rfl : _ = true) | exact (rfl : _ = false) | exact F_hit | (apply F_miss; · exact rfl) | exact C_new | exact L_hit | exact Ls_hit | exact D_hit | exact rfl | decide))
    · show vS cl pk5 la _ = some (.next, la, (H.newT [.bool (decide (hi < num)), .bool false]).setS w (wents here way wp tr (max hi num) cb k sp wo we left))
      rw [← hmx]
      have u1 : la 143 = some (.ref w) := l1
      have u3 : la 85 = some (.int num) := l3
      unfold pk5
      apply vS_to
      repeat' (first | (with_reducible first | exact S_nil | apply S_cons | apply K_next | apply X_asg | apply X_ret | apply X_if | apply If_t | apply If_f | apply X_asgN | apply A_subS | apply E_loc | exact E_str | exact E_bool | apply E_bf | apply E_cmp | apply E_and | apply E_not | apply E_sub | exact Es_nil | apply Es_cons | apply V_one | apply V_cons | apply Vk_gt | exact Vk_st | exact B_max | apply Q_str | apply Qn_str | apply Q_gt | apply U_str) | exact u1 | exact u3 | exact hw | exact wlen | (first | exact (rfl : _ = true) | exact (rfl : _ = false) | exact F_hit | (apply F_miss; · exact rfl) | exact C_new | exact L_hit | exact Ls_hit | exact D_hit | exact rfl | decide))
  have m1 : la 143 = some (.ref w) := by simp [la, upd, l1]
  have m2 : la 150 = some (.str a) := by simp [la, upd, l2]
  have m3 : la 152 = some (.bool probe) := by simp [la, upd, l4]
  have m4 : la 153 = some (.bool (decide (hi < num))) := by simp [la, upd]
  have m5 : la 102 = some (.bytes cb') := by simp [la, upd, l5]
  have m6 : la 149 = some (.bool false) := by simp [la, upd]
  have e6 : vS cl pk6 la H1 = some (.next, la, H1) := by
    by_cases a1 : hi < num
    · cases probe with
      | true =>
        have a0 : decide (hi < num) = true := by simp [a1]
        rw [a0] at m4
        unfold pk6
        apply vS_to
        repeat' (first | (with_reducible first | exact S_nil | apply S_cons | apply K_next | apply X_asg | apply X_ret | apply X_if | apply If_t | apply If_f | apply X_asgN | apply A_subS | apply E_loc | exact E_str | exact E_bool | apply E_bf | apply E_cmp | apply E_and | apply E_not | apply E_sub | exact Es_nil | apply Es_cons | apply V_one | apply V_cons | apply Vk_gt | exact Vk_st | exact B_max | apply Q_str | apply Qn_str | apply Q_gt | apply U_str) | exact m4 | exact m3 | (first | exact (rfl : _ = true) | exact (rfl : _ = false) | exact F_hit | (apply F_miss; · exact rfl) | exact C_new | exact L_hit | exact Ls_hit | exact D_hit | exact rfl | decide))
      | false =>
        have a2 : (a == here) = true := by simpa [moves, a1] using hm
        have a0 : decide (hi < num) = true := by simp [a1]
        rw [a0] at m4
        unfold pk6
        apply vS_to
        repeat' (first | (with_reducible first | exact S_nil | apply S_cons | apply K_next | apply X_asg | apply X_ret | apply X_if | apply If_t | apply If_f | apply X_asgN | apply A_subS | apply E_loc | exact E_str | exact E_bool | apply E_bf | apply E_cmp | apply E_and | apply E_not | apply E_sub | exact Es_nil | apply Es_cons | apply V_one | apply V_cons | apply Vk_gt | exact Vk_st | exact B_max | apply Q_str | apply Qn_str | apply Q_gt | apply U_str) | exact m1 | exact m2 | exact m4 | exact m3 | exact q1 | exact a2 | (first | exact (rfl : _ = true) | exact (rfl : _ = false) | exact F_hit | (apply F_miss; · exact rfl) | exact C_new | exact L_hit | exact Ls_hit | exact D_hit | exact rfl | decide))
    · have a0 : decide (hi < num) = false := by simp [a1]
      rw [a0] at m4
      unfold pk6
      apply vS_to
      repeat' (first | (with_reducible first | exact S_nil | apply S_cons | apply K_next | apply X_asg | apply X_ret | apply X_if | apply If_t | apply If_f | apply X_asgN | apply A_subS | apply E_loc | exact E_str | exact E_bool | apply E_bf | apply E_cmp | apply E_and | apply E_not | apply E_sub | exact Es_nil | apply Es_cons | apply V_one | apply V_cons | apply Vk_gt | exact Vk_st | exact B_max | apply Q_str | apply Qn_str | apply Q_gt | apply U_str) | exact m4 | (first | exact (rfl : _ = true) | exact (rfl : _ = false) | exact F_hit | (apply F_miss; · exact rfl) | exact C_new | exact L_hit | exact Ls_hit | exact D_hit | exact rfl | decide))
  by_cases ha : a = here
  · refine ⟨la, H1.setS w (wents here way wp tr (max hi num) cb' k sp wo we left), e45 _ (seq_next e6 (seq_next (l1 := la) (h1 := H1.setS w (wents here way wp tr (max hi num) cb' k sp wo we left)) ?_ (seq_ret ?_))), by simp [setS_sd, ha], k1.setS (.inl (.head _))⟩
    · have a2 : (a == here) = true := by simp [ha]
      unfold pk7
      apply vS_to
      repeat' (first | (with_reducible first | exact S_nil | apply S_cons | apply K_next | apply X_asg | apply X_ret | apply X_if | apply If_t | apply If_f | apply X_asgN | apply A_subS | apply E_loc | exact E_str | exact E_bool | apply E_bf | apply E_cmp | apply E_and | apply E_not | apply E_sub | exact Es_nil | apply Es_cons | apply V_one | apply V_cons | apply Vk_gt | exact Vk_st | exact B_max | apply Q_str | apply Qn_str | apply Q_gt | apply U_str) | exact m1 | exact m2 | exact m5 | exact q1 | exact a2 | exact wlen | (first | exact (rfl : _ = true) | exact (rfl : _ = false) | exact F_hit | (apply F_miss; · exact rfl) | exact C_new | exact L_hit | exact Ls_hit | exact D_hit | exact rfl | decide))
    · exact X_ret (E_loc m6)
  · refine ⟨la, H1, e45 _ (seq_next e6 (seq_next (l1 := la) (h1 := H1) ?_ (seq_ret ?_))), by rw [if_neg ha]; exact q1, k1⟩
    · have a2 : (a == here) = false := by simp [ha]
      unfold pk7
      apply vS_to
      repeat' (first | (with_reducible first | exact S_nil | apply S_cons | apply K_next | apply X_asg | apply X_ret | apply X_if | apply If_t | apply If_f | apply X_asgN | apply A_subS | apply E_loc | exact E_str | exact E_bool | apply E_bf | apply E_cmp | apply E_and | apply E_not | apply E_sub | exact Es_nil | apply Es_cons | apply V_one | apply V_cons | apply Vk_gt | exact Vk_st | exact B_max | apply Q_str | apply Qn_str | apply Q_gt | apply U_str) | exact m1 | exact m2 | exact m5 | exact q1 | exact a2 | (first | exact (rfl : _ = true) | exact (rfl : _ = false) | exact F_hit | (apply F_miss; · exact rfl) | exact C_new | exact L_hit | exact Ls_hit | exact D_hit | exact rfl | decide))
    · exact X_ret (E_loc m6)

noncomputable def pk6b : PS := .ifs (.and (.cons (.cmp 1 (.loc 102) (.sub (.loc 143) (.str 151))) (.cons (.cmp 1 (.sub (.loc 143) (.str 139)) (.list .nil)) .nil))) (.cons (.expr (.bm (.sub (.loc 143) (.str 56)) 92 (.cons (.tup (.cons (.str 154) (.cons (.sub (.loc 143) (.str 102)) .nil))) .nil))) (.cons (.asgT [.sub (.loc 143) (.str 102), .sub (.loc 143) (.str 139)] (.tup (.cons (.sub (.sub (.loc 143) (.str 139)) (.int 0)) (.cons (.slc (.sub (.loc 143) (.str 139)) (some 1) none) .nil)))) .nil)) .nil
theorem spl_len : ∀ k m, (spl k m).length = m
  | _, 0 => rfl
  | k, m + 1 => by simp [spl, spl_len (k + 1) m]
theorem w_spare (cl : Caller) {m : Nat} {cb' : List Int} {wows : List VV} (E : Emp H) (hw : H.sd w = some (wents here way wp tr hi cb k sp wo we left)) (l1 : l 143 = some (.ref w)) (l5 : l 102 = some (.bytes cb'))
    (ls : H.lst sp = some (spl k m)) (lo : H.lst wo = some wows) (hl : wows.length < 900) (slt : sp < H.nxt) (wlt : wo < H.nxt) (nsw : sp ≠ wo) :
    ∃ H', vS cl pk6b l H = some (.next, l, H') ∧ Keep [] [wo] [w] [] H H' ∧
      (((cb' = cb ∨ m = 0) ∧ H'.sd w = some (wents here way wp tr hi cb k sp wo we left) ∧ H'.lst wo = some wows ∧ H'.lst sp = some (spl k m)) ∨
        (cb' ≠ cb ∧ ∃ m' to sp', m = m' + 1 ∧ H'.sd w = some (wents here way wp tr hi cb (k + 1) sp' wo we left) ∧ H'.lst wo = some (wows ++ [.ref to]) ∧ TupAt H' to [.str 154, .int k] ∧ H.nxt ≤ to ∧ H'.lst sp' = some (spl (k + 1) m') ∧ H.nxt ≤ sp' ∧ sp' < H'.nxt)) := by
  by_cases hc : cb' = cb
  · have hcb : (cb' == cb) = true := by simp [hc]
    refine ⟨H, ?_, .refl, .inl ⟨.inl hc, hw, lo, ls⟩⟩
    unfold pk6b
    apply vS_to
    repeat' (first | (with_reducible first | exact S_nil | apply S_cons | apply K_next | apply X_expr | apply X_if | apply If_t | apply If_f | apply X_asgT | apply A_subS | exact Az_nil | apply Az_cons | apply E_loc | exact E_int | exact E_str | apply E_bm | apply E_cmp | apply E_and | apply E_tup | apply E_list | apply E_sub | exact Es_nil | apply Es_cons | apply V_one | apply V_cons | apply Vk_gt | exact Vk_st | apply Qn_bytes | apply U_str | apply M_app) | exact l1 | exact l5 | exact hw | exact hcb | (first | exact (rfl : _ = true) | exact (rfl : _ = false) | exact F_hit | (apply F_miss; · exact rfl) | exact C_new | exact L_hit | exact Ls_hit | exact D_hit | exact rfl | decide))
  · have hcb : (cb' == cb) = false := by simp [hc]
    have ns : ¬ sp = H.nxt := by omega
    cases m with
    | zero =>
      have ls' : H.lst sp = some [] := ls
      refine ⟨H.newL [], ?_, .newL .refl, .inl ⟨.inr rfl, hw, ?_, ?_⟩⟩
      · have e0 : vCmp 1 (.ref sp) (.ref H.nxt) (H.newL []) = some false := Qn_nil (L_miss ns ls') L_hit ns rfl
        unfold pk6b
        apply vS_to
        repeat' (first | (with_reducible first | exact S_nil | apply S_cons | apply K_next | apply X_expr | apply X_if | apply If_t | apply If_f | apply X_asgT | apply A_subS | exact Az_nil | apply Az_cons | apply E_loc | exact E_int | exact E_str | apply E_bm | apply E_cmp | apply E_and | apply E_tup | apply E_list | apply E_sub | exact Es_nil | apply Es_cons | apply V_one | apply V_cons | apply Vk_gt | exact Vk_st | apply Qn_bytes | apply U_str | apply M_app) | exact l1 | exact l5 | exact hw | exact hcb | exact e0 | (first | exact (rfl : _ = true) | exact (rfl : _ = false) | exact F_hit | (apply F_miss; · exact rfl) | exact C_new | exact L_hit | exact Ls_hit | exact D_hit | exact rfl | decide))
      · have : ¬ wo = H.nxt := by omega
        simp [newL_lst, this, lo]
      · simp [newL_lst, ns, ls]
    | succ m' =>
      have ls' : H.lst sp = some (.int ((k : Int) + 1) :: spl (k + 1) m') := ls
      have hl' : wows.length < 1000 := by omega
      have nw : ¬ wo = H.nxt := by omega
      have ns2 : ¬ sp = H.nxt + 1 := by omega
      let H1 := ((H.newL []).newT [.str 154, .int k]).setL wo (wows ++ [.ref (H.nxt + 1)])
      let H2 := (H1.newL (spl (k + 1) m')).newT [.int ((k : Int) + 1), .ref (H.nxt + 2)]
      let H3 := (H2.setS w (wents here way wp tr hi cb (k + 1) sp wo we left)).setS w (wents here way wp tr hi cb (k + 1) (H.nxt + 2) wo we left)
      have K : Keep [] [wo] [w] [] H H3 := .setS (.setS (.newT (.newL (.setL (.newT (.newL .refl)) (.inl (.head _)) (by simp [newL_nxt, newT_nxt]; omega)))) (.inl (.head _))) (.inl (.head _))
      refine ⟨H3, ?_, K, .inr ⟨hc, m', H.nxt + 1, H.nxt + 2, rfl, by simp [setS_sd, H3], ?_, ?_, by omega, ?_, by omega, by simp [setL_nxt, setS_nxt, newL_nxt, newT_nxt, H3, H2, H1]⟩⟩
      · have e0 : vCmp 1 (.ref sp) (.ref H.nxt) (H.newL []) = some true := Qn_nil (L_miss ns ls') L_hit ns rfl
        have g1 : ((H.newL []).newT [.str 154, .int k]).lst wo = some wows := L_miss nw lo
        have g2 : H1.lst sp = some (.int ((k : Int) + 1) :: spl (k + 1) m') := by
          show (if sp = wo then _ else if sp = H.nxt then _ else H.lst sp) = _
          rw [if_neg nsw, if_neg ns]; exact ls'
        have g3 : vSub sp (.int 0) H1 = some (.int ((k : Int) + 1)) := U_lst g2 rfl
        have g4 : H1.sd w = some (wents here way wp tr hi cb k sp wo we left) := hw
        have g5 : ∀ g : VH, g.sd w = some (wents here way wp tr hi cb k sp wo we left) → g.lst sp = some (.int ((k : Int) + 1) :: spl (k + 1) m') → vE cl l (.slc (.sub (.loc 143) (.str 139)) (some 1) none) g = some (.ref g.nxt, g.newL (spl (k + 1) m')) := fun g w1 w2 => by
          have a0 : vE cl l (.sub (.loc 143) (.str 139)) g = some (.ref sp, g) := E_sub (E_loc l1) E_str (U_str w1 rfl)
          show (vE cl l (.sub (.loc 143) (.str 139)) g).bind _ = _
          simp only [a0, Option.bind_some, w2, Option.map_some]
          rfl
        have g6 := g5 H1 g4 g2
        have d1 : ((k : Int) + 1) = ((k + 1 : Nat) : Int) := by omega
        unfold pk6b
        apply vS_to
        repeat' (first | (with_reducible first | exact S_nil | apply S_cons | apply K_next | apply X_expr | apply X_if | apply If_t | apply If_f | apply X_asgT | apply A_subS | exact Az_nil | apply Az_cons | apply E_loc | exact E_int | exact E_str | apply E_bm | apply E_cmp | apply E_and | apply E_tup | apply E_list | apply E_sub | exact Es_nil | apply Es_cons | apply V_one | apply V_cons | apply Vk_gt | exact Vk_st | apply Qn_bytes | apply U_str | apply M_app) | exact l1 | exact l5 | exact hw | exact hcb | exact e0 | exact g1 | exact O_app (L_miss nw lo) | exact hl' | exact g3 | exact g4 | exact wlen | exact D_hit | exact g6 | (first | exact (rfl : _ = true) | exact (rfl : _ = false) | exact F_hit | (apply F_miss; · exact rfl) | exact C_new | exact L_hit | exact Ls_hit | exact D_hit | exact rfl | decide))
      · have w3 : ¬ wo = H.nxt + 1 + 1 := by omega
        simp [setL_nxt, setL_lst, setS_lst, newL_nxt, newL_lst, newT_lst, newT_nxt, H3, H2, H1, w3]
      · have c1 : ¬ H.nxt + 1 = H.nxt := by omega
        have c2 : ¬ H.nxt + 1 = wo := by omega
        refine ⟨by simp [setL_nxt, setS_nxt, newL_nxt, newT_nxt, H3, H2, H1], ?_, by simp [setL_tup, setL_nxt, setS_tup, newL_tup, newL_nxt, newT_nxt, newT_tup, H3, H2, H1]⟩
        simp [setL_nxt, setL_lst, setS_lst, newL_nxt, newL_lst, newT_lst, newT_nxt, H3, H2, H1, c2]
        exact E _ (Nat.le_succ _)
      · have c2 : ¬ H.nxt + 1 + 1 = wo := by omega
        simp [setL_nxt, setS_lst, newL_nxt, newL_lst, newT_lst, newT_nxt, H3, H2, H1]
end
end Mine
end
section
namespace Mine
set_option tactic.hygienic false
theorem ifs_true {cl : Caller} {t : PE} {a b : PSs} {l : Loc} {h h1 : VH} {r : Option (VFl × Loc × VH)} (e : vE cl l t h = some (.bool true, h1)) (q : vSs cl a l h1 = r) : vS cl (.ifs t a b) l h = r := by
  exact X_if e (If_t q)
theorem ifs_false {cl : Caller} {t : PE} {a b : PSs} {l : Loc} {h h1 : VH} {r : Option (VFl × Loc × VH)} (e : vE cl l t h = some (.bool false, h1)) (q : vSs cl b l h1 = r) : vS cl (.ifs t a b) l h = r := by
  exact X_if e (If_f q)
noncomputable def pk6c : PE := .and (.cons (.loc 153) (.cons (.not (.loc 152)) (.cons (.cmp 1 (.loc 150) (.sub (.loc 143) (.str 145))) .nil)))
noncomputable def pk6x : PS := .asg (.sub (.loc 143) (.str 155)) (.ife (.cmp 8 (.sub (.loc 143) (.str 145)) (.sub (.loc 143) (.str 146))) (.sub (.loc 143) (.str 145)) (.sub (.loc 143) (.str 155)))
noncomputable def pk6y : PS := .asg (.sub (.loc 143) (.str 145)) (.loc 150)
noncomputable def pk6a : PS := .expr (.bm (.sub (.loc 143) (.str 57)) 92 (.cons (.tup (.cons (.str 93) (.cons (.loc 150) .nil))) .nil))
noncomputable def pk6z : PS := .asg (.name 149) (.fn 144 (.cons (.loc 143) .nil))
theorem pk6_is : pk6 = .ifs pk6c (.cons pk6x (.cons pk6y (.cons pk6a (.cons pk6b (.cons pk6z .nil))))) .nil := rfl

section
variable {H : VH} {l : Loc} {w here way wp tr k sp wo we : Nat} {hi : Int} {cb : List Int} {left : VV}
structure WM (cl : Caller) (l : Loc) (H : VH) (w a wp tr k m sp wo we way' : Nat) (hi' : Int) (cb cb' : List Int) (left' : VV) (r : Bool) (wows wevs : List VV) (l' : Loc) (H' : VH) (te k' m' sp' : Nat) : Prop where
  run : vSs cl (.cons pk4 (.cons pk5 (.cons pk6 (.cons pk7 (.cons pk8 .nil))))) l H = some (.ret (.bool r), l', H')
  sd : H'.sd w = some (wents a way' wp tr hi' cb' k' sp' wo we left')
  keep : Keep [] [wo, we] [w] [] H H'
  lwe : H'.lst we = some (wevs ++ [.ref te])
  tup : TupAt H' te [.str 93, .str a]
  ge : H.nxt ≤ te
  lsp : H'.lst sp' = some (spl k' m')
  hsp : sp' = sp ∨ H.nxt ≤ sp'
  slt : sp' < H'.nxt
  alt : ((cb' = cb ∨ m = 0) ∧ k' = k ∧ m' = m ∧ H'.lst wo = some wows) ∨
        (cb' ≠ cb ∧ m = m' + 1 ∧ k' = k + 1 ∧ ∃ to, H'.lst wo = some (wows ++ [.ref to]) ∧ TupAt H' to [.str 154, .int k] ∧ H.nxt ≤ to)
set_option tactic.hygienic false
theorem w_move (n : Nat) {a m : Nat} {num : Int} {probe b b' : Bool} {cb' : List Int} {wows wevs pv : List VV} (E : Emp H) (hw : H.sd w = some (wents here way wp tr hi cb k sp wo we left)) (l1 : l 143 = some (.ref w)) (l2 : l 150 = some (.str a)) (l3 : l 85 = some (.int num)) (l4 : l 152 = some (.bool probe)) (l5 : l 102 = some (.bytes cb'))
    (hm : moves hi num probe a here = true) (hp : H.lst wp = some pv) (hb : inL (.str here) pv = some b) (hb' : inL (.str a) pv = some b')
    (ls : H.lst sp = some (spl k m)) (lo : H.lst wo = some wows) (le : H.lst we = some wevs) (n1 : wows.length < 900) (n2 : wevs.length < 900) (slt : sp < H.nxt) (wlt : wo < H.nxt) (welt : we < H.nxt) (wplt : wp < H.nxt) (nsw : sp ≠ wo) (nse : sp ≠ we) (nwe : wo ≠ we) (npo : wp ≠ wo) (npe : wp ≠ we) :
    ∃ l' H' te k' m' sp', WM (vF (n + 1)) l H w a wp tr k m sp wo we (pick (b' && !(a == way)) a way) (max hi num) cb cb' (pick b (.str here) left) (b' && !(a == way)) wows wevs l' H' te k' m' sp' := by
  have hmx : max num hi = max hi num := Int.max_comm ..
  have hm' := hm
  simp only [moves, Bool.and_eq_true, decide_eq_true_eq, Bool.not_eq_true', beq_eq_false_iff_ne] at hm'
  obtain ⟨⟨a1, a2⟩, a3⟩ := hm'
  subst a2
  have a3' : (a == here) = false := by simp [a3]
  let H1 := (H.newT [.bool true, .bool false]).setS w (wents here way wp tr (max hi num) cb k sp wo we left)
  let la : Loc := upd (upd l 149 (some (.bool false))) 153 (some (.bool true))
  have m1 : la 143 = some (.ref w) := by simp [la, upd, l1]
  have m2 : la 150 = some (.str a) := by simp [la, upd, l2]
  have m3 : la 152 = some (.bool false) := by simp [la, upd, l4]
  have m4 : la 153 = some (.bool true) := by simp [la, upd]
  have m5 : la 102 = some (.bytes cb') := by simp [la, upd, l5]
  have q1 : H1.sd w = some (wents here way wp tr (max hi num) cb k sp wo we left) := by simp [setS_sd, H1]
  let H2 := (H1.setS w (wents here way wp tr (max hi num) cb k sp wo we (pick b (.str here) left))).setS w (wents a way wp tr (max hi num) cb k sp wo we (pick b (.str here) left))
  let H3 := (H2.newT [.str 93, .str a]).setL we (wevs ++ [.ref (H.nxt + 1)])
  have k3 : Keep [] [wo, we] [w] [] H H3 := .setL (.newT (.setS (.setS (.setS (.newT .refl) (.inl (.head _))) (.inl (.head _))) (.inl (.head _)))) (.inl (.tail _ (.head _))) (by simp [setS_nxt, newT_nxt, H2, H1]; omega)
  have E3 : Emp H3 := k3.empty E
  have q3 : H3.sd w = some (wents a way wp tr (max hi num) cb k sp wo we (pick b (.str here) left)) := by simp [setL_sd, setS_sd, newT_sd, H3, H2]
  have e45 : ∀ r, vSs (vF (n + 1)) (.cons pk6 (.cons pk7 (.cons pk8 .nil))) la H1 = r → vSs (vF (n + 1)) (.cons pk4 (.cons pk5 (.cons pk6 (.cons pk7 (.cons pk8 .nil))))) l H = r := fun r e => by
    refine seq_next (l1 := la) (h1 := H.newT [.bool true, .bool false]) ?_ (seq_next (l1 := la) (h1 := H1) ?_ e)
    · have a0 : decide (hi < num) = true := decide_eq_true a1
      unfold pk4
      apply vS_to
      repeat' (first | (with_reducible first | exact S_nil | apply S_cons | apply K_next | apply X_asg | apply X_ret | apply X_expr | apply X_if | apply If_t | apply X_asgN | exact A_name | apply A_subS | apply E_loc | exact E_str | exact E_bool | apply E_fn | apply E_bm | apply E_bf | apply E_cmp | apply E_and | apply E_not | apply E_ife | apply Ie_t | apply Ie_f | apply E_tup | apply E_sub | exact Es_nil | apply Es_cons | apply V_one | apply V_cons | apply Vk_gt | exact B_max | apply Q_str | apply Qn_str | apply Q_gt | apply U_str | apply M_app) | exact l1 | exact l3 | exact hw | exact a0 | (first | exact (rfl : _ = true) | exact (rfl : _ = false) | exact F_hit | (apply F_miss; · exact rfl) | exact C_new | exact L_hit | exact Ls_hit | exact D_hit | exact rfl | decide))
    · show vS (vF (n + 1)) pk5 la _ = some (.next, la, (H.newT [.bool true, .bool false]).setS w (wents here way wp tr (max hi num) cb k sp wo we left))
      rw [← hmx]
      have u3 : la 85 = some (.int num) := l3
      unfold pk5
      apply vS_to
      repeat' (first | (with_reducible first | exact S_nil | apply S_cons | apply K_next | apply X_asg | apply X_ret | apply X_expr | apply X_if | apply If_t | apply X_asgN | exact A_name | apply A_subS | apply E_loc | exact E_str | exact E_bool | apply E_fn | apply E_bm | apply E_bf | apply E_cmp | apply E_and | apply E_not | apply E_ife | apply Ie_t | apply Ie_f | apply E_tup | apply E_sub | exact Es_nil | apply Es_cons | apply V_one | apply V_cons | apply Vk_gt | exact B_max | apply Q_str | apply Qn_str | apply Q_gt | apply U_str | apply M_app) | exact m1 | exact u3 | exact hw | exact wlen | (first | exact (rfl : _ = true) | exact (rfl : _ = false) | exact F_hit | (apply F_miss; · exact rfl) | exact C_new | exact L_hit | exact Ls_hit | exact D_hit | exact rfl | decide))
  have cond : vE (vF (n + 1)) la pk6c H1 = some (.bool true, H1) := by
    unfold pk6c
    repeat' (first | (with_reducible first | exact S_nil | apply S_cons | apply K_next | apply X_asg | apply X_ret | apply X_expr | apply X_if | apply If_t | apply X_asgN | exact A_name | apply A_subS | apply E_loc | exact E_str | exact E_bool | apply E_fn | apply E_bm | apply E_bf | apply E_cmp | apply E_and | apply E_not | apply E_ife | apply Ie_t | apply Ie_f | apply E_tup | apply E_sub | exact Es_nil | apply Es_cons | apply V_one | apply V_cons | apply Vk_gt | exact B_max | apply Q_str | apply Qn_str | apply Q_gt | apply U_str | apply M_app) | exact m1 | exact m2 | exact m3 | exact m4 | exact q1 | exact a3' | (first | exact (rfl : _ = true) | exact (rfl : _ = false) | exact F_hit | (apply F_miss; · exact rfl) | exact C_new | exact L_hit | exact Ls_hit | exact D_hit | exact rfl | decide))
  have hp1 : H1.lst wp = some pv := hp
  have ex : vS (vF (n + 1)) pk6x la H1 = some (.next, la, H1.setS w (wents here way wp tr (max hi num) cb k sp wo we (pick b (.str here) left))) := by
    have q5 : vCmp 8 (.str here) (.ref wp) H1 = some b := Q_in hp1 hb
    unfold pk6x
    cases b
    · apply vS_to
      repeat' (first | (with_reducible first | exact S_nil | apply S_cons | apply K_next | apply X_asg | apply X_ret | apply X_expr | apply X_if | apply If_t | apply X_asgN | exact A_name | apply A_subS | apply E_loc | exact E_str | exact E_bool | apply E_fn | apply E_bm | apply E_bf | apply E_cmp | apply E_and | apply E_not | apply E_ife | apply Ie_t | apply Ie_f | apply E_tup | apply E_sub | exact Es_nil | apply Es_cons | apply V_one | apply V_cons | apply Vk_gt | exact B_max | apply Q_str | apply Qn_str | apply Q_gt | apply U_str | apply M_app) | exact m1 | exact q1 | exact q5 | exact wlen | (first | exact (rfl : _ = true) | exact (rfl : _ = false) | exact F_hit | (apply F_miss; · exact rfl) | exact C_new | exact L_hit | exact Ls_hit | exact D_hit | exact rfl | decide))
    · apply vS_to
      repeat' (first | (with_reducible first | exact S_nil | apply S_cons | apply K_next | apply X_asg | apply X_ret | apply X_expr | apply X_if | apply If_t | apply X_asgN | exact A_name | apply A_subS | apply E_loc | exact E_str | exact E_bool | apply E_fn | apply E_bm | apply E_bf | apply E_cmp | apply E_and | apply E_not | apply E_ife | apply Ie_t | apply Ie_f | apply E_tup | apply E_sub | exact Es_nil | apply Es_cons | apply V_one | apply V_cons | apply Vk_gt | exact B_max | apply Q_str | apply Qn_str | apply Q_gt | apply U_str | apply M_app) | exact m1 | exact q1 | exact q5 | exact wlen | (first | exact (rfl : _ = true) | exact (rfl : _ = false) | exact F_hit | (apply F_miss; · exact rfl) | exact C_new | exact L_hit | exact Ls_hit | exact D_hit | exact rfl | decide))
  have ey : vS (vF (n + 1)) pk6y la (H1.setS w (wents here way wp tr (max hi num) cb k sp wo we (pick b (.str here) left))) = some (.next, la, H2) := by
    unfold pk6y
    apply vS_to
    repeat' (first | (with_reducible first | exact S_nil | apply S_cons | apply K_next | apply X_asg | apply X_ret | apply X_expr | apply X_if | apply If_t | apply X_asgN | exact A_name | apply A_subS | apply E_loc | exact E_str | exact E_bool | apply E_fn | apply E_bm | apply E_bf | apply E_cmp | apply E_and | apply E_not | apply E_ife | apply Ie_t | apply Ie_f | apply E_tup | apply E_sub | exact Es_nil | apply Es_cons | apply V_one | apply V_cons | apply Vk_gt | exact B_max | apply Q_str | apply Qn_str | apply Q_gt | apply U_str | apply M_app) | exact m1 | exact m2 | exact D_hit | exact wlen | (first | exact (rfl : _ = true) | exact (rfl : _ = false) | exact F_hit | (apply F_miss; · exact rfl) | exact C_new | exact L_hit | exact Ls_hit | exact D_hit | exact rfl | decide))
  have le2 : H2.lst we = some wevs := le
  have ea : vS (vF (n + 1)) pk6a la H2 = some (.next, la, H3) := by
    have n2' : wevs.length < 1000 := by omega
    have c1 : H2.nxt = H.nxt + 1 := rfl
    have c2 : H2.sd w = some (wents a way wp tr (max hi num) cb k sp wo we (pick b (.str here) left)) := by simp [setS_sd, H2]
    unfold pk6a
    apply vS_to
    repeat' (first | (with_reducible first | exact S_nil | apply S_cons | apply K_next | apply X_asg | apply X_ret | apply X_expr | apply X_if | apply If_t | apply X_asgN | exact A_name | apply A_subS | apply E_loc | exact E_str | exact E_bool | apply E_fn | apply E_bm | apply E_bf | apply E_cmp | apply E_and | apply E_not | apply E_ife | apply Ie_t | apply Ie_f | apply E_tup | apply E_sub | exact Es_nil | apply Es_cons | apply V_one | apply V_cons | apply Vk_gt | exact B_max | apply Q_str | apply Qn_str | apply Q_gt | apply U_str | apply M_app) | exact m1 | exact m2 | exact c2 | exact O_app le2 | exact le2 | exact n2' | (first | exact (rfl : _ = true) | exact (rfl : _ = false) | exact F_hit | (apply F_miss; · exact rfl) | exact C_new | exact L_hit | exact Ls_hit | exact D_hit | exact rfl | decide))
  have lo3 : H3.lst wo = some wows := by
    show (if wo = we then _ else H2.lst wo) = _
    rw [if_neg nwe]; exact lo
  have ls3 : H3.lst sp = some (spl k m) := by
    show (if sp = we then _ else H2.lst sp) = _
    rw [if_neg nse]; exact ls
  have hp3 : H3.lst wp = some pv := by
    show (if wp = we then _ else H2.lst wp) = _
    rw [if_neg npe]; exact hp
  have nx3 : H3.nxt = H.nxt + 2 := rfl
  have te3 : TupAt H3 (H.nxt + 1) [.str 93, .str a] := by
    have z : ¬ H.nxt + 1 = we := by omega
    refine ⟨by rw [nx3]; omega, ?_, by simp [setL_tup, setS_nxt, newT_nxt, newT_tup, H3, H2, H1]⟩
    show (if H.nxt + 1 = we then _ else H2.lst (H.nxt + 1)) = _
    rw [if_neg z]
    exact E _ (Nat.le_succ _)
  have le3 : H3.lst we = some (wevs ++ [.ref (H.nxt + 1)]) := by simp [setL_lst, H3]
  obtain ⟨H4, e4, k4, cs⟩ := w_spare (H := H3) (l := la) (vF (n + 1)) E3 q3 m1 m5 ls3 lo3 n1 (by rw [nx3]; omega) (by rw [nx3]; omega) nsw
  have le4 : H4.lst we = some (wevs ++ [.ref (H.nxt + 1)]) := (k4.lst _ (by rw [nx3]; omega) fun z => nwe (List.mem_singleton.mp z).symm).trans le3
  have hp4 : H4.lst wp = some pv := (k4.lst _ (by rw [nx3]; omega) fun z => npo (List.mem_singleton.mp z)).trans hp3
  have te4 : TupAt H4 (H.nxt + 1) [.str 93, .str a] := te3.keep k4 fun z => by have := List.mem_singleton.mp z; omega
  have fin : ∀ k' sp', H4.sd w = some (wents a way wp tr (max hi num) cb k' sp' wo we (pick b (.str here) left)) → ∃ H', vSs (vF (n + 1)) (.cons pk4 (.cons pk5 (.cons pk6 (.cons pk7 (.cons pk8 .nil))))) l H = some (.ret (.bool (b' && !(a == way))), upd la 149 (some (.bool (b' && !(a == way)))), H') ∧
      H'.sd w = some (wents a (pick (b' && !(a == way)) a way) wp tr (max hi num) cb' k' sp' wo we (pick b (.str here) left)) ∧ Keep [] [] [w] [] H4 H' := fun k' sp' hw4 => by
    have er := c_renews (h := H4) n hw4 hp4 hb'
    let H5 := if (b' && !(a == way)) = true then H4.setS w (wents a a wp tr (max hi num) cb k' sp' wo we (pick b (.str here) left)) else H4
    have q5 : H5.sd w = some (wents a (pick (b' && !(a == way)) a way) wp tr (max hi num) cb k' sp' wo we (pick b (.str here) left)) := by
      cases e : (b' && !(a == way)) <;> simp [setS_sd, pick_true, pick_false, H5, e, hw4]
    have k5 : Keep [] [] [w] [] H4 H5 := by
      cases e : (b' && !(a == way))
      · have : H5 = H4 := by simp [H5, e]
        rw [this]; exact .refl
      · have : H5 = H4.setS w (wents a a wp tr (max hi num) cb k' sp' wo we (pick b (.str here) left)) := by simp [H5, e]
        rw [this]; exact .setS .refl (.inl (.head _))
    have er' : vF (n + 1) 33 [.ref w] H4 = some (.bool (b' && !(a == way)), H5) := er
    have ez : vS (vF (n + 1)) pk6z la H4 = some (.next, upd la 149 (some (.bool (b' && !(a == way)))), H5) := by
      exact X_asg (E_fn rfl (Es_cons (E_loc m1) Es_nil) er') A_name
    have e6 : vS (vF (n + 1)) pk6 la H1 = some (.next, upd la 149 (some (.bool (b' && !(a == way)))), H5) := by
      rw [pk6_is]
      exact ifs_true cond (seq_next ex (seq_next ey (seq_next ea (seq_next e4 (seq_next ez rfl)))))
    refine ⟨H5.setS w (wents a (pick (b' && !(a == way)) a way) wp tr (max hi num) cb' k' sp' wo we (pick b (.str here) left)), e45 _ (seq_next e6 (seq_next (l1 := upd la 149 (some (.bool (b' && !(a == way))))) (h1 := H5.setS w (wents a (pick (b' && !(a == way)) a way) wp tr (max hi num) cb' k' sp' wo we (pick b (.str here) left))) ?_ (seq_ret ?_))), by simp [setS_sd], k5.setS (.inl (.head _))⟩
    · have g1 : (upd la 149 (some (.bool (b' && !(a == way))))) 143 = some (.ref w) := by simp [upd, m1]
      have g2 : (upd la 149 (some (.bool (b' && !(a == way))))) 150 = some (.str a) := by simp [upd, m2]
      have g5 : (upd la 149 (some (.bool (b' && !(a == way))))) 102 = some (.bytes cb') := by simp [upd, m5]
      have q6 : (a == a) = true := by simp
      unfold pk7
      apply vS_to
      repeat' (first | (with_reducible first | exact S_nil | apply S_cons | apply K_next | apply X_asg | apply X_ret | apply X_expr | apply X_if | apply If_t | apply X_asgN | exact A_name | apply A_subS | apply E_loc | exact E_str | exact E_bool | apply E_fn | apply E_bm | apply E_bf | apply E_cmp | apply E_and | apply E_not | apply E_ife | apply Ie_t | apply Ie_f | apply E_tup | apply E_sub | exact Es_nil | apply Es_cons | apply V_one | apply V_cons | apply Vk_gt | exact B_max | apply Q_str | apply Qn_str | apply Q_gt | apply U_str | apply M_app) | exact g1 | exact g2 | exact g5 | exact q5 | exact q6 | exact wlen | (first | exact (rfl : _ = true) | exact (rfl : _ = false) | exact F_hit | (apply F_miss; · exact rfl) | exact C_new | exact L_hit | exact Ls_hit | exact D_hit | exact rfl | decide))
    · exact X_ret (E_loc (by simp [upd]))
  rcases cs with ⟨c1, hw4, lo4, ls4⟩ | ⟨c1, m', to, sp', c2, hw4, lo4, to4, tge, ls4, sge, slt4⟩
  · obtain ⟨H', g1, g2, g3⟩ := fin k sp hw4
    refine ⟨_, H', H.nxt + 1, k, m, sp, g1, g2, k3.trans (k4.trans g3 (fun _ z => nomatch z) (fun _ z => nomatch z) (fun _ => .inl) (fun _ z => nomatch z)) (fun _ z => nomatch z) (fun r z => by rw [List.mem_singleton.mp z]; exact .inl (.head _)) (fun _ => .inl) (fun _ z => nomatch z), ?_, te4.keep g3 (fun z => nomatch z), Nat.le_succ _, ?_, .inl rfl, ?_, .inl ⟨c1, rfl, rfl, ?_⟩⟩
    · exact (g3.lst _ (Nat.lt_of_lt_of_le (by rw [nx3]; omega) k4.nxt) fun z => nomatch z).trans le4
    · exact (g3.lst _ (Nat.lt_of_lt_of_le (by rw [nx3]; omega) k4.nxt) fun z => nomatch z).trans ls4
    · exact Nat.lt_of_lt_of_le (Nat.lt_of_lt_of_le slt (by rw [nx3]; omega)) (Nat.le_trans k4.nxt g3.nxt)
    · exact (g3.lst _ (Nat.lt_of_lt_of_le (by rw [nx3]; omega) k4.nxt) fun z => nomatch z).trans lo4
  · obtain ⟨H', g1, g2, g3⟩ := fin (k + 1) sp' hw4
    refine ⟨_, H', H.nxt + 1, k + 1, m', sp', g1, g2, k3.trans (k4.trans g3 (fun _ z => nomatch z) (fun _ z => nomatch z) (fun _ => .inl) (fun _ z => nomatch z)) (fun _ z => nomatch z) (fun r z => by rw [List.mem_singleton.mp z]; exact .inl (.head _)) (fun _ => .inl) (fun _ z => nomatch z), ?_, te4.keep g3 (fun z => nomatch z), Nat.le_succ _, ?_, .inr (by rw [nx3] at sge; omega), Nat.lt_of_lt_of_le slt4 g3.nxt, .inr ⟨c1, c2, rfl, to, ?_, to4.keep g3 (fun z => nomatch z), by rw [nx3] at tge; omega⟩⟩
    · exact (g3.lst _ (Nat.lt_of_lt_of_le (by rw [nx3]; omega) k4.nxt) fun z => nomatch z).trans le4
    · exact (g3.lst _ slt4 fun z => nomatch z).trans ls4
    · exact (g3.lst _ (Nat.lt_of_lt_of_le (by rw [nx3]; omega) k4.nxt) fun z => nomatch z).trans lo4
end
end Mine
end
section
namespace Mine

section
variable {R : Rf} {is : List Int} {T B : Int} {D : Dy} {h h' : VH} {l : Loc}
set_option tactic.hygienic false
theorem seek_mem {ps : List AP} (n : (ps.map (·.a)).Nodup) {p : AP} (hp : p ∈ ps) : seek p.a ps = some p := by
  cases e : seek p.a ps with
  | none => exact absurd rfl (seek_none e p hp)
  | some q =>
    obtain ⟨h1, h2⟩ := seek_some e
    rw [uniq_a n h1 hp h2]

theorem drawnC (c : Int) : True := trivial
structure PD (n : Nat) (R : Rf) (is : List Int) (T B : Int) (D : Dy) (l : Loc) (h : VH) (l' : Loc) (h' : VH) (D1 : Dy) (a : Nat) (num : Int) (probe : Bool) (cb' : List Int) : Prop where
  run : ∀ ss r, vSs (vF (n + 1)) ss l' h' = r → vSs (vF (n + 1)) (.cons pk0 (.cons pk1 ss)) l h = r
  inv : Inv R is T (B + 4) D1 h'
  same : DrawS D D1
  keep : Keep [] [R.bx] [] [] h h'
  a3 : A3 a
  q1 : l' 150 = some (.str a)
  q2 : l' 85 = some (.int num)
  q3 : l' 152 = some (.bool probe)
  q4 : l' 102 = some (.bytes cb')
  q5 : ∀ i, i ≠ 150 → i ≠ 85 → i ≠ 152 → i ≠ 102 → l' i = l i
noncomputable def plc (v : Int) : Nat := if v = 0 then 65 else if v = 1 then 64 else 66
noncomputable def idc (v : Int) : List Int := if v = 0 then [111, 110, 101] else [116, 119, 111]
theorem plc_sub {h : VH} {r : Nat} {v : Int} (q : h.lst r = some [.str 65, .str 64, .str 66]) (v0 : 0 ≤ v) (v1 : v < 3) : vSub r (.int v) h = some (.str (plc v)) := by
  rcases (by omega : v = 0 ∨ v = 1 ∨ v = 2) with rfl | rfl | rfl <;> exact U_lst q rfl
theorem idc_sub {h : VH} {r : Nat} {v : Int} (q : h.lst r = some [.bytes [111, 110, 101], .bytes [116, 119, 111]]) (v0 : 0 ≤ v) (v1 : v < 2) : vSub r (.int v) h = some (.bytes (idc v)) := by
  rcases (by omega : v = 0 ∨ v = 1) with rfl | rfl <;> exact U_lst q rfl
theorem plc_a3 (v : Int) : A3 (plc v) := by
  unfold A3 plc
  split
  · exact .inr (.inl rfl)
  · split
    · exact .inl rfl
    · exact .inr (.inr rfl)
theorem pk_draws (n : Nat) (x : Inv R is T B D h) (hB : B < 700) (l1 : l 135 = some (.ref R.bx)) {t : Int} (l2 : l 147 = some (.int t)) :
    ∃ l' h' D1 a num probe cb', PD n R is T B D l h l' h' D1 a num probe cb' := by
  have bxlt : R.bx < h.nxt := x.lts _ m_bx
  have xA : Inv R is T B D (h.newL [.str 65, .str 64, .str 66]) := x.still (.newL .refl)
  obtain ⟨v0, h1, D1, w1⟩ := xA.draw n (by omega) (m := 3) (by decide)
  obtain ⟨v1, h2, D2, w2⟩ := w1.inv.draw n (by omega) (m := 4) (by decide)
  let h3 := h2.newT [.str (plc v0), .int (2 * t + v1)]
  have x3 : Inv R is T (B + 1 + 1) D2 h3 := w2.inv.still (.newT .refl)
  obtain ⟨v2, h4, D4, w4⟩ := x3.draw n (by omega) (m := 4) (by decide)
  have x5 : Inv R is T (B + 1 + 1 + 1) D4 (h4.newL [.bytes [111, 110, 101], .bytes [116, 119, 111]]) := w4.inv.still (.newL .refl)
  obtain ⟨v3, h6, D6, w6⟩ := x5.draw n (by omega) (m := 2) (by decide)
  let h7 := h6.newT [.bool (v2 == 3), .bytes (idc v3)]
  have x7 : Inv R is T (B + 1 + 1 + 1 + 1) D6 h7 := w6.inv.still (.newT .refl)
  have bx4 : R.bx < h4.nxt := w4.inv.lts _ m_bx
  have K1 : Keep [] [R.bx] [] [] h h3 := Keep.newT ((Keep.newL .refl).step (w1.keep.step w2.keep))
  have K : Keep [] [R.bx] [] [] h h7 := Keep.newT ((Keep.newL (K1.step w4.keep)).step w6.keep)
  have e1 := w1.run
  have e2 := w2.run
  have e4 := w4.run
  have e6 := w6.run
  have p0 := plc_sub ((w1.keep.lst h.nxt (Nat.lt_succ_self _) (fun m => Nat.ne_of_gt bxlt (List.mem_singleton.mp m))).trans L_hit) w1.v0 w1.v1
  have p1 := idc_sub ((w6.keep.lst h4.nxt (Nat.lt_succ_self _) (fun m => Nat.ne_of_gt bx4 (List.mem_singleton.mp m))).trans L_hit) w6.v0 w6.v1
  let la : Loc := upd (upd l 85 (some (.int (2 * t + v1)))) 150 (some (.str (plc v0)))
  let lb : Loc := upd (upd la 102 (some (.bytes (idc v3)))) 152 (some (.bool (v2 == 3)))
  have m1 : la 135 = some (.ref R.bx) := l1
  have t2 : vBin 2 (.int 2) (.int t) h1 = some (.int (2 * t), h1) := rfl
  have r0 : vS (vF (n + 1)) pk0 l h = some (.next, la, h3) := by
    unfold pk0
    apply vS_to
    repeat' (first | (with_reducible first | apply X_asgN | apply E_loc | exact E_int | exact E_str | exact E_bytes | apply E_fn | apply E_bin | apply E_cmp | apply E_list | apply E_sub | exact Es_nil | apply Es_cons | exact N_add | apply Q_int) | exact l1 | exact l2 | with_reducible exact e1 | with_reducible exact e2 | exact p0 | exact t2 | (first | exact (rfl : _ = true) | exact (rfl : _ = false) | exact F_hit | (apply F_miss; · exact rfl) | exact C_new | exact L_hit | exact Ls_hit | exact D_hit | exact rfl | decide))
  have r1 : vS (vF (n + 1)) pk1 la h3 = some (.next, lb, h7) := by
    unfold pk1
    apply vS_to
    repeat' (first | (with_reducible first | apply X_asgN | apply E_loc | exact E_int | exact E_str | exact E_bytes | apply E_fn | apply E_bin | apply E_cmp | apply E_list | apply E_sub | exact Es_nil | apply Es_cons | exact N_add | apply Q_int) | exact m1 | exact e4 | exact e6 | exact p1 | (first | exact (rfl : _ = true) | exact (rfl : _ = false) | exact F_hit | (apply F_miss; · exact rfl) | exact C_new | exact L_hit | exact Ls_hit | exact D_hit | exact rfl | decide))
  have hB4 : B + 1 + 1 + 1 + 1 = B + 4 := by omega
  rw [hB4] at x7
  exact ⟨lb, h7, D6, plc v0, 2 * t + v1, v2 == 3, idc v3, fun ss r q => seq_next r0 (seq_next r1 q), x7, w1.same.trans (w2.same.trans (w4.same.trans w6.same)), K, plc_a3 v0, rfl, rfl, rfl, rfl, fun i i1 i2 i3 i4 => by simp [lb, la, upd, i1, i2, i3, i4]⟩

theorem Inv.paths (x : Inv R is T B D h) {ps' : List AP} {F : List Nat} (z : PathsAt (D.tq :: R.Ls) h' R.pa R.kl ps' D.act D.hi) (k : Keep F [R.kl] [] [] h h') (hF : ∀ r ∈ F, r ∈ R.pa :: D.ps.map (·.ref))
    (hsub : ∀ p ∈ D.ps, p ∈ ps') (pr : ∀ a, A3 a → isPr (seek a ps') = isPr (seek a D.ps)) (hh : ∃ p, seek 65 ps' = some p ∧ p.st = .pr) (tr : TR D.tes ps' T) : Inv R is T B { D with ps := ps' } h' := by
  have nd := x.nod
  simp only [Rf.Ls, List.nodup_cons, List.mem_cons, List.not_mem_nil, or_false, not_or] at nd
  obtain ⟨⟨b1, b2, b3, b4, b5, b6, b7, b8⟩, ⟨c1, c2, c3, c4, c5, c6, c7⟩, _⟩ := nd
  have nF : ∀ {b c : Nat}, h.cls b = some c → c ≠ 125 → c ≠ 114 → b ∉ F := fun hb h1 h2 m => x.pat.disj hb h1 h2 (hF _ m)
  have nk : ∀ {r : Nat}, r ≠ R.kl → r ∉ [R.kl] := fun q m => q (List.mem_singleton.mp m)
  have hs : ∀ r ∈ [R.kl], r ∈ D.tq :: R.Ls := fun r m => by rw [List.mem_singleton.mp m]; simp [Rf.Ls]
  have sn : ∀ r ∈ [R.kl], h.lst r ≠ none := fun r m => by rw [List.mem_singleton.mp m, x.pat.lst]; exact fun q => nomatch q
  exact {
    con := x.con.keep k (nF x.con.cls (by decide) (by decide)) (fun m => nomatch m)
    pat := z
    rem := x.rem.keep k (nF x.rem.cls (by decide) (by decide)) (nk (Ne.symm c1)) (nk b1) (fun m => nomatch m) hs (fun r m => .inl m)
    emp := k.empty x.emp
    lows := (k.lst _ (x.lts _ m_ow) (nk (Ne.symm c2))).trans x.lows
    levs := (k.lst _ (x.lts _ m_ev) (nk (Ne.symm c3))).trans x.levs
    lwows := (k.lst _ (x.lts _ m_wo) (nk (Ne.symm c5))).trans x.lwows
    lwevs := (k.lst _ (x.lts _ m_we) (nk (Ne.symm c6))).trans x.lwevs
    twO := x.twO.keep k sn
    twE := x.twE.keep k sn
    lenO := x.lenO
    lenE := x.lenE
    wor := (k.sd _ x.wlt fun m => nomatch m).trans x.wor
    lwp := (k.lst _ (x.lts _ m_wp) (nk (Ne.symm c4))).trans x.lwp
    pvlen := x.pvlen
    prov := fun a ha => (x.prov a ha).trans (congrArg some (pr a ha).symm)
    home := hh
    ltr := (k.sd _ x.trlt fun m => nomatch m).trans x.ltr
    notr := (k.lst _ x.trlt (nk (ne_lst x.notr x.pat.lst))).trans x.notr
    icn := (k.ic _ x.trlt fun m => nomatch m).trans x.icn
    tri := tr
    lsp := (k.lst _ x.splt (nk fun q => x.spn (q ▸ m_kl))).trans x.lsp
    lbx := (k.lst _ (x.lts _ m_bx) (nk (Ne.symm c7))).trans x.lbx
    lbl := (k.lst _ x.bllt (nk fun q => x.bln (q ▸ m_kl))).trans x.lbl
    c0 := x.c0
    c1 := x.c1
    lef := x.lef.imp id fun ⟨q, hq, e⟩ => ⟨q, hsub q hq, e⟩
    nod := x.nod
    lts := fun r m => Nat.lt_of_lt_of_le (x.lts r m) k.nxt
    spn := x.spn
    bln := x.bln
    splt := Nat.lt_of_lt_of_le x.splt k.nxt
    bllt := Nat.lt_of_lt_of_le x.bllt k.nxt
    wlt := Nat.lt_of_lt_of_le x.wlt k.nxt
    trlt := Nat.lt_of_lt_of_le x.trlt k.nxt
    wtr := x.wtr
    cw := x.cw
    ctr := x.ctr }

set_option tactic.hygienic true
theorem seek_grow {ps : List AP} {p : AP} (hp : seek p.a ps = none) (b : Nat) : seek b (ps ++ [p]) = if b = p.a then some p else seek b ps := by
  split
  · rename_i e
    subst e
    exact seek_app hp rfl
  · rename_i ne
    unfold seek
    rw [List.find?_append]
    have : ([p].find? fun q => q.a == b) = none := by simp [Ne.symm ne]
    rw [this]
    simp
theorem pk_opened (n : Nat) (x : Inv R is T B D h) {a : Nat} {s : Int} (ha : A3 a) :
    ∃ D1 p h', vF (n + 3) 26 [.ref R.pa, .str a, .int s] h = some (.ref p.ref, h') ∧ Inv R is T B D1 h' ∧ seek a D1.ps = some p ∧ Keep (R.pa :: D.ps.map (·.ref)) [R.kl] [] [] h h' ∧ D1.ct = D.ct ∧ D1.rt = D.rt := by
  obtain ⟨ps', p, h', e, z, hs, or1, k⟩ := c_on_datagram n x.pat (s := s) ha m_kl x.lts
  have k' : Keep (R.pa :: D.ps.map (·.ref)) [R.kl] [] [] h h' := k.mono (fun r m => .tail _ m) (fun r m => m) (fun r m => m) fun r m => m
  refine ⟨{ D with ps := ps' }, p, h', e, ?_, hs, k', rfl, rfl⟩
  rcases or1 with rfl | ⟨s0, rfl, rfl⟩
  · exact x.paths z k' (fun r m => m) (fun p m => m) (fun _ _ => rfl) x.home x.tri
  · have g := seek_grow (p := ⟨h.nxt, a, .un⟩) s0
    refine x.paths z k' (fun r m => m) (fun p m => List.mem_append_left _ m) (fun b hb => ?_) ?_ ⟨fun b hb => ?_, x.tri.shape, fun q hq d e => ?_, fun q hq q2 hq2 d e1 e2 => ?_⟩
    · rw [g b]
      split
      · rename_i e
        have e : b = a := e
        rw [e, s0]
        rfl
      · rfl
    · obtain ⟨p0, e1, e2⟩ := x.home
      refine ⟨p0, ?_, e2⟩
      rw [g 65, if_neg]
      · exact e1
      · intro q
        have q : 65 = a := q
        rw [← q, e1] at s0
        cases s0
    · rw [x.tri.look b hb, g b]
      split
      · rename_i e
        have e : b = a := e
        rw [e, s0]
        rfl
      · rfl
    · rcases List.mem_append.mp hq with hq | hq
      · exact x.tri.small q hq d e
      · rw [List.mem_singleton.mp hq] at e
        cases e
    · rcases List.mem_append.mp hq with hq | hq
      · rcases List.mem_append.mp hq2 with hq2 | hq2
        · exact x.tri.own q hq q2 hq2 d e1 e2
        · rw [List.mem_singleton.mp hq2] at e2
          cases e2
      · rw [List.mem_singleton.mp hq] at e1
        cases e1
end
end Mine
end
section
namespace Mine

section
variable {R : Rf} {is : List Int} {T B : Int} {D : Dy} {h h' h1 h2 : VH} {l : Loc}
structure Dst (R : Rf) (D : Dy) : Prop where
  tq : D.tq ≠ R.kl ∧ D.tq ≠ R.us ∧ D.tq ≠ R.ow ∧ D.tq ≠ R.ev ∧ D.tq ≠ R.wp ∧ D.tq ≠ R.wo ∧ D.tq ≠ R.we ∧ D.tq ≠ R.bx
  kl : R.kl ≠ R.us ∧ R.kl ≠ R.ow ∧ R.kl ≠ R.ev ∧ R.kl ≠ R.wp ∧ R.kl ≠ R.wo ∧ R.kl ≠ R.we ∧ R.kl ≠ R.bx
  us : R.us ≠ R.ow ∧ R.us ≠ R.ev ∧ R.us ≠ R.wp ∧ R.us ≠ R.wo ∧ R.us ≠ R.we ∧ R.us ≠ R.bx
  ow : R.ow ≠ R.ev ∧ R.ow ≠ R.wp ∧ R.ow ≠ R.wo ∧ R.ow ≠ R.we ∧ R.ow ≠ R.bx
  ev : R.ev ≠ R.wp ∧ R.ev ≠ R.wo ∧ R.ev ≠ R.we ∧ R.ev ≠ R.bx
  wp : R.wp ≠ R.wo ∧ R.wp ≠ R.we ∧ R.wp ≠ R.bx
  wo : R.wo ≠ R.we ∧ R.wo ≠ R.bx
  we : R.we ≠ R.bx
set_option tactic.hygienic false
theorem Inv.dst (x : Inv R is T B D h) : Dst R D := by
  have nd := x.nod
  simp only [Rf.Ls, List.nodup_cons, List.mem_cons, List.not_mem_nil, or_false, not_or] at nd
  obtain ⟨b, c, d, e, f, g, h, i, _⟩ := nd
  exact ⟨b, c, d, e, f, g, h, i⟩
theorem ni1 {r a : Nat} (h : r ≠ a) : r ∉ [a] := fun q => h (List.mem_singleton.mp q)
theorem ni2 {r a b : Nat} (h : r ≠ a) (h2 : r ≠ b) : r ∉ [a, b] := fun q => by
  rcases List.mem_cons.mp q with q | q
  · exact h q
  · exact h2 (List.mem_singleton.mp q)
theorem ni4 {r a b c d : Nat} (h : r ≠ a) (h2 : r ≠ b) (h3 : r ≠ c) (h4 : r ≠ d) : r ∉ [a, b, c, d] := fun q => by
  rcases List.mem_cons.mp q with q | q
  · exact h q
  · rcases List.mem_cons.mp q with q | q
    · exact h2 q
    · exact ni2 h3 h4 q
theorem ni3 {r a b c : Nat} (h : r ≠ a) (h2 : r ≠ b) (h3 : r ≠ c) : r ∉ [a, b, c] := fun q => by
  rcases List.mem_cons.mp q with q | q
  · exact h q
  · exact ni2 h2 h3 q

theorem inv_stay (x : Inv R is T B D h) {cb' : List Int} {a : Nat} {num : Int}
    (z : PathsAt (D.tq :: R.Ls) h1 R.pa R.kl D.ps D.act (max D.hi num)) (c : ConnAt h1 R.cn R.pa R.rm D.ct D.rt R.ow R.ev R.cf (if a = D.act.a then cb' else D.cb) D.way D.el) (k1 : Keep [R.cn, R.pa] [] [] [] h h1)
    (hw : h2.sd R.w = some (wents D.act.a D.way R.wp R.tr (max D.hi num) (if a = D.act.a then cb' else D.cb) D.k D.sp R.wo R.we D.left)) (k2 : Keep [] [] [R.w] [] h1 h2) :
    Inv R is T B { D with hi := max D.hi num, cb := if a = D.act.a then cb' else D.cb } h2 ∧ Keep [R.cn, R.pa] [] [R.w] [] h h2 := by
  have K : Keep [R.cn, R.pa] [] [R.w] [] h h2 := (k1.mono (fun r m => m) (fun r m => m) (fun r m => nomatch m) (fun r m => m)).step (k2.mono (fun r m => nomatch m) (fun r m => m) (fun r m => m) (fun r m => m))
  have LT : ∀ r ∈ D.tq :: R.Ls, r < h.nxt := x.lts
  refine ⟨?_, K⟩
  exact {
    con := c.keep k2 (fun m => nomatch m) (ni1 x.cw)
    pat := z.keep k2 (fun m => nomatch m) (fun p hp m => nomatch m) (fun m => nomatch m) (fun r m => nomatch m)
    rem := x.rem.keep K (ni2 (ne_cls x.rem.cls x.con.cls (by decide)) (ne_cls x.rem.cls x.pat.cls (by decide))) (fun m => nomatch m) (fun m => nomatch m) (fun m => nomatch m) (fun r m => nomatch m) (fun r m => .inl m)
    emp := K.empty x.emp
    lows := (K.lst _ (LT _ m_ow) fun m => nomatch m).trans x.lows
    levs := (K.lst _ (LT _ m_ev) fun m => nomatch m).trans x.levs
    lwows := (K.lst _ (LT _ m_wo) fun m => nomatch m).trans x.lwows
    lwevs := (K.lst _ (LT _ m_we) fun m => nomatch m).trans x.lwevs
    twO := x.twO.keep K fun r m => nomatch m
    twE := x.twE.keep K fun r m => nomatch m
    lenO := x.lenO
    lenE := x.lenE
    wor := hw
    lwp := (K.lst _ (LT _ m_wp) fun m => nomatch m).trans x.lwp
    pvlen := x.pvlen
    prov := x.prov
    home := x.home
    ltr := (K.sd _ x.trlt (ni1 (Ne.symm x.wtr))).trans x.ltr
    notr := (K.lst _ x.trlt fun m => nomatch m).trans x.notr
    icn := (K.ic _ x.trlt fun m => nomatch m).trans x.icn
    tri := x.tri
    lsp := (K.lst _ x.splt fun m => nomatch m).trans x.lsp
    lbx := (K.lst _ (LT _ m_bx) fun m => nomatch m).trans x.lbx
    lbl := (K.lst _ x.bllt fun m => nomatch m).trans x.lbl
    c0 := x.c0
    c1 := x.c1
    lef := x.lef
    nod := x.nod
    lts := fun r m => Nat.lt_of_lt_of_le (LT r m) K.nxt
    spn := x.spn
    bln := x.bln
    splt := Nat.lt_of_lt_of_le x.splt K.nxt
    bllt := Nat.lt_of_lt_of_le x.bllt K.nxt
    wlt := Nat.lt_of_lt_of_le x.wlt K.nxt
    trlt := Nat.lt_of_lt_of_le x.trlt K.nxt
    wtr := x.wtr
    cw := x.cw
    ctr := x.ctr }

theorem inv_move (x : Inv R is T B D h) {cb' : List Int} {a : Nat} {num : Int} {p : AP} {ct' rt' tq' te te' sp' k' m' : Nat} {r b : Bool} (hp : seek a D.ps = some p) (hb : b = (stN D.act.st == 146))
    (z : PathsAt (tq' :: R.Ls) h1 R.pa R.kl D.ps p (max D.hi num)) (c : ConnAt h1 R.cn R.pa R.rm ct' rt' R.ow R.ev R.cf cb' (pick r p.a D.way) (pick b (.ref D.act.ref) D.el)) (L : LsOk R.Ls h1 tq' R.kl R.us R.ow R.ev) (ht : tq' = D.tq ∨ h.nxt ≤ tq')
    (k1 : Keep [R.cn, R.pa, R.rm] [R.ow, R.ev, R.us, D.tq] [] [R.kn] h h1) (e1 : Emp h1) (le : h1.lst R.ev = some (D.evs ++ [.ref te])) (tu : TupAt h1 te [.str 93, .str a]) (tge : h.nxt ≤ te)
    (hw : h2.sd R.w = some (wents a (pick r a D.way) R.wp R.tr (max D.hi num) cb' k' sp' R.wo R.we (pick b (.str D.act.a) D.left))) (k2 : Keep [] [R.wo, R.we] [R.w] [] h1 h2)
    (lwe : h2.lst R.we = some (D.wevs ++ [.ref te'])) (tu' : TupAt h2 te' [.str 93, .str a]) (lsp : h2.lst sp' = some (spl k' m')) (hsp : sp' = D.sp ∨ h1.nxt ≤ sp') (slt : sp' < h2.nxt) {ows wows : List VV}
    (rem : RemAt (tq' :: R.Ls) h1 R.rm R.kn R.us tq' k' m' D.t []) (low : h1.lst R.ow = some ows) (lwo : h2.lst R.wo = some wows)
    (tw : (ows = D.ows ∧ wows = D.wows) ∨ ∃ to to', ows = D.ows ++ [.ref to] ∧ wows = D.wows ++ [.ref to'] ∧ TupAt h1 to [.str 154, .int D.k] ∧ h.nxt ≤ to ∧ TupAt h2 to' [.str 154, .int D.k]) :
    Inv R is T (B + 1) { D with ct := ct', rt := rt', tq := tq', sp := sp', act := p, hi := max D.hi num, cb := cb', way := pick r p.a D.way, el := pick b (.ref D.act.ref) D.el, left := pick b (.str D.act.a) D.left, k := k', m := m', ows := ows, evs := D.evs ++ [.ref te], wows := wows, wevs := D.wevs ++ [.ref te'] } h2 := by
  have d := x.dst
  have pa := (seek_some hp).2
  have LT : ∀ r ∈ D.tq :: R.Ls, r < h.nxt := x.lts
  have LT1 : ∀ r ∈ D.tq :: R.Ls, r < h1.nxt := fun r m => Nat.lt_of_lt_of_le (LT r m) k1.nxt
  have m1 : R.wo < h1.nxt := LT1 _ m_wo
  have m2 : R.we < h1.nxt := LT1 _ m_we
  have L1 : ∀ {r : Nat}, r < h.nxt → r ∉ D.tq :: R.Ls → h1.lst r = h.lst r := fun q m => k1.lst _ q fun z => m (by
    simp only [List.mem_cons, List.not_mem_nil, or_false] at z
    rcases z with z | z | z | z <;> subst z <;> simp [Rf.Ls])
  have L2 : ∀ {r : Nat}, r < h1.nxt → r ≠ R.wo → r ≠ R.we → h2.lst r = h1.lst r := fun q n1 n2 => k2.lst _ q (ni2 n1 n2)
  have s1 : ∀ r ∈ [R.ow, R.ev, R.us, D.tq], h.lst r ≠ none := fun r m => by
    simp only [List.mem_cons, List.not_mem_nil, or_false] at m
    rcases m with m | m | m | m <;> subst m
    · rw [x.lows]; exact fun q => nomatch q
    · rw [x.levs]; exact fun q => nomatch q
    · rw [x.rem.lused]; exact fun q => nomatch q
    · rw [x.rem.lret]; exact fun q => nomatch q
  have w1 : h1.lst R.wo = some D.wows := (k1.lst _ (LT _ m_wo) (ni4 (Ne.symm d.ow.2.2.1) (Ne.symm d.ev.2.1) (Ne.symm d.us.2.2.2.1) (Ne.symm d.tq.2.2.2.2.2.1))).trans x.lwows
  have w2 : h1.lst R.we = some D.wevs := (k1.lst _ (LT _ m_we) (ni4 (Ne.symm d.ow.2.2.2.1) (Ne.symm d.ev.2.2.1) (Ne.symm d.us.2.2.2.2.1) (Ne.symm d.tq.2.2.2.2.2.2.1))).trans x.lwevs
  have s2 : ∀ r ∈ [R.wo, R.we], h1.lst r ≠ none := fun r m => by
    simp only [List.mem_cons, List.not_mem_nil, or_false] at m
    rcases m with m | m <;> subst m
    · rw [w1]; exact fun q => nomatch q
    · rw [w2]; exact fun q => nomatch q
  have tO : TL h2 D.ows D.wows := (x.twO.keep k1 s1).keep k2 s2
  have tE : TL h2 D.evs D.wevs := (x.twE.keep k1 s1).keep k2 s2
  have kls : ∀ r ∈ [R.wo, R.we], r ∈ tq' :: R.Ls := fun r m => by
    simp only [List.mem_cons, List.not_mem_nil, or_false] at m
    rcases m with m | m <;> subst m <;> simp [Rf.Ls]
  have ntq : tq' ≠ R.wo ∧ tq' ≠ R.we := ⟨fun q => L.ntq (q ▸ by simp [Rf.Ls]), fun q => L.ntq (q ▸ by simp [Rf.Ls])⟩
  have tel : te ≠ R.wo ∧ te ≠ R.we := ⟨fun q => by have := LT R.wo m_wo; omega, fun q => by have := LT R.we m_we; omega⟩
  have tu2 : TupAt h2 te [.str 93, .str a] := tu.keep k2 (ni2 tel.1 tel.2)
  have hact : seek D.act.a D.ps = some D.act := seek_mem x.pat.nod2 x.pat.act
  have trw : R.tr ≠ R.ow ∧ R.tr ≠ R.ev ∧ R.tr ≠ R.us ∧ R.tr ≠ D.tq ∧ R.tr ≠ R.wo ∧ R.tr ≠ R.we := ⟨ne_lst x.notr x.lows, ne_lst x.notr x.levs, ne_lst x.notr x.rem.lused, ne_lst x.notr x.rem.lret, ne_lst x.notr x.lwows, ne_lst x.notr x.lwevs⟩
  have hspn : sp' ∉ tq' :: R.Ls := fun m => by
    rcases hsp with q | q
    · subst q
      rcases List.mem_cons.mp m with m | m
      · rcases ht with t | t
        · exact x.spn (by rw [m, t]; exact .head _)
        · have := x.splt; omega
      · exact x.spn (.tail _ m)
    · have := L.all _ m
      omega
  have hbln : R.bl ∉ tq' :: R.Ls := fun m => by
    rcases List.mem_cons.mp m with m | m
    · rcases ht with t | t
      · exact x.bln (by rw [m, t]; exact .head _)
      · have := x.bllt; omega
    · exact x.bln (.tail _ m)
  exact {
    con := c.keep k2 (fun m => nomatch m) (ni1 x.cw)
    pat := z.keep k2 (fun m => nomatch m) (fun p hp m => nomatch m) (ni2 d.kl.2.2.2.2.1 d.kl.2.2.2.2.2.1) kls
    rem := rem.keep k2 (fun m => nomatch m) (ni2 d.us.2.2.2.1 d.us.2.2.2.2.1) (ni2 ntq.1 ntq.2) (fun m => nomatch m) kls (fun r m => .inl m)
    emp := k2.empty e1
    lows := (L2 (LT1 _ m_ow) d.ow.2.2.1 d.ow.2.2.2.1).trans low
    levs := (L2 (LT1 _ m_ev) d.ev.2.1 d.ev.2.2.1).trans le
    lwows := lwo
    lwevs := lwe
    twO := by
      rcases tw with ⟨q1, q2⟩ | ⟨to, to', q1, q2, q3, q4, q5⟩
      · show TL h2 ows wows
        rw [q1, q2]; exact tO
      · show TL h2 ows wows
        rw [q1, q2]
        have n1 : to ≠ R.wo := fun q => by have := LT R.wo m_wo; omega
        have n2 : to ≠ R.we := fun q => by have := LT R.we m_we; omega
        exact tO.snoc (q3.keep k2 (ni2 n1 n2)) q5 (.inr ⟨_, rfl⟩)
    twE := tE.snoc tu2 tu' (.inl ⟨_, rfl⟩)
    lenO := by
      have := x.lenO
      show (ows.length : Int) ≤ B + 1
      rcases tw with ⟨q1, q2⟩ | ⟨to, to', q1, q2, q3, q4, q5⟩
      · rw [q1]; omega
      · rw [q1, List.length_append, List.length_singleton]; omega
    lenE := by
      have := x.lenE
      show ((D.evs ++ [VV.ref te]).length : Int) ≤ B + 1
      rw [List.length_append, List.length_singleton]; omega
    wor := by
      show h2.sd R.w = some (wents p.a (pick r p.a D.way) R.wp R.tr (max D.hi num) cb' k' sp' R.wo R.we (pick b (.str D.act.a) D.left))
      rw [pa]; exact hw
    lwp := (L2 (LT1 _ m_wp) d.wp.1 d.wp.2.1).trans ((k1.lst _ (LT _ m_wp) (ni4 (Ne.symm d.ow.2.1) (Ne.symm d.ev.1) (Ne.symm d.us.2.2.1) (Ne.symm d.tq.2.2.2.2.1))).trans x.lwp)
    pvlen := by have := x.pvlen; show (D.pv.length : Int) ≤ B + 1; omega
    prov := x.prov
    home := x.home
    ltr := (k2.sd _ (Nat.lt_of_lt_of_le x.trlt k1.nxt) (ni1 (Ne.symm x.wtr))).trans ((k1.sd _ x.trlt fun m => nomatch m).trans x.ltr)
    notr := (L2 (Nat.lt_of_lt_of_le x.trlt k1.nxt) trw.2.2.2.2.1 trw.2.2.2.2.2).trans ((k1.lst _ x.trlt (ni4 trw.1 trw.2.1 trw.2.2.1 trw.2.2.2.1)).trans x.notr)
    icn := (k2.ic _ (Nat.lt_of_lt_of_le x.trlt k1.nxt) fun m => nomatch m).trans ((k1.ic _ x.trlt fun m => by
      have q := List.mem_singleton.mp m
      have z := x.rem.ikn
      rw [← q, x.icn] at z
      cases z).trans x.icn)
    tri := x.tri
    lsp := lsp
    lbx := (L2 (LT1 _ m_bx) (Ne.symm d.wo.2) (Ne.symm d.we)).trans ((k1.lst _ (LT _ m_bx) (ni4 (Ne.symm d.ow.2.2.2.2) (Ne.symm d.ev.2.2.2) (Ne.symm d.us.2.2.2.2.2) (Ne.symm d.tq.2.2.2.2.2.2.2))).trans x.lbx)
    lbl := (L2 (Nat.lt_of_lt_of_le x.bllt k1.nxt) (fun q => x.bln (q ▸ m_wo)) (fun q => x.bln (q ▸ m_we))).trans ((L1 x.bllt x.bln).trans x.lbl)
    c0 := x.c0
    c1 := by have := x.c1; show D.c ≤ B + 1; omega
    lef := by
      show (pick b (VV.ref D.act.ref) D.el = .none ∧ pick b (VV.str D.act.a) D.left = .none) ∨ ∃ q ∈ D.ps, pick b (VV.ref D.act.ref) D.el = .ref q.ref ∧ pick b (VV.str D.act.a) D.left = .str q.a
      cases b with
      | true => exact .inr ⟨D.act, x.pat.act, rfl, rfl⟩
      | false => exact x.lef
    nod := List.nodup_cons.mpr ⟨L.ntq, (List.nodup_cons.mp x.nod).2⟩
    lts := fun r m => Nat.lt_of_lt_of_le (L.all r m) k2.nxt
    spn := hspn
    bln := hbln
    splt := slt
    bllt := Nat.lt_of_lt_of_le (Nat.lt_of_lt_of_le x.bllt k1.nxt) k2.nxt
    wlt := Nat.lt_of_lt_of_le (Nat.lt_of_lt_of_le x.wlt k1.nxt) k2.nxt
    trlt := Nat.lt_of_lt_of_le (Nat.lt_of_lt_of_le x.trlt k1.nxt) k2.nxt
    wtr := x.wtr
    cw := x.cw
    ctr := x.ctr }
end
end Mine
end
section
namespace Mine

section
variable {R : Rf} {is : List Int} {T B : Int} {D : Dy} {h : VH} {W T' R' S N : VV}
set_option tactic.hygienic false
theorem gz {P : Prop} (h : ∀ G : Prop, (P → G) → G) : P := h P id
theorem pk_rest (n : Nat) {D : Dy} {h2 : VH} {l1 : Loc} {a : Nat} {num t : Int} {probe : Bool} {cb' : List Int} {p : AP} (x2 : Inv R is T B D h2) (hB : B < 600) (ha : A3 a) (hs : seek a D.ps = some p) (y2 : CtlAt h2 D.ct D.rt W T' R' S N)
    (q1 : l1 150 = some (.str a)) (q2 : l1 85 = some (.int num)) (q3 : l1 152 = some (.bool probe)) (q4 : l1 102 = some (.bytes cb')) (b1 : l1 78 = some (.ref R.cn)) (b2 : l1 143 = some (.ref R.w)) (b3 : l1 147 = some (.int t)) :
    ∃ r D' h' l', vSs (vF (n + 7)) (.cons pk3 (.cons pk4 (.cons pk5 (.cons pk6 (.cons pk7 (.cons pk8 .nil)))))) l1 h2 = some (.ret (.bool r), l', h') ∧ Inv R is T (B + 1) D' h' ∧
      CtlAt h' D'.ct D'.rt (pick r (.int 12000) W) (pick r .none T') (pick r (.int (50 + t)) R') (pick r (.int 2664000) S) (pick r (.int (50 + t)) N) := by
  refine gz fun G ret => ?_
  have pa := (seek_some hs).2
  have s3 : ∀ h3, vF (n + 7) 5 [.ref R.cn, .bytes cb', .str a, .int num, .bool probe, .int (50 + t)] h2 = some (.none, h3) → vS (vF (n + 7)) pk3 l1 h2 = some (.next, l1, h3) := fun h3 e3 => X_expr (E_fn rfl (Es_cons (E_loc b1) (Es_cons (E_loc q4) (Es_cons (E_loc q1) (Es_cons (E_loc q2) (Es_cons (E_loc q3) (Es_cons (E_bin E_int (E_loc b3) N_add) Es_nil)))))) e3)
  have lowl : D.ows.length < 900 := by have := x2.lenO; omega
  have levl : D.evs.length < 900 := by have := x2.lenE; omega
  have lowl' : D.wows.length < 900 := by have := x2.twO.len; omega
  have levl' : D.wevs.length < 900 := by have := x2.twE.len; omega
  cases hm : moves D.hi num probe a D.act.a with
  | false =>
    obtain ⟨h3, e3, z3, c3, k3⟩ := c_note_stay (n + 3) x2.con x2.pat x2.LsOk (cb' := cb') (a := a) (num := num) (now := 50 + t) (probe := probe) hs hm
    have hw3 : h3.sd R.w = some (wents D.act.a D.way R.wp R.tr D.hi D.cb D.k D.sp R.wo R.we D.left) := (k3.sd _ x2.wlt fun m => nomatch m).trans x2.wor
    obtain ⟨l', h4, e4, hw4, k4⟩ := w_stay (vF (n + 7)) hw3 b2 q1 q2 q3 q4 hm
    obtain ⟨x4, K⟩ := inv_stay (cb' := cb') (a := a) (num := num) x2 z3 c3 k3 hw4 k4
    refine ret ⟨false, _, h4, l', seq_next (s3 h3 e3) e4, x4.more (Int.le_refl _) (by omega), ?_⟩
    · exact y2.keep K (ni2 (ne_cls y2.cls x2.con.cls (by decide)) (ne_cls y2.cls x2.pat.cls (by decide))) (ni2 (ne_cls y2.cls2 x2.con.cls (by decide)) (ne_cls y2.cls2 x2.pat.cls (by decide)))
  | true =>
    obtain ⟨h3, ct', rt', tq', te, e3, z3, c3, y3, L3, ht, k3, E3, le3, tu3, tge, cs⟩ := c_note_move (n + 1) x2.con y2 x2.pat x2.rem x2.LsOk x2.emp x2.lows x2.levs lowl levl (cb' := cb') (a := a) (num := num) (now := 50 + t) (probe := probe) hs hm
    have d := x2.dst
    have LT : ∀ r ∈ D.tq :: R.Ls, r < h2.nxt := x2.lts
    have LT3 : ∀ r ∈ D.tq :: R.Ls, r < h3.nxt := fun r m => Nat.lt_of_lt_of_le (LT r m) k3.nxt
    have hw3 : h3.sd R.w = some (wents D.act.a D.way R.wp R.tr D.hi D.cb D.k D.sp R.wo R.we D.left) := (k3.sd _ x2.wlt fun m => nomatch m).trans x2.wor
    have L1 : ∀ {r : Nat}, r < h2.nxt → r ∉ [R.ow, R.ev, R.us, D.tq] → h3.lst r = h2.lst r := fun q m => k3.lst _ q m
    have wp3 := (L1 (LT R.wp m_wp) (ni4 (Ne.symm d.ow.2.1) (Ne.symm d.ev.1) (Ne.symm d.us.2.2.1) (Ne.symm d.tq.2.2.2.2.1))).trans x2.lwp
    have wo3 := (L1 (LT R.wo m_wo) (ni4 (Ne.symm d.ow.2.2.1) (Ne.symm d.ev.2.1) (Ne.symm d.us.2.2.2.1) (Ne.symm d.tq.2.2.2.2.2.1))).trans x2.lwows
    have we3 := (L1 (LT R.we m_we) (ni4 (Ne.symm d.ow.2.2.2.1) (Ne.symm d.ev.2.2.1) (Ne.symm d.us.2.2.2.2.1) (Ne.symm d.tq.2.2.2.2.2.2.1))).trans x2.lwevs
    have sp3 := (L1 x2.splt (ni4 (fun q => x2.spn (q ▸ m_ow)) (fun q => x2.spn (q ▸ m_ev)) (fun q => x2.spn (q ▸ m_us)) (fun q => x2.spn (q ▸ .head _)))).trans x2.lsp
    have hb := x2.prov D.act.a (x2.pat.adrs _ x2.pat.act)
    have hact : seek D.act.a D.ps = some D.act := seek_mem x2.pat.nod2 x2.pat.act
    rw [hact] at hb
    have hb' := x2.prov a ha
    rw [hs] at hb'
    have hb : inL (.str D.act.a) D.pv = some (stN D.act.st == 146) := hb
    have hb' : inL (.str a) D.pv = some (stN p.st == 146) := hb'
    obtain ⟨l', h4, te', k', m', sp', e4, hw4, k4, lwe, tu4, tge', lsp, hsp, slt, cs4⟩ := w_move (n + 6) (cb' := cb') E3 hw3 b2 q1 q2 q3 q4 hm wp3 hb hb' sp3 wo3 we3 lowl' levl' (Nat.lt_of_lt_of_le x2.splt k3.nxt) (LT3 _ m_wo) (LT3 _ m_we) (LT3 _ m_wp)
      (fun q => x2.spn (q ▸ m_wo)) (fun q => x2.spn (q ▸ m_we)) d.wo.1 d.wp.1 d.wp.2.1
    have hr : ((stN p.st == 146) && !(a == D.way)) = rnw p D.way := by unfold rnw; rw [pa]
    rw [hr] at e4 hw4
    have y4 := y3.keep k4 (fun m => nomatch m) (fun m => nomatch m)
    have fin : ∀ ows wows, RemAt (tq' :: R.Ls) h3 R.rm R.kn R.us tq' k' m' D.t [] → h3.lst R.ow = some ows → h4.lst R.wo = some wows → ((ows = D.ows ∧ wows = D.wows) ∨ ∃ to to', ows = D.ows ++ [.ref to] ∧ wows = D.wows ++ [.ref to'] ∧ TupAt h3 to [.str 154, .int D.k] ∧ h2.nxt ≤ to ∧ TupAt h4 to' [.str 154, .int D.k]) →
      ∃ D', Inv R is T (B + 1) D' h4 ∧ D'.ct = ct' ∧ D'.rt = rt' := fun ows wows g1 g2 g3 g4 =>
      ⟨_, (inv_move (r := rnw p D.way) (b := (stN D.act.st == 146)) (a := a) (num := num) x2 hs rfl z3 c3 L3 ht k3 E3 le3 tu3 tge hw4 k4 lwe tu4 lsp hsp slt g1 g2 g3 g4), rfl, rfl⟩
    have ex : ∃ D', Inv R is T (B + 1) D' h4 ∧ D'.ct = ct' ∧ D'.rt = rt' := by
      rcases cs with ⟨w1, w2, w3⟩ | ⟨w1, m1, to, w2, w3, w4, w5, w6⟩
      · rcases cs4 with ⟨v1, v2, v3, v4⟩ | ⟨v1, v2, v3, to', v4, v5, v6⟩
        · rw [v2, v3] at fin
          exact fin _ _ w2 w3 v4 (.inl ⟨rfl, rfl⟩)
        · exfalso
          rcases w1 with w1 | w1
          · exact v1 w1
          · have w1 : D.m = 0 := w1
            omega
      · rcases cs4 with ⟨v1, v2, v3, v4⟩ | ⟨v1, v2, v3, to', v4, v5, v6⟩
        · exfalso
          rcases v1 with v1 | v1
          · exact w1 v1
          · have w2 : D.m = m1 + 1 := w2
            omega
        · have w2 : D.m = m1 + 1 := w2
          have hm1 : m' = m1 := by omega
          rw [hm1, v3] at fin
          exact fin _ _ w3 w4 v4 (.inr ⟨to, to', rfl, rfl, w5, w6, v5⟩)
    obtain ⟨D', xD, d1, d2⟩ := ex
    refine ret ⟨rnw p D.way, D', h4, l', seq_next (s3 h3 e3) e4, xD, ?_⟩
    rw [d1, d2]
    exact y4
theorem c_packet (n : Nat) (x : Inv R is T B D h) (hB : B < 500) (y : CtlAt h D.ct D.rt W T' R' S N) (t : Int) :
    ∃ r D' h', vF (n + 8) 34 [.ref R.bx, .ref R.cn, .ref R.w, .int t] h = some (.bool r, h') ∧ Inv R is T (B + 5) D' h' ∧
      CtlAt h' D'.ct D'.rt (pick r (.int 12000) W) (pick r .none T') (pick r (.int (50 + t)) R') (pick r (.int 2664000) S) (pick r (.int (50 + t)) N) := by
  obtain ⟨l1, h1, D1, a, num, probe, cb', P⟩ := pk_draws (n + 6) x (by omega) (l := bindL (fps 34) [.ref R.bx, .ref R.cn, .ref R.w, .int t]) rfl (t := t) rfl
  obtain ⟨D2, p, h2, e2, x2, hs, k2, c1, c2⟩ := pk_opened (n + 4) P.inv (s := 100) P.a3
  have b1 : l1 78 = some (.ref R.cn) := (P.q5 78 (by decide) (by decide) (by decide) (by decide)).trans rfl
  have b2 : l1 143 = some (.ref R.w) := (P.q5 143 (by decide) (by decide) (by decide) (by decide)).trans rfl
  have b3 : l1 147 = some (.int t) := (P.q5 147 (by decide) (by decide) (by decide) (by decide)).trans rfl
  have y1 := y.keep P.keep (fun m => nomatch m) (fun m => nomatch m)
  have y2 := y1.keep k2 (P.inv.pat.disj y1.cls (by decide) (by decide)) (P.inv.pat.disj y1.cls2 (by decide) (by decide))
  rw [← P.same.ct, ← P.same.rt, ← c1, ← c2] at y2
  have e2' : vF (n + 7) 26 [.ref R.pa, .str a, .int 100] h1 = some (.ref p.ref, h2) := e2
  have s2 : vS (vF (n + 7)) pk2 l1 h1 = some (.next, l1, h2) := X_expr (E_meth (E_attr (E_loc b1) P.inv.con.cls P.inv.con.paths) P.inv.pat.cls rfl (Es_cons (E_loc P.q1) (Es_cons E_int Es_nil)) e2')
  obtain ⟨r, D', h', l', e3, x3, y3⟩ := pk_rest n x2 (by omega) P.a3 hs y2 P.q1 P.q2 P.q3 P.q4 b1 b2 b3
  refine ⟨r, D', h', ?_, x3.more (Int.le_refl _) (by omega), y3⟩
  refine vF_go (b := b_law_packet) (by decide) (by decide) (by decide) rfl rfl ?_
  rw [pk_is, P.run _ _ (seq_next s2 e3)]
  rfl
end
end Mine
end
section
namespace Mine

section
variable {R : Rf} {is : List Int} {T B : Int} {D : Dy} {h h1 h2 : VH} {W T' R' S N : VV} {l : Loc}
set_option tactic.hygienic false
theorem inv_ans (x : Inv R is T B D h) {ps' : List AP} {act' : AP} {ct' rt' : Nat} {r : Bool} {pv' : List VV} {tes' : List (Nat × VV)}
    (k1 : Keep (R.cn :: R.pa :: D.ps.map (·.ref)) [] [] [] h h1) (z : PathsAt (D.tq :: R.Ls) h1 R.pa R.kl ps' act' D.hi) (c : ConnAt h1 R.cn R.pa R.rm ct' rt' R.ow R.ev R.cf D.cb (pick r act'.a D.way) D.el)
    (k2 : Keep [] [R.wp] [R.w, R.tr] [] h1 h2) (hw : h2.sd R.w = some (wents act'.a (pick r act'.a D.way) R.wp R.tr D.hi D.cb D.k D.sp R.wo R.we D.left)) (lwp : h2.lst R.wp = some pv') (ltr : h2.sd R.tr = some tes') (pvl : (pv'.length : Int) ≤ B + 1)
    (prov : ∀ a, A3 a → inL (.str a) pv' = some (isPr (seek a ps'))) (home : ∃ p, seek 65 ps' = some p ∧ p.st = .pr) (tri : TR tes' ps' T) (lef : (D.el = .none ∧ D.left = .none) ∨ ∃ q ∈ ps', D.el = .ref q.ref ∧ D.left = .str q.a) :
    Inv R is T (B + 1) { D with ct := ct', rt := rt', ps := ps', act := act', way := pick r act'.a D.way, pv := pv', tes := tes' } h2 := by
  have d := x.dst
  have LT : ∀ r ∈ D.tq :: R.Ls, r < h.nxt := x.lts
  have kls : ∀ r ∈ [R.wp], r ∈ D.tq :: R.Ls := fun r m => by rw [List.mem_singleton.mp m]; simp [Rf.Ls]
  have wp1 : h1.lst R.wp = some D.pv := (k1.lst _ (LT _ m_wp) fun m => nomatch m).trans x.lwp
  have s2 : ∀ r ∈ [R.wp], h1.lst r ≠ none := fun r m => by rw [List.mem_singleton.mp m, wp1]; exact fun q => nomatch q
  have nF : ∀ {b c : Nat}, h.cls b = some c → c ≠ 134 → c ≠ 125 → c ≠ 114 → b ∉ R.cn :: R.pa :: D.ps.map (·.ref) := fun hb h0 h1 h2 m => by
    rcases List.mem_cons.mp m with m | m
    · exact ne_cls hb x.con.cls h0 m
    · exact x.pat.disj hb h1 h2 m
  have L12 : ∀ {r : Nat}, r < h.nxt → r ≠ R.wp → h2.lst r = h.lst r := fun q n => (k2.lst _ (Nat.lt_of_lt_of_le q k1.nxt) (ni1 n)).trans (k1.lst _ q fun m => nomatch m)
  exact {
    con := c.keep k2 (fun m => nomatch m) (ni2 x.cw x.ctr)
    pat := z.keep k2 (fun m => nomatch m) (fun p hp m => nomatch m) (ni1 d.kl.2.2.2.1) kls
    rem := (x.rem.keep (Ls' := D.tq :: R.Ls) k1 (nF x.rem.cls (by decide) (by decide) (by decide)) (fun m => nomatch m) (fun m => nomatch m) (fun m => nomatch m) (fun r m => nomatch m) (fun r m => .inl m)).keep k2 (fun m => nomatch m) (ni1 d.us.2.2.1) (ni1 d.tq.2.2.2.2.1) (fun m => nomatch m) kls (fun r m => .inl m)
    emp := k2.empty (k1.empty x.emp)
    lows := (L12 (LT _ m_ow) d.ow.2.1).trans x.lows
    levs := (L12 (LT _ m_ev) d.ev.1).trans x.levs
    lwows := (L12 (LT _ m_wo) (Ne.symm d.wp.1)).trans x.lwows
    lwevs := (L12 (LT _ m_we) (Ne.symm d.wp.2.1)).trans x.lwevs
    twO := (x.twO.keep k1 fun r m => nomatch m).keep k2 s2
    twE := (x.twE.keep k1 fun r m => nomatch m).keep k2 s2
    lenO := by have := x.lenO; show (D.ows.length : Int) ≤ B + 1; omega
    lenE := by have := x.lenE; show (D.evs.length : Int) ≤ B + 1; omega
    wor := hw
    lwp := lwp
    pvlen := pvl
    prov := prov
    home := home
    ltr := ltr
    notr := (L12 x.trlt (ne_lst x.notr x.lwp)).trans x.notr
    icn := ((k2.ic _ (Nat.lt_of_lt_of_le x.trlt k1.nxt) fun m => nomatch m).trans (k1.ic _ x.trlt fun m => nomatch m)).trans x.icn
    tri := tri
    lsp := (L12 x.splt fun q => x.spn (q ▸ m_wp)).trans x.lsp
    lbx := (L12 (LT _ m_bx) (Ne.symm d.wp.2.2)).trans x.lbx
    lbl := (L12 x.bllt fun q => x.bln (q ▸ m_wp)).trans x.lbl
    c0 := x.c0
    c1 := by have := x.c1; show D.c ≤ B + 1; omega
    lef := lef
    nod := x.nod
    lts := fun r m => Nat.lt_of_lt_of_le (Nat.lt_of_lt_of_le (LT r m) k1.nxt) k2.nxt
    spn := x.spn
    bln := x.bln
    splt := Nat.lt_of_lt_of_le (Nat.lt_of_lt_of_le x.splt k1.nxt) k2.nxt
    bllt := Nat.lt_of_lt_of_le (Nat.lt_of_lt_of_le x.bllt k1.nxt) k2.nxt
    wlt := Nat.lt_of_lt_of_le (Nat.lt_of_lt_of_le x.wlt k1.nxt) k2.nxt
    trlt := Nat.lt_of_lt_of_le (Nat.lt_of_lt_of_le x.trlt k1.nxt) k2.nxt
    wtr := x.wtr
    cw := x.cw
    ctr := x.ctr }

noncomputable def namesT : List (Nat × VV) → List VV
  | [] => []
  | [(a, _)] => [.str a]
  | _ => [.str 64, .str 66]
theorem srt_tried {tes : List (Nat × VV)} {r : Nat} (icn : h.ic r = none) (nol : h.lst r = none) (ht : h.sd r = some tes) (sh : tes = [] ∨ (∃ a v, tes = [(a, v)] ∧ (a = 64 ∨ a = 66)) ∨ ∃ a v b u, tes = [(a, v), (b, u)] ∧ (a = 64 ∧ b = 66 ∨ a = 66 ∧ b = 64)) :
    vBf 108 [.ref r] h = some (.ref h.nxt, h.newL (namesT tes)) := by
  rcases sh with rfl | ⟨a, v, rfl, _⟩ | ⟨a, v, b, u, rfl, hab⟩
  · simp [vBf, bfR, srtR, srtS, n_len, n_sorted, icn, ht, namesT]
  · simp [vBf, bfR, srtR, srtS, n_len, n_sorted, icn, ht, namesT]
  · rcases hab with ⟨rfl, rfl⟩ | ⟨rfl, rfl⟩ <;> simp [vBf, bfR, srtR, srtS, n_len, n_sorted, n_away, n_third, icn, ht, namesT]
structure AD (n : Nat) (R : Rf) (is : List Int) (T B : Int) (D : Dy) (l : Loc) (h : VH) (l' : Loc) (h' : VH) (D1 : Dy) (fits : Bool) (at_ : Int) (s : Nat) : Prop where
  run : ∀ ss r, vSs (vF (n + 1)) ss l' h' = r → vSs (vF (n + 1)) (.cons an0 (.cons an1 ss)) l h = r
  inv : Inv R is T (B + 2) D1 h'
  same : DrawS D D1
  keep : Keep [] [R.bx] [] [] h h'
  q1 : l' 158 = some (.ref s)
  q2 : l' 159 = some (.bool fits)
  q3 : l' 160 = some (.int at_)
  a0 : 0 ≤ at_
  a2 : at_ < 2
  ls : h'.lst s = some (namesT D1.tes)
  nwp : s ≠ R.wp
  slt : s < h'.nxt
  q5 : ∀ i, i ≠ 158 → i ≠ 159 → i ≠ 160 → l' i = l i
theorem an_draws (n : Nat) (x : Inv R is T B D h) (hB : B < 700) (l1 : l 135 = some (.ref R.bx)) (l2 : l 143 = some (.ref R.w)) :
    ∃ l' h' D1 fits at_ s, AD n R is T B D l h l' h' D1 fits at_ s := by
  have bxlt : R.bx < h.nxt := x.lts _ m_bx
  have xA : Inv R is T B D (h.newL (namesT D.tes)) := x.still (.newL .refl)
  obtain ⟨v0, h1, D1, w1⟩ := xA.draw n (by omega) (m := 3) (by decide)
  obtain ⟨v1, h2, D2, w2⟩ := w1.inv.draw n (by omega) (m := 2) (by decide)
  let h3 := h2.newT [.bool (!(v0 == 0)), .int v1]
  have x3 : Inv R is T (B + 1 + 1) D2 h3 := w2.inv.still (.newT .refl)
  have K : Keep [] [R.bx] [] [] h h3 := Keep.newT ((Keep.newL .refl).step (w1.keep.step w2.keep))
  have nbx : h.nxt ∉ [R.bx] := fun m => Nat.ne_of_gt bxlt (List.mem_singleton.mp m)
  have s2 : h2.lst h.nxt = some (namesT D.tes) := (w2.keep.lst _ (Nat.lt_of_lt_of_le (Nat.lt_succ_self _) w1.keep.nxt) nbx).trans ((w1.keep.lst _ (Nat.lt_succ_self _) nbx).trans L_hit)
  let la : Loc := upd l 158 (some (.ref h.nxt))
  let lb : Loc := upd (upd la 160 (some (.int v1))) 159 (some (.bool (!(v0 == 0))))
  have e0 := srt_tried x.icn x.notr x.ltr x.tri.shape
  have e1 := w1.run
  have e2 := w2.run
  have hw := x.wor
  have r0 : vS (vF (n + 1)) an0 l h = some (.next, la, h.newL (namesT D.tes)) := X_asg (E_bf (Es_cons (E_sub (E_loc l2) E_str (U_str hw rfl)) Es_nil) e0) A_name
  have m1 : la 135 = some (.ref R.bx) := l1
  have c1 : vCmp 1 (.int v0) (.int 0) h1 = some (!(v0 == 0)) := Qn_int rfl rfl
  have r1 : vS (vF (n + 1)) an1 la (h.newL (namesT D.tes)) = some (.next, lb, h3) :=
    X_asgN (Es_cons (E_cmp (E_fn rfl (Es_cons (E_loc m1) (Es_cons E_int Es_nil)) e1) E_int c1) (Es_cons (E_fn rfl (Es_cons (E_loc m1) (Es_cons E_int Es_nil)) e2) Es_nil))
  have hB2 : B + 1 + 1 = B + 2 := by omega
  rw [hB2] at x3
  have st : D2.tes = D.tes := w2.same.tes.trans w1.same.tes
  exact ⟨lb, h3, D2, !(v0 == 0), v1, h.nxt, fun ss r q => seq_next r0 (seq_next r1 q), x3, w1.same.trans w2.same, K, rfl, rfl, rfl, w2.v0, w2.v1, by rw [st]; exact s2, fun e => by have := x.lts R.wp m_wp; omega, Nat.lt_of_lt_of_le (Nat.lt_succ_self _) (Nat.le_trans (Nat.le_trans w1.keep.nxt w2.keep.nxt) (Nat.le_succ _)), fun i i1 i2 i3 => by simp [lb, la, upd, i1, i2, i3]⟩

noncomputable def aIdx : PE := .sub (.loc 158) (.bin 4 (.loc 160) (.bf 101 (.cons (.loc 158) .nil)))
theorem aIdx_eval {cl : Caller} {H : VH} {at_ : Int} {s : Nat} {w : List VV} {v : VV} (l1 : l 158 = some (.ref s)) (l2 : l 160 = some (.int at_)) (hs : H.lst s = some w) (m : 0 < (w.length : Int)) (q : (if 0 ≤ at_ % (w.length : Int) ∧ at_ % (w.length : Int) < 1000 then w[(at_ % (w.length : Int)).toNat]? else none) = some v) : vE cl l aIdx H = some (v, H) :=
  E_sub (E_loc l1) (E_bin (E_loc l2) (E_bf (Es_cons (E_loc l1) Es_nil) (B_len hs)) (N_mod m)) (U_lst hs q)
theorem pick_tried {cl : Caller} (tri : TR D.tes D.ps T) {at_ : Int} {s : Nat} (h0 : 0 ≤ at_) (h2 : at_ < 2) (ne : D.tes ≠ []) :
    ∃ a, (a = 64 ∨ a = 66) ∧ (∃ v, look a D.tes = some v) ∧ ∀ (l : Loc) (H : VH), l 158 = some (.ref s) → l 160 = some (.int at_) → H.lst s = some (namesT D.tes) → vE cl l aIdx H = some (.str a, H) := by
  rcases tri.shape with e | ⟨a, v, e, ha⟩ | ⟨a, v, b, u, e, hab⟩
  · exact absurd e ne
  · refine ⟨a, ha, ⟨v, by simp [e, look]⟩, fun l H l1 l2 hs => ?_⟩
    rw [e] at hs
    have z : at_ % 1 = 0 := by omega
    refine aIdx_eval (w := [.str a]) l1 l2 hs (show (0 : Int) < 1 by decide) ?_
    show (if 0 ≤ at_ % (1 : Int) ∧ at_ % (1 : Int) < 1000 then ([.str a] : List VV)[(at_ % (1 : Int)).toNat]? else none) = _
    rw [z]
    rfl
  · have h01 : at_ = 0 ∨ at_ = 1 := by omega
    rcases h01 with rfl | rfl
    · refine ⟨64, .inl rfl, ?_, fun l H l1 l2 hs => ?_⟩
      · rcases hab with ⟨rfl, rfl⟩ | ⟨rfl, rfl⟩ <;> simp [e, look]
      · rw [e] at hs
        exact aIdx_eval (w := [.str 64, .str 66]) l1 l2 hs (show (0 : Int) < 2 by decide) rfl
    · refine ⟨66, .inr rfl, ?_, fun l H l1 l2 hs => ?_⟩
      · rcases hab with ⟨rfl, rfl⟩ | ⟨rfl, rfl⟩ <;> simp [e, look]
      · rw [e] at hs
        exact aIdx_eval (w := [.str 64, .str 66]) l1 l2 hs (show (0 : Int) < 2 by decide) rfl
end
end Mine
end
section
namespace Mine

noncomputable def cnd : PE := .and (.cons (.loc 159) (.cons (.cmp 1 (.loc 158) (.list .nil)) .nil))
noncomputable def an4a : PS := .expr (.bm (.sub (.loc 143) (.str 161)) 111 (.cons aIdx .nil))
noncomputable def an4b : PS := .expr (.bm (.sub (.loc 143) (.str 146)) 92 (.cons aIdx .nil))
set_option tactic.hygienic false
theorem an2_is : an2 = .asg (.name 95) (.ife cnd (.sub (.sub (.loc 143) (.str 161)) aIdx) (.bf 141 (.cons (.bin 2 (.list (.cons (.int 99) .nil)) (.int 8)) .nil))) := rfl
theorem an4_is : an4 = .ifs cnd (.cons an4a (.cons an4b .nil)) .nil := rfl
theorem dat_inj {a b : Int} (h : dat a = dat b) : a = b := by
  unfold dat at h
  have := congrArg List.head? h
  simpa [List.replicate] using this
theorem hit_iff {d : Int} {p : AP} : hit (dat d) p = true ↔ p.st = .tr d := by
  unfold hit
  cases e : p.st with
  | un => simp
  | pr => simp
  | tr d' =>
    constructor
    · intro q
      have q : (dat d' == dat d) = true := q
      rw [dat_inj (eq_of_beq q)]
    · intro q
      cases q
      simp
section
variable {R : Rf} {is : List Int} {T B : Int} {D : Dy} {h h1 h2 : VH} {W T' R' S N : VV} {l : Loc}
set_option tactic.hygienic true
theorem names_nil (tes : List (Nat × VV)) : (namesT tes = [] ↔ tes = []) := by
  unfold namesT
  split <;> simp
  rename_i h1 h2
  exact h1
set_option tactic.hygienic false
theorem cnd_eval {cl : Caller} {H : VH} {s : Nat} {fits : Bool} {tes : List (Nat × VV)} (l1 : l 158 = some (.ref s)) (l2 : l 159 = some (.bool fits)) (hs : H.lst s = some (namesT tes)) (lt : s < H.nxt) :
    ∃ H', vE cl l cnd H = some (.bool (fits && !tes.isEmpty), H') ∧ Keep [] [] [] [] H H' := by
  have ns : ¬ s = H.nxt := by omega
  cases fits with
  | false => exact ⟨H, E_and (V_cons (E_loc l2) Vk_st), .refl⟩
  | true =>
    refine ⟨H.newL [], ?_, .newL .refl⟩
    cases tes with
    | nil =>
      have hs : H.lst s = some [] := hs
      exact E_and (V_cons (E_loc l2) (Vk_gt (V_one (E_cmp (E_loc l1) (E_list Es_nil) (Qn_nil (L_miss ns hs) L_hit ns rfl)))))
    | cons e r =>
      have hne : namesT (e :: r) ≠ [] := fun q => by have := (names_nil _).mp q; cases this
      cases q : namesT (e :: r) with
      | nil => exact absurd q hne
      | cons a b =>
        rw [q] at hs
        exact E_and (V_cons (E_loc l2) (Vk_gt (V_one (E_cmp (E_loc l1) (E_list Es_nil) (Qn_nil (L_miss ns hs) L_hit ns rfl)))))

structure TA (cl : Caller) (R : Rf) (D : Dy) (t : Int) (W T' R' S N : VV) (l : Loc) (h2 : VH) (bs : List Int) (h3 : VH) (ct' rt' : Nat) (ps' : List AP) (act' : AP) : Prop where
  run : vS cl an3 (upd l 95 (some (.bytes bs))) h2 = some (.next, upd l 95 (some (.bytes bs)), h3)
  res : (ps', act') = (match D.ps.find? (hit bs) with | some q => (repl (prv q) D.ps, re1 (prv q) D.act) | none => (D.ps, D.act))
  pat : PathsAt (D.tq :: R.Ls) h3 R.pa R.kl ps' act' D.hi
  con : ConnAt h3 R.cn R.pa R.rm ct' rt' R.ow R.ev R.cf D.cb (pick (rnw act' D.way) act'.a D.way) D.el
  ctl : CtlAt h3 ct' rt' (pick (rnw act' D.way) (.int 12000) W) (pick (rnw act' D.way) .none T') (pick (rnw act' D.way) (.int (50 + t)) R') (pick (rnw act' D.way) (.int 2664000) S) (pick (rnw act' D.way) (.int (50 + t)) N)
  keep : Keep (R.cn :: R.pa :: D.ps.map (·.ref)) [] [] [] h2 h3
theorem ans_take (n : Nat) {l1 : Loc} {t : Int} (b1 : l1 78 = some (.ref R.cn)) (b3 : l1 147 = some (.int t)) (bs : List Int) (x2 : Inv R is T B D h2) (y2 : CtlAt h2 D.ct D.rt W T' R' S N) : ∃ h3 ct' rt' ps' act', TA (vF (n + 6)) R D t W T' R' S N l1 h2 bs h3 ct' rt' ps' act' := by
  obtain ⟨h3, ct', rt', ps', act', e3, e4, z3, c3, y3, k3⟩ := c_take_answer (n + 1) x2.con y2 x2.pat x2.lts bs (50 + t)
  have e3' : vF (n + 6) 6 [.ref R.cn, .bytes bs, .int (50 + t)] h2 = some (.none, h3) := e3
  have u1 : (upd l1 95 (some (.bytes bs))) 78 = some (.ref R.cn) := b1
  have u2 : (upd l1 95 (some (.bytes bs))) 147 = some (.int t) := b3
  exact ⟨h3, ct', rt', ps', act', X_expr (E_fn rfl (Es_cons (E_loc u1) (Es_cons (E_loc (show (upd l1 95 (some (.bytes bs))) 95 = some (.bytes bs) from rfl)) (Es_cons (E_bin E_int (E_loc u2) N_add) Es_nil))) e3'), e4, z3, c3, y3, k3⟩
theorem ans_data {cl : Caller} {l1 : Loc} {hc : VH} {X Y : PE} {b : Bool} {v : VV} (ec : vE cl l1 cnd h1 = some (.bool b, hc)) (e2 : vE cl l1 (cond b X Y) hc = some (v, h2)) : vS cl (.asg (.name 95) (.ife cnd X Y)) l1 h1 = some (.next, upd l1 95 (some v), h2) := X_asg (E_ife ec e2) A_name
theorem ans_miss (n : Nat) {l1 : Loc} {hc : VH} {fits : Bool} {at_ t : Int} {s : Nat} (hB : B < 600) (hT : T ≤ 50) (xc : Inv R is T B D hc) (yc : CtlAt hc D.ct D.rt W T' R' S N) (b1 : l1 78 = some (.ref R.cn)) (b2 : l1 143 = some (.ref R.w)) (b3 : l1 147 = some (.int t)) (q1 : l1 158 = some (.ref s)) (q2 : l1 159 = some (.bool fits)) (q3 : l1 160 = some (.int at_)) (a0 : 0 ≤ at_) (a2 : at_ < 2) (slc : s < hc.nxt) (lsc : hc.lst s = some (namesT D.tes)) (nsw : s ≠ R.wp)
    (ec : vE (vF (n + 6)) l1 cnd h1 = some (.bool (fits && !D.tes.isEmpty), hc)) (hf : (fits && !D.tes.isEmpty) = false) :
    ∃ r D' h' l', vSs (vF (n + 6)) (.cons an2 (.cons an3 (.cons an4 (.cons an5 .nil)))) l1 h1 = some (.ret (.bool r), l', h') ∧ Inv R is T (B + 1) D' h' ∧
      CtlAt h' D'.ct D'.rt (pick r (.int 12000) W) (pick r .none T') (pick r (.int (50 + t)) R') (pick r (.int 2664000) S) (pick r (.int (50 + t)) N) := by
  rw [hf] at ec
  let h2 := (hc.newL [.int 99]).newL (List.replicate 8 (.int 99))
  have k2 : Keep [] [] [] [] hc h2 := .newL (.newL .refl)
  have s2 : vS (vF (n + 6)) an2 l1 h1 = some (.next, upd l1 95 (some (.bytes (dat 99))), h2) := by
    rw [an2_is]
    have p1 : vBin 2 (.ref hc.nxt) (.int 8) (hc.newL [.int 99]) = some (.ref (hc.nxt + 1), h2) := rep_list 8 (by decide) _ hc
    have p2 : vBf 141 [.ref (hc.nxt + 1)] h2 = some (.bytes (dat 99), h2) := rep_bytes 8 (by decide) (by decide) (by decide) (hc.newL [.int 99])
    exact ans_data ec (E_bf (Es_cons (E_bin (E_list (Es_cons E_int Es_nil)) E_int p1) Es_nil) p2)
  have x2 := xc.still k2
  have y2 := yc.keep k2 (fun m => nomatch m) (fun m => nomatch m)
  obtain ⟨h3, ct', rt', ps', act', e3, e4, z3, c3, y3, k3⟩ := ans_take n b1 b3 (dat 99) x2 y2
  have hn : D.ps.find? (hit (dat 99)) = none := by
    rw [List.find?_eq_none]
    intro p hp q
    have := (xc.tri.small p hp 99 (hit_iff.mp q)).2
    omega
  rw [hn] at e4
  obtain ⟨rfl, rfl⟩ := Prod.mk.inj e4
  have ls3 : h3.lst s = some (namesT D.tes) := (k3.lst _ (Nat.lt_of_lt_of_le slc k2.nxt) fun m => nomatch m).trans ((k2.lst _ slc fun m => nomatch m).trans lsc)
  obtain ⟨h4, e5, k4⟩ := cnd_eval (s := s) (fits := fits) (cl := vF (n + 6)) (l := upd l1 95 (some (.bytes (dat 99)))) q1 q2 ls3 (Nat.lt_of_lt_of_le (Nat.lt_of_lt_of_le slc k2.nxt) k3.nxt)
  rw [hf] at e5
  have s4 : vS (vF (n + 6)) an4 (upd l1 95 (some (.bytes (dat 99)))) h3 = some (.next, upd l1 95 (some (.bytes (dat 99))), h4) := by
    rw [an4_is]
    exact ifs_false e5 rfl
  have hw4 : h4.sd R.w = some (wents D.act.a D.way R.wp R.tr D.hi D.cb D.k D.sp R.wo R.we D.left) := (k4.sd _ (Nat.lt_of_lt_of_le x2.wlt k3.nxt) fun m => nomatch m).trans ((k3.sd _ x2.wlt fun m => nomatch m).trans x2.wor)
  have wplt := x2.lts R.wp m_wp
  have hp4 : h4.lst R.wp = some D.pv := (k4.lst _ (Nat.lt_of_lt_of_le wplt k3.nxt) fun m => nomatch m).trans ((k3.lst _ wplt fun m => nomatch m).trans x2.lwp)
  have hb := xc.prov D.act.a (xc.pat.adrs _ xc.pat.act)
  rw [seek_mem xc.pat.nod2 xc.pat.act] at hb
  have hb : inL (.str D.act.a) D.pv = some (stN D.act.st == 146) := hb
  have er := c_renews (n + 5) hw4 hp4 hb
  have hr : ((stN D.act.st == 146) && !(D.act.a == D.way)) = rnw D.act D.way := rfl
  rw [hr] at er
  let h5 := if rnw D.act D.way = true then h4.setS R.w (wents D.act.a D.act.a R.wp R.tr D.hi D.cb D.k D.sp R.wo R.we D.left) else h4
  have q6 : h5.sd R.w = some (wents D.act.a (pick (rnw D.act D.way) D.act.a D.way) R.wp R.tr D.hi D.cb D.k D.sp R.wo R.we D.left) := by
    cases e : rnw D.act D.way <;> simp [setS_sd, pick_true, pick_false, h5, e, hw4]
  have k5 : Keep [] [R.wp] [R.w, R.tr] [] h4 h5 := by
    cases e : rnw D.act D.way
    · have : h5 = h4 := by simp [h5, e]
      rw [this]; exact .refl
    · have : h5 = h4.setS R.w (wents D.act.a D.act.a R.wp R.tr D.hi D.cb D.k D.sp R.wo R.we D.left) := by simp [h5, e]
      rw [this]; exact .setS .refl (.inl (.head _))
  have K : Keep [] [R.wp] [R.w, R.tr] [] h3 h5 := (k4.mono (fun r m => m) (fun r m => nomatch m) (fun r m => nomatch m) (fun r m => m)).step k5
  have hp5 : h5.lst R.wp = some D.pv := by
    cases e : rnw D.act D.way <;> simp [setS_lst, h5, e, hp4]
  have ht5 : h5.sd R.tr = some D.tes := by
    have ht4 : h4.sd R.tr = some D.tes := (k4.sd _ (Nat.lt_of_lt_of_le x2.trlt k3.nxt) fun m => nomatch m).trans ((k3.sd _ x2.trlt fun m => nomatch m).trans x2.ltr)
    have := Ne.symm xc.wtr
    cases e : rnw D.act D.way <;> simp [setS_sd, h5, e, ht4, this]
  have s5 : vSs (vF (n + 6)) (.cons an5 .nil) (upd l1 95 (some (.bytes (dat 99)))) h4 = some (.ret (.bool (rnw D.act D.way)), upd l1 95 (some (.bytes (dat 99))), h5) := by
    have er' : vF (n + 6) 33 [.ref R.w] h4 = some (.bool (rnw D.act D.way), h5) := er
    have u1 : (upd l1 95 (some (.bytes (dat 99)))) 143 = some (.ref R.w) := b2
    exact seq_ret (X_ret (E_fn rfl (Es_cons (E_loc u1) Es_nil) er'))
  have xf := inv_ans (r := rnw D.act D.way) x2 k3 z3 c3 K q6 hp5 ht5 (by have := x2.pvlen; omega) x2.prov x2.home x2.tri x2.lef
  exact ⟨rnw D.act D.way, _, h5, _, seq_next s2 (seq_next e3 (seq_next s4 s5)), xf, y3.keep K (fun m => nomatch m) (fun m => nomatch m)⟩
theorem inL_app {a b : Nat} : ∀ {vs : List VV} {r : Bool}, inL (.str b) vs = some r → inL (.str b) (vs ++ [.str a]) = some (r || (a == b))
  | [], _, e => by cases e; simp [asS_str, inL, aeq]
  | v :: vs, r, e => by
    have e : (match aeq v (.str b), inL (.str b) vs with
      | some b, some c => some (b || c)
      | _, _ => none) = some r := e
    cases e1 : aeq v (.str b) with
    | none => rw [e1] at e; cases e
    | some r1 =>
      cases e2 : inL (.str b) vs with
      | none => rw [e1, e2] at e; cases e
      | some r2 =>
        rw [e1, e2] at e
        cases e
        show (match aeq v (.str b), inL (.str b) (vs ++ [.str a]) with
          | some b, some c => some (b || c)
          | _, _ => none) = _
        rw [e1, inL_app e2]
        exact congrArg some (Bool.or_assoc ..).symm
section
variable {a : Nat} {q : AP} {ps : List AP} {tes : List (Nat × VV)} {pv : List VV} {T : Int} {v : VV}
set_option tactic.hygienic false
theorem sk_ne (qa : q.a = a) {b : Nat} (hb : b ≠ a) : seek b (repl (prv q) ps) = seek b ps := repl_seek_ne (q := prv q) (by show b ≠ q.a; rw [qa]; exact hb)
theorem sk_eq (qa : q.a = a) (hs : seek a ps = some q) : seek a (repl (prv q) ps) = some (prv q) := by
  subst qa
  exact repl_seek (q := prv q) hs
theorem prov_take (qa : q.a = a) (hs : seek a ps = some q) (hp : ∀ b, A3 b → inL (.str b) pv = some (isPr (seek b ps))) : ∀ b, A3 b → inL (.str b) (pv ++ [.str a]) = some (isPr (seek b (repl (prv q) ps))) := fun b hb => by
  rw [inL_app (hp b hb)]
  by_cases e : b = a
  · subst e
    rw [sk_eq qa hs, beq_self_eq_true, Bool.or_true]
    rfl
  · rw [sk_ne qa e, beq_eq_false_iff_ne.mpr (Ne.symm e), Bool.or_false]
theorem mem_take {p : AP} (hp : p ∈ repl (prv q) ps) {d : Int} (e : p.st = .tr d) : p ∈ ps := by
  obtain ⟨p0, hp0, rfl⟩ := List.mem_map.mp hp
  by_cases c : p0.a = (prv q).a
  · rw [re1, if_pos c] at e; cases e
  · rw [re1, if_neg c]; exact hp0
theorem look_drp {b : Nat} (h : tes = [] ∨ (∃ a v, tes = [(a, v)] ∧ (a = 64 ∨ a = 66)) ∨ ∃ a v b u, tes = [(a, v), (b, u)] ∧ (a = 64 ∧ b = 66 ∨ a = 66 ∧ b = 64)) : look b (drp a tes) = if b = a then none else look b tes := by
  rcases h with rfl | ⟨a1, v1, rfl, _⟩ | ⟨a1, v1, b1, u1, rfl, hab⟩
  · by_cases e : b = a <;> simp [drp, look, e]
  · by_cases e : b = a
    · subst e
      by_cases z : a1 = b <;> simp [drp, look, z]
    · by_cases z : a1 = a
      · subst z
        simp [drp, look, e, Ne.symm e]
      · simp [drp, look, e, z]
  · have n12 : ¬ a1 = b1 := by omega
    by_cases e : b = a
    · subst e
      by_cases z : a1 = b
      · subst z
        simp [drp, look, Ne.symm n12]
      · by_cases z2 : b1 = b <;> simp [drp, look, z, z2]
    · by_cases z : a1 = a
      · subst z
        simp [drp, look, e, Ne.symm e]
      · by_cases z2 : b1 = a
        · subst z2
          simp [drp, look, e, z, Ne.symm e]
        · simp [drp, look, e, z, z2]
theorem shape_drp (h : tes = [] ∨ (∃ a v, tes = [(a, v)] ∧ (a = 64 ∨ a = 66)) ∨ ∃ a v b u, tes = [(a, v), (b, u)] ∧ (a = 64 ∧ b = 66 ∨ a = 66 ∧ b = 64)) :
    drp a tes = [] ∨ (∃ b v, drp a tes = [(b, v)] ∧ (b = 64 ∨ b = 66)) ∨ ∃ c v b u, drp a tes = [(c, v), (b, u)] ∧ (c = 64 ∧ b = 66 ∨ c = 66 ∧ b = 64) := by
  rcases h with rfl | ⟨a1, v1, rfl, g2⟩ | ⟨a1, v1, b1, u1, rfl, hab⟩
  · exact .inl rfl
  · by_cases z : a1 = a
    · exact .inl (by simp [drp, z])
    · exact .inr (.inl ⟨a1, v1, by simp [drp, z], g2⟩)
  · by_cases z : a1 = a
    · exact .inr (.inl ⟨b1, u1, by simp [drp, z], by rcases hab with ⟨r1, r2⟩ | ⟨r1, r2⟩ <;> omega⟩)
    · by_cases z2 : b1 = a
      · exact .inr (.inl ⟨a1, v1, by simp [drp, z, z2], by rcases hab with ⟨r1, r2⟩ | ⟨r1, r2⟩ <;> omega⟩)
      · exact .inr (.inr ⟨a1, v1, b1, u1, by simp [drp, z, z2], hab⟩)
theorem tri_take (qa : q.a = a) (hs : seek a ps = some q) (tri : TR tes ps T) (hv : look a tes = some v) (hne : tes ≠ []) : TR (drp a tes) (repl (prv q) ps) T := by
  refine ⟨fun b hb => ?_, shape_drp tri.shape, fun p hp d' e => tri.small p (mem_take hp e) d' e, fun p hp p2 hp2 d' e1 e2 => tri.own p (mem_take hp e1) p2 (mem_take hp2 e2) d' e1 e2⟩
  rw [look_drp tri.shape]
  by_cases e : b = a
  · subst e
    rw [if_pos rfl, sk_eq qa hs]
    rfl
  · rw [if_neg e, sk_ne qa e]
    exact tri.look b hb
end
set_option tactic.hygienic true
theorem ans_fit (n : Nat) {l1 : Loc} {hc : VH} {fits : Bool} {at_ t : Int} {s : Nat} (hB : B < 600) (hT : T ≤ 50) (xc : Inv R is T B D hc) (yc : CtlAt hc D.ct D.rt W T' R' S N) (b1 : l1 78 = some (.ref R.cn)) (b2 : l1 143 = some (.ref R.w)) (b3 : l1 147 = some (.int t)) (q1 : l1 158 = some (.ref s)) (q2 : l1 159 = some (.bool fits)) (q3 : l1 160 = some (.int at_)) (a0 : 0 ≤ at_) (a2 : at_ < 2) (slc : s < hc.nxt) (lsc : hc.lst s = some (namesT D.tes)) (nsw : s ≠ R.wp)
    (ec : vE (vF (n + 6)) l1 cnd h1 = some (.bool (fits && !D.tes.isEmpty), hc)) (hf : (fits && !D.tes.isEmpty) = true) :
    ∃ r D' h' l', vSs (vF (n + 6)) (.cons an2 (.cons an3 (.cons an4 (.cons an5 .nil)))) l1 h1 = some (.ret (.bool r), l', h') ∧ Inv R is T (B + 1) D' h' ∧
      CtlAt h' D'.ct D'.rt (pick r (.int 12000) W) (pick r .none T') (pick r (.int (50 + t)) R') (pick r (.int 2664000) S) (pick r (.int (50 + t)) N) := by
  rw [hf] at ec
  have hne : D.tes ≠ [] := fun q => by
    rw [q] at hf
    simp at hf
  obtain ⟨a, ha, ⟨v, hv⟩, pick_⟩ := pick_tried (cl := vF (n + 6)) (s := s) xc.tri a0 a2 hne
  have ha3 : A3 a := by rcases ha with e | e <;> simp [A3, e]
  have hlk := xc.tri.look a ha3
  rw [hv] at hlk
  obtain ⟨q, d, hs, hst, hvd⟩ : ∃ q d, seek a D.ps = some q ∧ q.st = .tr d ∧ v = .bytes (dat d) := by
    cases hs : seek a D.ps with
    | none => rw [hs] at hlk; cases hlk
    | some q =>
      rw [hs] at hlk
      cases hst : q.st with
      | un => simp [tdat, hst] at hlk
      | pr => simp [tdat, hst] at hlk
      | tr d =>
        simp [tdat, hst] at hlk
        exact ⟨q, d, rfl, hst, hlk⟩
  subst hvd
  have hq := seek_some hs
  have s2 : vS (vF (n + 6)) an2 l1 h1 = some (.next, upd l1 95 (some (.bytes (dat d))), hc) := by
    rw [an2_is]
    refine ans_data ec ?_
    have e := pick_ l1 hc q1 q3 lsc
    have hw := xc.wor
    have ht := xc.ltr
    have ht : hc.sd R.tr = some D.tes := ht
    exact E_sub (E_sub (E_loc b2) E_str (U_str hw rfl)) e (U_str ht hv)
  obtain ⟨h3, ct', rt', ps', act', e3, e4, z3, c3, y3, k3⟩ := ans_take n b1 b3 (dat d) xc yc
  have hfd : D.ps.find? (hit (dat d)) = some q := by
    cases g : D.ps.find? (hit (dat d)) with
    | none =>
      have := List.find?_eq_none.mp g q hq.1
      exact absurd (hit_iff.mpr hst) this
    | some q2 =>
      have g1 := List.mem_of_find?_eq_some g
      have g2 := hit_iff.mp (List.find?_some g)
      rw [xc.tri.own q2 g1 q hq.1 d g2 hst]
  rw [hfd] at e4
  obtain ⟨rfl, rfl⟩ := Prod.mk.inj e4
  have ls3 : h3.lst s = some (namesT D.tes) := (k3.lst _ slc fun m => nomatch m).trans lsc
  obtain ⟨h4, e5, k4⟩ := cnd_eval (s := s) (fits := fits) (cl := vF (n + 6)) (l := upd l1 95 (some (.bytes (dat d)))) q1 q2 ls3 (Nat.lt_of_lt_of_le slc k3.nxt)
  rw [hf] at e5
  have wplt := xc.lts R.wp m_wp
  have hw4 : h4.sd R.w = some (wents D.act.a D.way R.wp R.tr D.hi D.cb D.k D.sp R.wo R.we D.left) := (k4.sd _ (Nat.lt_of_lt_of_le xc.wlt k3.nxt) fun m => nomatch m).trans ((k3.sd _ xc.wlt fun m => nomatch m).trans xc.wor)
  have hp4 : h4.lst R.wp = some D.pv := (k4.lst _ (Nat.lt_of_lt_of_le wplt k3.nxt) fun m => nomatch m).trans ((k3.lst _ wplt fun m => nomatch m).trans xc.lwp)
  have ht4 : h4.sd R.tr = some D.tes := (k4.sd _ (Nat.lt_of_lt_of_le xc.trlt k3.nxt) fun m => nomatch m).trans ((k3.sd _ xc.trlt fun m => nomatch m).trans xc.ltr)
  have ls4 : h4.lst s = some (namesT D.tes) := (k4.lst _ (Nat.lt_of_lt_of_le slc k3.nxt) fun m => nomatch m).trans ls3
  let lz : Loc := upd l1 95 (some (.bytes (dat d)))
  have pz : ∀ H : VH, H.lst s = some (namesT D.tes) → vE (vF (n + 6)) lz aIdx H = some (.str a, H) := fun H hH => by
    have m1 : lz 158 = l1 158 := by simp [lz, upd]
    have m2 : lz 160 = l1 160 := by simp [lz, upd]
    exact pick_ lz H (m1.trans q1) (m2.trans q3) hH
  let h5 := h4.setS R.tr (drp a D.tes)
  let h6 := h5.setL R.wp (D.pv ++ [.str a])
  have ls5 : h5.lst s = some (namesT D.tes) := ls4
  have hw5 : h5.sd R.w = some (wents D.act.a D.way R.wp R.tr D.hi D.cb D.k D.sp R.wo R.we D.left) := by
    have := xc.wtr
    simp [setS_sd, h5, this, hw4]
  have s4 : vS (vF (n + 6)) an4 lz h3 = some (.next, lz, h6) := by
    rw [an4_is]
    have bz : lz 143 = some (.ref R.w) := by simp [lz, upd, b2]
    have g1 : vS (vF (n + 6)) an4a lz h4 = some (.next, lz, h5) := by
      have e := pz h4 ls4
      have o1 : bmOk 111 R.tr h4 = true := by simp [bmOk, n_append, n_extend, ht4]
      have o2 : vBm 111 R.tr [.str a] h4 = some (.bytes (dat d), h5) := by
          show popV R.tr (.str a) h4 = _
          simp [popV, ht4, hv, h5]
      exact X_expr (E_bm (E_sub (E_loc bz) E_str (U_str hw4 rfl)) o1 (Es_cons e Es_nil) o2)
    have g2 : vS (vF (n + 6)) an4b lz h5 = some (.next, lz, h6) := by
      have e := pz h5 ls5
      have hp5 : h5.lst R.wp = some D.pv := hp4
      have hl : D.pv.length < 1000 := by have := xc.pvlen; omega
      exact X_expr (E_bm (E_sub (E_loc bz) E_str (U_str hw5 rfl)) (O_app hp5) (Es_cons e Es_nil) (M_app hp5 hl))
    exact ifs_true e5 (seq_next g1 (seq_next g2 rfl))
  have hact0 : seek D.act.a D.ps = some D.act := seek_mem xc.pat.nod2 xc.pat.act
  have qa : q.a = a := hq.2
  have sk : ∀ b, b ≠ a → seek b (repl (prv q) D.ps) = seek b D.ps := fun b hb => repl_seek_ne (q := prv q) (by show b ≠ q.a; rw [qa]; exact hb)
  have sk0 : seek a (repl (prv q) D.ps) = some (prv q) := by
    have := repl_seek (q := prv q) (ps := D.ps) (p := q) (by show seek q.a D.ps = _; rw [qa]; exact hs)
    have e : (prv q).a = a := qa
    rw [e] at this
    exact this
  have prov' : ∀ b, A3 b → inL (.str b) (D.pv ++ [.str a]) = some (isPr (seek b (repl (prv q) D.ps))) := prov_take qa hs xc.prov
  have a65 : (65 : Nat) ≠ a := by rcases ha with e | e <;> omega
  have home' : ∃ p, seek 65 (repl (prv q) D.ps) = some p ∧ p.st = .pr := by
    rw [sk 65 a65]; exact xc.home
  have tri' : TR (drp a D.tes) (repl (prv q) D.ps) T := tri_take qa hs xc.tri hv hne
  have lef' : (D.el = .none ∧ D.left = .none) ∨ ∃ p ∈ repl (prv q) D.ps, D.el = .ref p.ref ∧ D.left = .str p.a := xc.lef.imp id fun ⟨p, hp, e1, e2⟩ => by
    refine ⟨re1 (prv q) p, List.mem_map.mpr ⟨p, hp, rfl⟩, ?_⟩
    unfold re1
    split
    · rename_i e
      have := uniq_a xc.pat.nod2 hp hq.1 e
      subst this
      exact ⟨e1, e2⟩
    · exact ⟨e1, e2⟩
  have aa : (re1 (prv q) D.act).a = D.act.a := by
    unfold re1
    split
    · rename_i e; exact e.symm
    · rfl
  have hact' : seek D.act.a (repl (prv q) D.ps) = some (re1 (prv q) D.act) := by
    by_cases e : D.act.a = a
    · have : re1 (prv q) D.act = prv q := by
        unfold re1
        rw [if_pos (by show D.act.a = q.a; rw [qa]; exact e)]
      rw [this, e]; exact sk0
    · have : re1 (prv q) D.act = D.act := by
        unfold re1
        rw [if_neg (by show ¬ D.act.a = q.a; rw [qa]; exact e)]
      rw [this, sk _ e]; exact hact0
  let act' := re1 (prv q) D.act
  have hw6 : h6.sd R.w = some (wents D.act.a D.way R.wp R.tr D.hi D.cb D.k D.sp R.wo R.we D.left) := hw5
  have hp6 : h6.lst R.wp = some (D.pv ++ [.str a]) := by simp [setL_lst, h6]
  have hb : inL (.str D.act.a) (D.pv ++ [.str a]) = some (stN act'.st == 146) := by
    have := prov' D.act.a (xc.pat.adrs _ xc.pat.act)
    rw [hact'] at this
    exact this
  have er := c_renews (n + 5) hw6 hp6 hb
  have hr : ((stN act'.st == 146) && !(D.act.a == D.way)) = rnw act' D.way := by
    show _ = ((stN act'.st == 146) && !(act'.a == D.way))
    rw [show act'.a = D.act.a from aa]
  rw [hr] at er
  let h7 := if rnw act' D.way = true then h6.setS R.w (wents D.act.a D.act.a R.wp R.tr D.hi D.cb D.k D.sp R.wo R.we D.left) else h6
  have q7 : h7.sd R.w = some (wents act'.a (pick (rnw act' D.way) act'.a D.way) R.wp R.tr D.hi D.cb D.k D.sp R.wo R.we D.left) := by
    rw [show act'.a = D.act.a from aa]
    cases e : rnw act' D.way <;> simp [setS_sd, pick_true, pick_false, h7, e, hw6]
  have k46 : Keep [] [R.wp] [R.w, R.tr] [] h4 h6 := .setL (.setS .refl (.inl (.tail _ (.head _)))) (.inl (.head _)) (Nat.lt_of_lt_of_le (Nat.lt_of_lt_of_le wplt k3.nxt) k4.nxt)
  have k67 : Keep [] [R.wp] [R.w, R.tr] [] h6 h7 := by
    cases e : rnw act' D.way
    · have : h7 = h6 := by simp [h7, e]
      rw [this]; exact .refl
    · have : h7 = h6.setS R.w (wents D.act.a D.act.a R.wp R.tr D.hi D.cb D.k D.sp R.wo R.we D.left) := by simp [h7, e]
      rw [this]; exact .setS .refl (.inl (.head _))
  have K : Keep [] [R.wp] [R.w, R.tr] [] h3 h7 := ((k4.mono (fun r m => m) (fun r m => nomatch m) (fun r m => nomatch m) (fun r m => m)).step k46).step k67
  have hp7 : h7.lst R.wp = some (D.pv ++ [.str a]) := by
    cases e : rnw act' D.way <;> simp [setS_lst, h7, e, hp6]
  have ht7 : h7.sd R.tr = some (drp a D.tes) := by
    have := Ne.symm xc.wtr
    cases e : rnw act' D.way <;> simp [setL_sd, setS_sd, h7, e, h6, h5, this]
  have s5 : vSs (vF (n + 6)) (.cons an5 .nil) lz h6 = some (.ret (.bool (rnw act' D.way)), lz, h7) := by
    have er' : vF (n + 6) 33 [.ref R.w] h6 = some (.bool (rnw act' D.way), h7) := er
    have bz : lz 143 = some (.ref R.w) := by simp [lz, upd, b2]
    exact seq_ret (X_ret (E_fn rfl (Es_cons (E_loc bz) Es_nil) er'))
  have xf := inv_ans (r := rnw act' D.way) xc k3 z3 c3 K q7 hp7 ht7 (by have := xc.pvlen; rw [List.length_append, List.length_singleton]; omega) prov' home' tri' lef'
  exact ⟨rnw act' D.way, _, h7, _, seq_next s2 (seq_next e3 (seq_next s4 s5)), xf, y3.keep K (fun m => nomatch m) (fun m => nomatch m)⟩
set_option tactic.hygienic false
theorem c_answer (n : Nat) (x : Inv R is T B D h) (hB : B < 500) (hT : T ≤ 50) (y : CtlAt h D.ct D.rt W T' R' S N) (t : Int) :
    ∃ r D' h', vF (n + 7) 35 [.ref R.bx, .ref R.cn, .ref R.w, .int t] h = some (.bool r, h') ∧ Inv R is T (B + 3) D' h' ∧
      CtlAt h' D'.ct D'.rt (pick r (.int 12000) W) (pick r .none T') (pick r (.int (50 + t)) R') (pick r (.int 2664000) S) (pick r (.int (50 + t)) N) := by
  obtain ⟨l1, h1, D1, fits, at_, s, A⟩ := an_draws (n + 5) x (by omega) (l := bindL (fps 35) [.ref R.bx, .ref R.cn, .ref R.w, .int t]) rfl rfl
  have b1 : l1 78 = some (.ref R.cn) := (A.q5 78 (by decide) (by decide) (by decide)).trans rfl
  have b2 : l1 143 = some (.ref R.w) := (A.q5 143 (by decide) (by decide) (by decide)).trans rfl
  have b3 : l1 147 = some (.int t) := (A.q5 147 (by decide) (by decide) (by decide)).trans rfl
  have y1 := y.keep A.keep (fun m => nomatch m) (fun m => nomatch m)
  rw [← A.same.ct, ← A.same.rt] at y1
  obtain ⟨hc, ec, kc⟩ := cnd_eval (cl := vF (n + 6)) A.q1 A.q2 A.ls A.slt
  have xc := A.inv.still kc
  have yc := y1.keep kc (fun m => nomatch m) (fun m => nomatch m)
  have slc := Nat.lt_of_lt_of_le A.slt kc.nxt
  have lsc : hc.lst s = some (namesT D1.tes) := (kc.lst _ A.slt fun m => nomatch m).trans A.ls
  have key : ∃ r D' h' l', vSs (vF (n + 6)) (.cons an2 (.cons an3 (.cons an4 (.cons an5 .nil)))) l1 h1 = some (.ret (.bool r), l', h') ∧ Inv R is T (B + 2 + 1) D' h' ∧
      CtlAt h' D'.ct D'.rt (pick r (.int 12000) W) (pick r .none T') (pick r (.int (50 + t)) R') (pick r (.int 2664000) S) (pick r (.int (50 + t)) N) := by
    cases hf : (fits && !D1.tes.isEmpty) with
    | false => exact ans_miss n (by omega) hT xc yc b1 b2 b3 A.q1 A.q2 A.q3 A.a0 A.a2 slc lsc A.nwp ec hf
    | true => exact ans_fit n (by omega) hT xc yc b1 b2 b3 A.q1 A.q2 A.q3 A.a0 A.a2 slc lsc A.nwp ec hf
  obtain ⟨r, D', h', l', e, x3, y3⟩ := key
  refine ⟨r, D', h', ?_, x3.more (Int.le_refl _) (by omega), y3⟩
  refine vF_go (b := b_law_answer) (by decide) (by decide) (by decide) rfl rfl ?_
  rw [an_is, A.run _ _ e]
  rfl
end
end Mine
end
section
namespace Mine

section
variable {R : Rf} {is : List Int} {T B : Int} {D : Dy} {h h' h1 h2 : VH} {W T' R' S N : VV} {l : Loc}
set_option tactic.hygienic false
theorem Inv.marks (x : Inv R is T B D h) (y : CtlAt h D.ct D.rt W T' R' S N) (k : Keep [D.ct, D.rt] [] [] [] h h') : Inv R is T B D h' := by
  have nF : ∀ {b c : Nat}, h.cls b = some c → c ≠ 75 → c ≠ 76 → b ∉ [D.ct, D.rt] := fun hb h1 h2 => ni2 (ne_cls hb y.cls h1) (ne_cls hb y.cls2 h2)
  have LT : ∀ r ∈ D.tq :: R.Ls, r < h.nxt := x.lts
  exact {
    con := x.con.keep k (nF x.con.cls (by decide) (by decide)) (fun m => nomatch m)
    pat := x.pat.keep k (nF x.pat.cls (by decide) (by decide)) (fun p hp => nF (x.pat.each p hp).cls (by decide) (by decide)) (fun m => nomatch m) (fun r m => nomatch m)
    rem := x.rem.keep k (nF x.rem.cls (by decide) (by decide)) (fun m => nomatch m) (fun m => nomatch m) (fun m => nomatch m) (fun r m => nomatch m) (fun r m => .inl m)
    emp := k.empty x.emp
    lows := (k.lst _ (LT _ m_ow) fun m => nomatch m).trans x.lows
    levs := (k.lst _ (LT _ m_ev) fun m => nomatch m).trans x.levs
    lwows := (k.lst _ (LT _ m_wo) fun m => nomatch m).trans x.lwows
    lwevs := (k.lst _ (LT _ m_we) fun m => nomatch m).trans x.lwevs
    twO := x.twO.keep k fun r m => nomatch m
    twE := x.twE.keep k fun r m => nomatch m
    lenO := x.lenO
    lenE := x.lenE
    wor := (k.sd _ x.wlt fun m => nomatch m).trans x.wor
    lwp := (k.lst _ (LT _ m_wp) fun m => nomatch m).trans x.lwp
    pvlen := x.pvlen
    prov := x.prov
    home := x.home
    ltr := (k.sd _ x.trlt fun m => nomatch m).trans x.ltr
    notr := (k.lst _ x.trlt fun m => nomatch m).trans x.notr
    icn := (k.ic _ x.trlt fun m => nomatch m).trans x.icn
    tri := x.tri
    lsp := (k.lst _ x.splt fun m => nomatch m).trans x.lsp
    lbx := (k.lst _ (LT _ m_bx) fun m => nomatch m).trans x.lbx
    lbl := (k.lst _ x.bllt fun m => nomatch m).trans x.lbl
    c0 := x.c0
    c1 := x.c1
    lef := x.lef
    nod := x.nod
    lts := fun r m => Nat.lt_of_lt_of_le (LT r m) k.nxt
    spn := x.spn
    bln := x.bln
    splt := Nat.lt_of_lt_of_le x.splt k.nxt
    bllt := Nat.lt_of_lt_of_le x.bllt k.nxt
    wlt := Nat.lt_of_lt_of_le x.wlt k.nxt
    trlt := Nat.lt_of_lt_of_le x.trlt k.nxt
    wtr := x.wtr
    cw := x.cw
    ctr := x.ctr }

noncomputable def chd (q : AP) (t : Int) : AP := ⟨q.ref, q.a, .tr t⟩
set_option tactic.hygienic true
theorem inv_chal (x : Inv R is T B D h) (hT : 0 ≤ T) (hst : D.act.st = .un) (k : Keep [D.act.ref] [] [R.tr] [] h h') (z : PathAt (D.tq :: R.Ls) h' (chd D.act T)) (ltr : h'.sd R.tr = some (put D.act.a (.bytes (dat T)) D.tes)) :
    Inv R is (T + 1) B { D with ps := repl (chd D.act T) D.ps, act := chd D.act T, tes := put D.act.a (.bytes (dat T)) D.tes } h' := by
  have LT : ∀ r ∈ D.tq :: R.Ls, r < h.nxt := x.lts
  have za := x.pat.each D.act x.pat.act
  have nF : ∀ {b c : Nat}, h.cls b = some c → c ≠ 114 → b ∉ [D.act.ref] := fun hb h1 => ni1 (ne_cls hb za.cls h1)
  have hact : seek D.act.a D.ps = some D.act := seek_mem x.pat.nod2 x.pat.act
  have a3 := x.pat.adrs _ x.pat.act
  have n65 : D.act.a ≠ 65 := fun e => by
    obtain ⟨p, h1, h2⟩ := x.home
    rw [← e, hact] at h1
    cases h1
    rw [hst] at h2
    cases h2
  have a2 : D.act.a = 64 ∨ D.act.a = 66 := by rcases a3 with e | e | e
                                              · exact .inl e
                                              · exact absurd e n65
                                              · exact .inr e
  have sk : ∀ b, b ≠ D.act.a → seek b (repl (chd D.act T) D.ps) = seek b D.ps := fun b hb => repl_seek_ne (q := chd D.act T) hb
  have sk0 : seek D.act.a (repl (chd D.act T) D.ps) = some (chd D.act T) := repl_seek (q := chd D.act T) (p := D.act) hact
  have lk0 : look D.act.a D.tes = none := by
    rw [x.tri.look _ a3, hact]
    show tdat (some D.act) = none
    unfold tdat
    simp [hst]
  have re : re1 (chd D.act T) D.act = chd D.act T := by
    unfold re1
    show (if D.act.a = D.act.a then chd D.act T else D.act) = _
    rw [if_pos rfl]
  have z2 := x.pat.put (q := D.act) (q' := chd D.act T) x.pat.act rfl rfl k (fun m => nomatch m) (fun r m => nomatch m) z
  exact {
    con := x.con.keep k (nF x.con.cls (by decide)) (ni1 x.ctr)
    pat := by rw [re] at z2; exact z2
    rem := x.rem.keep k (nF x.rem.cls (by decide)) (fun m => nomatch m) (fun m => nomatch m) (fun m => nomatch m) (fun r m => nomatch m) (fun r m => .inl m)
    emp := k.empty x.emp
    lows := (k.lst _ (LT _ m_ow) fun m => nomatch m).trans x.lows
    levs := (k.lst _ (LT _ m_ev) fun m => nomatch m).trans x.levs
    lwows := (k.lst _ (LT _ m_wo) fun m => nomatch m).trans x.lwows
    lwevs := (k.lst _ (LT _ m_we) fun m => nomatch m).trans x.lwevs
    twO := x.twO.keep k fun r m => nomatch m
    twE := x.twE.keep k fun r m => nomatch m
    lenO := x.lenO
    lenE := x.lenE
    wor := (k.sd _ x.wlt (ni1 x.wtr)).trans x.wor
    lwp := (k.lst _ (LT _ m_wp) fun m => nomatch m).trans x.lwp
    pvlen := x.pvlen
    prov := fun b hb => by
      have := x.prov b hb
      rw [this]
      by_cases e : b = D.act.a
      · subst e
        show _ = some (isPr (seek D.act.a (repl (chd D.act T) D.ps)))
        rw [sk0, hact]
        show some (stN D.act.st == 146) = some (stN (PSt.tr T) == 146)
        rw [hst]
        rfl
      · show _ = some (isPr (seek b (repl (chd D.act T) D.ps)))
        rw [sk b e]
    home := by
      show ∃ p, seek 65 (repl (chd D.act T) D.ps) = some p ∧ p.st = .pr
      rw [sk 65 (Ne.symm n65)]; exact x.home
    ltr := ltr
    notr := (k.lst _ x.trlt fun m => nomatch m).trans x.notr
    icn := (k.ic _ x.trlt fun m => nomatch m).trans x.icn
    tri := by
      have memt : ∀ p ∈ repl (chd D.act T) D.ps, ∀ d, p.st = .tr d → (p = chd D.act T ∧ d = T) ∨ (p ∈ D.ps ∧ p.a ≠ D.act.a) := fun p hp d e => by
        obtain ⟨p0, hp0, rfl⟩ := List.mem_map.mp hp
        unfold re1 at e ⊢
        split at e
        · rename_i q
          rw [if_pos q]
          cases e
          exact .inl ⟨rfl, rfl⟩
        · rename_i q
          rw [if_neg q]
          exact .inr ⟨hp0, q⟩
      refine ⟨fun b hb => ?_, ?_, fun p hp d e => ?_, fun p hp p2 hp2 d e1 e2 => ?_⟩
      · have lk := x.tri.look b hb
        show look b (put D.act.a (.bytes (dat T)) D.tes) = tdat (seek b (repl (chd D.act T) D.ps))
        have lput : ∀ (es : List (Nat × VV)), look b (put D.act.a (.bytes (dat T)) es) = if b = D.act.a then some (.bytes (dat T)) else look b es := by
          intro es
          induction es with
          | nil => by_cases e : b = D.act.a <;> simp [put, look, e, Ne.symm]
          | cons v r ih =>
            obtain ⟨v1, v2⟩ := v
            unfold put
            by_cases e1 : v1 = D.act.a
            · subst e1
              by_cases e : b = D.act.a
              · simp [look, e]
              · have : ¬ D.act.a = b := fun q => e q.symm
                simp [look, e, this]
            · rw [if_neg e1]
              by_cases e2 : v1 = b
              · have : ¬ b = D.act.a := fun q => e1 (e2.trans q)
                simp [look, e2, this]
              · simp [look, e2, ih]
        rw [lput]
        by_cases e : b = D.act.a
        · subst e
          rw [sk0, if_pos rfl]
          rfl
        · rw [if_neg e, sk b e, lk]
      · show put D.act.a (.bytes (dat T)) D.tes = [] ∨ _
        rcases x.tri.shape with g | ⟨a1, v1, g, g2⟩ | ⟨a1, v1, b1, u1, g, hab⟩
        · rw [g]
          exact .inr (.inl ⟨D.act.a, _, rfl, a2⟩)
        · rw [g] at lk0 ⊢
          by_cases e : a1 = D.act.a
          · simp [look, e] at lk0
          · exact .inr (.inr ⟨a1, v1, D.act.a, .bytes (dat T), by simp [put, e], by
              rcases g2 with g2 | g2 <;> rcases a2 with a2 | a2 <;> omega⟩)
        · exfalso
          rw [g] at lk0
          by_cases e : a1 = D.act.a
          · simp [look, e] at lk0
          · by_cases e2 : b1 = D.act.a
            · simp [look, e, e2] at lk0
            · rcases hab with ⟨r1, r2⟩ | ⟨r1, r2⟩ <;> rcases a2 with a2 | a2 <;> omega
      · rcases memt p hp d e with ⟨_, q⟩ | ⟨q, _⟩
        · omega
        · have := x.tri.small p q d e
          omega
      · rcases memt p hp d e1 with ⟨q1, q2⟩ | ⟨q1, q2⟩
        · rcases memt p2 hp2 d e2 with ⟨q3, q4⟩ | ⟨q3, q4⟩
          · rw [q1, q3]
          · have := x.tri.small p2 q3 d e2
            omega
        · rcases memt p2 hp2 d e2 with ⟨q3, q4⟩ | ⟨q3, q4⟩
          · have := x.tri.small p q1 d e1
            omega
          · exact x.tri.own p q1 p2 q3 d e1 e2
    lsp := (k.lst _ x.splt fun m => nomatch m).trans x.lsp
    lbx := (k.lst _ (LT _ m_bx) fun m => nomatch m).trans x.lbx
    lbl := (k.lst _ x.bllt fun m => nomatch m).trans x.lbl
    c0 := x.c0
    c1 := x.c1
    lef := x.lef.imp id fun ⟨p, hp, e1, e2⟩ => by
      refine ⟨re1 (chd D.act T) p, List.mem_map.mpr ⟨p, hp, rfl⟩, ?_⟩
      unfold re1
      split
      · rename_i e
        have := uniq_a x.pat.nod2 hp x.pat.act e
        subst this
        exact ⟨e1, e2⟩
      · exact ⟨e1, e2⟩
    nod := x.nod
    lts := fun r m => Nat.lt_of_lt_of_le (LT r m) k.nxt
    spn := x.spn
    bln := x.bln
    splt := Nat.lt_of_lt_of_le x.splt k.nxt
    bllt := Nat.lt_of_lt_of_le x.bllt k.nxt
    wlt := Nat.lt_of_lt_of_le x.wlt k.nxt
    trlt := Nat.lt_of_lt_of_le x.trlt k.nxt
    wtr := x.wtr
    cw := x.cw
    ctr := x.ctr }
end
end Mine
end
section
namespace Mine

noncomputable def isUn : PSt → Bool
  | .un => true
  | _ => false
set_option tactic.hygienic false
theorem hasK_look {a : Nat} : ∀ (es : List (Nat × VV)), hasK a es = (look a es).isSome
  | [] => rfl
  | (b, v) :: r => by
    unfold hasK look
    by_cases e : b = a
    · simp [e]
    · simp [e, hasK_look r]

section
variable {R : Rf} {is : List Int} {T B : Int} {D : Dy} {h h' h1 h2 : VH} {W T' R' S N : VV} {l : Loc}
set_option tactic.hygienic false
theorem tb_0 (cl : Caller) (x : Inv R is T B D h) (l2 : l 143 = some (.ref R.w)) : vS cl tb0 l h = some (.next, upd l 167 (some (.bool (isUn D.act.st))), h) := by
  have hw := x.wor
  have a3 := x.pat.adrs _ x.pat.act
  have hact : seek D.act.a D.ps = some D.act := seek_mem x.pat.nod2 x.pat.act
  have hb := x.prov D.act.a a3
  rw [hact] at hb
  have hb : inL (.str D.act.a) D.pv = some (stN D.act.st == 146) := hb
  have hk := hasK_look (a := D.act.a) D.tes
  rw [x.tri.look _ a3, hact] at hk
  have hp := x.lwp
  have ht := x.ltr
  have hn := x.notr
  have a1 : ∀ b, (stN D.act.st == 146) = b → vCmp 9 (.str D.act.a) (.ref R.wp) h = some (!b) := fun b q => Q_nin hp (by rw [hb, q]) rfl
  have a2 : ∀ b, hasK D.act.a D.tes = b → vCmp 9 (.str D.act.a) (.ref R.tr) h = some (!b) := fun b q => Q_ninS hn ht q rfl
  have u1 := U_str (x := 145) hw rfl
  have u2 := U_str (x := 146) hw rfl
  have u3 := U_str (x := 161) hw rfl
  have g : ∀ {k : Nat} {v : VV}, vSub R.w (.str k) h = some v → vE cl l (.sub (.loc 143) (.str k)) h = some (v, h) := fun q => E_sub (E_loc l2) E_str q
  cases e : D.act.st with
  | un =>
    rw [e] at a1
    exact X_asg (E_and (V_cons (E_cmp (g u1) (g u2) (a1 false rfl)) (Vk_gt (V_one (E_cmp (g u1) (g u3) (a2 false (hk.trans (by simp [tdat, e]))))))))  A_name
  | pr =>
    rw [e] at a1
    exact X_asg (E_and (V_cons (E_cmp (g u1) (g u2) (a1 true rfl)) Vk_st)) A_name
  | tr d =>
    rw [e] at a1
    exact X_asg (E_and (V_cons (E_cmp (g u1) (g u2) (a1 false rfl)) (Vk_gt (V_one (E_cmp (g u1) (g u3) (a2 true (hk.trans (by simp [tdat, e])))))))) A_name

noncomputable def wantV (p : AP) : VV := match p.st with
  | .un => .ref p.ref
  | _ => .none
theorem tb_1 (n : Nat) (x : Inv R is T B D h) (l1 : l 78 = some (.ref R.cn)) : vS (vF (n + 1)) tb1 l h = some (.next, upd l 84 (some (wantV D.act)), h) := by
  have e : vF (n + 1) 28 [.ref R.pa] h = some (wantV D.act, h) := c_wants n x.pat
  exact X_asg (E_meth (E_attr (E_loc l1) x.con.cls x.con.paths) x.pat.cls rfl Es_nil e) A_name
theorem tb_2 (cl : Caller) {p : AP} (l1 : l 84 = some (wantV p)) (l2 : l 167 = some (.bool (isUn p.st))) : vS cl tb2 l h = some (.next, l, h) := by
  unfold wantV at l1
  cases e : p.st <;> rw [e] at l1 l2
  · exact X_if (E_cmp (E_cmp (E_loc l1) E_none Q_noN) (E_loc l2) (Qn_bool rfl rfl)) (If_f S_nil)
  · exact X_if (E_cmp (E_cmp (E_loc l1) E_none Q_noN0) (E_loc l2) (Qn_bool rfl rfl)) (If_f S_nil)
  · exact X_if (E_cmp (E_cmp (E_loc l1) E_none Q_noN0) (E_loc l2) (Qn_bool rfl rfl)) (If_f S_nil)

theorem tb_3 (n : Nat) (x : Inv R is T B D h) (hT0 : 0 ≤ T) (hT : T ≤ 50) (y : CtlAt h D.ct D.rt W T' R' S N) (l1 : l 78 = some (.ref R.cn)) (l2 : l 143 = some (.ref R.w)) (l3 : l 84 = some (wantV D.act)) (l4 : l 167 = some (.bool (isUn D.act.st))) (l5 : l 147 = some (.int T)) :
    ∃ D' h', vS (vF (n + 1)) tb3 l h = some (.next, l, h') ∧ Inv R is (T + 1) B D' h' ∧ CtlAt h' D'.ct D'.rt W T' R' S N := by
  cases e : isUn D.act.st with
  | false =>
    rw [e] at l4
    refine ⟨D, h, ?_, x.more (by omega) (Int.le_refl _), y⟩
    exact X_if (E_loc l4) (If_f S_nil)
  | true =>
    rw [e] at l4
    have hst : D.act.st = .un := by
      cases q : D.act.st <;> rw [q] at e <;> first | rfl | cases e
    have l3 : l 84 = some (.ref D.act.ref) := by rw [l3]; unfold wantV; rw [hst]
    have hw := x.wor
    have ht := x.ltr
    have za := x.pat.each D.act x.pat.act
    have LT : ∀ r ∈ D.tq :: R.Ls, r < h.nxt := x.lts
    have hlen : D.tes.length < 1000 := by
      rcases x.tri.shape with g | ⟨a1, v1, g, _⟩ | ⟨a1, v1, b1, u1, g, _⟩ <;> rw [g] <;> simp
    let ha := (h.newL [.int T]).newL (List.replicate 8 (.int T))
    let hb := ha.setS R.tr (put D.act.a (.bytes (dat T)) D.tes)
    let hc := (hb.newL [.int T]).newL (List.replicate 8 (.int T))
    have ka : Keep [] [] [R.tr] [] h hb := .setS (.newL (.newL .refl)) (.inl (.head _))
    have kc : Keep [] [] [R.tr] [] h hc := .newL (.newL ka)
    have zc : PathAt (D.tq :: R.Ls) hc D.act := za.keep kc (fun m => nomatch m) (fun r m => nomatch m)
    obtain ⟨e1, z1, k1⟩ := c_challenge n zc hst (d := T) (now := 50 + T) (wait := 900) (fun r m => Nat.lt_of_lt_of_le (LT r m) kc.nxt)
    let hd := chalH D.act.ref (dat T) (50 + T + 900) hc
    have K : Keep [D.act.ref] [] [R.tr] [] h hd := (kc.mono (fun r m => nomatch m) (fun r m => m) (fun r m => m) fun r m => m).step (k1.mono (fun r m => m) (fun r m => m) (fun r m => nomatch m) fun r m => m)
    have ltr : hd.sd R.tr = some (put D.act.a (.bytes (dat T)) D.tes) := (k1.sd _ (Nat.lt_of_lt_of_le x.trlt kc.nxt) fun m => nomatch m).trans (by simp [setS_sd, newL_sd, hc, hb])
    have hr : ∀ (g : VH), vBf 141 [.ref g.nxt] (g.newL (List.replicate 8 (.int T))) = some (.bytes (dat T), g.newL (List.replicate 8 (.int T))) := rep_bytes 8 (by decide) hT0 (by omega)
    have nx : ∀ (g : VH), vBin 2 (.ref g.nxt) (.int 8) (g.newL [.int T]) = some (.ref (g.nxt + 1), (g.newL [.int T]).newL (List.replicate 8 (.int T))) := rep_list 8 (by decide) T
    have hr1 := hr (h.newL [.int T])
    have hr2 := hr (hb.newL [.int T])
    have clc : hc.cls D.act.ref = some 114 := zc.cls
    refine ⟨_, hd, ?_, inv_chal x hT0 hst K z1 ltr, y.keep K (ni1 (ne_cls y.cls za.cls (by decide))) (ni1 (ne_cls y.cls2 za.cls (by decide)))⟩
    refine ifs_true (h1 := h) (E_loc l4) (seq_next (l1 := l) (h1 := hb) ?_ (seq_next (l1 := l) (h1 := hd) ?_ rfl))
    · have hwa : ha.sd R.w = some (wents D.act.a D.way R.wp R.tr D.hi D.cb D.k D.sp R.wo R.we D.left) := hw
      have hta : ha.sd R.tr = some D.tes := ht
      have q1 : vE (vF (n + 1)) l (.bf 141 (.cons (.bin 2 (.list (.cons (.loc 147) .nil)) (.int 8)) .nil)) h = some (.bytes (dat T), ha) := by
        exact E_bf (Es_cons (E_bin (E_list (Es_cons (E_loc l5) Es_nil)) E_int (nx h)) Es_nil) hr1
      have q2 : vAsg (vF (n + 1)) l (.bytes (dat T)) (.sub (.sub (.loc 143) (.str 161)) (.sub (.loc 143) (.str 145))) ha = some (l, hb) := by
        exact A_subX (E_sub (E_loc l2) E_str (U_str hwa rfl)) (E_sub (E_loc l2) E_str (U_str hwa rfl)) hta hlen
      exact X_asg q1 q2
    · have q1 : vE (vF (n + 1)) l (.bf 141 (.cons (.bin 2 (.list (.cons (.loc 147) .nil)) (.int 8)) .nil)) hb = some (.bytes (dat T), hc) := by
        exact E_bf (Es_cons (E_bin (E_list (Es_cons (E_loc l5) Es_nil)) E_int (nx hb)) Es_nil) hr2
      have clb : hb.cls D.act.ref = some 114 := za.cls
      have q2 : vEs (vF (n + 1)) l (.cons (.bf 141 (.cons (.bin 2 (.list (.cons (.loc 147) .nil)) (.int 8)) .nil)) (.cons (.bin 0 (.int 50) (.loc 147)) (.cons (.int 900) .nil))) hb = some ([.bytes (dat T), .int (50 + T), .int 900], hc) := by
        exact Es_cons q1 (Es_cons (E_bin E_int (E_loc l5) N_add) (Es_cons E_int Es_nil))
      exact X_expr (E_meth (E_loc l3) clb rfl q2 e1)

theorem tb_45 (cl : Caller) (x : Inv R is T B D h) (y : CtlAt h D.ct D.rt W T' R' S N) {t : Int} (l1 : l 78 = some (.ref R.cn)) (l5 : l 147 = some (.int t)) :
    ∃ h', (∀ ss r, vSs cl ss l h' = r → vSs cl (.cons tb4 (.cons tb5 ss)) l h = r) ∧ Inv R is T B D h' ∧ CtlAt h' D.ct D.rt (.int (3000 + t)) (.int 2000) .none (.int (8000 + t)) .none := by
  have c := x.con
  have n1 : D.ct ≠ D.rt := ne_cls y.cls y.cls2 (by decide)
  have n2 : R.cn ≠ D.ct := ne_cls c.cls y.cls (by decide)
  have n3 : R.cn ≠ D.rt := ne_cls c.cls y.cls2 (by decide)
  let ha := (((h.newT [.int (3000 + t), .int 2000, .none]).setF D.ct 1 (.int (3000 + t))).setF D.ct 2 (.int 2000)).setF D.ct 3 .none
  let hb := ((ha.newT [.int (8000 + t), .none]).setF D.rt 9 (.int (8000 + t))).setF D.rt 6 .none
  have K : Keep [D.ct, D.rt] [] [] [] h hb := .setF (.setF (.newT (.setF (.setF (.setF (.newT .refl) (.inl (.head _))) (.inl (.head _))) (.inl (.head _)))) (.inl (.tail _ (.head _)))) (.inl (.tail _ (.head _)))
  have s4 : vS cl tb4 l h = some (.next, l, ha) := by
    unfold tb4
    apply vS_to
    repeat' (first | (with_reducible first | apply X_asgT | apply A_attr | exact Az_nil | apply Az_cons | apply E_loc | exact E_none | exact E_int | apply E_attr | apply E_bin | exact Es_nil | apply Es_cons | exact N_add) | exact l1 | exact l5 | exact c.cls | exact c.control | exact F_other n2 c.control | exact F_other n2 (F_other n2 c.control) | exact y.cls | (first | exact (rfl : _ = true) | exact (rfl : _ = false) | exact F_hit | (apply F_miss; · exact rfl) | exact C_new | exact L_hit | exact Ls_hit | exact D_hit | exact rfl | decide))
  have s5 : vS cl tb5 l ha = some (.next, l, hb) := by
    have d1 : ha.fld R.cn 13 = some (.ref D.rt) := F_other n2 (F_other n2 (F_other n2 c.rtt))
    have d2 : ha.cls R.cn = some 134 := c.cls
    have d3 : ha.cls D.rt = some 76 := y.cls2
    have d4 : ∀ v w, ((ha.newT v).setF D.rt 9 w).fld R.cn 13 = some (.ref D.rt) := fun v w => F_other n3 d1
    unfold tb5
    apply vS_to
    repeat' (first | (with_reducible first | apply X_asgT | apply A_attr | exact Az_nil | apply Az_cons | apply E_loc | exact E_none | exact E_int | apply E_attr | apply E_bin | exact Es_nil | apply Es_cons | exact N_add) | exact l1 | exact l5 | exact d1 | exact d2 | exact d3 | exact d4 _ _ | (first | exact (rfl : _ = true) | exact (rfl : _ = false) | exact F_hit | (apply F_miss; · exact rfl) | exact C_new | exact L_hit | exact Ls_hit | exact D_hit | exact rfl | decide))
  refine ⟨hb, fun ss r q => seq_next s4 (seq_next s5 q), x.marks y K, ?_⟩
  have z := Ne.symm n1
  exact ⟨Nat.lt_of_lt_of_le y.lt K.nxt, Nat.lt_of_lt_of_le y.lt2 K.nxt, y.cls, y.cls2, by simp [setF_fld, newT_fld, hb, ha, n1], by simp [setF_fld, newT_fld, hb, ha, n1], by simp [setF_fld, newT_fld, hb, ha, n1], by simp [setF_fld, newT_fld, hb, ha, n1, y.fly], by simp [setF_fld, hb, ha], by simp [setF_fld, hb]⟩

theorem tb_67 (n : Nat) (x : Inv R is T B D h) (hB : B < 400) (hT : T ≤ 50) {t : Int} (y : CtlAt h D.ct D.rt (.int (3000 + t)) (.int 2000) .none (.int (8000 + t)) .none) (l1 : l 78 = some (.ref R.cn)) (l2 : l 143 = some (.ref R.w)) (l3 : l 135 = some (.ref R.bx)) (l5 : l 147 = some (.int t)) :
    ∃ D' h' l', vSs (vF (n + 8)) (.cons tb6 (.cons tb7 .nil)) l h = some (.next, l', h') ∧ Inv R is T (B + 6) D' h' ∧ (∃ W T' R' S N, CtlAt h' D'.ct D'.rt W T' R' S N) ∧ l' 78 = some (.ref R.cn) ∧ l' 143 = some (.ref R.w) ∧ l' 135 = some (.ref R.bx) := by
  obtain ⟨v, h1, D1, w⟩ := x.draw (n + 7) (by omega) (m := 3) (by decide)
  have e1 : vF (n + 8) 31 [.ref R.bx, .int 3] h = some (.int v, h1) := w.run
  have x1 := w.inv
  have y1 := y.keep w.keep (fun m => nomatch m) (fun m => nomatch m)
  rw [← w.same.ct, ← w.same.rt] at y1
  have ec : ∀ b, (v == 2) = b → vE (vF (n + 8)) l (.cmp 0 (.fn 137 (.cons (.loc 135) (.cons (.int 3) .nil))) (.int 2)) h = some (.bool b, h1) := fun b hb => by
    exact E_cmp (E_fn rfl (Es_cons (E_loc l3) (Es_cons E_int Es_nil)) e1) E_int (Q_int hb)
  have fin : ∀ (r : Bool) (D' : Dy) (h2 : VH), vS (vF (n + 8)) tb6 l h = some (.next, upd l 149 (some (.bool r)), h2) → Inv R is T (B + 6) D' h2 → CtlAt h2 D'.ct D'.rt (pick r (.int 12000) (.int (3000 + t))) (pick r .none (.int 2000)) (pick r (.int (50 + t)) .none) (pick r (.int 2664000) (.int (8000 + t))) (pick r (.int (50 + t)) .none) →
      ∃ D' h' l', vSs (vF (n + 8)) (.cons tb6 (.cons tb7 .nil)) l h = some (.next, l', h') ∧ Inv R is T (B + 6) D' h' ∧ (∃ W T' R' S N, CtlAt h' D'.ct D'.rt W T' R' S N) ∧ l' 78 = some (.ref R.cn) ∧ l' 143 = some (.ref R.w) ∧ l' 135 = some (.ref R.bx) := fun r D' h2 s6 x2 y2 => by
    obtain ⟨h3, e3, k3⟩ := c_alike (n + 6) x2 y2
    have e3 : vF (n + 8) 36 [.ref R.cn, .ref R.w, .bool r, .int t] h2 = some (.bool true, h3) := e3
    refine ⟨D', h3, upd l 149 (some (.bool r)), seq_next s6 (seq_next (l1 := upd l 149 (some (.bool r))) (h1 := h3) ?_ rfl), x2.still k3, ⟨_, _, _, _, _, y2.keep k3 (fun m => nomatch m) (fun m => nomatch m)⟩, by simp [upd, l1], by simp [upd, l2], by simp [upd, l3]⟩
    have g1 : (upd l 149 (some (.bool r))) 78 = some (.ref R.cn) := by simp [upd, l1]
    have g2 : (upd l 149 (some (.bool r))) 143 = some (.ref R.w) := by simp [upd, l2]
    have g3 : (upd l 149 (some (.bool r))) 149 = some (.bool r) := by simp [upd]
    have g5 : (upd l 149 (some (.bool r))) 147 = some (.int t) := by simp [upd, l5]
    exact X_if (E_not (E_fn rfl (Es_cons (E_loc g1) (Es_cons (E_loc g2) (Es_cons (E_loc g3) (Es_cons (E_loc g5) Es_nil)))) e3) rfl) (If_f S_nil)
  cases hv : (v == 2) with
  | true =>
    obtain ⟨r, D', h2, e2, x2, y2⟩ := c_answer (n + 1) x1 (by omega) hT y1 t
    have e2 : vF (n + 8) 35 [.ref R.bx, .ref R.cn, .ref R.w, .int t] h1 = some (.bool r, h2) := e2
    refine fin r D' h2 ?_ (x2.more (Int.le_refl _) (by omega)) y2
    refine ifs_true (ec true hv) (seq_next (l1 := upd l 149 (some (.bool r))) (h1 := h2) ?_ rfl)
    exact X_asg (E_fn rfl (Es_cons (E_loc l3) (Es_cons (E_loc l1) (Es_cons (E_loc l2) (Es_cons (E_loc l5) Es_nil)))) e2) A_name
  | false =>
    obtain ⟨r, D', h2, e2, x2, y2⟩ := c_packet n x1 (by omega) y1 t
    refine fin r D' h2 ?_ (x2.more (Int.le_refl _) (by omega)) y2
    refine ifs_false (ec false hv) (seq_next (l1 := upd l 149 (some (.bool r))) (h1 := h2) ?_ rfl)
    exact X_asg (E_fn rfl (Es_cons (E_loc l3) (Es_cons (E_loc l1) (Es_cons (E_loc l2) (Es_cons (E_loc l5) Es_nil)))) e2) A_name

theorem c_turn (n : Nat) (x : Inv R is T B D h) (hT0 : 0 ≤ T) (hT : T ≤ 40) (hB : B < 400) (y : ∃ W T' R' S N, CtlAt h D.ct D.rt W T' R' S N) (l1 : l 78 = some (.ref R.cn)) (l2 : l 143 = some (.ref R.w)) (l3 : l 135 = some (.ref R.bx)) :
    ∃ D' h' l', vSs (vF (n + 8)) b_turn (upd l 147 (some (.int T))) h = some (.next, l', h') ∧ Inv R is (T + 1) (B + 6) D' h' ∧ (∃ W T' R' S N, CtlAt h' D'.ct D'.rt W T' R' S N) ∧ l' 78 = some (.ref R.cn) ∧ l' 143 = some (.ref R.w) ∧ l' 135 = some (.ref R.bx) := by
  obtain ⟨W, T', R', S, N, y⟩ := y
  let la : Loc := upd l 147 (some (.int T))
  let lb : Loc := upd la 167 (some (.bool (isUn D.act.st)))
  let lc : Loc := upd lb 84 (some (wantV D.act))
  have a1 : lb 78 = some (.ref R.cn) := by simp [lb, la, upd, l1]
  have a2 : la 143 = some (.ref R.w) := by simp [la, upd, l2]
  have b1 : lc 78 = some (.ref R.cn) := by simp [lc, lb, la, upd, l1]
  have b2 : lc 143 = some (.ref R.w) := by simp [lc, lb, la, upd, l2]
  have b3 : lc 135 = some (.ref R.bx) := by simp [lc, lb, la, upd, l3]
  have b4 : lc 84 = some (wantV D.act) := by simp [lc, upd]
  have b5 : lc 167 = some (.bool (isUn D.act.st)) := by simp [lc, lb, upd]
  have b6 : lc 147 = some (.int T) := by simp [lc, lb, la, upd]
  have s0 := tb_0 (l := la) (vF (n + 8)) x a2
  have s1 := tb_1 (l := lb) (n + 7) x a1
  have s2 := tb_2 (h := h) (l := lc) (vF (n + 8)) b4 b5
  obtain ⟨D1, h1, s3, x1, y1⟩ := tb_3 (l := lc) (n + 7) x hT0 (by omega) y b1 b2 b4 b5 b6
  obtain ⟨h2, s4, x2, y2⟩ := tb_45 (l := lc) (vF (n + 8)) x1 y1 b1 b6
  obtain ⟨D', h', l', s6, x3, y3, c1, c2, c3⟩ := tb_67 (l := lc) n x2 hB (by omega) y2 b1 b2 b3 b6
  exact ⟨D', h', l', seq_next s0 (seq_next s1 (seq_next s2 (seq_next s3 (s4 _ _ s6)))), x3, y3, c1, c2, c3⟩
end
end Mine
end
section
namespace Mine

structure Told (h : VH) (rm kn tl m : Nat) (t2 : Nat → Nat) : Prop where
  lt : tl < h.nxt
  told : h.fld rm 22 = some (.ref tl)
  full : h.fld rm 24 = some (.bool false)
  rp : h.fld rm 21 = some (.int 0)
  lim : h.fld rm 17 = some (.int 4)
  itl : h.ic tl = some (ents t2 0 m)
  no : h.lst tl = none ∧ h.tup tl = none
  nosd : h.sd tl = none
  ne : kn ≠ tl
  tups : ∀ j, j ≤ m → t2 j < h.nxt ∧ h.lst (t2 j) = none ∧ ∃ v, h.tup (t2 j) = some [.bytes (cidB j), v]

section
variable {Ls : List Nat} {h : VH} {rm kn us tq tl m : Nat} {t t2 : Nat → Nat}
set_option tactic.hygienic false
theorem cases_m (hm : m ≤ 1) : m = 0 ∨ m = 1 := by omega
theorem ents_one (t : Nat → Nat) : ents t 0 0 = [(0, .ref (t 0))] := rfl
theorem ents_two (t : Nat → Nat) : ents t 0 1 = [(0, .ref (t 0)), (1, .ref (t 1))] := rfl
theorem ents_three (t : Nat → Nat) : ents t 0 2 = [(0, .ref (t 0)), (1, .ref (t 1)), (2, .ref (t 2))] := rfl

noncomputable def b_look : PSs := (.cons (.ifs (.cmp 0 (.sub (.sub (.attr (.loc 73) 22) (.loc 104)) (.int 0)) (.loc 102)) (.cons (.dead) .nil) .nil) .nil)
theorem look_one {cl : Caller} {l : Loc} {i j : Nat} {c1 : List Int} {v : VV} (l1 : l 73 = some (.ref rm)) (l2 : l 104 = some (.int i)) (l3 : l 102 = some (.bytes c1)) (hc : h.cls rm = some 100) (ht : h.fld rm 22 = some (.ref tl)) (n1 : h.lst tl = none) (n2 : h.tup tl = none) {es : List (Int × VV)} (it : h.ic tl = some es) (lk : look (i : Int) es = some (.ref j)) (a1 : h.lst j = none) (a2 : h.tup j = some [.bytes (cidB i), v]) (q : (cidB i == c1) = false) : vSs cl b_look l h = some (.next, l, h) := by
  have u1 : vSub tl (.int i) h = some (.ref j) := by
    unfold vSub
    simp only [n1, n2, it, Option.bind_some, lk]
  have u2 : vSub j (.int 0) h = some (.bytes (cidB i)) := by
    unfold vSub
    simp only [a1, a2]
    rfl
  exact S_cons (X_if (E_cmp (E_sub (E_sub (E_attr (E_loc l1) hc ht) (E_loc l2) u1) E_int u2) (E_loc l3) (Q_bytes q)) (If_f S_nil)) (K_next S_nil)
theorem c_check_new (n : Nat) (y : Told h rm kn tl m t2) (hm : m ≤ 1) (hc : h.cls rm = some 100) (c2 : List Int) :
    vF (n + 1) 8 [.ref rm, .int ((m : Int) + 1), .bytes (cidB (m + 1)), .bytes c2] h = some (.bool false, h) := by
  refine vF_go (by decide) (by decide) (by decide) rfl rfl ?_
  have i := y.itl
  have n1 := y.no.1
  have n2 := y.no.2
  obtain ⟨_, a1, v1, a2⟩ := y.tups 0 (by omega)
  have chk : ∀ g : VH, (g.ver tl == g.ver tl) = true := fun g => by simp
  have key : ∀ es, h.ic tl = some es → hasK ((m : Int) + 1) es = false → (∃ l', loopV (vSs (vF n) b_look) (fun h' => h'.ver tl == h.ver tl) 104 (es.map fun e => .int e.1) (bindL (fps 8) [.ref rm, .int ((m : Int) + 1), .bytes (cidB (m + 1)), .bytes c2]) h = some (.next, l', h)) →
      ((vSs (vF n) b_RemoteIds_check_new (bindL (fps 8) [.ref rm, .int ((m : Int) + 1), .bytes (cidB (m + 1)), .bytes c2]) h).map fun r => (flV r.1, r.2.2)) = some (.bool false, h) := fun es it hk ⟨l', lp⟩ => by
    have e0 : isMem (.int ((m : Int) + 1)) tl h = some false := by
      unfold isMem
      simp only [n1, y.nosd, it, Option.map_some, hk]
    have b1 : bindL (fps 8) [.ref rm, .int ((m : Int) + 1), .bytes (cidB (m + 1)), .bytes c2] 73 = some (.ref rm) := rfl
    have ea := E_attr (cl := vF n) (E_loc (h := h) b1) hc y.told
    have lpS : vS (vF n) (.forD 104 (.attr (.loc 73) 22) b_look) (bindL (fps 8) [.ref rm, .int ((m : Int) + 1), .bytes (cidB (m + 1)), .bytes c2]) h = some (.next, l', h) := by
      exact X_forD ea it lp
    exact go_of (S_cons (X_if (E_attr (E_loc b1) hc y.full) (If_f S_nil)) (K_next (S_cons (X_if (E_cmp (E_loc rfl) ea e0) (If_f S_nil)) (K_next (S_cons lpS (K_next (S_cons (X_ret E_bool) K_ret))))))) rfl rfl
  rcases cases_m hm with rfl | rfl
  · exact key _ i rfl ⟨_, loop_next (look_one (i := 0) rfl rfl rfl hc y.told n1 n2 i rfl a1 a2 rfl) (chk h) rfl⟩
  · obtain ⟨_, b1, v2, b2⟩ := y.tups 1 (by omega)
    exact key _ i rfl ⟨_, loop_next (look_one (i := 0) rfl rfl rfl hc y.told n1 n2 i rfl a1 a2 rfl) (chk h) (loop_next (look_one (i := 1) rfl rfl rfl hc y.told n1 n2 i rfl b1 b2 rfl) (chk h) rfl)⟩

noncomputable def b_below : PSs := (.cons (.ifs (.cmp 2 (.loc 85) (.attr (.loc 73) 21)) (.cons (.expr (.meth (.loc 73) 109 (.cons (.loc 85) .nil))) .nil) .nil) .nil)
theorem below_one {cl : Caller} {l : Loc} {i : Int} (l1 : l 73 = some (.ref rm)) (l2 : l 85 = some (.int i)) (hi : 0 ≤ i) (hc : h.cls rm = some 100) (ht : h.fld rm 21 = some (.int 0)) : vSs cl b_below l h = some (.next, l, h) :=
  S_cons (X_if (E_cmp (E_loc l2) (E_attr (E_loc l1) hc ht) (Q_lt (decide_eq_false (Int.not_lt.mpr hi)))) (If_f S_nil)) (K_next S_nil)
theorem below_all {cl : Caller} {chk : VH → Bool} (c : chk h = true) (hc : h.cls rm = some 100) (ht : h.fld rm 21 = some (.int 0)) : ∀ (is : List Int) (l : Loc), l 73 = some (.ref rm) → (∀ i ∈ is, 0 ≤ i) → ∃ l', loopV (vSs cl b_below) chk 85 (is.map .int) l h = some (.next, l', h)
  | [], l, _, _ => ⟨l, rfl⟩
  | i :: is, l, l1, hi => by
    obtain ⟨l', e⟩ := below_all (cl := cl) c hc ht is (upd l 85 (some (.int i))) l1 fun j m => hi j (.tail _ m)
    exact ⟨l', loop_next (below_one (l := upd l 85 (some (.int i))) l1 rfl (hi i (.head _)) hc ht) c e⟩
theorem c_below (n : Nat) (hc : h.cls rm = some 100) (h1 : h.fld rm 21 = some (.int 0)) (h2 : h.fld rm 18 = some (.ref kn)) (h3 : h.ic kn = some (ents t 0 m)) (h4 : h.lst kn = none) (hm : m ≤ 2) :
    ∃ vs, vF (n + 1) 10 [.ref rm, .int 0] h = some (.none, (h.setF rm 21 (.int 0)).newL vs) := by
  have key : ∀ (is : List Int) (es : List (Int × VV)), h.ic kn = some es → es.length < 64 → sortI (es.map (·.1)) = is → (∀ i ∈ is, 0 ≤ i) → vF (n + 1) 10 [.ref rm, .int 0] h = some (.none, (h.setF rm 21 (.int 0)).newL (is.map .int)) := fun is es hi len hs hp => by
    refine vF_go (by decide) (by decide) (by decide) rfl rfl ?_
    have b1 : bindL (fps 10) [.ref rm, .int 0] 73 = some (.ref rm) := rfl
    have e1 : vBf 108 [.ref kn] (h.setF rm 21 (.int 0)) = some (.ref h.nxt, (h.setF rm 21 (.int 0)).newL (is.map .int)) := by
      simp [setF_ic, setF_nxt, vBf, bfR, srtR, n_len, n_sorted, hi, len, hs]
    obtain ⟨l', lp⟩ := below_all (cl := vF n) (h := (h.setF rm 21 (.int 0)).newL (is.map .int)) (rm := rm) (chk := fun h' => h'.ver h.nxt == ((h.setF rm 21 (.int 0)).newL (is.map .int)).ver h.nxt) (by simp) hc F_hit is (bindL (fps 10) [.ref rm, .int 0]) b1 hp
    have ek : vE (vF n) (bindL (fps 10) [.ref rm, .int 0]) (.bf 108 (.cons (.attr (.loc 73) 18) .nil)) (h.setF rm 21 (.int 0)) = some (.ref h.nxt, (h.setF rm 21 (.int 0)).newL (is.map .int)) :=
      E_bf (Es_cons (E_attr (E_loc b1) hc (F_miss rfl h2)) Es_nil) e1
    have lpS : vS (vF n) (.forL 85 (.bf 108 (.cons (.attr (.loc 73) 18) .nil)) b_below) (bindL (fps 10) [.ref rm, .int 0]) (h.setF rm 21 (.int 0)) = some (.next, l', (h.setF rm 21 (.int 0)).newL (is.map .int)) := by
      have el : ((h.setF rm 21 (.int 0)).newL (is.map .int)).lst h.nxt = some (is.map .int) := L_hit
      exact X_forL ek el lp
    exact go_of (S_cons (X_asg (E_bf (Es_cons (E_attr (E_loc b1) hc h1) (Es_cons (E_loc rfl) Es_nil)) B_max) (A_attr (E_loc b1) hc rfl)) (K_next (S_cons lpS (K_next S_nil)))) rfl rfl
  rcases (by omega : m = 0 ∨ m = 1 ∨ m = 2) with rfl | rfl | rfl
  · exact ⟨_, key [0] _ h3 (show 1 < 64 by decide) rfl (by decide)⟩
  · exact ⟨_, key [0, 1] _ h3 (show 2 < 64 by decide) rfl (by decide)⟩
  · exact ⟨_, key [0, 1, 2] _ h3 (show 3 < 64 by decide) rfl (by decide)⟩

theorem put_ents {m : Nat} (hm : m ≤ 1) (t : Nat → Nat) (r : Nat) : put ((m : Int) + 1) (.ref r) (ents t 0 m) = ents (upd t (m + 1) r) 0 (m + 1) := by
  rcases cases_m hm with rfl | rfl <;> simp [ents, put, upd]
theorem ents_len : ∀ (k m : Nat), (ents t k m).length = m + 1
  | _, 0 => rfl
  | k, m + 1 => by simp [ents, ents_len (k + 1) m]

theorem c_on_new (n : Nat) (x : RemAt Ls h rm kn us tq 0 m t []) (y : Told h rm kn tl m t2) (hm : m ≤ 1) (E : Emp h) (hLs : ∀ r ∈ Ls, r < h.nxt) (c2 : List Int) :
    ∃ h' t' t2', vF (n + 2) 9 [.ref rm, .int ((m : Int) + 1), .int 0, .bytes (cidB (m + 1)), .bytes c2] h = some (.none, h') ∧ RemAt Ls h' rm kn us tq 0 (m + 1) t' [] ∧ Told h' rm kn tl (m + 1) t2' ∧ Keep [rm] [] [] [kn, tl] h h' ∧ ∀ r, r ≠ kn → r ≠ tl → h'.ic r = h.ic r := by
  have e1 := c_check_new n y hm x.cls c2
  have hne := y.ne
  let ta : Nat → Nat := upd t2 (m + 1) h.nxt
  let tb : Nat → Nat := upd t (m + 1) (h.nxt + 1)
  let h1 := (h.newT [.bytes (cidB (m + 1)), .bytes c2]).setI tl (ents ta 0 (m + 1))
  let h2 := (h1.newT [.bytes (cidB (m + 1)), .bytes c2]).setI kn (ents tb 0 (m + 1))
  have i2 : h2.ic kn = some (ents tb 0 (m + 1)) := by simp [setI_ic, h2]
  obtain ⟨vs, e2⟩ := c_below (h := h2) (rm := rm) (kn := kn) (t := tb) (m := m + 1) n x.cls y.rp x.known i2 x.nokn.1 (by omega)
  let h3 := (h2.setF rm 21 (.int 0)).newL vs
  have K : Keep [rm] [] [] [kn, tl] h h3 := .newL (.setF (.setI (.newT (.setI (.newT .refl) (.inl (.tail _ (.head _))))) (.inl (.head _))) (.inl (.head _)))
  have knlt := x.lt1
  have tllt := y.lt
  have nl : ∀ r, r < h.nxt → h3.lst r = h.lst r := fun r q => K.lst r q fun m => nomatch m
  have fl : ∀ f, f ≠ 21 → h3.fld rm f = h.fld rm f := fun f hf => by simp [setF_fld, setI_fld, newL_fld, newT_fld, h3, h2, h1, hf]
  have n1 : tl ≠ kn := Ne.symm hne
  have nx : h3.nxt = h.nxt + 3 := rfl
  have L1 : h3.lst (h.nxt + 1) = none := by
    have a : ¬ h.nxt + 1 = h.nxt + 1 + 1 := by omega
    have b : h3.lst (h.nxt + 1) = h.lst (h.nxt + 1) := by simp [setF_lst, setF_nxt, setI_lst, setI_nxt, newL_lst, newT_lst, newT_nxt, h3, h2, h1]
    rw [b]; exact E _ (Nat.le_succ _)
  have L0 : h3.lst h.nxt = none := by
    have a : ¬ h.nxt = h.nxt + 1 + 1 := by omega
    have b : h3.lst h.nxt = h.lst h.nxt := by simp [setF_lst, setF_nxt, setI_lst, setI_nxt, newL_lst, newT_lst, newT_nxt, h3, h2, h1, a]
    rw [b]; exact E _ (Nat.le_refl _)
  have T1 : h3.tup (h.nxt + 1) = some [.bytes (cidB (m + 1)), .bytes c2] := by simp [setF_tup, setI_tup, setI_nxt, newL_tup, newT_nxt, newT_tup, h3, h2, h1]
  have T0 : h3.tup h.nxt = some [.bytes (cidB (m + 1)), .bytes c2] := by simp [setF_tup, setI_tup, setI_nxt, newL_tup, newT_nxt, newT_tup, h3, h2, h1]
  refine ⟨h3, tb, ta, ?_, ?_, ?_, K, fun r r1 r2 => by simp [setF_ic, setI_ic, newL_ic, newT_ic, h3, h2, h1, r1, r2]⟩
  · refine vF_go (by decide) (by decide) (by decide) rfl rfl ?_
    have k0 : ¬ ((m : Int) + 1 < 0) := by omega
    have p1 : put ((m : Int) + 1) (.ref h.nxt) (ents t2 0 m) = ents ta 0 (m + 1) := put_ents hm t2 h.nxt
    have p2 : put ((m : Int) + 1) (.ref (h.nxt + 1)) (ents t 0 m) = ents tb 0 (m + 1) := put_ents hm t (h.nxt + 1)
    have l1 : (ents t2 0 m).length < 1000 := by rw [ents_len]; omega
    have l2 : (ents t 0 m).length < 1000 := by rw [ents_len]; omega
    have q1 : (h.newT [.bytes (cidB (m + 1)), .bytes c2]).setI tl (ents ta 0 (m + 1)) = h1 := rfl
    have q2 : (h1.newT [.bytes (cidB (m + 1)), .bytes c2]).setI kn (ents tb 0 (m + 1)) = h2 := rfl
    have c1 : h1.cls rm = some 100 := x.cls
    have c2' : h2.cls rm = some 100 := x.cls
    have r1 : h1.fld rm 21 = some (.int 0) := y.rp
    have r2 : h1.fld rm 18 = some (.ref kn) := x.known
    have r3 : h1.ic kn = some (ents t 0 m) := by simp [setI_ic, newT_ic, h1, hne, x.ikn]
    have r4 : h1.lst kn = none := x.nokn.1
    have r5 : h1.nxt = h.nxt + 1 := rfl
    have e2' : vF (n + 1) 10 [.ref rm, .int 0] h2 = some (.none, h3) := e2
    have s1 : h3.cls rm = some 100 := x.cls
    have s2 : h3.fld rm 18 = some (.ref kn) := by rw [fl _ (by decide)]; exact x.known
    have s3 : h3.ic kn = some (ents tb 0 (m + 1)) := i2
    have s4 : h3.lst kn = none := (nl _ knlt).trans x.nokn.1
    have s5 : h3.fld rm 17 = some (.int 4) := by rw [fl _ (by decide)]; exact y.lim
    have l3 : (ents tb 0 (m + 1)).length = m + 2 := by rw [ents_len]
    have k1 : ¬ ((4 : Int) < (m : Int) + 2) := by omega
    have w0 : decide ((m : Int) + 1 < 0) = false := decide_eq_false k0
    have w1 : decide (((4 : Int)) < (((ents tb 0 (m + 1)).length : Nat) : Int)) = false := decide_eq_false (by rw [l3]; omega)
    have g1 : (h.newT [.bytes (cidB (m + 1)), .bytes c2]).ic tl = some (ents t2 0 m) := y.itl
    have a1 : ∀ {cl l e} {h : VH}, vE cl l e h = some (.ref tl, h) → h.lst tl = none → h.ic tl = some (ents t2 0 m) → l 85 = some (.int ((m : Int) + 1)) → ∀ v, vAsg cl l v (.sub e (.loc 85)) h = some (l, h.setI tl (put ((m : Int) + 1) v (ents t2 0 m))) := fun e0 o1 o2 o3 v => by
      exact A_subI e0 (E_loc o3) o1 o2 l1
    have a2 : ∀ {cl l e} {h : VH}, vE cl l e h = some (.ref kn, h) → h.lst kn = none → h.ic kn = some (ents t 0 m) → l 85 = some (.int ((m : Int) + 1)) → ∀ v, vAsg cl l v (.sub e (.loc 85)) h = some (l, h.setI kn (put ((m : Int) + 1) v (ents t 0 m))) := fun e0 o1 o2 o3 v => by
      exact A_subI e0 (E_loc o3) o1 o2 l2
    have bl : vBf 101 [.ref kn] h3 = some (.int (ents tb 0 (m + 1)).length, h3) := by
      show lenR kn h3 = _
      unfold lenR
      simp only [s4, s3, Option.map_some]
    have sf : ∀ {f : Nat} {v : VV} {g : VH}, g.cls rm = some 100 → g.fld rm f = some v → vE (vF (n + 1)) (bindL (fps 9) [.ref rm, .int ((m : Int) + 1), .int 0, .bytes (cidB (m + 1)), .bytes c2]) (.attr (.loc 73) f) g = some (v, g) := fun q1 q2 => E_attr (E_loc rfl) q1 q2
    have es : ∀ g : VH, vE (vF (n + 1)) (bindL (fps 9) [.ref rm, .int ((m : Int) + 1), .int 0, .bytes (cidB (m + 1)), .bytes c2]) (.tup (.cons (.loc 102) (.cons (.loc 99) .nil))) g = some (.ref g.nxt, g.newT [.bytes (cidB (m + 1)), .bytes c2]) := fun g => E_tup (Es_cons (E_loc rfl) (Es_cons (E_loc rfl) Es_nil))
    have st1 : vS (vF (n + 1)) (.asg (.sub (.attr (.loc 73) 22) (.loc 85)) (.tup (.cons (.loc 102) (.cons (.loc 99) .nil)))) (bindL (fps 9) [.ref rm, .int ((m : Int) + 1), .int 0, .bytes (cidB (m + 1)), .bytes c2]) h = some (.next, (bindL (fps 9) [.ref rm, .int ((m : Int) + 1), .int 0, .bytes (cidB (m + 1)), .bytes c2]), h1) := by
      have := X_asg (es h) (a1 (sf (g := h.newT [.bytes (cidB (m + 1)), .bytes c2]) x.cls y.told) y.no.1 g1 rfl (.ref h.nxt))
      rw [p1] at this
      exact this
    have st2 : vS (vF (n + 1)) (.asg (.sub (.attr (.loc 73) 18) (.loc 85)) (.tup (.cons (.loc 102) (.cons (.loc 99) .nil)))) (bindL (fps 9) [.ref rm, .int ((m : Int) + 1), .int 0, .bytes (cidB (m + 1)), .bytes c2]) h1 = some (.next, (bindL (fps 9) [.ref rm, .int ((m : Int) + 1), .int 0, .bytes (cidB (m + 1)), .bytes c2]), h2) := by
      have := X_asg (es h1) (a2 (sf (g := h1.newT [.bytes (cidB (m + 1)), .bytes c2]) c1 r2) r4 r3 rfl (.ref (h.nxt + 1)))
      rw [p2] at this
      exact this
    exact go_of (S_cons (X_if (E_meth (E_loc rfl) x.cls rfl (Es_cons (E_loc rfl) (Es_cons (E_loc rfl) (Es_cons (E_loc rfl) Es_nil))) e1) (If_f S_nil)) (K_next (S_cons st1 (K_next (S_cons (X_if (E_cmp (E_loc rfl) (sf c1 r1) (Q_lt w0)) (If_f S_nil)) (K_next (S_cons st2 (K_next (S_cons (X_expr (E_meth (E_loc rfl) c2' rfl (Es_cons (E_loc rfl) Es_nil) e2')) (K_next (S_cons (X_if (E_cmp (E_bf (Es_cons (sf s1 s2) Es_nil) bl) (sf s1 s5) (Q_gt w1)) (If_f S_nil)) (K_next S_nil)))))))))))) rfl rfl
  · refine ⟨Nat.lt_of_lt_of_le x.lt K.nxt, Nat.lt_of_lt_of_le x.lt1 K.nxt, Nat.lt_of_lt_of_le x.lt2 K.nxt, Nat.lt_of_lt_of_le x.lt3 K.nxt, x.cls, (fl _ (by decide)).trans x.known, (fl _ (by decide)).trans x.cur, (fl _ (by decide)).trans x.used, (fl _ (by decide)).trans x.ret, (nl _ x.lt2).trans x.lused, (nl _ x.lt3).trans x.lret, i2,
      ⟨(nl _ knlt).trans x.nokn.1, (K.tup _ knlt).trans x.nokn.2.1, x.nokn.2.2⟩, fun j j1 j2 => ?_, by omega⟩
    by_cases e : j = m + 1
    · subst e
      have : tb (m + 1) = h.nxt + 1 := by simp [tb, upd]
      rw [this]
      exact ⟨by rw [nx]; omega, fun q => by have := hLs _ q; omega, L1, _, T1⟩
    · have : tb j = t j := by simp [tb, upd, e]
      rw [this]
      obtain ⟨a, b, c, v, d⟩ := x.tups j (Nat.zero_le _) (by omega)
      exact ⟨Nat.lt_of_lt_of_le a K.nxt, b, (nl _ a).trans c, v, (K.tup _ a).trans d⟩
  · refine ⟨Nat.lt_of_lt_of_le y.lt K.nxt, (fl _ (by decide)).trans y.told, (fl _ (by decide)).trans y.full, by simp [setF_fld, newL_fld, h3], (fl _ (by decide)).trans y.lim, by simp [setF_ic, setI_ic, newL_ic, newT_ic, h3, h2, h1, n1], ⟨(nl _ tllt).trans y.no.1, (K.tup _ tllt).trans y.no.2⟩, (K.sd _ tllt fun m => nomatch m).trans y.nosd, y.ne, fun j j1 => ?_⟩
    by_cases e : j = m + 1
    · subst e
      have : ta (m + 1) = h.nxt := by simp [ta, upd]
      rw [this]
      exact ⟨by rw [nx]; omega, L0, _, T0⟩
    · have : ta j = t2 j := by simp [ta, upd, e]
      rw [this]
      obtain ⟨a, c, v, d⟩ := y.tups j (by omega)
      exact ⟨Nat.lt_of_lt_of_le a K.nxt, (nl _ a).trans c, v, (K.tup _ a).trans d⟩
end
end Mine
end
section
namespace Mine

section
variable {h : VH}
noncomputable def spaceH (r : Nat) (h : VH) : VH :=
  let a := ((h.setF r 39 (.str 26)).setF r 40 (.int 0)).newS []
  let b := (((a.setF r 29 (.ref h.nxt)).setF r 41 .none).newL []).setF r 42 (.ref (h.nxt + 1))
  let c := (((b.setF r 43 .none).setF r 44 .none).newL []).setF r 28 (.ref (h.nxt + 2))
  let d := (((((((c.setF r 45 .none).setF r 46 .none).setF r 47 (.int 0)).setF r 48 .none).setF r 49 (.int 0)).setF r 50 (.bool false)).setF r 51 (.bool false)).newL [.int 0, .int 0, .int 0]
  (d.setF r 52 (.ref (h.nxt + 3))).setF r 53 (.bool false)
set_option tactic.hygienic false
theorem Keep.newS {F L D I : List Nat} {h h1 : VH} {vs : List (Nat × VV)} (a : Keep F L D I h h1) : Keep F L D I h (h1.newS vs) := a.step
  ⟨Nat.le_succ _, fun _ _ => rfl, fun _ _ _ => rfl, fun _ _ _ => rfl, fun _ _ => rfl, fun r q _ => by show upd h1.sd h1.nxt _ r = _; unfold upd; rw [if_neg (Nat.ne_of_lt q)], fun _ _ _ => rfl, fun e r q => e r (Nat.le_of_succ_le q)⟩
theorem Keep.newI {F L D I : List Nat} {h h1 : VH} {vs : List (Int × VV)} (a : Keep F L D I h h1) : Keep F L D I h (h1.newI vs) := a.step
  ⟨Nat.le_succ _, fun _ _ => rfl, fun _ _ _ => rfl, fun _ _ _ => rfl, fun _ _ => rfl, fun _ _ _ => rfl, fun r q _ => by show upd h1.ic h1.nxt _ r = _; unfold upd; rw [if_neg (Nat.ne_of_lt q)], fun e r q => e r (Nat.le_of_succ_le q)⟩
theorem c_space (n : Nat) {r c : Nat} (hc : h.cls r = some c) : vF (n + 1) 30 [.ref r, .str 26] h = some (.none, spaceH r h) := by
  refine vF_go (by decide) (by decide) (by decide) rfl rfl ?_
  have nd : (([] : List Nat).length = ([] : List VV).length ∧ nodupN ([] : List Nat) = true) := ⟨rfl, rfl⟩
  apply go_of
  unfold b_Space_init
  repeat' (first | (with_reducible first | exact S_nil | apply S_cons | apply K_next | apply X_asg | apply A_attr | apply E_loc | exact E_none | exact E_int | exact E_bool | apply E_list | apply E_sdict | exact Es_nil | apply Es_cons) | exact hc | exact nd | (first | exact (rfl : _ = true) | exact (rfl : _ = false) | exact F_hit | (apply F_miss; · exact rfl) | exact C_new | exact L_hit | exact Ls_hit | exact D_hit | exact rfl | decide))
theorem k_space {r : Nat} {g : VH} (hr : h.nxt ≤ r) (k : Keep [] [] [] [] h g) : Keep [] [] [] [] h (spaceH r g) :=
  .setF (.setF (.newL (.setF (.setF (.setF (.setF (.setF (.setF (.setF (.setF (.newL (.setF (.setF (.setF (.newL (.setF (.setF (.newS (.setF (.setF k (.inr hr)) (.inr hr))) (.inr hr)) (.inr hr))) (.inr hr)) (.inr hr)) (.inr hr))) (.inr hr)) (.inr hr)) (.inr hr)) (.inr hr)) (.inr hr)) (.inr hr)) (.inr hr)) (.inr hr))) (.inr hr)) (.inr hr)

noncomputable def pathT (p : Nat) (h : VH) : VH :=
  ((((((((h.setF p 25 (.str 65)).setF p 26 (.str 146)).setF p 27 (.bool true)).setF p 28 (.int 0)).setF p 29 (.int 0)).newL []).setF p 30 (.ref h.nxt)).setF p 31 .none).setF p 32 (.bool false)
theorem c_pathT (n : Nat) {p c : Nat} (hc : h.cls p = some c) : vF (n + 1) 17 [.ref p, .str 65, .bool true] h = some (.none, pathT p h) := by
  refine vF_go (by decide) (by decide) (by decide) rfl rfl ?_
  apply go_of
  unfold b_Path_init
  repeat' (first | (with_reducible first | exact S_nil | apply S_cons | apply K_next | apply X_asg | apply A_attr | apply E_loc | exact E_none | exact E_int | exact E_bool | apply E_glb | apply E_ife | apply Ie_t | apply E_list | exact Es_nil) | exact hc | (first | exact (rfl : _ = true) | exact (rfl : _ = false) | exact F_hit | (apply F_miss; · exact rfl) | exact C_new | exact L_hit | exact Ls_hit | exact D_hit | exact rfl | decide))
theorem k_pathT {r : Nat} {g : VH} (hr : h.nxt ≤ r) (k : Keep [] [] [] [] h g) : Keep [] [] [] [] h (pathT r g) :=
  .setF (.setF (.setF (.newL (.setF (.setF (.setF (.setF (.setF k (.inr hr)) (.inr hr)) (.inr hr)) (.inr hr)) (.inr hr))) (.inr hr)) (.inr hr)) (.inr hr)

noncomputable def pathsH (r : Nat) (h : VH) : VH :=
  let a := (h.setF r 33 (.str 142)).setF r 34 (.bool true)
  let b := (pathT h.nxt (a.newC 114)).newL [.ref h.nxt]
  let c := (((b.setF r 18 (.ref (h.nxt + 2))).setF r 35 (.ref h.nxt)).setF r 36 (.ref h.nxt)).setF r 37 (.int (-1))
  (c.newL []).setF r 38 (.ref (h.nxt + 3))
theorem c_paths (n : Nat) {r c : Nat} (hc : h.cls r = some c) (hr : r < h.nxt) : vF (n + 2) 23 [.ref r, .str 142, .str 65, .bool true, .bool true] h = some (.none, pathsH r h) := by
  have e := c_pathT (h := ((h.setF r 33 (.str 142)).setF r 34 (.bool true)).newC 114) n (p := h.nxt) (c := 114) (by simp [setF_nxt, newC_cls])
  refine vF_go (by decide) (by decide) (by decide) rfl rfl ?_
  have ne : ¬ r = h.nxt := by omega
  have n1 : (pathT h.nxt (((h.setF r 33 (.str 142)).setF r 34 (.bool true)).newC 114)).nxt = h.nxt + 2 := rfl
  have n2 : (pathT h.nxt (((h.setF r 33 (.str 142)).setF r 34 (.bool true)).newC 114)).cls r = some c := by simp [setF_cls, setF_nxt, newC_cls, newC_nxt, newL_cls, pathT, ne, hc]
  have n3 : vSub (h.nxt + 2) (.int 0) ((((pathT h.nxt (((h.setF r 33 (.str 142)).setF r 34 (.bool true)).newC 114)).newL [.ref h.nxt])).setF r 18 (.ref (h.nxt + 2))) = some (.ref h.nxt) := U_lst (w := [.ref h.nxt]) (if_pos rfl) rfl
  apply go_of
  unfold b_Paths_init
  repeat' (first | (with_reducible first | exact S_nil | apply S_cons | apply K_next | apply X_asg | apply A_attr | apply E_loc | exact E_int | apply E_attr | apply E_new | apply E_ife | apply Ie_t | apply E_list | apply E_sub | exact Es_nil | apply Es_cons) | exact hc | exact n2 | exact n3 | exact e | (first | exact (rfl : _ = true) | exact (rfl : _ = false) | exact F_hit | (apply F_miss; · exact rfl) | exact C_new | exact L_hit | exact Ls_hit | exact D_hit | exact rfl | decide))
theorem k_paths {r : Nat} {g : VH} (hr : h.nxt ≤ r) (hg : h.nxt ≤ g.nxt) (k : Keep [] [] [] [] h g) : Keep [] [] [] [] h (pathsH r g) :=
  .setF (.newL (.setF (.setF (.setF (.setF (.newL (k_pathT hg (.newC (.setF (.setF k (.inr hr)) (.inr hr))))) (.inr hr)) (.inr hr)) (.inr hr)) (.inr hr))) (.inr hr)

noncomputable def remH (r : Nat) (h : VH) : VH :=
  let a := (((h.setF r 17 (.int 4)).newT [.bytes [122, 101, 114, 111], .none]).newI [(0, .ref h.nxt)]).setF r 18 (.ref (h.nxt + 1))
  let b := (((a.setF r 19 (.int 0)).newL [.int 0]).setF r 20 (.ref (h.nxt + 2))).setF r 21 (.int 0)
  let c := ((b.newT [.bytes [122, 101, 114, 111], .none]).newI [(0, .ref (h.nxt + 3))]).setF r 22 (.ref (h.nxt + 4))
  ((c.newL []).setF r 23 (.ref (h.nxt + 5))).setF r 24 (.bool false)
theorem c_rem (n : Nat) {r c : Nat} (hc : h.cls r = some c) : vF (n + 1) 7 [.ref r, .bytes [122, 101, 114, 111], .none, .int 4] h = some (.none, remH r h) := by
  refine vF_go (by decide) (by decide) (by decide) rfl rfl ?_
  have q : (((4 : Nat) : Int) == 0) = false := rfl
  apply go_of
  unfold b_RemoteIds_init
  repeat' (first | (with_reducible first | exact S_nil | apply S_cons | apply K_next | apply X_asg | apply A_attr | apply E_loc | exact E_int | apply E_bf | apply E_cmp | apply E_tup | apply E_list | apply E_idict | exact Es_nil | apply Es_cons | apply Q_int) | exact hc | exact q | (first | exact (rfl : _ = true) | exact (rfl : _ = false) | exact F_hit | (apply F_miss; · exact rfl) | exact C_new | exact L_hit | exact Ls_hit | exact D_hit | exact rfl | decide))
theorem k_rem {r : Nat} {g : VH} (hr : h.nxt ≤ r) (k : Keep [] [] [] [] h g) : Keep [] [] [] [] h (remH r g) :=
  .setF (.setF (.newL (.setF (.newI (.newT (.setF (.setF (.newL (.setF (.setF (.newI (.newT (.setF k (.inr hr)))) (.inr hr)) (.inr hr))) (.inr hr)) (.inr hr)))) (.inr hr))) (.inr hr)) (.inr hr)
theorem k_reno {r : Nat} {g : VH} (hr : h.nxt ≤ r) (k : Keep [] [] [] [] h g) : Keep [] [] [] [] h (renoH r g) :=
  .setF (.setF (.setF (.setF (.setF (.setF k (.inr hr)) (.inr hr)) (.inr hr)) (.inr hr)) (.inr hr)) (.inr hr)
theorem k_rtt {r : Nat} {v : VV} {g : VH} (hr : h.nxt ≤ r) (k : Keep [] [] [] [] h g) : Keep [] [] [] [] h (rttH r v g) :=
  .setF (.setF (.setF (.setF (.setF (.setF k (.inr hr)) (.inr hr)) (.inr hr)) (.inr hr)) (.inr hr)) (.inr hr)

noncomputable def st0 : PS := (.asg (.name 78) (.new 134 (.cons (.str 26) .nil)))
noncomputable def st1 : PS := (.asgT [.attr (.loc 78) 54, .attr (.loc 78) 55, .attr (.loc 78) 12, .attr (.loc 78) 13] (.tup (.cons (.new 125 (.cons (.str 142) (.cons (.str 65) (.cons (.bool true) (.cons (.bool true) .nil))))) (.cons (.new 100 (.cons (.bytes [122, 101, 114, 111]) (.cons (.none) (.cons (.int 4) .nil)))) (.cons (.new 75 (.cons (.int 1200) .nil)) (.cons (.new 76 .nil) .nil))))))
noncomputable def stB : PSs := (.cons (.expr (.meth (.attr (.loc 78) 55) 106 (.cons (.loc 85) (.cons (.int 0) (.cons (.bf 141 (.cons (.bin 2 (.list (.cons (.loc 85) .nil)) (.int 4)) .nil)) (.cons (.bf 141 (.cons (.bin 2 (.list (.cons (.loc 85) .nil)) (.int 16)) .nil)) .nil)))))) .nil)
noncomputable def st2 : PS := (.forR 85 (.int 1) (.bin 0 (.loc 139) (.int 1)) stB)
noncomputable def st3 : PS := (.asgT [.attr (.loc 78) 56, .attr (.loc 78) 57, .attr (.loc 78) 58, .attr (.loc 78) 16, .attr (.loc 78) 14] (.tup (.cons (.list .nil) (.cons (.list .nil) (.cons (.sdict [0] (.cons (.int 1200) .nil)) (.cons (.bytes [111, 110, 101]) (.cons (.str 65) .nil)))))))
noncomputable def st4 : PS := (.asg (.attr (.loc 78) 15) (.none))
noncomputable def st5 : PS := (.asg (.attr (.attr (.loc 78) 12) 4) (.int 700))
noncomputable def st6 : PS := (.ret (.loc 78))
theorem st_is : b_law_state = (.cons st0 (.cons st1 (.cons st2 (.cons st3 (.cons st4 (.cons st5 (.cons st6 .nil))))))) := rfl

structure At2 (h : VH) : Prop where
  nxt : h.nxt = 2
  emp : Emp h
noncomputable def m1H (h : VH) : VH := spaceH 2 (h.newC 134)
noncomputable def m2H (h : VH) : VH := pathsH 7 ((m1H h).newC 125)
noncomputable def m3H (h : VH) : VH := remH 12 ((m2H h).newC 100)
noncomputable def m4H (h : VH) : VH := renoH 19 ((m3H h).newC 75)
noncomputable def m5H (h : VH) : VH := rttH 20 .none ((m4H h).newC 76)
noncomputable def m6H (h : VH) : VH := (((((m5H h).newT [.ref 7, .ref 12, .ref 19, .ref 20]).setF 2 54 (.ref 7)).setF 2 55 (.ref 12)).setF 2 12 (.ref 19)).setF 2 13 (.ref 20)
theorem m1_nxt (e : h.nxt = 2) : (m1H h).nxt = 7 := by simp [setF_nxt, newC_nxt, newL_nxt, newS_nxt, m1H, spaceH, e]
theorem m2_nxt (e : h.nxt = 2) : (m2H h).nxt = 12 := by simp [setF_nxt, newC_nxt, newL_nxt, m2H, pathsH, pathT, m1_nxt e]
theorem m3_nxt (e : h.nxt = 2) : (m3H h).nxt = 19 := by simp [setF_nxt, newC_nxt, newL_nxt, newT_nxt, newI_nxt, m3H, remH, m2_nxt e]
theorem m4_nxt (e : h.nxt = 2) : (m4H h).nxt = 20 := by simp [setF_nxt, newC_nxt, m4H, renoH, m3_nxt e]
theorem m5_nxt (e : h.nxt = 2) : (m5H h).nxt = 21 := by simp [setF_nxt, newC_nxt, m5H, rttH, m4_nxt e]
theorem m6_nxt (e : h.nxt = 2) : (m6H h).nxt = 22 := by simp [setF_nxt, newT_nxt, m6H, m5_nxt e]
theorem k_m1 (e : h.nxt = 2) : Keep [] [] [] [] h (m1H h) := k_space (by omega) (.newC .refl)
theorem k_m2 (e : h.nxt = 2) : Keep [] [] [] [] h (m2H h) := k_paths (by omega) (by rw [newC_nxt, m1_nxt e]; omega) (.newC (k_m1 e))
theorem k_m3 (e : h.nxt = 2) : Keep [] [] [] [] h (m3H h) := k_rem (by omega) (.newC (k_m2 e))
theorem k_m4 (e : h.nxt = 2) : Keep [] [] [] [] h (m4H h) := k_reno (by omega) (.newC (k_m3 e))
theorem k_m5 (e : h.nxt = 2) : Keep [] [] [] [] h (m5H h) := k_rtt (by omega) (.newC (k_m4 e))
theorem k_m6 (e : h.nxt = 2) : Keep [] [] [] [] h (m6H h) := .setF (.setF (.setF (.setF (.newT (k_m5 e)) (.inr (by omega))) (.inr (by omega))) (.inr (by omega))) (.inr (by omega))

theorem st_01 (n : Nat) (e : h.nxt = 2) (l : Loc) : (vS (vF (n + 2)) st0 l h = some (.next, upd l 78 (some (.ref 2)), m1H h)) ∧ vS (vF (n + 2)) st1 (upd l 78 (some (.ref 2))) (m1H h) = some (.next, upd l 78 (some (.ref 2)), m6H h) := by
  have n1 := m1_nxt e
  have n2 := m2_nxt e
  have n3 := m3_nxt e
  have n4 := m4_nxt e
  have n5 := m5_nxt e
  refine ⟨?_, ?_⟩
  · have a := c_space (h := h.newC 134) (n + 1) (r := 2) (c := 134) (by simp [newC_cls, e])
    have a : vF (n + 2) 30 [.ref 2, .str 26] (h.newC 134) = some (.none, m1H h) := a
    have a' : vF (n + 2) 30 [.ref h.nxt, .str 26] (h.newC 134) = some (.none, m1H h) := by rw [e]; exact a
    have x0 : vE (vF (n + 2)) l (.new 134 (.cons (.str 26) .nil)) h = some (.ref h.nxt, m1H h) := E_new rfl (Es_cons E_str Es_nil) a'
    rw [e] at x0
    exact X_asg x0 A_name
  · have a1 := c_paths (h := (m1H h).newC 125) n (r := 7) (c := 125) (by simp [newC_cls, n1]) (by rw [newC_nxt, n1]; omega)
    have a1 : vF (n + 2) 23 [.ref 7, .str 142, .str 65, .bool true, .bool true] ((m1H h).newC 125) = some (.none, m2H h) := a1
    have a2 := c_rem (h := (m2H h).newC 100) (n + 1) (r := 12) (c := 100) (by simp [newC_cls, n2])
    have a2 : vF (n + 2) 7 [.ref 12, .bytes [122, 101, 114, 111], .none, .int 4] ((m2H h).newC 100) = some (.none, m3H h) := a2
    have a3 := c_reno (h := (m3H h).newC 75) n (r := 19) (c := 75) (by simp [newC_cls, n3])
    have a3 : vF (n + 2) 1 [.ref 19, .int 1200] ((m3H h).newC 75) = some (.none, m4H h) := a3
    have a4 := c_rtt0 (h := (m4H h).newC 76) (n + 1) (r := 20) (c := 76) (by simp [newC_cls, n4])
    have a4 : vF (n + 2) 2 [.ref 20] ((m4H h).newC 76) = some (.none, m5H h) := a4
    have k : (m1H h).cls 2 = some 134 := by simp [setF_cls, newC_cls, newC_nxt, newL_cls, newS_cls, m1H, spaceH, e]
    have k2 : (m5H h).cls 2 = some 134 := by simp [setF_cls, setF_nxt, newC_nxt, newL_cls, newL_nxt, newT_cls, newT_nxt, newI_cls, newI_nxt, m5H, m4H, m3H, m2H, rttH, renoH, remH, pathsH, pathT, k, n1, n2, n3, n4, newC_cls]
    have u : (upd l 78 (some (VV.ref 2))) 78 = some (.ref 2) := by simp [upd]
    have x1 : vE (vF (n + 2)) (upd l 78 (some (.ref 2))) (.new 125 (.cons (.str 142) (.cons (.str 65) (.cons (.bool true) (.cons (.bool true) .nil))))) (m1H h) = some (.ref (m1H h).nxt, m2H h) := E_new rfl (Es_cons E_str (Es_cons E_str (Es_cons E_bool (Es_cons E_bool Es_nil)))) (by rw [n1]; exact a1)
    have x2 : vE (vF (n + 2)) (upd l 78 (some (.ref 2))) (.new 100 (.cons (.bytes [122, 101, 114, 111]) (.cons (.none) (.cons (.int 4) .nil)))) (m2H h) = some (.ref (m2H h).nxt, m3H h) := E_new rfl (Es_cons E_bytes (Es_cons E_none (Es_cons E_int Es_nil))) (by rw [n2]; exact a2)
    have x3 : vE (vF (n + 2)) (upd l 78 (some (.ref 2))) (.new 75 (.cons (.int 1200) .nil)) (m3H h) = some (.ref (m3H h).nxt, m4H h) := E_new rfl (Es_cons E_int Es_nil) (by rw [n3]; exact a3)
    have x4 : vE (vF (n + 2)) (upd l 78 (some (.ref 2))) (.new 76 .nil) (m4H h) = some (.ref (m4H h).nxt, m5H h) := E_new rfl Es_nil (by rw [n4]; exact a4)
    rw [n1] at x1
    rw [n2] at x2
    rw [n3] at x3
    rw [n4] at x4
    exact X_asgT (Es_cons x1 (Es_cons x2 (Es_cons x3 (Es_cons x4 Es_nil)))) rfl rfl (Az_cons (A_attr (E_loc u) k2 rfl) (Az_cons (A_attr (E_loc u) k2 rfl) (Az_cons (A_attr (E_loc u) k2 rfl) (Az_cons (A_attr (E_loc u) k2 rfl) Az_nil))))
end
end Mine
end
section
namespace Mine

noncomputable def Ls0 : List Nat := [18, 10, 15, 1]
noncomputable def homeP : AP := ⟨8, 65, .pr⟩
structure Bx (is : List Int) (h : VH) : Prop where
  nxt : h.nxt = 2
  emp : Emp h
  tup : ∀ r, h.tup r = none
  sd : ∀ r, h.sd r = none
  ic : ∀ r, h.ic r = none
  lbx : h.lst 1 = some [.ref 0, .int 1]
  lbl : h.lst 0 = some (is.map .int)
structure Pre (is : List Int) (h : VH) (m : Nat) (t t2 : Nat → Nat) : Prop where
  nxt : 22 ≤ h.nxt
  emp : Emp h
  pat : PathsAt Ls0 h 7 10 [homeP] homeP (-1)
  rem : RemAt Ls0 h 12 14 15 18 0 m t []
  tol : Told h 12 14 17 m t2
  cls : h.cls 2 = some 134
  f54 : h.fld 2 54 = some (.ref 7)
  f55 : h.fld 2 55 = some (.ref 12)
  f12 : h.fld 2 12 = some (.ref 19)
  f13 : h.fld 2 13 = some (.ref 20)
  cls2 : h.cls 19 = some 75
  cls3 : h.cls 20 = some 76
  win : h.fld 19 1 = some (.int 12000)
  thr : h.fld 19 2 = some .none
  rec_at : h.fld 19 3 = some .none
  smo : h.fld 20 9 = some (.int 2664000)
  since : h.fld 20 6 = some .none
  ic : ∀ r, r ≠ 14 → r ≠ 17 → h.ic r = none
  lbx : h.lst 1 = some [.ref 0, .int 1]
  lbl : h.lst 0 = some (is.map .int)

section
variable {h : VH} {is : List Int} {m : Nat} {t t2 : Nat → Nat}
set_option tactic.hygienic false
theorem k_m26 (e : h.nxt = 2) : Keep [2] [] [] [] (m2H h) (m6H h) := by
  have n2 := m2_nxt e
  have k : Keep [] [] [] [] (m2H h) ((m5H h).newT [.ref 7, .ref 12, .ref 19, .ref 20]) := .newT (k_rtt (by omega) (.newC (k_reno (by omega) (.newC (k_rem (by omega) (.newC .refl))))))
  exact .setF (.setF (.setF (.setF (k.mono (fun r m => nomatch m) (fun r m => m) (fun r m => m) fun r m => m) (.inl (.head _))) (.inl (.head _))) (.inl (.head _))) (.inl (.head _))
theorem k_m36 (e : h.nxt = 2) : Keep [2] [] [] [] (m3H h) (m6H h) := by
  have n3 := m3_nxt e
  have k : Keep [] [] [] [] (m3H h) ((m5H h).newT [.ref 7, .ref 12, .ref 19, .ref 20]) := .newT (k_rtt (by omega) (.newC (k_reno (by omega) (.newC .refl))))
  exact .setF (.setF (.setF (.setF (k.mono (fun r m => nomatch m) (fun r m => m) (fun r m => m) fun r m => m) (.inl (.head _))) (.inl (.head _))) (.inl (.head _))) (.inl (.head _))

theorem pat2 (e : h.nxt = 2) (E : Emp h) : PathsAt Ls0 (m2H h) 7 10 [homeP] homeP (-1) := by
  have n1 := m1_nxt e
  refine ⟨by rw [m2_nxt e]; omega, by rw [m2_nxt e]; omega, ?_, ?_, ?_, ?_, ?_, ?_, ?_, ?_, by simp [homeP], by simp [homeP], .head _, ?_⟩
  · simp [setF_cls, setF_nxt, newC_cls, newC_nxt, newL_cls, m2H, pathsH, pathT, n1]
  · simp [setF_nxt, setF_fld, newC_fld, newC_nxt, newL_fld, m2H, pathsH, pathT, n1]
  · simp [setF_nxt, setF_fld, newC_fld, newC_nxt, newL_fld, m2H, pathsH, pathT, n1]
  · simp [setF_nxt, setF_fld, newC_nxt, newL_fld, m2H, pathsH, pathT, n1]
  · simp [setF_nxt, setF_fld, newC_nxt, newL_fld, m2H, pathsH, pathT, n1, homeP]
  · simp [setF_nxt, setF_fld, newC_nxt, newL_fld, m2H, pathsH, pathT, n1]
  · simp [setF_lst, setF_nxt, newC_nxt, newL_nxt, newL_lst, m2H, pathsH, pathT, n1, homeP, pref]
  · intro p hp
    rw [List.mem_singleton.mp hp]
    refine ⟨by rw [m2_nxt e]; show 8 < 12; omega, ?_, ?_, ?_, ⟨0, ?_⟩, ?_, 9, by rw [m2_nxt e]; omega, ?_, ?_, by simp [Ls0]⟩
    all_goals simp [setF_cls, setF_lst, setF_nxt, setF_fld, newC_cls, newC_nxt, newL_cls, newL_fld, newL_nxt, newL_lst, m2H, pathsH, pathT, n1, homeP, stV, chV]
  · intro p hp
    rw [List.mem_singleton.mp hp]
    exact .inr (.inl rfl)

theorem rem3 (x : Bx is h) : RemAt Ls0 (m3H h) 12 14 15 18 0 0 (fun _ => 13) [] ∧ Told (m3H h) 12 14 17 0 (fun _ => 16) := by
  have e := x.nxt
  have n2 := m2_nxt e
  have n1 := m1_nxt e
  have T : ∀ r, (m2H h).tup r = none := x.tup
  have E2 : Emp (m2H h) := (k_m2 e).empty x.emp
  have L14 : (m2H h).lst 14 = none := E2 _ (by omega)
  have L13 : (m2H h).lst 13 = none := E2 _ (by omega)
  have L16 : (m2H h).lst 16 = none := E2 _ (by omega)
  have L17 : (m2H h).lst 17 = none := E2 _ (by omega)
  have S17 : (m2H h).sd 17 = none := by
    show (m1H h).sd 17 = none
    simp [setF_sd, setF_nxt, newC_sd, newC_nxt, newL_sd, newS_sd, m1H, spaceH, e, x.sd]
  refine ⟨⟨by rw [m3_nxt e]; omega, by rw [m3_nxt e]; omega, by rw [m3_nxt e]; omega, by rw [m3_nxt e]; omega, ?_, ?_, ?_, ?_, ?_, ?_, ?_, ?_, ⟨?_, ?_, by simp [Ls0]⟩, ?_, by omega⟩, ⟨by rw [m3_nxt e]; omega, ?_, ?_, ?_, ?_, ?_, ⟨?_, ?_⟩, ?_, by omega, ?_⟩⟩
  · simp [setF_cls, newC_cls, newC_nxt, newL_cls, newT_cls, newI_cls, m3H, remH, n2]
  · simp [setF_fld, newC_nxt, newL_fld, newT_fld, newI_fld, m3H, remH, n2]
  · simp [setF_fld, newC_nxt, newL_fld, newT_fld, newI_fld, m3H, remH, n2]
  · simp [setF_fld, newC_nxt, newL_fld, newT_fld, newI_fld, m3H, remH, n2]
  · simp [setF_fld, newC_nxt, m3H, remH, n2]
  · simp [setF_lst, setF_nxt, newC_nxt, newL_nxt, newL_lst, newT_lst, newT_nxt, newI_lst, newI_nxt, m3H, remH, n2, upto]
  · simp [setF_lst, setF_nxt, newC_nxt, newL_nxt, newL_lst, newT_nxt, newI_nxt, m3H, remH, n2]
  · simp [setF_ic, setF_nxt, newC_nxt, newL_ic, newL_nxt, newT_ic, newT_nxt, newI_nxt, newI_ic, m3H, remH, n2, ents]
  · simp [setF_lst, setF_nxt, newC_lst, newC_nxt, newL_nxt, newL_lst, newT_lst, newT_nxt, newI_lst, newI_nxt, m3H, remH, n2, L14]
  · simp [setF_tup, setF_nxt, newC_tup, newC_nxt, newL_tup, newL_nxt, newT_nxt, newT_tup, newI_tup, newI_nxt, m3H, remH, n2, T]
  · intro j j1 j2
    have : j = 0 := by omega
    subst this
    exact ⟨by rw [m3_nxt e]; omega, by simp [Ls0], by simp [setF_lst, setF_nxt, newC_lst, newC_nxt, newL_nxt, newL_lst, newT_lst, newT_nxt, newI_lst, newI_nxt, m3H, remH, n2, L13], .none, by simp [setF_tup, setF_nxt, newC_nxt, newL_tup, newL_nxt, newT_nxt, newT_tup, newI_tup, newI_nxt, m3H, remH, n2, cidB]⟩
  · simp [setF_fld, newC_nxt, newL_fld, m3H, remH, n2]
  · simp [setF_fld, newC_nxt, m3H, remH, n2]
  · simp [setF_fld, newC_nxt, newL_fld, newT_fld, newI_fld, m3H, remH, n2]
  · simp [setF_fld, newC_nxt, newL_fld, newT_fld, newI_fld, m3H, remH, n2]
  · simp [setF_ic, setF_nxt, newC_nxt, newL_ic, newL_nxt, newT_nxt, newI_nxt, newI_ic, m3H, remH, n2, ents]
  · simp [setF_lst, setF_nxt, newC_lst, newC_nxt, newL_nxt, newL_lst, newT_lst, newT_nxt, newI_lst, newI_nxt, m3H, remH, n2, L17]
  · simp [setF_tup, setF_nxt, newC_tup, newC_nxt, newL_tup, newL_nxt, newT_nxt, newT_tup, newI_tup, newI_nxt, m3H, remH, n2, T]
  · simp [setF_sd, newC_sd, newC_nxt, newL_sd, newT_sd, newI_sd, m3H, remH, n2, S17]
  · intro j j1
    have : j = 0 := by omega
    subst this
    exact ⟨by rw [m3_nxt e]; omega, by simp [setF_lst, setF_nxt, newC_lst, newC_nxt, newL_nxt, newL_lst, newT_lst, newT_nxt, newI_lst, newI_nxt, m3H, remH, n2, L16], .none, by simp [setF_tup, setF_nxt, newC_nxt, newL_tup, newL_nxt, newT_nxt, newT_tup, newI_tup, newI_nxt, m3H, remH, n2, cidB]⟩

theorem Told.keep {F L D I : List Nat} {h h' : VH} {rm kn tl m : Nat} {t2 : Nat → Nat} (x : Told h rm kn tl m t2) (K : Keep F L D I h h') (hr : rm < h.nxt) (hF : rm ∉ F) (hL : ∀ r ∈ L, h.lst r ≠ none) (hD : tl ∉ D) (hI : tl ∉ I) : Told h' rm kn tl m t2 := by
  have e := K.fld _ hr hF
  exact ⟨Nat.lt_of_lt_of_le x.lt K.nxt, by rw [e]; exact x.told, by rw [e]; exact x.full, by rw [e]; exact x.rp, by rw [e]; exact x.lim, (K.ic _ x.lt hI).trans x.itl, ⟨(K.lst _ x.lt fun m => hL _ m x.no.1).trans x.no.1, (K.tup _ x.lt).trans x.no.2⟩, (K.sd _ x.lt hD).trans x.nosd, x.ne,
    fun j j1 => by
      obtain ⟨a, b, v, c⟩ := x.tups j j1
      exact ⟨Nat.lt_of_lt_of_le a K.nxt, (K.lst _ a fun m => hL _ m b).trans b, v, (K.tup _ a).trans c⟩⟩

theorem pre0 (x : Bx is h) : Pre is (m6H h) 0 (fun _ => 13) (fun _ => 16) := by
  have e := x.nxt
  have n1 := m1_nxt e
  have n2 := m2_nxt e
  have n3 := m3_nxt e
  have n4 := m4_nxt e
  have n5 := m5_nxt e
  have k0 := k_m6 e
  have k2 := k_m26 e
  have k3 := k_m36 e
  obtain ⟨r3, t3⟩ := rem3 x
  have d4 : (m5H h).cls 19 = some 75 := by simp [setF_cls, setF_nxt, newC_cls, newC_nxt, m5H, m4H, rttH, renoH, n3, n4]
  have g4 : ∀ f, (m5H h).fld 19 f = (m4H h).fld 19 f := fun f => by simp [setF_fld, newC_fld, m5H, rttH, n4]
  have d1 : (m1H h).cls 2 = some 134 := by simp [setF_cls, newC_cls, newC_nxt, newL_cls, newS_cls, m1H, spaceH, e]
  refine {
    nxt := by rw [m6_nxt e]; omega
    emp := k0.empty x.emp
    pat := (pat2 e x.emp).keep k2 (by simp) (fun p hp => by rw [List.mem_singleton.mp hp]; simp [homeP]) (fun m => nomatch m) (fun r m => nomatch m)
    rem := r3.keep k3 (by simp) (fun m => nomatch m) (fun m => nomatch m) (fun m => nomatch m) (fun r m => nomatch m) (fun r m => .inl m)
    tol := t3.keep k3 (by rw [n3]; omega) (by simp) (fun r m => nomatch m) (fun m => nomatch m) (fun m => nomatch m)
    cls := by
      show (m5H h).cls 2 = some 134
      simp [setF_cls, setF_nxt, newC_nxt, newL_cls, newL_nxt, newT_cls, newT_nxt, newI_cls, newI_nxt, m5H, m4H, m3H, m2H, rttH, renoH, remH, pathsH, pathT, d1, n1, n2, n3, n4, newC_cls]
    f54 := by simp [setF_fld, m6H]
    f55 := by simp [setF_fld, m6H]
    f12 := by simp [setF_fld, m6H]
    f13 := by simp [setF_fld, m6H]
    cls2 := d4
    cls3 := by
      show (m5H h).cls 20 = some 76
      simp [setF_cls, newC_cls, m5H, rttH, n4]
    win := by simp [setF_fld, newT_fld, m6H, g4, m4H, renoH]
    thr := by simp [setF_fld, newT_fld, m6H, g4, m4H, renoH]
    rec_at := by simp [setF_fld, newT_fld, m6H, g4, m4H, renoH]
    smo := by simp [setF_fld, newT_fld, m6H, m5H, rttH]
    since := by simp [setF_fld, newT_fld, m6H, m5H, rttH]
    ic := fun r a b => by
      show (m3H h).ic r = none
      have : (m2H h).ic r = none := x.ic r
      simp [setF_ic, setF_nxt, newC_ic, newC_nxt, newL_ic, newL_nxt, newT_ic, newT_nxt, newI_nxt, newI_ic, m3H, remH, n2, a, b, this]
    lbx := (k0.lst _ (by omega) fun m => nomatch m).trans x.lbx
    lbl := (k0.lst _ (by omega) fun m => nomatch m).trans x.lbl }

theorem c_stB (n : Nat) (x : Pre is h m t t2) (hm : m ≤ 1) {l : Loc} (l1 : l 78 = some (.ref 2)) :
    ∃ h' t' t2', vSs (vF (n + 2)) stB (upd l 85 (some (.int ((m : Int) + 1)))) h = some (.next, upd l 85 (some (.int ((m : Int) + 1))), h') ∧ Pre is h' (m + 1) t' t2' := by
  let ha := (h.newL [.int ((m : Int) + 1)]).newL (List.replicate 4 (.int ((m : Int) + 1)))
  let hb := (ha.newL [.int ((m : Int) + 1)]).newL (List.replicate 16 (.int ((m : Int) + 1)))
  have kb : Keep [] [] [] [] h hb := .newL (.newL (.newL (.newL .refl)))
  have LT : ∀ r ∈ Ls0, r < h.nxt := fun r m => by
    have := x.nxt
    simp [Ls0] at m
    omega
  have rb : RemAt Ls0 hb 12 14 15 18 0 m t [] := x.rem.keep kb (fun m => nomatch m) (fun m => nomatch m) (fun m => nomatch m) (fun m => nomatch m) (fun r m => nomatch m) (fun r m => .inl m)
  have tb : Told hb 12 14 17 m t2 := x.tol.keep kb (by have := x.nxt; omega) (fun m => nomatch m) (fun r m => nomatch m) (fun m => nomatch m) (fun m => nomatch m)
  have c0 : cidB (m + 1) = List.replicate 4 ((m : Int) + 1) := by
    unfold cidB
    rw [if_neg (by omega)]
    rfl
  obtain ⟨hc, t', t2', e1, r1, t1, k1, ic1⟩ := c_on_new n rb tb hm (kb.empty x.emp) (fun r m => Nat.lt_of_lt_of_le (LT r m) kb.nxt) (List.replicate 16 ((m : Int) + 1))
  have u1 : (upd l 85 (some (.int ((m : Int) + 1)))) 78 = some (.ref 2) := by simp [upd, l1]
  have u2 : (upd l 85 (some (.int ((m : Int) + 1)))) 85 = some (.int ((m : Int) + 1)) := by simp [upd]
  have K : Keep [12] [] [] [14, 17] h hc := (kb.mono (fun r m => nomatch m) (fun r m => m) (fun r m => m) fun r m => nomatch m).step k1
  have nx := x.nxt
  have fl : ∀ r f, r < h.nxt → r ≠ 12 → hc.fld r f = h.fld r f := fun r f a b => by rw [K.fld r a (ni1 b)]
  have ll : ∀ r, r < h.nxt → hc.lst r = h.lst r := fun r a => K.lst r a fun m => nomatch m
  have cl : ∀ r, r < h.nxt → hc.cls r = h.cls r := fun r a => K.cls r a
  refine ⟨hc, t', t2', ?_, {
    nxt := Nat.le_trans nx K.nxt
    emp := K.empty x.emp
    pat := x.pat.keep K (by simp) (fun p hp => by rw [List.mem_singleton.mp hp]; simp [homeP]) (fun m => nomatch m) (fun r m => nomatch m)
    rem := r1
    tol := t1
    cls := (cl _ (by omega)).trans x.cls
    f54 := (fl _ _ (by omega) (by omega)).trans x.f54
    f55 := (fl _ _ (by omega) (by omega)).trans x.f55
    f12 := (fl _ _ (by omega) (by omega)).trans x.f12
    f13 := (fl _ _ (by omega) (by omega)).trans x.f13
    cls2 := (cl _ (by omega)).trans x.cls2
    cls3 := (cl _ (by omega)).trans x.cls3
    win := (fl _ _ (by omega) (by omega)).trans x.win
    thr := (fl _ _ (by omega) (by omega)).trans x.thr
    rec_at := (fl _ _ (by omega) (by omega)).trans x.rec_at
    smo := (fl _ _ (by omega) (by omega)).trans x.smo
    since := (fl _ _ (by omega) (by omega)).trans x.since
    ic := fun r a b => (ic1 r a b).trans (x.ic r a b)
    lbx := (ll _ (by omega)).trans x.lbx
    lbl := (ll _ (by omega)).trans x.lbl }⟩
  have i0 : (0 : Int) ≤ (m : Int) + 1 := by omega
  have i1 : (m : Int) + 1 < 256 := by omega
  have q1 : vE (vF (n + 2)) (upd l 85 (some (.int ((m : Int) + 1)))) (.bf 141 (.cons (.bin 2 (.list (.cons (.loc 85) .nil)) (.int 4)) .nil)) h = some (.bytes (cidB (m + 1)), ha) := by
    rw [c0]
    exact E_bf (Es_cons (E_bin (E_list (Es_cons (E_loc u2) Es_nil)) E_int (rep_list 4 (by decide) _ _)) Es_nil) (rep_bytes 4 (by decide) i0 i1 _)
  have q2 : vE (vF (n + 2)) (upd l 85 (some (.int ((m : Int) + 1)))) (.bf 141 (.cons (.bin 2 (.list (.cons (.loc 85) .nil)) (.int 16)) .nil)) ha = some (.bytes (List.replicate 16 ((m : Int) + 1)), hb) := by
    exact E_bf (Es_cons (E_bin (E_list (Es_cons (E_loc u2) Es_nil)) E_int (rep_list 16 (by decide) _ _)) Es_nil) (rep_bytes 16 (by decide) i0 i1 _)
  have q3 : vEs (vF (n + 2)) (upd l 85 (some (.int ((m : Int) + 1)))) (.cons (.loc 85) (.cons (.int 0) (.cons (.bf 141 (.cons (.bin 2 (.list (.cons (.loc 85) .nil)) (.int 4)) .nil)) (.cons (.bf 141 (.cons (.bin 2 (.list (.cons (.loc 85) .nil)) (.int 16)) .nil)) .nil)))) h = some ([.int ((m : Int) + 1), .int 0, .bytes (cidB (m + 1)), .bytes (List.replicate 16 ((m : Int) + 1))], hb) := by
    exact Es_cons (E_loc u2) (Es_cons E_int (Es_cons q1 (Es_cons q2 Es_nil)))
  have q4 : vE (vF (n + 2)) (upd l 85 (some (.int ((m : Int) + 1)))) (.attr (.loc 78) 55) h = some (.ref 12, h) := by
    exact E_attr (E_loc u1) x.cls x.f55
  refine seq_next (l1 := upd l 85 (some (.int ((m : Int) + 1)))) (h1 := hc) ?_ rfl
  exact X_expr (E_meth q4 x.rem.cls rfl q3 e1)
end
end Mine
end
section
namespace Mine

section
variable {h : VH} {is : List Int} {m : Nat} {t t2 : Nat → Nat}
set_option tactic.hygienic false
theorem run_R {cl : Caller} {l l' : Loc} {h' : VH} {j : Int} {is : List Int} {e : PE} (a : vE cl l e h = some (.int j, h)) (c : -1000 ≤ j ∧ j ≤ 1000 ∧ j - 1 ≤ 64) (q : ((List.range (j - 1).toNat).map fun k : Nat => VV.int (1 + (k : Int))) = is.map .int) (d : loopV (vSs cl stB) (fun _ => true) 85 (is.map .int) l h = some (.next, l', h')) : vS cl (.forR 85 (.int 1) e stB) l h = some (.next, l', h') := by
  exact X_forR E_int a ⟨by decide, by decide, c.1, c.2.1, c.2.2⟩ (q.symm ▸ d)
theorem c_st2 (n : Nat) (x : Bx is h) (sp : Nat) (hs : sp ≤ 2) {l : Loc} (l1 : l 78 = some (.ref 2)) (l2 : l 139 = some (.int sp)) :
    ∃ h' l' t t2, vS (vF (n + 2)) st2 l (m6H h) = some (.next, l', h') ∧ Pre is h' sp t t2 ∧ l' 78 = some (.ref 2) := by
  have x0 := pre0 x
  rcases (by omega : sp = 0 ∨ sp = 1 ∨ sp = 2) with rfl | rfl | rfl
  · refine ⟨m6H h, l, _, _, ?_, x0, l1⟩
    exact run_R (is := []) (E_bin (E_loc l2) E_int N_add) (by decide) rfl rfl
  · obtain ⟨ha, ta, tb, e1, x1⟩ := c_stB n x0 (by omega) l1
    refine ⟨ha, upd l 85 (some (.int ((0 : Nat) + 1))), ta, tb, ?_, x1, l1⟩
    have e1' : vSs (vF (n + 2)) stB (upd l 85 (some (.int 1))) (m6H h) = some (.next, upd l 85 (some (.int ((0 : Nat) + 1))), ha) := e1
    exact run_R (is := [1]) (E_bin (E_loc l2) E_int N_add) (by decide) rfl (loop_next e1' rfl rfl)
  · obtain ⟨ha, ta, tb, e1, x1⟩ := c_stB n x0 (by omega) l1
    obtain ⟨hb, tc, td, e2, x2⟩ := c_stB n x1 (by omega) (l := upd l 85 (some (.int ((0 : Nat) + 1)))) l1
    refine ⟨hb, upd (upd l 85 (some (.int ((0 : Nat) + 1)))) 85 (some (.int ((1 : Nat) + 1))), tc, td, ?_, x2, l1⟩
    have e1' : vSs (vF (n + 2)) stB (upd l 85 (some (.int 1))) (m6H h) = some (.next, upd l 85 (some (.int ((0 : Nat) + 1))), ha) := e1
    have e2' : vSs (vF (n + 2)) stB (upd (upd l 85 (some (.int 1))) 85 (some (.int 2))) ha = some (.next, upd (upd l 85 (some (.int 1))) 85 (some (.int 2)), hb) := e2
    have r2 : List.range 2 = [0, 1] := rfl
    have v : (1 : Int) + ((1 : Nat) : Int) = 2 := rfl
    have d1 : ((2 : Nat) : Int) + 1 - 1 = 2 := rfl
    exact run_R (is := [1, 2]) (E_bin (E_loc l2) E_int N_add) (by decide) rfl (loop_next e1' rfl (loop_next e2' rfl rfl))

structure Post (is : List Int) (h : VH) (m : Nat) (t : Nat → Nat) (a : Nat) : Prop where
  ge : 22 ≤ a
  nxt : h.nxt = a + 4
  emp : Emp h
  con : ConnAt h 2 7 12 19 20 a (a + 1) (a + 2) [111, 110, 101] 65 .none
  pat : PathsAt (a :: (a + 1) :: Ls0) h 7 10 [homeP] homeP (-1)
  rem : RemAt (a :: (a + 1) :: Ls0) h 12 14 15 18 0 m t []
  ctl : CtlAt h 19 20 (.int 12000) .none .none (.int 2664000) .none
  low : h.lst a = some []
  lev : h.lst (a + 1) = some []
  ic : ∀ r, r ≠ 14 → r ≠ 17 → h.ic r = none
  lbx : h.lst 1 = some [.ref 0, .int 1]
  lbl : h.lst 0 = some (is.map .int)

theorem c_st345 (cl : Caller) (x : Pre is h m t t2) {l : Loc} (l1 : l 78 = some (.ref 2)) :
    ∃ h', vSs cl (.cons st3 (.cons st4 (.cons st5 (.cons st6 .nil)))) l h = some (.ret (.ref 2), l, h') ∧ Post is h' m t h.nxt := by
  have nx := x.nxt
  let ha := (((h.newL []).newL []).newS [(0, .int 1200)]).newT [.ref h.nxt, .ref (h.nxt + 1), .ref (h.nxt + 2), .bytes [111, 110, 101], .str 65]
  let hb := ((((ha.setF 2 56 (.ref h.nxt)).setF 2 57 (.ref (h.nxt + 1))).setF 2 58 (.ref (h.nxt + 2))).setF 2 16 (.bytes [111, 110, 101])).setF 2 14 (.str 65)
  let hc := hb.setF 2 15 .none
  let hd := hc.setF 19 4 (.int 700)
  have ka : Keep [] [] [] [] h ha := .newT (.newS (.newL (.newL .refl)))
  have K : Keep [2, 19] [] [] [] h hd := .setF (.setF (.setF (.setF (.setF (.setF (.setF (ka.mono (fun r m => nomatch m) (fun r m => m) (fun r m => m) fun r m => m) (.inl (.head _))) (.inl (.head _))) (.inl (.head _))) (.inl (.head _))) (.inl (.head _))) (.inl (.head _))) (.inl (.tail _ (.head _)))
  have c2 : ha.cls 2 = some 134 := x.cls
  refine ⟨hd, ?_, ?_⟩
  · have s3 : vS cl st3 l h = some (.next, l, hb) := by
      have nd : (([0] : List Nat).length = [VV.int 1200].length ∧ nodupN ([0] : List Nat) = true) := ⟨rfl, rfl⟩
      have cx : ∀ g : VH, g.cls 2 = some 134 → g.cls 2 = some 134 := fun _ q => q
      unfold st3
      apply vS_to
      repeat' (first | (with_reducible first | apply X_asg | apply X_ret | apply X_asgT | apply A_attr | exact Az_nil | apply Az_cons | apply E_loc | exact E_none | exact E_int | exact E_str | exact E_bytes | apply E_attr | apply E_list | apply E_sdict | exact Es_nil | apply Es_cons) | exact l1 | exact nd | exact x.cls | (first | exact (rfl : _ = true) | exact (rfl : _ = false) | exact F_hit | (apply F_miss; · exact rfl) | exact C_new | exact L_hit | exact Ls_hit | exact D_hit | exact rfl | decide))
    have s4 : vS cl st4 l hb = some (.next, l, hc) := by
      have d1 : hb.cls 2 = some 134 := x.cls
      exact X_asg E_none (A_attr (E_loc l1) d1 rfl)
    have s5 : vS cl st5 l hc = some (.next, l, hd) := by
      have d1 : hc.cls 2 = some 134 := x.cls
      have d2 : hc.fld 2 12 = some (.ref 19) := by simp [setF_fld, newL_fld, newT_fld, newS_fld, hc, hb, ha, x.f12]
      have d3 : hc.cls 19 = some 75 := x.cls2
      exact X_asg E_int (A_attr (E_attr (E_loc l1) d1 d2) d3 rfl)
    refine seq_next s3 (seq_next s4 (seq_next s5 (seq_ret ?_)))
    exact X_ret (E_loc l1)
  · have na : ¬ h.nxt = h.nxt + 1 := by omega
    have HL : ∀ r ∈ h.nxt :: (h.nxt + 1) :: Ls0, r ∈ Ls0 ∨ h.nxt ≤ r := fun r m => by
      rcases List.mem_cons.mp m with e | m
      · exact .inr (by omega)
      · rcases List.mem_cons.mp m with e | m
        · exact .inr (by omega)
        · exact .inl m
    exact {
      ge := nx
      nxt := rfl
      emp := K.empty x.emp
      con := ⟨by show 2 < h.nxt + 4; omega, x.cls, by simp [setF_fld, newL_fld, newT_fld, newS_fld, hd, hc, hb, ha, x.f54], by simp [setF_fld, newL_fld, newT_fld, newS_fld, hd, hc, hb, ha, x.f55], by simp [setF_fld, newL_fld, newT_fld, newS_fld, hd, hc, hb, ha, x.f12], by simp [setF_fld, newL_fld, newT_fld, newS_fld, hd, hc, hb, ha, x.f13], by simp [setF_fld, hd, hc, hb, ha], by simp [setF_fld, hd, hc, hb, ha], by simp [setF_fld, hd, hc, hb, ha], by simp [setF_fld, hd, hc, hb, ha], by simp [setF_fld, hd, hc, hb, ha], by simp [setF_fld, hd, hc, hb, ha], by show h.nxt + 2 < h.nxt + 4; omega, by simp [setF_sd, newL_nxt, newT_sd, newS_sd, hd, hc, hb, ha]⟩
      pat := x.pat.keep2 K (by simp) (fun p hp => by rw [List.mem_singleton.mp hp]; simp [homeP]) (fun m => nomatch m) (fun r m => nomatch m) HL
      rem := x.rem.keep K (by simp) (fun m => nomatch m) (fun m => nomatch m) (fun m => nomatch m) (fun r m => nomatch m) HL
      ctl := ⟨by show 19 < h.nxt + 4; omega, by show 20 < h.nxt + 4; omega, x.cls2, x.cls3, by simp [setF_fld, newL_fld, newT_fld, newS_fld, hd, hc, hb, ha, x.win], by simp [setF_fld, newL_fld, newT_fld, newS_fld, hd, hc, hb, ha, x.thr], by simp [setF_fld, newL_fld, newT_fld, newS_fld, hd, hc, hb, ha, x.rec_at], by simp [setF_fld, hd, hc, hb, ha], by simp [setF_fld, newL_fld, newT_fld, newS_fld, hd, hc, hb, ha, x.smo], by simp [setF_fld, newL_fld, newT_fld, newS_fld, hd, hc, hb, ha, x.since]⟩
      low := by simp [setF_lst, newL_nxt, newL_lst, newT_lst, newS_lst, hd, hc, hb, ha, na]
      lev := by simp [setF_lst, newL_nxt, newL_lst, newT_lst, newS_lst, hd, hc, hb, ha]
      ic := x.ic
      lbx := (K.lst _ (by omega) fun m => nomatch m).trans x.lbx
      lbl := (K.lst _ (by omega) fun m => nomatch m).trans x.lbl }

theorem c_state (n : Nat) (x : Bx is h) (sp : Nat) (hs : sp ≤ 2) : ∃ h' t a, vF (n + 3) 32 [.int sp] h = some (.ref 2, h') ∧ Post is h' sp t a := by
  obtain ⟨s0, s1⟩ := st_01 n x.nxt (bindL (fps 32) [.int sp])
  obtain ⟨h1, l', t, t2, s2, x1, l1⟩ := c_st2 n x sp hs (l := upd (bindL (fps 32) [.int sp]) 78 (some (.ref 2))) rfl rfl
  obtain ⟨h2, s3, x2⟩ := c_st345 (vF (n + 2)) x1 l1
  refine ⟨h2, t, h1.nxt, ?_, x2⟩
  refine vF_go (b := b_law_state) (by decide) (by decide) (by decide) rfl rfl ?_
  rw [st_is, seq_next s0 (seq_next s1 (seq_next s2 s3))]
  rfl

noncomputable def spareL (sp : Nat) : List VV := spl 0 sp
theorem range_spl (sp : Nat) (hs : sp ≤ 2) : ((List.range ((sp : Int) + 1 - 1).toNat).map fun k : Nat => VV.int (1 + (k : Int))) = spl 0 sp := by
  rcases (by omega : sp = 0 ∨ sp = 1 ∨ sp = 2) with rfl | rfl | rfl <;> rfl

theorem rl_cases {a r : Nat} (m : r ∈ [18, 10, 15, a, a + 1, a + 4, a + 8, a + 9, 1]) : (r ≤ 18 ∧ r ∈ Ls0) ∨ ∃ k, k < 11 ∧ (k = 0 ∨ k = 1 ∨ (4 ≤ k ∧ k ≠ 7)) ∧ r = a + k := by
  rcases List.mem_append.mp (show r ∈ [18, 10, 15] ++ ([0, 1, 4, 8, 9].map (a + ·) ++ [1]) from m) with m | m
  · exact .inl ((by decide : ∀ r ∈ [18, 10, 15], r ≤ 18 ∧ r ∈ Ls0) r m)
  · rcases List.mem_append.mp m with m | m
    · obtain ⟨k, hk, rfl⟩ := List.mem_map.mp m
      exact .inr ⟨k, ((by decide : ∀ k ∈ [0, 1, 4, 8, 9], k < 11 ∧ (k = 0 ∨ k = 1 ∨ (4 ≤ k ∧ k ≠ 7))) k hk).1, ((by decide : ∀ k ∈ [0, 1, 4, 8, 9], k < 11 ∧ (k = 0 ∨ k = 1 ∨ (4 ≤ k ∧ k ≠ 7))) k hk).2, rfl⟩
    · exact .inl ((by decide : ∀ r ∈ [1], r ≤ 18 ∧ r ∈ Ls0) r m)
theorem rl_nodup {a : Nat} (ge : 22 ≤ a) : [18, 10, 15, a, a + 1, a + 4, a + 8, a + 9, 1].Nodup := by
  show ([18, 10, 15] ++ ([0, 1, 4, 8, 9].map (a + ·) ++ [1])).Nodup
  have hi : ∀ x ∈ [0, 1, 4, 8, 9].map (a + ·), 22 ≤ x := fun x m => by
    obtain ⟨k, _, rfl⟩ := List.mem_map.mp m
    exact Nat.le_trans ge (Nat.le_add_right _ _)
  refine List.nodup_append.mpr ⟨by decide, List.nodup_append.mpr ⟨List.Pairwise.map _ (fun x y h e => h (Nat.add_left_cancel e)) (by decide : List.Pairwise (· ≠ ·) [0, 1, 4, 8, 9]), by decide, fun x m y n e => ?_⟩, fun x m y n e => ?_⟩
  · rw [List.mem_singleton.mp n] at e
    exact absurd (hi x m) (by rw [e]; decide)
  · have lo : x ≤ 18 := (by decide : ∀ r ∈ [18, 10, 15], r ≤ 18) x m
    rcases List.mem_append.mp n with n | n
    · have := hi y n
      omega
    · rw [List.mem_singleton.mp n] at e
      rw [e] at m
      exact absurd m (by decide)
theorem c_world (cl : Caller) {a sp : Nat} (x : Post is h sp t a) (hs : sp ≤ 2) {l : Loc} (l1 : l 139 = some (.int sp)) :
    ∃ h' R D, (∀ ss r, vSs cl ss (upd l 143 (some (.ref R.w))) h' = r → vSs cl (.cons lw3 (.cons lw4 ss)) l h = r) ∧ Inv R is 0 1 D h' ∧ CtlAt h' D.ct D.rt (.int 12000) .none .none (.int 2664000) .none ∧ R.cn = 2 ∧ R.bx = 1 := by
  have ge := x.ge
  have nx := x.nxt
  have E := x.emp
  let es : List (Nat × VV) := [(145, .str 65), (14, .str 65), (146, .ref (a + 4)), (161, .ref (a + 5)), (156, .int (-1)), (151, .bytes [111, 110, 101]), (102, .int 0)]
  let ha := ((h.newL [.str 65]).newS []).newS es
  let hb := ((ha.newL (spl 0 sp)).newL []).newL []
  let hc := hb.newS [(139, .ref (a + 7)), (56, .ref (a + 8)), (57, .ref (a + 9)), (155, .none)]
  let hd := hc.setS (a + 6) (wents 65 65 (a + 4) (a + 5) (-1) [111, 110, 101] 0 (a + 7) (a + 8) (a + 9) .none)
  have K : Keep [] [] [] [] h hd := .setS (.newS (.newL (.newL (.newL (.newS (.newS (.newL .refl))))))) (.inr (by omega))
  have nd : hd.nxt = a + 11 := by simp [setS_nxt, newL_nxt, newS_nxt, hd, hc, hb, ha, nx]
  have s3 : vS cl lw3 l h = some (.next, upd l 143 (some (.ref (a + 6))), ha) := by
    have nd : (([145, 14, 146, 161, 156, 151, 102] : List Nat).length = ([.str 65, .str 65, .ref h.nxt, .ref (h.newL [.str 65]).nxt, .int (-1), .bytes [111, 110, 101], .int 0] : List VV).length ∧ nodupN ([145, 14, 146, 161, 156, 151, 102] : List Nat) = true) := ⟨rfl, by decide⟩
    have nd0 : (([] : List Nat).length = ([] : List VV).length ∧ nodupN ([] : List Nat) = true) := ⟨rfl, rfl⟩
    have e := X_asg (cl := cl) (l := l) (h := h) (E_sdict (ks := [145, 14, 146, 161, 156, 151, 102]) (Es_cons E_str (Es_cons E_str (Es_cons (E_list (Es_cons E_str Es_nil)) (Es_cons (E_sdict (ks := []) Es_nil nd0) (Es_cons E_int (Es_cons E_bytes (Es_cons E_int Es_nil))))))) nd) (A_name (x := 143))
    have n0 : h.nxt = a + 4 := nx
    have n1 : (h.newL [.str 65]).nxt = a + 5 := by rw [newL_nxt, nx]
    have n2 : ((h.newL [.str 65]).newS ([].zip [])).nxt = a + 6 := by rw [newS_nxt, newL_nxt, nx]
    rw [n2, n1, n0] at e
    exact e
  have rs := range_spl sp hs
  have g1 : -1000 ≤ (sp : Int) + 1 := by omega
  have g2 : (sp : Int) + 1 ≤ 1000 := by omega
  have g3 : (sp : Int) + 1 - 1 ≤ 64 := by omega
  have s4 : vS cl lw4 (upd l 143 (some (.ref (a + 6)))) ha = some (.next, upd l 143 (some (.ref (a + 6))), hd) := by
    have u1 : (upd l 143 (some (VV.ref (a + 6)))) 143 = some (.ref (a + 6)) := rfl
    have u2 : (upd l 143 (some (VV.ref (a + 6)))) 139 = some (.int sp) := l1
    have na : ha.nxt = a + 7 := by simp [newL_nxt, newS_nxt, ha, nx]
    have sa : ha.sd (a + 6) = some es := by simp [newL_nxt, newS_nxt, newS_sd, ha, nx]
    have q1 : vE cl (upd l 143 (some (.ref (a + 6)))) (.lrange (.int 1) (.bin 0 (.loc 139) (.int 1))) ha = some (.ref (a + 7), ha.newL (spl 0 sp)) := by
      show (vE cl _ (.int 1) ha).bind _ = _
      simp only [E_int, E_bin (E_loc u2) E_int N_add, Option.bind_some]
      rw [if_pos ⟨by decide, by decide, g1, g2, g3⟩, rs, na]
    have q2 : vE cl (upd l 143 (some (.ref (a + 6)))) (.sdict [139, 56, 57, 155] (.cons (.lrange (.int 1) (.bin 0 (.loc 139) (.int 1))) (.cons (.list .nil) (.cons (.list .nil) (.cons (.none) .nil))))) ha = some (.ref (a + 10), hc) := by
      have nd : (([139, 56, 57, 155] : List Nat).length = ([.ref (a + 7), .ref (a + 8), .ref (a + 9), .none] : List VV).length ∧ nodupN ([139, 56, 57, 155] : List Nat) = true) := ⟨rfl, by decide⟩
      have m1 : (ha.newL (spl 0 sp)).nxt = a + 8 := by rw [newL_nxt, na]
      have m2 : ((ha.newL (spl 0 sp)).newL []).nxt = a + 9 := by rw [newL_nxt, m1]
      have m3 : hb.nxt = a + 10 := by show ((ha.newL (spl 0 sp)).newL []).nxt + 1 = _; rw [m2]
      have e1 : vE cl (upd l 143 (some (.ref (a + 6)))) (.list .nil) (ha.newL (spl 0 sp)) = some (.ref (a + 8), (ha.newL (spl 0 sp)).newL []) := by rw [← m1]; exact E_list Es_nil
      have e2 : vE cl (upd l 143 (some (.ref (a + 6)))) (.list .nil) ((ha.newL (spl 0 sp)).newL []) = some (.ref (a + 9), hb) := by rw [← m2]; exact E_list Es_nil
      rw [← m3]
      exact E_sdict (Es_cons q1 (Es_cons e1 (Es_cons e2 (Es_cons E_none Es_nil)))) nd
    have b1 : bmOk 168 (a + 6) ha = true := by simp [bmOk, n_append, n_extend, sa]
    have n1 : ¬ a + 6 = a + 10 := by omega
    have sc : hc.sd (a + 6) = some es := by
      have : hc.nxt = a + 11 := nd
      have n2 : hb.nxt = a + 10 := by simp [newL_nxt, newS_nxt, hb, ha, nx]
      simp [newL_sd, newL_nxt, newS_sd, hc, hb, n2, sa, na]
    have sc2 : hc.sd (a + 10) = some [(139, .ref (a + 7)), (56, .ref (a + 8)), (57, .ref (a + 9)), (155, .none)] := by
      have n2 : hb.nxt = a + 10 := by simp [newL_nxt, newS_nxt, hb, ha, nx]
      simp [newS_sd, hc, n2]
    have q3 : vBm 168 (a + 6) [.ref (a + 10)] hc = some (.none, hd) := by
      show updV (a + 6) (.ref (a + 10)) hc = _
      unfold updV
      simp only [if_neg (Ne.symm n1), sc, sc2, Option.bind_some]
      rfl
    have q4 : vEs cl (upd l 143 (some (.ref (a + 6)))) (.cons (.sdict [139, 56, 57, 155] (.cons (.lrange (.int 1) (.bin 0 (.loc 139) (.int 1))) (.cons (.list .nil) (.cons (.list .nil) (.cons (.none) .nil))))) .nil) ha = some ([.ref (a + 10)], hc) := by
      exact Es_cons q2 Es_nil
    have q0 : vE cl (upd l 143 (some (.ref (a + 6)))) (.loc 143) ha = some (.ref (a + 6), ha) := E_loc u1
    exact X_expr (E_bm q0 b1 q4 q3)
  let R : Rf := ⟨2, 7, 10, 12, 14, 15, a, a + 1, a + 2, 1, 0, a + 6, a + 4, a + 5, a + 8, a + 9⟩
  let D : Dy := ⟨19, 20, 18, a + 7, [homeP], homeP, -1, [111, 110, 101], 65, .none, .none, 0, sp, t, [], [], [], [], [.str 65], [], 1⟩
  have hRL : D.tq :: R.Ls = [18, 10, 15, a, a + 1, a + 4, a + 8, a + 9, 1] := rfl
  have LT : ∀ r ∈ D.tq :: R.Ls, r < a + 11 := fun r m => by
    rcases rl_cases m with ⟨q, _⟩ | ⟨k, q, _, rfl⟩
    · exact Nat.lt_of_le_of_lt q (by omega)
    · exact Nat.add_lt_add_left q a
  have fe : ∀ r, r < h.nxt → hd.lst r = h.lst r := fun r q => K.lst r q fun m => nomatch m
  have HL : ∀ r ∈ D.tq :: R.Ls, r ∈ a :: (a + 1) :: Ls0 ∨ h.nxt ≤ r := fun r m => by
    rcases rl_cases m with ⟨_, q⟩ | ⟨k, _, q, rfl⟩
    · exact .inl (.tail _ (.tail _ q))
    · rcases q with rfl | rfl | ⟨q, _⟩
      · exact .inl (.head _)
      · exact .inl (.tail _ (.head _))
      · exact .inr (by rw [nx]; exact Nat.add_le_add_left q a)
  have pat : PathsAt (D.tq :: R.Ls) hd 7 10 [homeP] homeP (-1) := x.pat.keep2 K (fun m => nomatch m) (fun p hp m => nomatch m) (fun m => nomatch m) (fun r m => nomatch m) HL
  have rem : RemAt (D.tq :: R.Ls) hd 12 14 15 18 0 sp t [] := x.rem.keep K (fun m => nomatch m) (fun m => nomatch m) (fun m => nomatch m) (fun m => nomatch m) (fun r m => nomatch m) HL
  refine ⟨hd, R, D, fun ss r q => seq_next s3 (seq_next s4 q), ?_, x.ctl.keep K (fun m => nomatch m) (fun m => nomatch m), rfl, rfl⟩
  exact {
    con := x.con.keep K (fun m => nomatch m) (fun m => nomatch m)
    pat := pat
    rem := rem
    emp := K.empty E
    lows := (fe a (by omega)).trans x.low
    levs := (fe (a + 1) (by omega)).trans x.lev
    lwows := by simp [setS_lst, newL_nxt, newL_lst, newS_lst, newS_nxt, hd, hc, hb, ha, nx, R, D]
    lwevs := by simp [setS_lst, newL_nxt, newL_lst, newS_lst, newS_nxt, hd, hc, hb, ha, nx, R, D]
    twO := .nil
    twE := .nil
    lenO := by simp [D]
    lenE := by simp [D]
    wor := by simp [setS_sd, hd, R, D, homeP]
    lwp := by simp [setS_lst, newL_nxt, newL_lst, newS_lst, newS_nxt, hd, hc, hb, ha, nx, R, D]
    pvlen := by simp [D]
    prov := fun b hb => by
      rcases hb with rfl | rfl | rfl <;> simp [asS_str, inL, aeq, D, seek, homeP, isPr, stN]
    home := ⟨homeP, by simp [seek, D, homeP], rfl⟩
    ltr := by simp [setS_sd, newL_sd, newL_nxt, newS_nxt, newS_sd, hd, hc, hb, ha, nx, R, D]
    notr := by
      have : h.lst (a + 5) = none := E _ (by omega)
      simp [setS_lst, newL_nxt, newL_lst, newS_lst, newS_nxt, hd, hc, hb, ha, nx, R, this]
    icn := x.ic _ (by show a + 5 ≠ 14; omega) (by show a + 5 ≠ 17; omega)
    tri := ⟨fun b hb => by rcases hb with rfl | rfl | rfl <;> simp [look, D, seek, homeP, tdat], .inl rfl, fun p hp d e => (by
      have hp : p = homeP := List.mem_singleton.mp hp
      subst hp
      cases e), fun p hp q hq d e1 e2 => (by
      have hp : p = homeP := List.mem_singleton.mp hp
      subst hp
      cases e1)⟩
    lsp := by simp [setS_lst, newL_nxt, newL_lst, newS_lst, newS_nxt, hd, hc, hb, ha, nx, D]
    lbx := (fe 1 (by omega)).trans x.lbx
    lbl := (fe 0 (by omega)).trans x.lbl
    c0 := by simp [D]
    c1 := by simp [D]
    lef := .inl ⟨rfl, rfl⟩
    nod := rl_nodup ge
    lts := fun r m => by rw [nd]; exact LT r m
    spn := fun m => by
      rcases rl_cases m with ⟨q, _⟩ | ⟨k, _, q, e⟩
      · exact absurd (show a + 7 ≤ 18 from q) (by omega)
      · have : k = 7 := (Nat.add_left_cancel e).symm
        subst this
        rcases q with q | q | ⟨_, q⟩
        · cases q
        · cases q
        · exact q rfl
    bln := fun m => by
      rcases rl_cases m with ⟨_, q⟩ | ⟨k, _, _, e⟩
      · exact (by decide : (0 : Nat) ∉ Ls0) q
      · have e : 0 = a + k := e
        omega
    splt := by rw [nd]; show a + 7 < a + 11; omega
    bllt := by rw [nd]; show 0 < a + 11; omega
    wlt := by rw [nd]; show a + 6 < a + 11; omega
    trlt := by rw [nd]; show a + 5 < a + 11; omega
    wtr := by show a + 6 ≠ a + 5; omega
    cw := by show a + 2 ≠ a + 6; omega
    ctr := by show a + 2 ≠ a + 5; omega }
end
end Mine
end
section
namespace Mine

noncomputable def turnsV : Int → Nat → List VV
  | _, 0 => []
  | T, j + 1 => .int T :: turnsV (T + 1) j
set_option tactic.hygienic false
theorem loop_turns (n : Nat) {R : Rf} {is : List Int} : ∀ (j : Nat) (T B : Int) (D : Dy) (h : VH) (l : Loc), Inv R is T B D h → 0 ≤ T → T + j ≤ 40 → B + 6 * j < 400 → (∃ W T' R' S N, CtlAt h D.ct D.rt W T' R' S N) → l 78 = some (.ref R.cn) → l 143 = some (.ref R.w) → l 135 = some (.ref R.bx) →
    ∃ l' h', loopV (vSs (vF (n + 8)) b_turn) (fun _ => true) 147 (turnsV T j) l h = some (.next, l', h')
  | 0, T, B, D, h, l, _, _, _, _, _, _, _, _ => ⟨l, h, rfl⟩
  | j + 1, T, B, D, h, l, x, h0, hT, hB, y, l1, l2, l3 => by
    obtain ⟨D', h1, l', e1, x1, y1, c1, c2, c3⟩ := c_turn n x h0 (by omega) (by omega) y l1 l2 l3
    obtain ⟨l2', h2, e2⟩ := loop_turns n j (T + 1) (B + 6) D' h1 l' x1 (by omega) (by omega) (by omega) y1 c1 c2 c3
    exact ⟨l2', h2, loop_next e1 rfl e2⟩

theorem box_at (is : List Int) : Bx (is.take 40) ((boxH is).setL 1 [.ref 0, .int 1]) where
  nxt := rfl
  emp := fun r q => by
    have q : 2 ≤ r := q
    have a : ¬ r = 0 := by omega
    have b : ¬ r = 1 := by omega
    simp [setL_lst, newL_nxt, newL_lst, boxH, VH0, a, b]
  tup := fun r => rfl
  sd := fun r => rfl
  ic := fun r => rfl
  lbx := by simp [setL_lst]
  lbl := by simp [setL_lst, newL_nxt, newL_lst, boxH, VH0]

theorem plain : ∀ is : List Int, ∃ l' h', vSs (vF 10) (.cons lw1 (.cons lw2 (.cons lw3 (.cons lw4 (.cons lw5 (.cons lw6 .nil)))))) (upd loc0 n_box (some (.ref 1))) (boxH is) = some (.ret (.bool true), l', h') := fun is => by
  let l0 : Loc := upd loc0 n_box (some (.ref 1))
  have a1 : l0 135 = some (.ref 1) := by simp [l0, upd]
  obtain ⟨v, v0, v3, e1⟩ := c_take (n := 9) (is := is.take 40) (bx := 1) (bl := 0) (c := 0) (m := 3) (h := boxH is) (by decide) (by simp [newL_nxt, newL_lst, boxH, VH0]) (by simp [newL_nxt, newL_lst, boxH, VH0]) (by decide) (by decide) (by decide)
  have e1 : vF 10 31 [.ref 1, .int 3] (boxH is) = some (.int v, (boxH is).setL 1 [.ref 0, .int 1]) := e1
  obtain ⟨sp, hsp, hs⟩ : ∃ sp : Nat, (sp : Int) = 2 - v ∧ sp ≤ 2 := ⟨(2 - v).toNat, by omega, by omega⟩
  let l1 : Loc := upd l0 139 (some (.int sp))
  have s1 : vS (vF 10) lw1 l0 (boxH is) = some (.next, l1, (boxH is).setL 1 [.ref 0, .int 1]) := by
    have q : vS (vF 10) lw1 l0 (boxH is) = some (.next, upd l0 139 (some (.int (2 - v))), (boxH is).setL 1 [.ref 0, .int 1]) := X_asg (E_bin E_int (E_fn rfl (Es_cons (E_loc a1) (Es_cons E_int Es_nil)) e1) N_sub) A_name
    rw [← hsp] at q
    exact q
  obtain ⟨h2, t, a, e2, x2⟩ := c_state 7 (box_at is) sp hs
  have e2 : vF 10 32 [.int sp] ((boxH is).setL 1 [.ref 0, .int 1]) = some (.ref 2, h2) := e2
  let l2 : Loc := upd l1 78 (some (.ref 2))
  have s2 : vS (vF 10) lw2 l1 ((boxH is).setL 1 [.ref 0, .int 1]) = some (.next, l2, h2) := by
    have u : l1 139 = some (.int sp) := rfl
    exact X_asg (E_fn rfl (Es_cons (E_loc u) Es_nil) e2) A_name
  obtain ⟨h3, R, D, s3, x3, y3, r1, r2⟩ := c_world (vF 10) x2 hs (l := l2) (by simp [l2, l1, upd])
  let l3 : Loc := upd l2 143 (some (.ref R.w))
  obtain ⟨l4, h4, e4⟩ := loop_turns 2 6 0 1 D h3 l3 x3 (by decide) (by decide) (by decide) ⟨_, _, _, _, _, y3⟩ (by rw [r1]; simp [l3, l2, upd]) (by simp [l3, upd]) (by rw [r2]; simp [l3, l2, l1, upd, a1])
  have s5 : vS (vF 10) lw5 l3 h3 = some (.next, l4, h4) := by
    rw [lw5_is]
    have tv : ((List.range (6 : Int).toNat).map fun k : Nat => VV.int (k : Int)) = turnsV 0 6 := rfl
    exact X_for0 E_none E_int (by decide) (tv.symm ▸ e4)
  refine ⟨l4, h4, seq_next s1 (seq_next s2 (s3 _ _ (seq_next s5 (seq_ret ?_))))⟩
  exact X_ret E_bool
end Mine
end
namespace Mine
set_option tactic.hygienic false
theorem plain10 : Plain 10 := fun is _ => plain is
end Mine
set_option tactic.hygienic false
theorem PySem.Challenge.cw_pf0278_01_holds : PySem.Challenge.rw_pf0278_01.Holds :=
  Mine.holds_of 10 (by decide) Mine.plain10
