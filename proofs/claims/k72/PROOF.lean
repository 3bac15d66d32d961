import PyProof.Rows.All
import Wide.All
import OpenK.AllK
import Wide.FinOn
import HandS.ForMost
import HandS.Codes
import HandS.Defaults
import HandS.TupAny
import HandS.Evl
import PySem.Challenge.RW_reedtapes_k72_whole_cut_tapes_go_on
import HandS.More
import KE.KStateDown
import HandS.Head0
import HandS.Head1
import HandS.Head2
import HandS.HeadEnd
import KE.KFinally
import KE.KUnpackStar
import HandS.DictComp
import HandS.SortRule
import HandS.SortInts
import HandS.DictTup
import HandS.ListItems
import HandS.SortKw
import KE.DataMinMax
import PyProof.P3Eq
import HandS.Zip0
import HandS.MakeKwOnly
import KE.KDictCopyH
import KE.KDictOf
import HandS.TryOnly
import HandS.IsInst
import HandS.Small
import HandS.OwnEq
import HandS.Zip
import KE.GoesEnumKw
import PyProof.StrBlockL
import PyProof.StrBlock2
import HandS.Conv
set_option Elab.async false
set_option linter.all false
set_option maxRecDepth 100000
set_option maxHeartbeats 2000000
namespace Tp
open PySem PySem.Spec PyProof.Rows L2
/-! ### the text by places -/
def topS (i : Nat) : Stmt := PySem.Challenge.pw_reedtapes_k72_whole_cut_tapes_go_on.main.body.getD i (.Pass ⟨0, 0, 0, 0⟩)
/-! ### facts of a def -/
abbrev FnF (K : PySem.W.Frag) (mg : Str → Option Value) (x y : Str) (st : Stmt) : Prop := ∃ f fd, FunD K x x (defArgs st) (defBody st) (defScope st) [] [] f fd ∧ mg y = some (.ref f)
abbrev MtF (K : PySem.W.Frag) (C : Addr) (m qual : Str) (st : Stmt) : Prop := ∃ f fd, FunD K m qual (defArgs st) (defBody st) (defScope st) [] [] f fd ∧ Meth K C m f
abbrev InF (K : PySem.W.Frag) (C : Addr) (qual : Str) (st : Stmt) (dvs : List V) (kws : List (Str × V)) : Prop := ∃ f fd, FunD K "__init__" qual (defArgs st) (defBody st) (defScope st) dvs kws f fd ∧ Mk K C f
section
variable {P : Program} {w : World} {K : PySem.W.Frag} {mg : Str → Option Value} {base : Heap} {st : Stmt} {N ps : List Str} {k : Nat} {sp : Sp} {C : Addr} {m qual x y : Str}
abbrev BindF (x qual : Str) (st : Stmt) (ps : List Str) : Prop := ∀ (kV doc pm : Value) (an : Option Addr) (cdv ct : Value) (us : List Value), us.length = ps.length →
  bindArgs (PySem.W.fnOf x qual (defArgs st) (defBody st) (defScope st) .none kV doc pm an cdv ct) ⟨us, []⟩ = pure (ps.zip us)
abbrev BodyF (P : Program) (w : World) (K : PySem.W.Frag) (mg : Str → Option Value) (base : Heap) (N : List Str) (qual : Str) (st : Stmt) (k : Nat) (sp : Sp) : Prop :=
  ∀ (f : Addr) (cdv : Value) (A : Around) (outer : List Env) (s : Shared) (H : Hp) (vs : List V) (Q : VK) (E : XK), Room k (A.deeper (envOfC qual (defScope st) s.heap.objs.size f cdv)) → sp vs H Q E →
    ∃ t, PSs (cxOf CX0 P w K mg base N qual (defScope st) f cdv A outer s H E).nox (defBody st) t ∧ t { nx := fun _ H' => Q .non H', rt := Q } (start N vs) H
theorem calD (h : FnF K mg x y st) (S : FnScope N ps (defScope st)) (b : BindF x x st ps) (len : ∀ vs H Q E, sp vs H Q E → vs.length = ps.length) (body : BodyF P w K mg base N x st k sp) : C8.Cal P w K mg base (k + 1) y sp [] := by
  obtain ⟨f, fd, F, hm⟩ := h
  refine ⟨⟨f, fd, ps, [], F.ok S len (fun cdv A outer s H vs Q E hr hsp => ?_), hm, F.kp, F.bindsN b, .nil⟩⟩
  obtain ⟨t, h1, h2⟩ := body f cdv A outer s H vs Q E hr hsp
  exact ⟨t, h1.nox, h2⟩
theorem metD (c : Cls K C) (h : MtF K C m qual st) (S : FnScope N ps (defScope st)) (b : BindF m qual st ps) (len : ∀ vs H Q E, sp vs H Q E → vs.length = ps.length) (body : BodyF P w K mg base N qual st k sp) : C8.Met P w K mg base (k + 1) C m sp [] := by
  obtain ⟨f, fd, F, hm⟩ := h
  refine ⟨⟨f, fd, ps, [], c, hm, F.ok S len (fun cdv A outer s H vs Q E hr hsp => ?_), F.bindsN b, .nil⟩⟩
  obtain ⟨t, h1, h2⟩ := body f cdv A outer s H vs Q E hr hsp
  exact ⟨t, h1.nox, h2⟩
theorem iniD (h : InF K C qual st [] []) (hx : mg x = some (.ref C)) (S : FnScope N ps (defScope st)) (b : BindF "__init__" qual st ps) (len : ∀ vs H Q E, sp vs H Q E → vs.length = ps.length) (body : BodyF P w K mg base N qual st k sp) : C8.Mak P w K mg base (k + 1) x C sp [] := by
  obtain ⟨f, fd, F, hm⟩ := h
  refine ⟨⟨f, fd, ps, [], hm, F.ok S len (fun cdv A outer s H vs Q E hr hsp => ?_), hx, F.bindsN b, .nil⟩⟩
  obtain ⟨t, h1, h2⟩ := body f cdv A outer s H vs Q E hr hsp
  exact ⟨t, h1.nox, h2⟩
end
section
variable {X : Cx} {k j : Nat} {C : Addr} {x : Str} {sp : Sp} {dvs : List V} {p pos : Pos}
theorem pe_mk0 (c : C8.Mak X.prog X.w X.K X.mg X.base k x C sp dvs) (hr : Room j X.A) (hk : k + 1 ≤ j) (hg : Gl X x) (hdb : (x == ("__debug__" : Str)) = false := by decide) :
    PE X (.Call (.Name x p) [] [] pos) (tMake C sp dvs E0 tNil) := by
  obtain ⟨f, fd, ps, ds, M, F, hm, b, d⟩ := c.ex
  exact pe_make0 M F (hr.mono hk) hg hm b d pass0 hdb
end
/-! ### heaps: what may change left out -/
def wo (N : List Addr) (H : Hp) : Hp := fun b => if b ∈ N then none else H b
def Live (N : List Addr) (H : Hp) : Prop := ∀ n ∈ N, ∃ o, H n = some o
section
variable {N : List Addr} {H H' H2 : Hp} {p b : Addr} {o : HO} {K : PySem.W.Frag} {xs : List V}
theorem wo_of (h : wo N H b = some o) : b ∉ N ∧ H b = some o := by
  unfold wo at h
  by_cases e : b ∈ N
  · rw [if_pos e] at h
    cases h
  · rw [if_neg e] at h
    exact ⟨e, h⟩
theorem wo_at (e : b ∉ N) (h : H b = some o) : wo N H b = some o := by
  unfold wo
  rw [if_neg e]
  exact h
theorem wo_sub : Same (wo N H) H := fun _ _ h => (wo_of h).2
theorem wo_same (s : Same H H') : Same (wo N H) (wo N H') := fun b o h => wo_at (wo_of h).1 (s b o (wo_of h).2)
theorem wo_but (s : ∀ b o, H b = some o → b ∉ N → H' b = some o) : Same (wo N H) (wo N H') := fun b o h => wo_at (wo_of h).1 (s b o (wo_of h).2 (wo_of h).1)
theorem same_new (n : H p = none) : Same H (upd H p o) := fun b u e => by
  rw [upd_ne (ne_of_none e n)]
  exact e
/-- an object that H doesn't know may change -/
theorem same_mut (s : Same H H') (n : H p = none) : Same H (upd H' p o) := fun b u e => by
  rw [upd_ne (ne_of_none e n)]
  exact s b u e
theorem wo_mut (m : p ∈ N) : Same (wo N H) (wo N (upd H p o)) := fun b u e => by
  obtain ⟨h1, h2⟩ := wo_of e
  exact wo_at h1 (by rw [upd_ne (fun z => h1 (by rw [z]; exact m))]; exact h2)
theorem wo_newM (n : H p = none) : Same (wo N H) (wo (p :: N) (upd H p o)) := fun b u e => by
  obtain ⟨h1, h2⟩ := wo_of e
  have hb : b ≠ p := ne_of_none h2 n
  exact wo_at (fun z => (List.mem_cons.mp z).elim hb h1) (by rw [upd_ne hb]; exact h2)
theorem wo_more (n : H p = none) (s : Same H H') : Same (wo N H) (wo (p :: N) H') := fun b u e => by
  obtain ⟨h1, h2⟩ := wo_of e
  exact wo_at (fun z => (List.mem_cons.mp z).elim (ne_of_none h2 n) h1) (s b u h2)
theorem wo_drop : Same (wo (p :: N) H) (wo N H) := fun b u e => by
  obtain ⟨h1, h2⟩ := wo_of e
  exact wo_at (fun z => h1 (List.mem_cons_of_mem _ z)) h2
theorem Live.notin (l : Live N H) (n : H p = none) : p ∉ N := fun z => by
  obtain ⟨o, e⟩ := l p z
  rw [n] at e
  cases e
theorem Live.same (l : Live N H) (s : Same H H') : Live N H' := fun n h => let ⟨o, e⟩ := l n h; ⟨o, s n o e⟩
theorem Live.cons (l : Live N H) (h : H p = some o) : Live (p :: N) H := fun n hn => (List.mem_cons.mp hn).elim (fun e => ⟨o, by rw [e]; exact h⟩) (l n)
theorem Live.nil : Live [] H := fun _ h => nomatch h
theorem live_upd (l : Live N H) : Live N (upd H p o) := fun n h => by
  by_cases e : n = p
  · rw [e]
    exact ⟨o, upd_same⟩
  · obtain ⟨u, q⟩ := l n h
    exact ⟨u, by rw [upd_ne e]; exact q⟩
theorem sqL_mono (s : Same H H') (h : SqL K H b xs) : SqL K H' b xs := s.seq h
theorem sqT_mono (s : Same H H') (h : SqT K H b xs) : SqT K H' b xs := by
  rcases h with (h | ⟨o, h⟩) | h
  · exact .inl (.inl (s _ _ h))
  · exact .inl (.inr ⟨o, s _ _ h⟩)
  · exact .inr h
theorem Same.none (s : Same H H') (n : H' p = none) : H p = none := s.free n
/-! ### data -/
mutual
theorem dp_mono (s : Same H H') : ∀ {d : PyData} {v : V}, Dp K H v d → Dp K H' v d
  | _, _, .non => .non
  | _, _, .bl b => .bl b
  | _, _, .int i => .int i
  | _, _, .str x => .str x
  | _, _, .lst h a => .lst (sqL_mono s h) (dpA_mono s a)
  | _, _, .tup h a => .tup (sqT_mono s h) (dpA_mono s a)
theorem dpA_mono (s : Same H H') : ∀ {ds : List PyData} {vs : List V}, DpAll K H vs ds → DpAll K H' vs ds
  | _, _, .nil => .nil
  | _, _, .cons h t => .cons (dp_mono s h) (dpA_mono s t)
end
variable {v : V} {d : PyData} {ds : List PyData} {i : Int} {z : Str}
theorem dp_int (h : Dp K H v (.int i)) : v = .int i := by
  cases h
  rfl
theorem dp_str (h : Dp K H v (.str z)) : v = .str z := by
  cases h
  rfl
theorem dp_lst (h : Dp K H v (.list ds)) : ∃ a xs, v = .ref a ∧ SqL K H a xs ∧ DpAll K H xs ds := by
  cases h with
  | lst h a => exact ⟨_, _, rfl, h, a⟩
theorem dp_tup (h : Dp K H v (.tuple ds)) : ∃ a xs, v = .ref a ∧ SqT K H a xs ∧ DpAll K H xs ds := by
  cases h with
  | tup h a => exact ⟨_, _, rfl, h, a⟩
theorem dpA_len : ∀ {ds : List PyData} {vs : List V}, DpAll K H vs ds → vs.length = ds.length
  | _, _, .nil => rfl
  | _, _, .cons _ t => congrArg Nat.succ (dpA_len t)
theorem dpA_at : ∀ {ds : List PyData} {vs : List V} {i : Nat} {v : V}, DpAll K H vs ds → vs[i]? = some v → ∃ d, ds[i]? = some d ∧ Dp K H v d
  | _, _, _, _, .nil, e => by cases e
  | _, _, 0, _, .cons h _, e => by
    cases e
    exact ⟨_, rfl, h⟩
  | _, _, i + 1, _, .cons _ t, e => dpA_at (i := i) t e
theorem dpA_at' : ∀ {ds : List PyData} {vs : List V} {i : Nat} {d : PyData}, DpAll K H vs ds → ds[i]? = some d → ∃ v, vs[i]? = some v ∧ Dp K H v d
  | _, _, _, _, .nil, e => by cases e
  | _, _, 0, _, .cons h _, e => by
    cases e
    exact ⟨_, rfl, h⟩
  | _, _, i + 1, _, .cons _ t, e => dpA_at' (i := i) t e
theorem dpA_app : ∀ {ds es : List PyData} {vs us : List V}, DpAll K H vs ds → DpAll K H us es → DpAll K H (vs ++ us) (ds ++ es)
  | _, _, _, _, .nil, h => h
  | _, _, _, _, .cons h t, q => .cons h (dpA_app t q)
theorem dpA_take : ∀ {ds : List PyData} {vs : List V} (n : Nat), DpAll K H vs ds → DpAll K H (vs.take n) (ds.take n)
  | _, _, 0, _ => .nil
  | _, _, _ + 1, .nil => .nil
  | _, _, n + 1, .cons h t => .cons h (dpA_take n t)
theorem dpA_drop : ∀ {ds : List PyData} {vs : List V} (n : Nat), DpAll K H vs ds → DpAll K H (vs.drop n) (ds.drop n)
  | _, _, 0, h => h
  | _, _, _ + 1, .nil => .nil
  | _, _, n + 1, .cons _ t => dpA_drop n t
theorem dpA_one (h : Dp K H v d) : DpAll K H [v] [d] := .cons h .nil
theorem dpA_set : ∀ {ds : List PyData} {vs : List V} (n : Nat), DpAll K H vs ds → Dp K H v d → DpAll K H (vs.set n v) (ds.set n d)
  | _, _, _, .nil, _ => .nil
  | _, _, 0, .cons _ t, h => .cons h t
  | _, _, n + 1, .cons h t, q => .cons h (dpA_set n t q)
end
end Tp
set_option maxHeartbeats 2000000
namespace Tp
open PySem PySem.Spec PyProof.Rows L2
/-- where the classes stand, and the objects of the defaults -/
structure Ad where
  cM : Addr
  cT : Addr
  cS : Addr
  cD : Addr
  aF : Addr
  aS : Addr
  aD : Addr
  eT : Addr
  eP : Addr
  eM : Addr
abbrev s_is_between : Stmt := topS 30
abbrev s_is_text : Stmt := topS 31
abbrev s_is_event : Stmt := topS 32
abbrev s_need_track : Stmt := topS 33
abbrev s_need_tick : Stmt := topS 34
abbrev s_need_room_events : Stmt := topS 35
abbrev s_later : Stmt := topS 37
abbrev s_put_in : Stmt := topS 40
abbrev s_common : Stmt := topS 46
abbrev s_share : Stmt := topS 47
abbrev s_need_beat : Stmt := topS 48
abbrev s_need_pace : Stmt := topS 49
abbrev s_Map___init__ : Stmt := inClass (topS 50) 0
abbrev s_Map___eq__ : Stmt := inClass (topS 50) 2
abbrev s_Map_put : Stmt := inClass (topS 50) 4
abbrev s_Map_beat : Stmt := inClass (topS 50) 6
abbrev s_Map_paces : Stmt := inClass (topS 50) 7
abbrev s_Map_pace_at : Stmt := inClass (topS 50) 8
abbrev s_Map_stretches : Stmt := inClass (topS 50) 9
abbrev s_Map_moment : Stmt := inClass (topS 50) 10
abbrev s_Map_twin : Stmt := inClass (topS 50) 13
abbrev s_Tape___init__ : Stmt := inClass (topS 66) 0
abbrev s_Tape___eq__ : Stmt := inClass (topS 66) 2
abbrev s_Tape_beat : Stmt := inClass (topS 66) 4
abbrev s_Tape_tracks : Stmt := inClass (topS 66) 5
abbrev s_Tape_paces : Stmt := inClass (topS 66) 6
abbrev s_Tape_paced : Stmt := inClass (topS 66) 7
abbrev s_Stand___init__ : Stmt := inClass (topS 68) 0
abbrev s_Stand___eq__ : Stmt := inClass (topS 68) 2
abbrev s_Stand_parts : Stmt := inClass (topS 68) 3
abbrev s_Stand_after : Stmt := inClass (topS 68) 4
abbrev s_Stand_sounds : Stmt := inClass (topS 68) 5
abbrev s_Stand_knobs : Stmt := inClass (topS 68) 6
abbrev s_Stand_voices : Stmt := inClass (topS 68) 7
abbrev s_stand_behind : Stmt := topS 69
abbrev s_cut : Stmt := topS 73
abbrev s_glued : Stmt := topS 74
abbrev s_need_new : Stmt := topS 80
abbrev s_need_room_deeds : Stmt := topS 81
abbrev s_tape_of : Stmt := topS 83
abbrev s_track_of : Stmt := topS 84
abbrev s_with_track : Stmt := topS 85
abbrev s_do_new : Stmt := topS 86
abbrev s_do_add : Stmt := topS 87
abbrev s_do_put : Stmt := topS 88
abbrev s_do_pace : Stmt := topS 90
abbrev s_do_cut : Stmt := topS 100
abbrev s_after : Stmt := topS 102
abbrev s_Deck___init__ : Stmt := inClass (topS 104) 0
abbrev s_Deck_do : Stmt := inClass (topS 104) 3
abbrev s_Deck_do_all : Stmt := inClass (topS 104) 4
abbrev s_Deck_undo : Stmt := inClass (topS 104) 6
abbrev s_Deck_names : Stmt := inClass (topS 104) 9
abbrev s_Deck_tape : Stmt := inClass (topS 104) 10
abbrev s_ahead_of : Stmt := topS 106
abbrev s_timed : Stmt := topS 107
abbrev s_next_moment : Stmt := topS 108
abbrev s_unlike : Stmt := topS 109
abbrev s__law_begin : Stmt := topS 111
abbrev s__law_pick : Stmt := topS 112
abbrev s__law_channel : Stmt := topS 113
abbrev s__law_key : Stmt := topS 114
abbrev s__law_one : Stmt := topS 115
abbrev s__law_word : Stmt := topS 116
abbrev s__law_thing : Stmt := topS 117
abbrev s__law_keen_track : Stmt := topS 118
abbrev s__law_beat : Stmt := topS 119
abbrev s__law_tick : Stmt := topS 120
abbrev s__law_pace : Stmt := topS 121
abbrev s__law_paces : Stmt := topS 122
abbrev s__law_pairs : Stmt := topS 123
abbrev s_law : Stmt := topS 124
/-- what the top has written -/
structure Tx (w : World) (K : PySem.W.Frag) (mg : Str → Option Value) (a : Ad) : Prop where
  f_len : mg "len" = none
  f_range : mg "range" = none
  f_min : mg "min" = none
  f_max : mg "max" = none
  f_abs : mg "abs" = none
  f_list : mg "list" = none
  f_dict : mg "dict" = none
  f_sorted : mg "sorted" = none
  f_all : mg "all" = none
  f_isinstance : mg "isinstance" = none
  f_int : mg "int" = none
  f_str : mg "str" = none
  f_enumerate : mg "enumerate" = none
  f_zip : mg "zip" = none
  g_MOST_TICK : ∃ u, mg "MOST_TICK" = some u ∧ RelV (.int 999999) u
  g_MOST_EVENTS : ∃ u, mg "MOST_EVENTS" = some u ∧ RelV (.int 200) u
  g_MOST_SIGNS_events : ∃ u, mg "MOST_SIGNS_events" = some u ∧ RelV (.int 12) u
  g_USUAL : ∃ u, mg "USUAL" = some u ∧ RelV (.int 500000) u
  g_MOST_BEAT : ∃ u, mg "MOST_BEAT" = some u ∧ RelV (.int 960) u
  g_MOST_PACE : ∃ u, mg "MOST_PACE" = some u ∧ RelV (.int 16777215) u
  g_MOST_PACES : ∃ u, mg "MOST_PACES" = some u ∧ RelV (.int 20) u
  g_SOFT : ∃ u, mg "SOFT" = some u ∧ RelV (.int 64) u
  g_MOST_TRACKS : ∃ u, mg "MOST_TRACKS" = some u ∧ RelV (.int 6) u
  g_MOST_TAPES : ∃ u, mg "MOST_TAPES" = some u ∧ RelV (.int 6) u
  g_MOST_SIGNS_deeds : ∃ u, mg "MOST_SIGNS_deeds" = some u ∧ RelV (.int 8) u
  g_SIGNS : ∃ u, mg "SIGNS" = some u ∧ RelV (.str "abcdefghijklmnopqrstuvwxyz0123456789 ") u
  g_LETTERS : ∃ u, mg "LETTERS" = some u ∧ RelV (.str "abcdefghijklmnopqrstuvwxyz") u
  g_FORMS : ∃ u, mg "FORMS" = some u ∧ RelV (.ref a.aF) u
  g_SIZES : ∃ u, mg "SIZES" = some u ∧ RelV (.ref a.aS) u
  g_DEEDS : ∃ u, mg "DEEDS" = some u ∧ RelV (.ref a.aD) u
  x_F : ∃ es n, KDict K w a.aF es n
  x_S : ∃ es n, KDict K w a.aS es n
  x_D : ∃ es n, KDict K w a.aD es n
  x_S_new : ∃ u, PySem.W.nsIn K a.aS "new" = some (some u) ∧ RelV (.int 3) u
  x_S_add : ∃ u, PySem.W.nsIn K a.aS "add" = some (some u) ∧ RelV (.int 2) u
  x_S_put : ∃ u, PySem.W.nsIn K a.aS "put" = some (some u) ∧ RelV (.int 4) u
  x_S_pace : ∃ u, PySem.W.nsIn K a.aS "pace" = some (some u) ∧ RelV (.int 4) u
  x_S_cut : ∃ u, PySem.W.nsIn K a.aS "cut" = some (some u) ∧ RelV (.int 4) u
  x_D_new : ∃ f, mg "do_new" = some (.ref f) ∧ PySem.W.nsIn K a.aD "new" = some (some (.ref f))
  x_D_add : ∃ f, mg "do_add" = some (.ref f) ∧ PySem.W.nsIn K a.aD "add" = some (some (.ref f))
  x_D_put : ∃ f, mg "do_put" = some (.ref f) ∧ PySem.W.nsIn K a.aD "put" = some (some (.ref f))
  x_D_pace : ∃ f, mg "do_pace" = some (.ref f) ∧ PySem.W.nsIn K a.aD "pace" = some (some (.ref f))
  x_F_on : ∃ t, PySem.W.nsIn K a.aF "on" = some (some (.ref t)) ∧ Dp K (fun _ => none) (.ref t) (.tuple [.tuple [.int 0, .int 15], .tuple [.int 0, .int 127], .tuple [.int 1, .int 127]])
  x_F_off : ∃ t, PySem.W.nsIn K a.aF "off" = some (some (.ref t)) ∧ Dp K (fun _ => none) (.ref t) (.tuple [.tuple [.int 0, .int 15], .tuple [.int 0, .int 127], .tuple [.int 0, .int 127]])
  x_F_knob : ∃ t, PySem.W.nsIn K a.aF "knob" = some (some (.ref t)) ∧ Dp K (fun _ => none) (.ref t) (.tuple [.tuple [.int 0, .int 15], .tuple [.int 0, .int 127], .tuple [.int 0, .int 127]])
  x_F_voice : ∃ t, PySem.W.nsIn K a.aF "voice" = some (some (.ref t)) ∧ Dp K (fun _ => none) (.ref t) (.tuple [.tuple [.int 0, .int 15], .tuple [.int 0, .int 127]])
  x_eP : Dp K (fun _ => none) (.ref a.eP) (.tuple [])
  x_eT : Dp K (fun _ => none) (.ref a.eT) (.tuple [.tuple []])
  x_ne : PySem.W.findIn K (.ref a.cS) "__ne__" = some (some (.builtin "object.__ne__"))
  m_Map : mg "Map" = some (.ref a.cM)
  cl_Map : Cls K a.cM
  is_Map : C8.InsC K a.cM
  n_Map_ticks : NoAttr K a.cM "ticks"
  n_Map_known : NoAttr K a.cM "known"
  m_Tape : mg "Tape" = some (.ref a.cT)
  cl_Tape : Cls K a.cT
  is_Tape : C8.InsC K a.cT
  n_Tape_own : NoAttr K a.cT "own"
  n_Tape_rows : NoAttr K a.cT "rows"
  m_Stand : mg "Stand" = some (.ref a.cS)
  cl_Stand : Cls K a.cS
  is_Stand : C8.InsC K a.cS
  n_Stand_ringing : NoAttr K a.cS "ringing"
  n_Stand_turned : NoAttr K a.cS "turned"
  n_Stand_chosen : NoAttr K a.cS "chosen"
  m_Deck : mg "Deck" = some (.ref a.cD)
  cl_Deck : Cls K a.cD
  n_Deck_book : NoAttr K a.cD "book"
  n_Deck_elder : NoAttr K a.cD "elder"
  n_Deck_past : NoAttr K a.cD "past"
  n_Deck_ahead : NoAttr K a.cD "ahead"
  n_Deck_under : NoAttr K a.cD "under"
  d_is_between : FnF K mg "is_between" "is_between" s_is_between
  d_is_text : FnF K mg "is_text" "is_text" s_is_text
  d_is_event : FnF K mg "is_event" "is_event" s_is_event
  d_need_track : FnF K mg "need_track" "need_track" s_need_track
  d_need_tick : FnF K mg "need_tick" "need_tick" s_need_tick
  d_need_room_events : FnF K mg "need_room" "need_room_events" s_need_room_events
  d_later : FnF K mg "later" "later" s_later
  d_put_in : FnF K mg "put_in" "put_in" s_put_in
  d_common : FnF K mg "common" "common" s_common
  d_share : FnF K mg "share" "share" s_share
  d_need_beat : FnF K mg "need_beat" "need_beat" s_need_beat
  d_need_pace : FnF K mg "need_pace" "need_pace" s_need_pace
  d_Map___init__ : InF K a.cM "Map.__init__" s_Map___init__ [.ref a.eM] []
  d_Map___eq__ : MtF K a.cM "__eq__" "Map.__eq__" s_Map___eq__
  d_Map_put : MtF K a.cM "put" "Map.put" s_Map_put
  d_Map_beat : MtF K a.cM "beat" "Map.beat" s_Map_beat
  d_Map_paces : MtF K a.cM "paces" "Map.paces" s_Map_paces
  d_Map_pace_at : MtF K a.cM "pace_at" "Map.pace_at" s_Map_pace_at
  d_Map_stretches : MtF K a.cM "stretches" "Map.stretches" s_Map_stretches
  d_Map_moment : MtF K a.cM "moment" "Map.moment" s_Map_moment
  d_Map_twin : MtF K a.cM "twin" "Map.twin" s_Map_twin
  d_Tape___init__ : InF K a.cT "Tape.__init__" s_Tape___init__ [.int 96, .ref a.eT] [("paces", .ref a.eP)]
  d_Tape___eq__ : MtF K a.cT "__eq__" "Tape.__eq__" s_Tape___eq__
  d_Tape_beat : MtF K a.cT "beat" "Tape.beat" s_Tape_beat
  d_Tape_tracks : MtF K a.cT "tracks" "Tape.tracks" s_Tape_tracks
  d_Tape_paces : MtF K a.cT "paces" "Tape.paces" s_Tape_paces
  d_Tape_paced : MtF K a.cT "paced" "Tape.paced" s_Tape_paced
  d_Stand___init__ : InF K a.cS "Stand.__init__" s_Stand___init__ [] []
  d_Stand___eq__ : MtF K a.cS "__eq__" "Stand.__eq__" s_Stand___eq__
  d_Stand_parts : MtF K a.cS "parts" "Stand.parts" s_Stand_parts
  d_Stand_after : MtF K a.cS "after" "Stand.after" s_Stand_after
  d_Stand_sounds : MtF K a.cS "sounds" "Stand.sounds" s_Stand_sounds
  d_Stand_knobs : MtF K a.cS "knobs" "Stand.knobs" s_Stand_knobs
  d_Stand_voices : MtF K a.cS "voices" "Stand.voices" s_Stand_voices
  d_stand_behind : FnF K mg "stand_behind" "stand_behind" s_stand_behind
  d_cut : FnF K mg "cut" "cut" s_cut
  d_glued : FnF K mg "glued" "glued" s_glued
  d_need_new : FnF K mg "need_new" "need_new" s_need_new
  d_need_room_deeds : FnF K mg "need_room" "need_room_deeds" s_need_room_deeds
  d_tape_of : FnF K mg "tape_of" "tape_of" s_tape_of
  d_track_of : FnF K mg "track_of" "track_of" s_track_of
  d_with_track : FnF K mg "with_track" "with_track" s_with_track
  d_do_new : FnF K mg "do_new" "do_new" s_do_new
  d_do_add : FnF K mg "do_add" "do_add" s_do_add
  d_do_put : FnF K mg "do_put" "do_put" s_do_put
  d_do_pace : FnF K mg "do_pace" "do_pace" s_do_pace
  d_do_cut : FnF K mg "do_cut" "do_cut" s_do_cut
  d_after : FnF K mg "after" "after" s_after
  d_Deck___init__ : InF K a.cD "Deck.__init__" s_Deck___init__ [] []
  d_Deck_do : MtF K a.cD "do" "Deck.do" s_Deck_do
  d_Deck_do_all : MtF K a.cD "do_all" "Deck.do_all" s_Deck_do_all
  d_Deck_undo : MtF K a.cD "undo" "Deck.undo" s_Deck_undo
  d_Deck_names : MtF K a.cD "names" "Deck.names" s_Deck_names
  d_Deck_tape : MtF K a.cD "tape" "Deck.tape" s_Deck_tape
  d_ahead_of : FnF K mg "ahead_of" "ahead_of" s_ahead_of
  d_timed : FnF K mg "timed" "timed" s_timed
  d_next_moment : FnF K mg "next_moment" "next_moment" s_next_moment
  d_unlike : FnF K mg "unlike" "unlike" s_unlike
  d__law_begin : FnF K mg "_law_begin" "_law_begin" s__law_begin
  d__law_pick : FnF K mg "_law_pick" "_law_pick" s__law_pick
  d__law_channel : FnF K mg "_law_channel" "_law_channel" s__law_channel
  d__law_key : FnF K mg "_law_key" "_law_key" s__law_key
  d__law_one : FnF K mg "_law_one" "_law_one" s__law_one
  d__law_word : FnF K mg "_law_word" "_law_word" s__law_word
  d__law_thing : FnF K mg "_law_thing" "_law_thing" s__law_thing
  d__law_keen_track : FnF K mg "_law_keen_track" "_law_keen_track" s__law_keen_track
  d__law_beat : FnF K mg "_law_beat" "_law_beat" s__law_beat
  d__law_tick : FnF K mg "_law_tick" "_law_tick" s__law_tick
  d__law_pace : FnF K mg "_law_pace" "_law_pace" s__law_pace
  d__law_paces : FnF K mg "_law_paces" "_law_paces" s__law_paces
  d__law_pairs : FnF K mg "_law_pairs" "_law_pairs" s__law_pairs
  d_law : FnF K mg "law" "law" s_law
end Tp
set_option maxHeartbeats 0
namespace TpH
open PySem PySem.Spec PyProof.Rows L2 Tp
def ob3 (w : World) : Obj := ⟨(.type "dict"), none, .dict #[⟨PyData.keyHash w.params "__name__", (.str "__name__" 165), (.str "law_reedtapes_k72_whole_cut_tapes_go_on" 1762)⟩, ⟨PyData.keyHash w.params "__doc__", (.str "__doc__" 166), .none⟩, ⟨PyData.keyHash w.params "__package__", (.str "__package__" 167), .none⟩, ⟨PyData.keyHash w.params "__loader__", (.str "__loader__" 168), (.builtin "__main__.__loader__#opaque")⟩, ⟨PyData.keyHash w.params "__spec__", (.str "__spec__" 169), .none⟩, ⟨PyData.keyHash w.params "__annotations__", (.str "__annotations__" 170), (.ref 6)⟩, ⟨PyData.keyHash w.params "__builtins__", (.str "__builtins__" 171), (.ref 4)⟩, ⟨PyData.keyHash w.params "__file__", (.str "__file__" 173), (.str "/claim/cut.py" 172)⟩, ⟨PyData.keyHash w.params "__cached__", (.str "__cached__" 174), .none⟩, ⟨PyData.keyHash w.params "_wall", (.str "_wall" 193), (.ref 21)⟩, ⟨PyData.keyHash w.params "TapeError", (.str "TapeError" 221), (.ref 38)⟩, ⟨PyData.keyHash w.params "MissingError", (.str "MissingError" 247), (.ref 58)⟩, ⟨PyData.keyHash w.params "BadEvent", (.str "BadEvent" 271), (.ref 78)⟩, ⟨PyData.keyHash w.params "BadBeat", (.str "BadBeat" 295), (.ref 97)⟩, ⟨PyData.keyHash w.params "BadPace", (.str "BadPace" 319), (.ref 116)⟩, ⟨PyData.keyHash w.params "BadTick", (.str "BadTick" 343), (.ref 135)⟩, ⟨PyData.keyHash w.params "BadKey", (.str "BadKey" 367), (.ref 154)⟩, ⟨PyData.keyHash w.params "BadGrid", (.str "BadGrid" 391), (.ref 173)⟩, ⟨PyData.keyHash w.params "BadChannel", (.str "BadChannel" 415), (.ref 192)⟩, ⟨PyData.keyHash w.params "BadName", (.str "BadName" 439), (.ref 211)⟩, ⟨PyData.keyHash w.params "Taken", (.str "Taken" 463), (.ref 230)⟩, ⟨PyData.keyHash w.params "Full", (.str "Full" 487), (.ref 249)⟩, ⟨PyData.keyHash w.params "BadDeed", (.str "BadDeed" 511), (.ref 268)⟩, ⟨PyData.keyHash w.params "NothingLeft", (.str "NothingLeft" 535), (.ref 287)⟩, ⟨PyData.keyHash w.params "BadTrack", (.str "BadTrack" 561), (.ref 306)⟩, ⟨PyData.keyHash w.params "NotWhole", (.str "NotWhole" 587), (.ref 325)⟩, ⟨PyData.keyHash w.params "NoTape", (.str "NoTape" 611), (.ref 344)⟩, ⟨PyData.keyHash w.params "NoTrack", (.str "NoTrack" 635), (.ref 363)⟩, ⟨PyData.keyHash w.params "NoEvent", (.str "NoEvent" 659), (.ref 382)⟩, ⟨PyData.keyHash w.params "NoPace", (.str "NoPace" 683), (.ref 401)⟩, ⟨PyData.keyHash w.params "MOST_TICK", (.str "MOST_TICK" 687), (.int 999999 686)⟩, ⟨PyData.keyHash w.params "MOST_EVENTS", (.str "MOST_EVENTS" 689), (.int 200 688)⟩, ⟨PyData.keyHash w.params "MOST_SIGNS_events", (.str "MOST_SIGNS_events" 691), (.int 12 690)⟩, ⟨PyData.keyHash w.params "SIGNS", (.str "SIGNS" 693), (.str "abcdefghijklmnopqrstuvwxyz0123456789 " 692)⟩, ⟨PyData.keyHash w.params "CHANNEL", (.str "CHANNEL" 696), (.ref 404)⟩, ⟨PyData.keyHash w.params "SEVEN", (.str "SEVEN" 699), (.ref 405)⟩, ⟨PyData.keyHash w.params "FORMS", (.str "FORMS" 710), (.ref 406)⟩, ⟨PyData.keyHash w.params "is_between", (.str "is_between" 720), (.ref 418)⟩, ⟨PyData.keyHash w.params "is_text", (.str "is_text" 726), (.ref 423)⟩, ⟨PyData.keyHash w.params "is_event", (.str "is_event" 732), (.ref 428)⟩, ⟨PyData.keyHash w.params "need_track", (.str "need_track" 741), (.ref 435)⟩, ⟨PyData.keyHash w.params "need_tick", (.str "need_tick" 748), (.ref 442)⟩, ⟨PyData.keyHash w.params "need_room", (.str "need_room" 755), (.ref 869)⟩, ⟨PyData.keyHash w.params "need_room_events", (.str "need_room_events" 756), (.ref 449)⟩, ⟨PyData.keyHash w.params "later", (.str "later" 762), (.ref 454)⟩, ⟨PyData.keyHash w.params "keyed_event", (.str "keyed_event" 771), (.ref 461)⟩, ⟨PyData.keyHash w.params "keyed", (.str "keyed" 777), (.ref 466)⟩, ⟨PyData.keyHash w.params "put_in", (.str "put_in" 783), (.ref 471)⟩, ⟨PyData.keyHash w.params "USUAL", (.str "USUAL" 787), (.int 500000 786)⟩, ⟨PyData.keyHash w.params "MOST_BEAT", (.str "MOST_BEAT" 789), (.int 960 788)⟩, ⟨PyData.keyHash w.params "MOST_PACE", (.str "MOST_PACE" 791), (.int 16777215 790)⟩, ⟨PyData.keyHash w.params "MOST_PACES", (.str "MOST_PACES" 793), (.int 20 792)⟩, ⟨PyData.keyHash w.params "common", (.str "common" 801), (.ref 478)⟩, ⟨PyData.keyHash w.params "share", (.str "share" 810), (.ref 485)⟩, ⟨PyData.keyHash w.params "need_beat", (.str "need_beat" 817), (.ref 492)⟩, ⟨PyData.keyHash w.params "need_pace", (.str "need_pace" 824), (.ref 499)⟩, ⟨PyData.keyHash w.params "Map", (.str "Map" 954), (.ref 603)⟩, ⟨PyData.keyHash w.params "MOST_STEP", (.str "MOST_STEP" 958), (.int 9999 957)⟩, ⟨PyData.keyHash w.params "WHOLE", (.str "WHOLE" 960), (.int 100 959)⟩, ⟨PyData.keyHash w.params "Grid", (.str "Grid" 1027), (.ref 651)⟩, ⟨PyData.keyHash w.params "evened", (.str "evened" 1033), (.ref 660)⟩, ⟨PyData.keyHash w.params "SOFT", (.str "SOFT" 1037), (.int 64 1036)⟩, ⟨PyData.keyHash w.params "paired", (.str "paired" 1054), (.ref 667)⟩, ⟨PyData.keyHash w.params "notes", (.str "notes" 1061), (.ref 674)⟩, ⟨PyData.keyHash w.params "lone", (.str "lone" 1068), (.ref 681)⟩, ⟨PyData.keyHash w.params "hung", (.str "hung" 1074), (.ref 686)⟩, ⟨PyData.keyHash w.params "cured", (.str "cured" 1081), (.ref 692)⟩, ⟨PyData.keyHash w.params "MOST_TRACKS", (.str "MOST_TRACKS" 1085), (.int 6 1084)⟩, ⟨PyData.keyHash w.params "PLAIN_BEAT", (.str "PLAIN_BEAT" 1087), (.int 96 1086)⟩, ⟨PyData.keyHash w.params "Tape", (.str "Tape" 1165), (.ref 757)⟩, ⟨PyData.keyHash w.params "Stand", (.str "Stand" 1253), (.ref 821)⟩, ⟨PyData.keyHash w.params "stand_behind", (.str "stand_behind" 1263), (.ref 832)⟩, ⟨PyData.keyHash w.params "is_of", (.str "is_of" 1273), (.ref 839)⟩, ⟨PyData.keyHash w.params "apart", (.str "apart" 1279), (.ref 844)⟩, ⟨PyData.keyHash w.params "cut", (.str "cut" 1285), (.ref 849)⟩, ⟨PyData.keyHash w.params "glued", (.str "glued" 1295), (.ref 856)⟩, ⟨PyData.keyHash w.params "MOST_TAPES", (.str "MOST_TAPES" 1299), (.int 6 1298)⟩, ⟨PyData.keyHash w.params "MOST_SIGNS_deeds", (.str "MOST_SIGNS_deeds" 1301), (.int 8 1300)⟩, ⟨PyData.keyHash w.params "LETTERS", (.str "LETTERS" 1303), (.str "abcdefghijklmnopqrstuvwxyz" 1302)⟩, ⟨PyData.keyHash w.params "SIZES", (.str "SIZES" 1349), (.ref 857)⟩, ⟨PyData.keyHash w.params "need_new", (.str "need_new" 1355), (.ref 862)⟩, ⟨PyData.keyHash w.params "need_room_deeds", (.str "need_room_deeds" 1363), (.ref 869)⟩, ⟨PyData.keyHash w.params "tape_of", (.str "tape_of" 1371), (.ref 876)⟩, ⟨PyData.keyHash w.params "track_of", (.str "track_of" 1380), (.ref 883)⟩, ⟨PyData.keyHash w.params "with_track", (.str "with_track" 1390), (.ref 890)⟩, ⟨PyData.keyHash w.params "do_new", (.str "do_new" 1400), (.ref 897)⟩, ⟨PyData.keyHash w.params "do_add", (.str "do_add" 1410), (.ref 904)⟩, ⟨PyData.keyHash w.params "do_put", (.str "do_put" 1422), (.ref 911)⟩, ⟨PyData.keyHash w.params "do_take", (.str "do_take" 1435), (.ref 918)⟩, ⟨PyData.keyHash w.params "do_pace", (.str "do_pace" 1446), (.ref 925)⟩, ⟨PyData.keyHash w.params "do_unpace", (.str "do_unpace" 1457), (.ref 932)⟩, ⟨PyData.keyHash w.params "do_later", (.str "do_later" 1467), (.ref 939)⟩, ⟨PyData.keyHash w.params "do_keyed", (.str "do_keyed" 1477), (.ref 946)⟩, ⟨PyData.keyHash w.params "do_even", (.str "do_even" 1492), (.ref 953)⟩, ⟨PyData.keyHash w.params "do_cure", (.str "do_cure" 1502), (.ref 960)⟩, ⟨PyData.keyHash w.params "do_merge", (.str "do_merge" 1517), (.ref 967)⟩, ⟨PyData.keyHash w.params "do_part", (.str "do_part" 1532), (.ref 974)⟩, ⟨PyData.keyHash w.params "at_new_beat", (.str "at_new_beat" 1542), (.ref 981)⟩, ⟨PyData.keyHash w.params "do_beat", (.str "do_beat" 1548), (.ref 986)⟩, ⟨PyData.keyHash w.params "do_cut", (.str "do_cut" 1554), (.ref 991)⟩, ⟨PyData.keyHash w.params "DEEDS", (.str "DEEDS" 1581), (.ref 992)⟩, ⟨PyData.keyHash w.params "after", (.str "after" 1594), (.ref 999)⟩, ⟨PyData.keyHash w.params "Deck", (.str "Deck" 1720), (.ref 1096)⟩, ⟨PyData.keyHash w.params "ahead_of", (.str "ahead_of" 1730), (.ref 1107)⟩, ⟨PyData.keyHash w.params "timed", (.str "timed" 1736), (.ref 1112)⟩, ⟨PyData.keyHash w.params "next_moment", (.str "next_moment" 1744), (.ref 1119)⟩, ⟨PyData.keyHash w.params "unlike", (.str "unlike" 1761), (.ref 1126)⟩, ⟨PyData.keyHash w.params "_law_begin", (.str "_law_begin" 1770), (.ref 1133)⟩, ⟨PyData.keyHash w.params "_law_pick", (.str "_law_pick" 1780), (.ref 1140)⟩, ⟨PyData.keyHash w.params "_law_channel", (.str "_law_channel" 1787), (.ref 1147)⟩, ⟨PyData.keyHash w.params "_law_key", (.str "_law_key" 1794), (.ref 1154)⟩, ⟨PyData.keyHash w.params "_law_one", (.str "_law_one" 1802), (.ref 1161)⟩, ⟨PyData.keyHash w.params "_law_word", (.str "_law_word" 1808), (.ref 1166)⟩, ⟨PyData.keyHash w.params "_law_thing", (.str "_law_thing" 1817), (.ref 1173)⟩, ⟨PyData.keyHash w.params "_law_keen_track", (.str "_law_keen_track" 1823), (.ref 1178)⟩, ⟨PyData.keyHash w.params "_law_beat", (.str "_law_beat" 1830), (.ref 1185)⟩, ⟨PyData.keyHash w.params "_law_tick", (.str "_law_tick" 1837), (.ref 1192)⟩, ⟨PyData.keyHash w.params "_law_pace", (.str "_law_pace" 1844), (.ref 1199)⟩, ⟨PyData.keyHash w.params "_law_paces", (.str "_law_paces" 1854), (.ref 1206)⟩, ⟨PyData.keyHash w.params "_law_pairs", (.str "_law_pairs" 1860), (.ref 1211)⟩, ⟨PyData.keyHash w.params "law", (.str "law" 1866), (.ref 1216)⟩] 121, #[]⟩
def ob603 : Obj := ⟨(.type "type"), none, .cls ⟨"Map", [(.type "object")], [(.ref 603), (.type "object")], 602, "Map", true, [], [], false, none, false⟩, #[none, none, (some (.str "Map" 825)), (some (.str "Map" 833)), (some (.builtin "object.__new__")), (some (.bool true))]⟩
def ob602 (w : World) : Obj := ⟨(.type "dict"), none, .dict #[⟨PyData.keyHash w.params "__module__", (.str "__module__" 832), (.str "reedtapes.maps" 784)⟩, ⟨PyData.keyHash w.params "__firstlineno__", (.str "__firstlineno__" 836), (.int 158 835)⟩, ⟨PyData.keyHash w.params "__init__", (.str "__init__" 842), (.ref 513)⟩, ⟨PyData.keyHash w.params "__len__", (.str "__len__" 849), (.ref 520)⟩, ⟨PyData.keyHash w.params "__eq__", (.str "__eq__" 857), (.ref 527)⟩, ⟨PyData.keyHash w.params "__repr__", (.str "__repr__" 864), (.ref 534)⟩, ⟨PyData.keyHash w.params "put", (.str "put" 873), (.ref 541)⟩, ⟨PyData.keyHash w.params "drop", (.str "drop" 881), (.ref 548)⟩, ⟨PyData.keyHash w.params "beat", (.str "beat" 888), (.ref 555)⟩, ⟨PyData.keyHash w.params "paces", (.str "paces" 895), (.ref 562)⟩, ⟨PyData.keyHash w.params "pace_at", (.str "pace_at" 901), (.ref 567)⟩, ⟨PyData.keyHash w.params "stretches", (.str "stretches" 914), (.ref 574)⟩, ⟨PyData.keyHash w.params "moment", (.str "moment" 920), (.ref 579)⟩, ⟨PyData.keyHash w.params "tick_of", (.str "tick_of" 928), (.ref 586)⟩, ⟨PyData.keyHash w.params "near", (.str "near" 936), (.ref 593)⟩, ⟨PyData.keyHash w.params "twin", (.str "twin" 943), (.ref 600)⟩, ⟨PyData.keyHash w.params "__static_attributes__", (.str "__static_attributes__" 946), (.ref 601)⟩, ⟨PyData.keyHash w.params "__dict__", (.str "__dict__" 948), (.ref 604)⟩, ⟨PyData.keyHash w.params "__weakref__", (.str "__weakref__" 950), (.ref 605)⟩, ⟨PyData.keyHash w.params "__doc__", (.str "__doc__" 951), .none⟩, ⟨PyData.keyHash w.params "__hash__", (.str "__hash__" 952), .none⟩] 5, #[]⟩
def ob757 : Obj := ⟨(.type "type"), none, .cls ⟨"Tape", [(.type "object")], [(.ref 757), (.type "object")], 756, "Tape", true, [], [], false, none, false⟩, #[none, none, (some (.str "Tape" 1088)), (some (.str "Tape" 1096)), (some (.builtin "object.__new__")), (some (.bool true))]⟩
def ob756 (w : World) : Obj := ⟨(.type "dict"), none, .dict #[⟨PyData.keyHash w.params "__module__", (.str "__module__" 1095), (.str "reedtapes.tape" 1082)⟩, ⟨PyData.keyHash w.params "__firstlineno__", (.str "__firstlineno__" 1099), (.int 294 1098)⟩, ⟨PyData.keyHash w.params "__init__", (.str "__init__" 1106), (.ref 709)⟩, ⟨PyData.keyHash w.params "__len__", (.str "__len__" 1112), (.ref 714)⟩, ⟨PyData.keyHash w.params "__eq__", (.str "__eq__" 1120), (.ref 721)⟩, ⟨PyData.keyHash w.params "__repr__", (.str "__repr__" 1127), (.ref 728)⟩, ⟨PyData.keyHash w.params "beat", (.str "beat" 1134), (.ref 735)⟩, ⟨PyData.keyHash w.params "tracks", (.str "tracks" 1140), (.ref 740)⟩, ⟨PyData.keyHash w.params "paces", (.str "paces" 1147), (.ref 747)⟩, ⟨PyData.keyHash w.params "paced", (.str "paced" 1154), (.ref 754)⟩, ⟨PyData.keyHash w.params "__static_attributes__", (.str "__static_attributes__" 1157), (.ref 755)⟩, ⟨PyData.keyHash w.params "__dict__", (.str "__dict__" 1159), (.ref 758)⟩, ⟨PyData.keyHash w.params "__weakref__", (.str "__weakref__" 1161), (.ref 759)⟩, ⟨PyData.keyHash w.params "__doc__", (.str "__doc__" 1162), .none⟩, ⟨PyData.keyHash w.params "__hash__", (.str "__hash__" 1163), .none⟩] 5, #[]⟩
def ob821 : Obj := ⟨(.type "type"), none, .cls ⟨"Stand", [(.type "object")], [(.ref 821), (.type "object")], 820, "Stand", true, [], [], false, none, false⟩, #[none, none, (some (.str "Stand" 1168)), (some (.str "Stand" 1176)), (some (.builtin "object.__new__")), (some (.bool true))]⟩
def ob820 (w : World) : Obj := ⟨(.type "dict"), none, .dict #[⟨PyData.keyHash w.params "__module__", (.str "__module__" 1175), (.str "reedtapes.stands" 1166)⟩, ⟨PyData.keyHash w.params "__firstlineno__", (.str "__firstlineno__" 1179), (.int 325 1178)⟩, ⟨PyData.keyHash w.params "__init__", (.str "__init__" 1186), (.ref 775)⟩, ⟨PyData.keyHash w.params "__len__", (.str "__len__" 1193), (.ref 782)⟩, ⟨PyData.keyHash w.params "__eq__", (.str "__eq__" 1201), (.ref 789)⟩, ⟨PyData.keyHash w.params "parts", (.str "parts" 1208), (.ref 796)⟩, ⟨PyData.keyHash w.params "after", (.str "after" 1223), (.ref 803)⟩, ⟨PyData.keyHash w.params "sounds", (.str "sounds" 1229), (.ref 808)⟩, ⟨PyData.keyHash w.params "knobs", (.str "knobs" 1235), (.ref 813)⟩, ⟨PyData.keyHash w.params "voices", (.str "voices" 1241), (.ref 818)⟩, ⟨PyData.keyHash w.params "__static_attributes__", (.str "__static_attributes__" 1245), (.ref 819)⟩, ⟨PyData.keyHash w.params "__dict__", (.str "__dict__" 1247), (.ref 822)⟩, ⟨PyData.keyHash w.params "__weakref__", (.str "__weakref__" 1249), (.ref 823)⟩, ⟨PyData.keyHash w.params "__doc__", (.str "__doc__" 1250), .none⟩, ⟨PyData.keyHash w.params "__hash__", (.str "__hash__" 1251), .none⟩] 5, #[]⟩
def ob1096 : Obj := ⟨(.type "type"), none, .cls ⟨"Deck", [(.type "object")], [(.ref 1096), (.type "object")], 1095, "Deck", true, [], [], false, none, false⟩, #[none, none, (some (.str "Deck" 1597)), (some (.str "Deck" 1605)), (some (.builtin "object.__new__")), (some (.bool true))]⟩
def ob1095 (w : World) : Obj := ⟨(.type "dict"), none, .dict #[⟨PyData.keyHash w.params "__module__", (.str "__module__" 1604), (.str "reedtapes.deck" 1595)⟩, ⟨PyData.keyHash w.params "__firstlineno__", (.str "__firstlineno__" 1608), (.int 527 1607)⟩, ⟨PyData.keyHash w.params "__init__", (.str "__init__" 1615), (.ref 1013)⟩, ⟨PyData.keyHash w.params "__len__", (.str "__len__" 1622), (.ref 1020)⟩, ⟨PyData.keyHash w.params "__eq__", (.str "__eq__" 1628), (.ref 1025)⟩, ⟨PyData.keyHash w.params "do", (.str "do" 1636), (.ref 1032)⟩, ⟨PyData.keyHash w.params "do_all", (.str "do_all" 1647), (.ref 1039)⟩, ⟨PyData.keyHash w.params "busy", (.str "busy" 1654), (.ref 1046)⟩, ⟨PyData.keyHash w.params "undo", (.str "undo" 1663), (.ref 1053)⟩, ⟨PyData.keyHash w.params "redo", (.str "redo" 1670), (.ref 1060)⟩, ⟨PyData.keyHash w.params "deeds", (.str "deeds" 1676), (.ref 1065)⟩, ⟨PyData.keyHash w.params "names", (.str "names" 1683), (.ref 1072)⟩, ⟨PyData.keyHash w.params "tape", (.str "tape" 1691), (.ref 1079)⟩, ⟨PyData.keyHash w.params "fresh", (.str "fresh" 1698), (.ref 1086)⟩, ⟨PyData.keyHash w.params "twin", (.str "twin" 1706), (.ref 1093)⟩, ⟨PyData.keyHash w.params "__static_attributes__", (.str "__static_attributes__" 1712), (.ref 1094)⟩, ⟨PyData.keyHash w.params "__dict__", (.str "__dict__" 1714), (.ref 1097)⟩, ⟨PyData.keyHash w.params "__weakref__", (.str "__weakref__" 1716), (.ref 1098)⟩, ⟨PyData.keyHash w.params "__doc__", (.str "__doc__" 1717), .none⟩, ⟨PyData.keyHash w.params "__hash__", (.str "__hash__" 1718), .none⟩] 5, #[]⟩
def ob418 : Obj := ⟨(.type "function"), none, .func (PySem.W.fnOf "is_between" "is_between" (defArgs (topS 30)) (defBody (topS 30)) (defScope (topS 30)) .none .none .none (.str "reedtapes.events" 684) none (.ref 417) .none), #[]⟩
def ob417 : Obj := ⟨(.type "code"), none, .fields #[(.str "is_between" 711), (.str "is_between" 712), (.str "/claim/cut.py" 713), (.int 95 0), (.int 2 0), (.int 0 0), (.int 0 0), (.int 3 0), (.ref 412), (.bool true), (.int 181 0), (.ref 413), .none, (.ref 414), (.ref 415), (.ref 416), (.int 718 0), (.int 95 0), (.str "/claim/cut.py" 719)], #[]⟩
def ob423 : Obj := ⟨(.type "function"), none, .func (PySem.W.fnOf "is_text" "is_text" (defArgs (topS 31)) (defBody (topS 31)) (defScope (topS 31)) .none .none .none (.str "reedtapes.events" 684) none (.ref 422) .none), #[]⟩
def ob422 : Obj := ⟨(.type "code"), none, .fields #[(.str "is_text" 721), (.str "is_text" 722), (.str "/claim/cut.py" 723), (.int 98 0), (.int 1 0), (.int 0 0), (.int 0 0), (.int 3 0), (.ref 419), (.bool true), (.int 181 0), (.ref 420), .none, .none, .none, (.ref 421), (.int 724 0), (.int 98 0), (.str "/claim/cut.py" 725)], #[]⟩
def ob428 : Obj := ⟨(.type "function"), none, .func (PySem.W.fnOf "is_event" "is_event" (defArgs (topS 32)) (defBody (topS 32)) (defScope (topS 32)) .none .none .none (.str "reedtapes.events" 684) none (.ref 427) .none), #[]⟩
def ob427 : Obj := ⟨(.type "code"), none, .fields #[(.str "is_event" 727), (.str "is_event" 728), (.str "/claim/cut.py" 729), (.int 100 0), (.int 1 0), (.int 0 0), (.int 0 0), (.int 3 0), (.ref 424), (.bool true), (.int 181 0), (.ref 425), .none, .none, .none, (.ref 426), (.int 730 0), (.int 100 0), (.str "/claim/cut.py" 731)], #[]⟩
def ob435 : Obj := ⟨(.type "function"), none, .func (PySem.W.fnOf "need_track" "need_track" (defArgs (topS 33)) (defBody (topS 33)) (defScope (topS 33)) .none .none .none (.str "reedtapes.events" 684) none (.ref 434) .none), #[]⟩
def ob434 : Obj := ⟨(.type "code"), none, .fields #[(.str "need_track" 733), (.str "need_track" 734), (.str "/claim/cut.py" 735), (.int 109 0), (.int 1 0), (.int 0 0), (.int 0 0), (.int 3 0), (.ref 429), (.bool true), (.int 181 0), (.ref 430), .none, (.ref 431), (.ref 432), (.ref 433), (.int 739 0), (.int 109 0), (.str "/claim/cut.py" 740)], #[]⟩
def ob442 : Obj := ⟨(.type "function"), none, .func (PySem.W.fnOf "need_tick" "need_tick" (defArgs (topS 34)) (defBody (topS 34)) (defScope (topS 34)) .none .none .none (.str "reedtapes.events" 684) none (.ref 441) .none), #[]⟩
def ob441 : Obj := ⟨(.type "code"), none, .fields #[(.str "need_tick" 742), (.str "need_tick" 743), (.str "/claim/cut.py" 744), (.int 113 0), (.int 1 0), (.int 0 0), (.int 0 0), (.int 3 0), (.ref 436), (.bool true), (.int 181 0), (.ref 437), .none, (.ref 438), (.ref 439), (.ref 440), (.int 746 0), (.int 113 0), (.str "/claim/cut.py" 747)], #[]⟩
def ob449 : Obj := ⟨(.type "function"), none, .func (PySem.W.fnOf "need_room" "need_room" (defArgs (topS 35)) (defBody (topS 35)) (defScope (topS 35)) .none .none .none (.str "reedtapes.events" 684) none (.ref 448) .none), #[]⟩
def ob448 : Obj := ⟨(.type "code"), none, .fields #[(.str "need_room" 749), (.str "need_room" 750), (.str "/claim/cut.py" 751), (.int 116 0), (.int 1 0), (.int 0 0), (.int 0 0), (.int 3 0), (.ref 443), (.bool true), (.int 181 0), (.ref 444), .none, (.ref 445), (.ref 446), (.ref 447), (.int 753 0), (.int 116 0), (.str "/claim/cut.py" 754)], #[]⟩
def ob454 : Obj := ⟨(.type "function"), none, .func (PySem.W.fnOf "later" "later" (defArgs (topS 37)) (defBody (topS 37)) (defScope (topS 37)) .none .none .none (.str "reedtapes.events" 684) none (.ref 453) .none), #[]⟩
def ob453 : Obj := ⟨(.type "code"), none, .fields #[(.str "later" 757), (.str "later" 758), (.str "/claim/cut.py" 759), (.int 120 0), (.int 2 0), (.int 0 0), (.int 0 0), (.int 3 0), (.ref 450), (.bool true), (.int 181 0), (.ref 451), .none, .none, .none, (.ref 452), (.int 760 0), (.int 120 0), (.str "/claim/cut.py" 761)], #[]⟩
def ob471 : Obj := ⟨(.type "function"), none, .func (PySem.W.fnOf "put_in" "put_in" (defArgs (topS 40)) (defBody (topS 40)) (defScope (topS 40)) .none .none .none (.str "reedtapes.events" 684) none (.ref 470) .none), #[]⟩
def ob470 : Obj := ⟨(.type "code"), none, .fields #[(.str "put_in" 778), (.str "put_in" 779), (.str "/claim/cut.py" 780), (.int 133 0), (.int 2 0), (.int 0 0), (.int 0 0), (.int 3 0), (.ref 467), (.bool true), (.int 181 0), (.ref 468), .none, .none, .none, (.ref 469), (.int 781 0), (.int 133 0), (.str "/claim/cut.py" 782)], #[]⟩
def ob478 : Obj := ⟨(.type "function"), none, .func (PySem.W.fnOf "common" "common" (defArgs (topS 46)) (defBody (topS 46)) (defScope (topS 46)) .none .none .none (.str "reedtapes.maps" 784) none (.ref 477) .none), #[]⟩
def ob477 : Obj := ⟨(.type "code"), none, .fields #[(.str "common" 794), (.str "common" 795), (.str "/claim/cut.py" 796), (.int 145 0), (.int 2 0), (.int 0 0), (.int 0 0), (.int 3 0), (.ref 472), (.bool true), (.int 181 0), (.ref 473), .none, (.ref 474), (.ref 475), (.ref 476), (.int 799 0), (.int 145 0), (.str "/claim/cut.py" 800)], #[]⟩
def ob485 : Obj := ⟨(.type "function"), none, .func (PySem.W.fnOf "share" "share" (defArgs (topS 47)) (defBody (topS 47)) (defScope (topS 47)) .none .none .none (.str "reedtapes.maps" 784) none (.ref 484) .none), #[]⟩
def ob484 : Obj := ⟨(.type "code"), none, .fields #[(.str "share" 802), (.str "share" 803), (.str "/claim/cut.py" 804), (.int 149 0), (.int 2 0), (.int 0 0), (.int 0 0), (.int 3 0), (.ref 479), (.bool true), (.int 181 0), (.ref 480), .none, (.ref 481), (.ref 482), (.ref 483), (.int 808 0), (.int 149 0), (.str "/claim/cut.py" 809)], #[]⟩
def ob492 : Obj := ⟨(.type "function"), none, .func (PySem.W.fnOf "need_beat" "need_beat" (defArgs (topS 48)) (defBody (topS 48)) (defScope (topS 48)) .none .none .none (.str "reedtapes.maps" 784) none (.ref 491) .none), #[]⟩
def ob491 : Obj := ⟨(.type "code"), none, .fields #[(.str "need_beat" 811), (.str "need_beat" 812), (.str "/claim/cut.py" 813), (.int 152 0), (.int 1 0), (.int 0 0), (.int 0 0), (.int 3 0), (.ref 486), (.bool true), (.int 181 0), (.ref 487), .none, (.ref 488), (.ref 489), (.ref 490), (.int 815 0), (.int 152 0), (.str "/claim/cut.py" 816)], #[]⟩
def ob499 : Obj := ⟨(.type "function"), none, .func (PySem.W.fnOf "need_pace" "need_pace" (defArgs (topS 49)) (defBody (topS 49)) (defScope (topS 49)) .none .none .none (.str "reedtapes.maps" 784) none (.ref 498) .none), #[]⟩
def ob498 : Obj := ⟨(.type "code"), none, .fields #[(.str "need_pace" 818), (.str "need_pace" 819), (.str "/claim/cut.py" 820), (.int 155 0), (.int 1 0), (.int 0 0), (.int 0 0), (.int 3 0), (.ref 493), (.bool true), (.int 181 0), (.ref 494), .none, (.ref 495), (.ref 496), (.ref 497), (.int 822 0), (.int 155 0), (.str "/claim/cut.py" 823)], #[]⟩
def ob832 : Obj := ⟨(.type "function"), none, .func (PySem.W.fnOf "stand_behind" "stand_behind" (defArgs (topS 69)) (defBody (topS 69)) (defScope (topS 69)) .none .none .none (.str "reedtapes.stands" 1166) none (.ref 831) .none), #[]⟩
def ob831 : Obj := ⟨(.type "code"), none, .fields #[(.str "stand_behind" 1254), (.str "stand_behind" 1255), (.str "/claim/cut.py" 1256), (.int 365 0), (.int 2 0), (.int 0 0), (.int 0 0), (.int 3 0), (.ref 826), (.bool true), (.int 181 0), (.ref 827), .none, (.ref 828), (.ref 829), (.ref 830), (.int 1261 0), (.int 365 0), (.str "/claim/cut.py" 1262)], #[]⟩
def ob849 : Obj := ⟨(.type "function"), none, .func (PySem.W.fnOf "cut" "cut" (defArgs (topS 73)) (defBody (topS 73)) (defScope (topS 73)) .none .none .none (.str "reedtapes.tracks" 1264) none (.ref 848) .none), #[]⟩
def ob848 : Obj := ⟨(.type "code"), none, .fields #[(.str "cut" 1280), (.str "cut" 1281), (.str "/claim/cut.py" 1282), (.int 376 0), (.int 2 0), (.int 0 0), (.int 0 0), (.int 3 0), (.ref 845), (.bool true), (.int 181 0), (.ref 846), .none, .none, .none, (.ref 847), (.int 1283 0), (.int 376 0), (.str "/claim/cut.py" 1284)], #[]⟩
def ob856 : Obj := ⟨(.type "function"), none, .func (PySem.W.fnOf "glued" "glued" (defArgs (topS 74)) (defBody (topS 74)) (defScope (topS 74)) .none .none .none (.str "reedtapes.tracks" 1264) none (.ref 855) .none), #[]⟩
def ob855 : Obj := ⟨(.type "code"), none, .fields #[(.str "glued" 1286), (.str "glued" 1287), (.str "/claim/cut.py" 1288), (.int 387 0), (.int 3 0), (.int 0 0), (.int 0 0), (.int 3 0), (.ref 850), (.bool true), (.int 181 0), (.ref 851), .none, (.ref 852), (.ref 853), (.ref 854), (.int 1293 0), (.int 387 0), (.str "/claim/cut.py" 1294)], #[]⟩
def ob862 : Obj := ⟨(.type "function"), none, .func (PySem.W.fnOf "need_new" "need_new" (defArgs (topS 80)) (defBody (topS 80)) (defScope (topS 80)) .none .none .none (.str "reedtapes.deeds" 1296) none (.ref 861) .none), #[]⟩
def ob861 : Obj := ⟨(.type "code"), none, .fields #[(.str "need_new" 1350), (.str "need_new" 1351), (.str "/claim/cut.py" 1352), (.int 399 0), (.int 2 0), (.int 0 0), (.int 0 0), (.int 3 0), (.ref 858), (.bool true), (.int 181 0), (.ref 859), .none, .none, .none, (.ref 860), (.int 1353 0), (.int 399 0), (.str "/claim/cut.py" 1354)], #[]⟩
def ob869 : Obj := ⟨(.type "function"), none, .func (PySem.W.fnOf "need_room" "need_room" (defArgs (topS 81)) (defBody (topS 81)) (defScope (topS 81)) .none .none .none (.str "reedtapes.deeds" 1296) none (.ref 868) .none), #[]⟩
def ob868 : Obj := ⟨(.type "code"), none, .fields #[(.str "need_room" 1356), (.str "need_room" 1357), (.str "/claim/cut.py" 1358), (.int 404 0), (.int 1 0), (.int 0 0), (.int 0 0), (.int 3 0), (.ref 863), (.bool true), (.int 181 0), (.ref 864), .none, (.ref 865), (.ref 866), (.ref 867), (.int 1360 0), (.int 404 0), (.str "/claim/cut.py" 1361)], #[]⟩
def ob876 : Obj := ⟨(.type "function"), none, .func (PySem.W.fnOf "tape_of" "tape_of" (defArgs (topS 83)) (defBody (topS 83)) (defScope (topS 83)) .none .none .none (.str "reedtapes.deeds" 1296) none (.ref 875) .none), #[]⟩
def ob875 : Obj := ⟨(.type "code"), none, .fields #[(.str "tape_of" 1364), (.str "tape_of" 1365), (.str "/claim/cut.py" 1366), (.int 408 0), (.int 2 0), (.int 0 0), (.int 0 0), (.int 3 0), (.ref 870), (.bool true), (.int 181 0), (.ref 871), .none, (.ref 872), (.ref 873), (.ref 874), (.int 1369 0), (.int 408 0), (.str "/claim/cut.py" 1370)], #[]⟩
def ob883 : Obj := ⟨(.type "function"), none, .func (PySem.W.fnOf "track_of" "track_of" (defArgs (topS 84)) (defBody (topS 84)) (defScope (topS 84)) .none .none .none (.str "reedtapes.deeds" 1296) none (.ref 882) .none), #[]⟩
def ob882 : Obj := ⟨(.type "code"), none, .fields #[(.str "track_of" 1372), (.str "track_of" 1373), (.str "/claim/cut.py" 1374), (.int 412 0), (.int 2 0), (.int 0 0), (.int 0 0), (.int 3 0), (.ref 877), (.bool true), (.int 181 0), (.ref 878), .none, (.ref 879), (.ref 880), (.ref 881), (.int 1378 0), (.int 412 0), (.str "/claim/cut.py" 1379)], #[]⟩
def ob890 : Obj := ⟨(.type "function"), none, .func (PySem.W.fnOf "with_track" "with_track" (defArgs (topS 85)) (defBody (topS 85)) (defScope (topS 85)) .none .none .none (.str "reedtapes.deeds" 1296) none (.ref 889) .none), #[]⟩
def ob889 : Obj := ⟨(.type "code"), none, .fields #[(.str "with_track" 1381), (.str "with_track" 1382), (.str "/claim/cut.py" 1383), (.int 417 0), (.int 3 0), (.int 0 0), (.int 0 0), (.int 3 0), (.ref 884), (.bool true), (.int 181 0), (.ref 885), .none, (.ref 886), (.ref 887), (.ref 888), (.int 1388 0), (.int 417 0), (.str "/claim/cut.py" 1389)], #[]⟩
def ob897 : Obj := ⟨(.type "function"), none, .func (PySem.W.fnOf "do_new" "do_new" (defArgs (topS 86)) (defBody (topS 86)) (defScope (topS 86)) .none .none .none (.str "reedtapes.deeds" 1296) none (.ref 896) .none), #[]⟩
def ob896 : Obj := ⟨(.type "code"), none, .fields #[(.str "do_new" 1391), (.str "do_new" 1392), (.str "/claim/cut.py" 1393), (.int 421 0), (.int 3 0), (.int 0 0), (.int 0 0), (.int 3 0), (.ref 891), (.bool true), (.int 181 0), (.ref 892), .none, (.ref 893), (.ref 894), (.ref 895), (.int 1398 0), (.int 421 0), (.str "/claim/cut.py" 1399)], #[]⟩
def ob904 : Obj := ⟨(.type "function"), none, .func (PySem.W.fnOf "do_add" "do_add" (defArgs (topS 87)) (defBody (topS 87)) (defScope (topS 87)) .none .none .none (.str "reedtapes.deeds" 1296) none (.ref 903) .none), #[]⟩
def ob903 : Obj := ⟨(.type "code"), none, .fields #[(.str "do_add" 1401), (.str "do_add" 1402), (.str "/claim/cut.py" 1403), (.int 426 0), (.int 3 0), (.int 0 0), (.int 0 0), (.int 3 0), (.ref 898), (.bool true), (.int 181 0), (.ref 899), .none, (.ref 900), (.ref 901), (.ref 902), (.int 1408 0), (.int 426 0), (.str "/claim/cut.py" 1409)], #[]⟩
def ob911 : Obj := ⟨(.type "function"), none, .func (PySem.W.fnOf "do_put" "do_put" (defArgs (topS 88)) (defBody (topS 88)) (defScope (topS 88)) .none .none .none (.str "reedtapes.deeds" 1296) none (.ref 910) .none), #[]⟩
def ob910 : Obj := ⟨(.type "code"), none, .fields #[(.str "do_put" 1411), (.str "do_put" 1412), (.str "/claim/cut.py" 1413), (.int 429 0), (.int 3 0), (.int 0 0), (.int 0 0), (.int 3 0), (.ref 905), (.bool true), (.int 181 0), (.ref 906), .none, (.ref 907), (.ref 908), (.ref 909), (.int 1420 0), (.int 429 0), (.str "/claim/cut.py" 1421)], #[]⟩
def ob925 : Obj := ⟨(.type "function"), none, .func (PySem.W.fnOf "do_pace" "do_pace" (defArgs (topS 90)) (defBody (topS 90)) (defScope (topS 90)) .none .none .none (.str "reedtapes.deeds" 1296) none (.ref 924) .none), #[]⟩
def ob924 : Obj := ⟨(.type "code"), none, .fields #[(.str "do_pace" 1436), (.str "do_pace" 1437), (.str "/claim/cut.py" 1438), (.int 440 0), (.int 3 0), (.int 0 0), (.int 0 0), (.int 3 0), (.ref 919), (.bool true), (.int 181 0), (.ref 920), .none, (.ref 921), (.ref 922), (.ref 923), (.int 1444 0), (.int 440 0), (.str "/claim/cut.py" 1445)], #[]⟩
def ob991 : Obj := ⟨(.type "function"), none, .func (PySem.W.fnOf "do_cut" "do_cut" (defArgs (topS 100)) (defBody (topS 100)) (defScope (topS 100)) .none .none .none (.str "reedtapes.deeds" 1296) none (.ref 990) .none), #[]⟩
def ob990 : Obj := ⟨(.type "code"), none, .fields #[(.str "do_cut" 1549), (.str "do_cut" 1550), (.str "/claim/cut.py" 1551), (.int 499 0), (.int 3 0), (.int 0 0), (.int 0 0), (.int 3 0), (.ref 987), (.bool true), (.int 181 0), (.ref 988), .none, .none, .none, (.ref 989), (.int 1552 0), (.int 499 0), (.str "/claim/cut.py" 1553)], #[]⟩
def ob999 : Obj := ⟨(.type "function"), none, .func (PySem.W.fnOf "after" "after" (defArgs (topS 102)) (defBody (topS 102)) (defScope (topS 102)) .none .none .none (.str "reedtapes.deeds" 1296) none (.ref 998) .none), #[]⟩
def ob998 : Obj := ⟨(.type "code"), none, .fields #[(.str "after" 1582), (.str "after" 1583), (.str "/claim/cut.py" 1584), (.int 512 0), (.int 2 0), (.int 0 0), (.int 0 0), (.int 3 0), (.ref 993), (.bool true), (.int 181 0), (.ref 994), .none, (.ref 995), (.ref 996), (.ref 997), (.int 1592 0), (.int 512 0), (.str "/claim/cut.py" 1593)], #[]⟩
def ob1107 : Obj := ⟨(.type "function"), none, .func (PySem.W.fnOf "ahead_of" "ahead_of" (defArgs (topS 106)) (defBody (topS 106)) (defScope (topS 106)) .none .none .none (.str "reedtapes.sound" 1721) none (.ref 1106) .none), #[]⟩
def ob1106 : Obj := ⟨(.type "code"), none, .fields #[(.str "ahead_of" 1723), (.str "ahead_of" 1724), (.str "/claim/cut.py" 1725), (.int 596 0), (.int 2 0), (.int 0 0), (.int 0 0), (.int 3 0), (.ref 1101), (.bool true), (.int 181 0), (.ref 1102), .none, (.ref 1103), (.ref 1104), (.ref 1105), (.int 1728 0), (.int 596 0), (.str "/claim/cut.py" 1729)], #[]⟩
def ob1112 : Obj := ⟨(.type "function"), none, .func (PySem.W.fnOf "timed" "timed" (defArgs (topS 107)) (defBody (topS 107)) (defScope (topS 107)) .none .none .none (.str "reedtapes.sound" 1721) none (.ref 1111) .none), #[]⟩
def ob1111 : Obj := ⟨(.type "code"), none, .fields #[(.str "timed" 1731), (.str "timed" 1732), (.str "/claim/cut.py" 1733), (.int 598 0), (.int 2 0), (.int 0 0), (.int 0 0), (.int 3 0), (.ref 1108), (.bool true), (.int 181 0), (.ref 1109), .none, .none, .none, (.ref 1110), (.int 1734 0), (.int 598 0), (.str "/claim/cut.py" 1735)], #[]⟩
def ob1119 : Obj := ⟨(.type "function"), none, .func (PySem.W.fnOf "next_moment" "next_moment" (defArgs (topS 108)) (defBody (topS 108)) (defScope (topS 108)) .none .none .none (.str "reedtapes.sound" 1721) none (.ref 1118) .none), #[]⟩
def ob1118 : Obj := ⟨(.type "code"), none, .fields #[(.str "next_moment" 1737), (.str "next_moment" 1738), (.str "/claim/cut.py" 1739), (.int 600 0), (.int 2 0), (.int 0 0), (.int 0 0), (.int 3 0), (.ref 1113), (.bool true), (.int 181 0), (.ref 1114), .none, (.ref 1115), (.ref 1116), (.ref 1117), (.int 1742 0), (.int 600 0), (.str "/claim/cut.py" 1743)], #[]⟩
def ob1126 : Obj := ⟨(.type "function"), none, .func (PySem.W.fnOf "unlike" "unlike" (defArgs (topS 109)) (defBody (topS 109)) (defScope (topS 109)) .none .none .none (.str "reedtapes.sound" 1721) none (.ref 1125) .none), #[]⟩
def ob1125 : Obj := ⟨(.type "code"), none, .fields #[(.str "unlike" 1745), (.str "unlike" 1746), (.str "/claim/cut.py" 1747), (.int 604 0), (.int 4 0), (.int 0 0), (.int 0 0), (.int 3 0), (.ref 1120), (.bool true), (.int 181 0), (.ref 1121), .none, (.ref 1122), (.ref 1123), (.ref 1124), (.int 1759 0), (.int 604 0), (.str "/claim/cut.py" 1760)], #[]⟩
def ob1133 : Obj := ⟨(.type "function"), none, .func (PySem.W.fnOf "_law_begin" "_law_begin" (defArgs (topS 111)) (defBody (topS 111)) (defScope (topS 111)) .none .none .none (.str "law_reedtapes_k72_whole_cut_tapes_go_on" 1762) none (.ref 1132) .none), #[]⟩
def ob1132 : Obj := ⟨(.type "code"), none, .fields #[(.str "_law_begin" 1764), (.str "_law_begin" 1765), (.str "/claim/cut.py" 1766), (.int 619 0), (.int 1 0), (.int 0 0), (.int 0 0), (.int 3 0), (.ref 1127), (.bool true), (.int 181 0), (.ref 1128), .none, (.ref 1129), (.ref 1130), (.ref 1131), (.int 1768 0), (.int 619 0), (.str "/claim/cut.py" 1769)], #[]⟩
def ob1140 : Obj := ⟨(.type "function"), none, .func (PySem.W.fnOf "_law_pick" "_law_pick" (defArgs (topS 112)) (defBody (topS 112)) (defScope (topS 112)) .none .none .none (.str "law_reedtapes_k72_whole_cut_tapes_go_on" 1762) none (.ref 1139) .none), #[]⟩
def ob1139 : Obj := ⟨(.type "code"), none, .fields #[(.str "_law_pick" 1771), (.str "_law_pick" 1772), (.str "/claim/cut.py" 1773), (.int 621 0), (.int 2 0), (.int 0 0), (.int 0 0), (.int 3 0), (.ref 1134), (.bool true), (.int 181 0), (.ref 1135), .none, (.ref 1136), (.ref 1137), (.ref 1138), (.int 1778 0), (.int 621 0), (.str "/claim/cut.py" 1779)], #[]⟩
def ob1147 : Obj := ⟨(.type "function"), none, .func (PySem.W.fnOf "_law_channel" "_law_channel" (defArgs (topS 113)) (defBody (topS 113)) (defScope (topS 113)) .none .none .none (.str "law_reedtapes_k72_whole_cut_tapes_go_on" 1762) none (.ref 1146) .none), #[]⟩
def ob1146 : Obj := ⟨(.type "code"), none, .fields #[(.str "_law_channel" 1781), (.str "_law_channel" 1782), (.str "/claim/cut.py" 1783), (.int 637 0), (.int 1 0), (.int 0 0), (.int 0 0), (.int 3 0), (.ref 1141), (.bool true), (.int 181 0), (.ref 1142), .none, (.ref 1143), (.ref 1144), (.ref 1145), (.int 1785 0), (.int 637 0), (.str "/claim/cut.py" 1786)], #[]⟩
def ob1154 : Obj := ⟨(.type "function"), none, .func (PySem.W.fnOf "_law_key" "_law_key" (defArgs (topS 114)) (defBody (topS 114)) (defScope (topS 114)) .none .none .none (.str "law_reedtapes_k72_whole_cut_tapes_go_on" 1762) none (.ref 1153) .none), #[]⟩
def ob1153 : Obj := ⟨(.type "code"), none, .fields #[(.str "_law_key" 1788), (.str "_law_key" 1789), (.str "/claim/cut.py" 1790), (.int 639 0), (.int 1 0), (.int 0 0), (.int 0 0), (.int 3 0), (.ref 1148), (.bool true), (.int 181 0), (.ref 1149), .none, (.ref 1150), (.ref 1151), (.ref 1152), (.int 1792 0), (.int 639 0), (.str "/claim/cut.py" 1793)], #[]⟩
def ob1161 : Obj := ⟨(.type "function"), none, .func (PySem.W.fnOf "_law_one" "_law_one" (defArgs (topS 115)) (defBody (topS 115)) (defScope (topS 115)) .none .none .none (.str "law_reedtapes_k72_whole_cut_tapes_go_on" 1762) none (.ref 1160) .none), #[]⟩
def ob1160 : Obj := ⟨(.type "code"), none, .fields #[(.str "_law_one" 1795), (.str "_law_one" 1796), (.str "/claim/cut.py" 1797), (.int 641 0), (.int 2 0), (.int 0 0), (.int 0 0), (.int 3 0), (.ref 1155), (.bool true), (.int 181 0), (.ref 1156), .none, (.ref 1157), (.ref 1158), (.ref 1159), (.int 1800 0), (.int 641 0), (.str "/claim/cut.py" 1801)], #[]⟩
def ob1166 : Obj := ⟨(.type "function"), none, .func (PySem.W.fnOf "_law_word" "_law_word" (defArgs (topS 116)) (defBody (topS 116)) (defScope (topS 116)) .none .none .none (.str "law_reedtapes_k72_whole_cut_tapes_go_on" 1762) none (.ref 1165) .none), #[]⟩
def ob1165 : Obj := ⟨(.type "code"), none, .fields #[(.str "_law_word" 1803), (.str "_law_word" 1804), (.str "/claim/cut.py" 1805), (.int 643 0), (.int 2 0), (.int 0 0), (.int 0 0), (.int 3 0), (.ref 1162), (.bool true), (.int 181 0), (.ref 1163), .none, .none, .none, (.ref 1164), (.int 1806 0), (.int 643 0), (.str "/claim/cut.py" 1807)], #[]⟩
def ob1173 : Obj := ⟨(.type "function"), none, .func (PySem.W.fnOf "_law_thing" "_law_thing" (defArgs (topS 117)) (defBody (topS 117)) (defScope (topS 117)) .none .none .none (.str "law_reedtapes_k72_whole_cut_tapes_go_on" 1762) none (.ref 1172) .none), #[]⟩
def ob1172 : Obj := ⟨(.type "code"), none, .fields #[(.str "_law_thing" 1809), (.str "_law_thing" 1810), (.str "/claim/cut.py" 1811), (.int 648 0), (.int 1 0), (.int 0 0), (.int 0 0), (.int 3 0), (.ref 1167), (.bool true), (.int 181 0), (.ref 1168), .none, (.ref 1169), (.ref 1170), (.ref 1171), (.int 1815 0), (.int 648 0), (.str "/claim/cut.py" 1816)], #[]⟩
def ob1178 : Obj := ⟨(.type "function"), none, .func (PySem.W.fnOf "_law_keen_track" "_law_keen_track" (defArgs (topS 118)) (defBody (topS 118)) (defScope (topS 118)) .none .none .none (.str "law_reedtapes_k72_whole_cut_tapes_go_on" 1762) none (.ref 1177) .none), #[]⟩
def ob1177 : Obj := ⟨(.type "code"), none, .fields #[(.str "_law_keen_track" 1818), (.str "_law_keen_track" 1819), (.str "/claim/cut.py" 1820), (.int 660 0), (.int 2 0), (.int 0 0), (.int 0 0), (.int 3 0), (.ref 1174), (.bool true), (.int 181 0), (.ref 1175), .none, .none, .none, (.ref 1176), (.int 1821 0), (.int 660 0), (.str "/claim/cut.py" 1822)], #[]⟩
def ob1185 : Obj := ⟨(.type "function"), none, .func (PySem.W.fnOf "_law_beat" "_law_beat" (defArgs (topS 119)) (defBody (topS 119)) (defScope (topS 119)) .none .none .none (.str "law_reedtapes_k72_whole_cut_tapes_go_on" 1762) none (.ref 1184) .none), #[]⟩
def ob1184 : Obj := ⟨(.type "code"), none, .fields #[(.str "_law_beat" 1824), (.str "_law_beat" 1825), (.str "/claim/cut.py" 1826), (.int 675 0), (.int 1 0), (.int 0 0), (.int 0 0), (.int 3 0), (.ref 1179), (.bool true), (.int 181 0), (.ref 1180), .none, (.ref 1181), (.ref 1182), (.ref 1183), (.int 1828 0), (.int 675 0), (.str "/claim/cut.py" 1829)], #[]⟩
def ob1192 : Obj := ⟨(.type "function"), none, .func (PySem.W.fnOf "_law_tick" "_law_tick" (defArgs (topS 120)) (defBody (topS 120)) (defScope (topS 120)) .none .none .none (.str "law_reedtapes_k72_whole_cut_tapes_go_on" 1762) none (.ref 1191) .none), #[]⟩
def ob1191 : Obj := ⟨(.type "code"), none, .fields #[(.str "_law_tick" 1831), (.str "_law_tick" 1832), (.str "/claim/cut.py" 1833), (.int 677 0), (.int 1 0), (.int 0 0), (.int 0 0), (.int 3 0), (.ref 1186), (.bool true), (.int 181 0), (.ref 1187), .none, (.ref 1188), (.ref 1189), (.ref 1190), (.int 1835 0), (.int 677 0), (.str "/claim/cut.py" 1836)], #[]⟩
def ob1199 : Obj := ⟨(.type "function"), none, .func (PySem.W.fnOf "_law_pace" "_law_pace" (defArgs (topS 121)) (defBody (topS 121)) (defScope (topS 121)) .none .none .none (.str "law_reedtapes_k72_whole_cut_tapes_go_on" 1762) none (.ref 1198) .none), #[]⟩
def ob1198 : Obj := ⟨(.type "code"), none, .fields #[(.str "_law_pace" 1838), (.str "_law_pace" 1839), (.str "/claim/cut.py" 1840), (.int 679 0), (.int 1 0), (.int 0 0), (.int 0 0), (.int 3 0), (.ref 1193), (.bool true), (.int 181 0), (.ref 1194), .none, (.ref 1195), (.ref 1196), (.ref 1197), (.int 1842 0), (.int 679 0), (.str "/claim/cut.py" 1843)], #[]⟩
def ob1206 : Obj := ⟨(.type "function"), none, .func (PySem.W.fnOf "_law_paces" "_law_paces" (defArgs (topS 122)) (defBody (topS 122)) (defScope (topS 122)) .none .none .none (.str "law_reedtapes_k72_whole_cut_tapes_go_on" 1762) none (.ref 1205) .none), #[]⟩
def ob1205 : Obj := ⟨(.type "code"), none, .fields #[(.str "_law_paces" 1845), (.str "_law_paces" 1846), (.str "/claim/cut.py" 1847), (.int 681 0), (.int 2 0), (.int 0 0), (.int 0 0), (.int 3 0), (.ref 1200), (.bool true), (.int 181 0), (.ref 1201), .none, (.ref 1202), (.ref 1203), (.ref 1204), (.int 1852 0), (.int 681 0), (.str "/claim/cut.py" 1853)], #[]⟩
def ob1211 : Obj := ⟨(.type "function"), none, .func (PySem.W.fnOf "_law_pairs" "_law_pairs" (defArgs (topS 123)) (defBody (topS 123)) (defScope (topS 123)) .none .none .none (.str "law_reedtapes_k72_whole_cut_tapes_go_on" 1762) none (.ref 1210) .none), #[]⟩
def ob1210 : Obj := ⟨(.type "code"), none, .fields #[(.str "_law_pairs" 1855), (.str "_law_pairs" 1856), (.str "/claim/cut.py" 1857), (.int 686 0), (.int 1 0), (.int 0 0), (.int 0 0), (.int 3 0), (.ref 1207), (.bool true), (.int 181 0), (.ref 1208), .none, .none, .none, (.ref 1209), (.int 1858 0), (.int 686 0), (.str "/claim/cut.py" 1859)], #[]⟩
def ob1216 : Obj := ⟨(.type "function"), none, .func (PySem.W.fnOf "law" "law" (defArgs (topS 124)) (defBody (topS 124)) (defScope (topS 124)) .none .none .none (.str "law_reedtapes_k72_whole_cut_tapes_go_on" 1762) none (.ref 1215) .none), #[]⟩
def ob1215 : Obj := ⟨(.type "code"), none, .fields #[(.str "law" 1861), (.str "law" 1862), (.str "/claim/cut.py" 1863), (.int 688 0), (.int 1 0), (.int 0 0), (.int 0 0), (.int 3 0), (.ref 1212), (.bool true), (.int 181 0), (.ref 1213), .none, .none, .none, (.ref 1214), (.int 1864 0), (.int 688 0), (.str "/claim/cut.py" 1865)], #[]⟩
def ob527 : Obj := ⟨(.type "function"), none, .func (PySem.W.fnOf "__eq__" "Map.__eq__" (defArgs (inClass (topS 50) 2)) (defBody (inClass (topS 50) 2)) (defScope (inClass (topS 50) 2)) .none .none .none (.str "reedtapes.maps" 784) none (.ref 526) .none), #[]⟩
def ob526 : Obj := ⟨(.type "code"), none, .fields #[(.str "__eq__" 850), (.str "Map.__eq__" 851), (.str "/claim/cut.py" 852), (.int 173 0), (.int 2 0), (.int 0 0), (.int 0 0), (.int 3 0), (.ref 521), (.bool true), (.int 181 0), (.ref 522), .none, (.ref 523), (.ref 524), (.ref 525), (.int 855 0), (.int 173 0), (.str "/claim/cut.py" 856)], #[]⟩
def ob541 : Obj := ⟨(.type "function"), none, .func (PySem.W.fnOf "put" "Map.put" (defArgs (inClass (topS 50) 4)) (defBody (inClass (topS 50) 4)) (defScope (inClass (topS 50) 4)) .none .none .none (.str "reedtapes.maps" 784) none (.ref 540) .none), #[]⟩
def ob540 : Obj := ⟨(.type "code"), none, .fields #[(.str "put" 865), (.str "Map.put" 866), (.str "/claim/cut.py" 867), (.int 179 0), (.int 3 0), (.int 0 0), (.int 0 0), (.int 3 0), (.ref 535), (.bool true), (.int 181 0), (.ref 536), .none, (.ref 537), (.ref 538), (.ref 539), (.int 871 0), (.int 179 0), (.str "/claim/cut.py" 872)], #[]⟩
def ob555 : Obj := ⟨(.type "function"), none, .func (PySem.W.fnOf "beat" "Map.beat" (defArgs (inClass (topS 50) 6)) (defBody (inClass (topS 50) 6)) (defScope (inClass (topS 50) 6)) .none .none .none (.str "reedtapes.maps" 784) none (.ref 554) .none), #[]⟩
def ob554 : Obj := ⟨(.type "code"), none, .fields #[(.str "beat" 882), (.str "Map.beat" 883), (.str "/claim/cut.py" 884), (.int 191 0), (.int 1 0), (.int 0 0), (.int 0 0), (.int 3 0), (.ref 549), (.bool true), (.int 181 0), (.ref 550), .none, (.ref 551), (.ref 552), (.ref 553), (.int 886 0), (.int 191 0), (.str "/claim/cut.py" 887)], #[]⟩
def ob562 : Obj := ⟨(.type "function"), none, .func (PySem.W.fnOf "paces" "Map.paces" (defArgs (inClass (topS 50) 7)) (defBody (inClass (topS 50) 7)) (defScope (inClass (topS 50) 7)) .none .none .none (.str "reedtapes.maps" 784) none (.ref 561) .none), #[]⟩
def ob561 : Obj := ⟨(.type "code"), none, .fields #[(.str "paces" 889), (.str "Map.paces" 890), (.str "/claim/cut.py" 891), (.int 194 0), (.int 1 0), (.int 0 0), (.int 0 0), (.int 3 0), (.ref 556), (.bool true), (.int 181 0), (.ref 557), .none, (.ref 558), (.ref 559), (.ref 560), (.int 893 0), (.int 194 0), (.str "/claim/cut.py" 894)], #[]⟩
def ob567 : Obj := ⟨(.type "function"), none, .func (PySem.W.fnOf "pace_at" "Map.pace_at" (defArgs (inClass (topS 50) 8)) (defBody (inClass (topS 50) 8)) (defScope (inClass (topS 50) 8)) .none .none .none (.str "reedtapes.maps" 784) none (.ref 566) .none), #[]⟩
def ob566 : Obj := ⟨(.type "code"), none, .fields #[(.str "pace_at" 896), (.str "Map.pace_at" 897), (.str "/claim/cut.py" 898), (.int 197 0), (.int 2 0), (.int 0 0), (.int 0 0), (.int 3 0), (.ref 563), (.bool true), (.int 181 0), (.ref 564), .none, .none, .none, (.ref 565), (.int 899 0), (.int 197 0), (.str "/claim/cut.py" 900)], #[]⟩
def ob574 : Obj := ⟨(.type "function"), none, .func (PySem.W.fnOf "stretches" "Map.stretches" (defArgs (inClass (topS 50) 9)) (defBody (inClass (topS 50) 9)) (defScope (inClass (topS 50) 9)) .none .none .none (.str "reedtapes.maps" 784) none (.ref 573) .none), #[]⟩
def ob573 : Obj := ⟨(.type "code"), none, .fields #[(.str "stretches" 902), (.str "Map.stretches" 903), (.str "/claim/cut.py" 904), (.int 201 0), (.int 1 0), (.int 0 0), (.int 0 0), (.int 3 0), (.ref 568), (.bool true), (.int 181 0), (.ref 569), .none, (.ref 570), (.ref 571), (.ref 572), (.int 912 0), (.int 201 0), (.str "/claim/cut.py" 913)], #[]⟩
def ob579 : Obj := ⟨(.type "function"), none, .func (PySem.W.fnOf "moment" "Map.moment" (defArgs (inClass (topS 50) 10)) (defBody (inClass (topS 50) 10)) (defScope (inClass (topS 50) 10)) .none .none .none (.str "reedtapes.maps" 784) none (.ref 578) .none), #[]⟩
def ob578 : Obj := ⟨(.type "code"), none, .fields #[(.str "moment" 915), (.str "Map.moment" 916), (.str "/claim/cut.py" 917), (.int 208 0), (.int 2 0), (.int 0 0), (.int 0 0), (.int 3 0), (.ref 575), (.bool true), (.int 181 0), (.ref 576), .none, .none, .none, (.ref 577), (.int 918 0), (.int 208 0), (.str "/claim/cut.py" 919)], #[]⟩
def ob600 : Obj := ⟨(.type "function"), none, .func (PySem.W.fnOf "twin" "Map.twin" (defArgs (inClass (topS 50) 13)) (defBody (inClass (topS 50) 13)) (defScope (inClass (topS 50) 13)) .none .none .none (.str "reedtapes.maps" 784) none (.ref 599) .none), #[]⟩
def ob599 : Obj := ⟨(.type "code"), none, .fields #[(.str "twin" 937), (.str "Map.twin" 938), (.str "/claim/cut.py" 939), (.int 219 0), (.int 1 0), (.int 0 0), (.int 0 0), (.int 3 0), (.ref 594), (.bool true), (.int 181 0), (.ref 595), .none, (.ref 596), (.ref 597), (.ref 598), (.int 941 0), (.int 219 0), (.str "/claim/cut.py" 942)], #[]⟩
def ob721 : Obj := ⟨(.type "function"), none, .func (PySem.W.fnOf "__eq__" "Tape.__eq__" (defArgs (inClass (topS 66) 2)) (defBody (inClass (topS 66) 2)) (defScope (inClass (topS 66) 2)) .none .none .none (.str "reedtapes.tape" 1082) none (.ref 720) .none), #[]⟩
def ob720 : Obj := ⟨(.type "code"), none, .fields #[(.str "__eq__" 1113), (.str "Tape.__eq__" 1114), (.str "/claim/cut.py" 1115), (.int 307 0), (.int 2 0), (.int 0 0), (.int 0 0), (.int 3 0), (.ref 715), (.bool true), (.int 181 0), (.ref 716), .none, (.ref 717), (.ref 718), (.ref 719), (.int 1118 0), (.int 307 0), (.str "/claim/cut.py" 1119)], #[]⟩
def ob735 : Obj := ⟨(.type "function"), none, .func (PySem.W.fnOf "beat" "Tape.beat" (defArgs (inClass (topS 66) 4)) (defBody (inClass (topS 66) 4)) (defScope (inClass (topS 66) 4)) .none .none .none (.str "reedtapes.tape" 1082) none (.ref 734) .none), #[]⟩
def ob734 : Obj := ⟨(.type "code"), none, .fields #[(.str "beat" 1128), (.str "Tape.beat" 1129), (.str "/claim/cut.py" 1130), (.int 313 0), (.int 1 0), (.int 0 0), (.int 0 0), (.int 3 0), (.ref 729), (.bool true), (.int 181 0), (.ref 730), .none, (.ref 731), (.ref 732), (.ref 733), (.int 1132 0), (.int 313 0), (.str "/claim/cut.py" 1133)], #[]⟩
def ob740 : Obj := ⟨(.type "function"), none, .func (PySem.W.fnOf "tracks" "Tape.tracks" (defArgs (inClass (topS 66) 5)) (defBody (inClass (topS 66) 5)) (defScope (inClass (topS 66) 5)) .none .none .none (.str "reedtapes.tape" 1082) none (.ref 739) .none), #[]⟩
def ob739 : Obj := ⟨(.type "code"), none, .fields #[(.str "tracks" 1135), (.str "Tape.tracks" 1136), (.str "/claim/cut.py" 1137), (.int 316 0), (.int 1 0), (.int 0 0), (.int 0 0), (.int 3 0), (.ref 736), (.bool true), (.int 181 0), (.ref 737), .none, .none, .none, (.ref 738), (.int 1138 0), (.int 316 0), (.str "/claim/cut.py" 1139)], #[]⟩
def ob747 : Obj := ⟨(.type "function"), none, .func (PySem.W.fnOf "paces" "Tape.paces" (defArgs (inClass (topS 66) 6)) (defBody (inClass (topS 66) 6)) (defScope (inClass (topS 66) 6)) .none .none .none (.str "reedtapes.tape" 1082) none (.ref 746) .none), #[]⟩
def ob746 : Obj := ⟨(.type "code"), none, .fields #[(.str "paces" 1141), (.str "Tape.paces" 1142), (.str "/claim/cut.py" 1143), (.int 319 0), (.int 1 0), (.int 0 0), (.int 0 0), (.int 3 0), (.ref 741), (.bool true), (.int 181 0), (.ref 742), .none, (.ref 743), (.ref 744), (.ref 745), (.int 1145 0), (.int 319 0), (.str "/claim/cut.py" 1146)], #[]⟩
def ob754 : Obj := ⟨(.type "function"), none, .func (PySem.W.fnOf "paced" "Tape.paced" (defArgs (inClass (topS 66) 7)) (defBody (inClass (topS 66) 7)) (defScope (inClass (topS 66) 7)) .none .none .none (.str "reedtapes.tape" 1082) none (.ref 753) .none), #[]⟩
def ob753 : Obj := ⟨(.type "code"), none, .fields #[(.str "paced" 1148), (.str "Tape.paced" 1149), (.str "/claim/cut.py" 1150), (.int 322 0), (.int 1 0), (.int 0 0), (.int 0 0), (.int 3 0), (.ref 748), (.bool true), (.int 181 0), (.ref 749), .none, (.ref 750), (.ref 751), (.ref 752), (.int 1152 0), (.int 322 0), (.str "/claim/cut.py" 1153)], #[]⟩
def ob789 : Obj := ⟨(.type "function"), none, .func (PySem.W.fnOf "__eq__" "Stand.__eq__" (defArgs (inClass (topS 68) 2)) (defBody (inClass (topS 68) 2)) (defScope (inClass (topS 68) 2)) .none .none .none (.str "reedtapes.stands" 1166) none (.ref 788) .none), #[]⟩
def ob788 : Obj := ⟨(.type "code"), none, .fields #[(.str "__eq__" 1194), (.str "Stand.__eq__" 1195), (.str "/claim/cut.py" 1196), (.int 335 0), (.int 2 0), (.int 0 0), (.int 0 0), (.int 3 0), (.ref 783), (.bool true), (.int 181 0), (.ref 784), .none, (.ref 785), (.ref 786), (.ref 787), (.int 1199 0), (.int 335 0), (.str "/claim/cut.py" 1200)], #[]⟩
def ob796 : Obj := ⟨(.type "function"), none, .func (PySem.W.fnOf "parts" "Stand.parts" (defArgs (inClass (topS 68) 3)) (defBody (inClass (topS 68) 3)) (defScope (inClass (topS 68) 3)) .none .none .none (.str "reedtapes.stands" 1166) none (.ref 795) .none), #[]⟩
def ob795 : Obj := ⟨(.type "code"), none, .fields #[(.str "parts" 1202), (.str "Stand.parts" 1203), (.str "/claim/cut.py" 1204), (.int 338 0), (.int 1 0), (.int 0 0), (.int 0 0), (.int 3 0), (.ref 790), (.bool true), (.int 181 0), (.ref 791), .none, (.ref 792), (.ref 793), (.ref 794), (.int 1206 0), (.int 338 0), (.str "/claim/cut.py" 1207)], #[]⟩
def ob803 : Obj := ⟨(.type "function"), none, .func (PySem.W.fnOf "after" "Stand.after" (defArgs (inClass (topS 68) 4)) (defBody (inClass (topS 68) 4)) (defScope (inClass (topS 68) 4)) .none .none .none (.str "reedtapes.stands" 1166) none (.ref 802) .none), #[]⟩
def ob802 : Obj := ⟨(.type "code"), none, .fields #[(.str "after" 1209), (.str "Stand.after" 1210), (.str "/claim/cut.py" 1211), (.int 341 0), (.int 2 0), (.int 0 0), (.int 0 0), (.int 3 0), (.ref 797), (.bool true), (.int 181 0), (.ref 798), .none, (.ref 799), (.ref 800), (.ref 801), (.int 1221 0), (.int 341 0), (.str "/claim/cut.py" 1222)], #[]⟩
def ob808 : Obj := ⟨(.type "function"), none, .func (PySem.W.fnOf "sounds" "Stand.sounds" (defArgs (inClass (topS 68) 5)) (defBody (inClass (topS 68) 5)) (defScope (inClass (topS 68) 5)) .none .none .none (.str "reedtapes.stands" 1166) none (.ref 807) .none), #[]⟩
def ob807 : Obj := ⟨(.type "code"), none, .fields #[(.str "sounds" 1224), (.str "Stand.sounds" 1225), (.str "/claim/cut.py" 1226), (.int 357 0), (.int 1 0), (.int 0 0), (.int 0 0), (.int 3 0), (.ref 804), (.bool true), (.int 181 0), (.ref 805), .none, .none, .none, (.ref 806), (.int 1227 0), (.int 357 0), (.str "/claim/cut.py" 1228)], #[]⟩
def ob813 : Obj := ⟨(.type "function"), none, .func (PySem.W.fnOf "knobs" "Stand.knobs" (defArgs (inClass (topS 68) 6)) (defBody (inClass (topS 68) 6)) (defScope (inClass (topS 68) 6)) .none .none .none (.str "reedtapes.stands" 1166) none (.ref 812) .none), #[]⟩
def ob812 : Obj := ⟨(.type "code"), none, .fields #[(.str "knobs" 1230), (.str "Stand.knobs" 1231), (.str "/claim/cut.py" 1232), (.int 360 0), (.int 1 0), (.int 0 0), (.int 0 0), (.int 3 0), (.ref 809), (.bool true), (.int 181 0), (.ref 810), .none, .none, .none, (.ref 811), (.int 1233 0), (.int 360 0), (.str "/claim/cut.py" 1234)], #[]⟩
def ob818 : Obj := ⟨(.type "function"), none, .func (PySem.W.fnOf "voices" "Stand.voices" (defArgs (inClass (topS 68) 7)) (defBody (inClass (topS 68) 7)) (defScope (inClass (topS 68) 7)) .none .none .none (.str "reedtapes.stands" 1166) none (.ref 817) .none), #[]⟩
def ob817 : Obj := ⟨(.type "code"), none, .fields #[(.str "voices" 1236), (.str "Stand.voices" 1237), (.str "/claim/cut.py" 1238), (.int 363 0), (.int 1 0), (.int 0 0), (.int 0 0), (.int 3 0), (.ref 814), (.bool true), (.int 181 0), (.ref 815), .none, .none, .none, (.ref 816), (.int 1239 0), (.int 363 0), (.str "/claim/cut.py" 1240)], #[]⟩
def ob1032 : Obj := ⟨(.type "function"), none, .func (PySem.W.fnOf "do" "Deck.do" (defArgs (inClass (topS 104) 3)) (defBody (inClass (topS 104) 3)) (defScope (inClass (topS 104) 3)) .none .none .none (.str "reedtapes.deck" 1595) none (.ref 1031) .none), #[]⟩
def ob1031 : Obj := ⟨(.type "code"), none, .fields #[(.str "do" 1629), (.str "Deck.do" 1630), (.str "/claim/cut.py" 1631), (.int 544 0), (.int 2 0), (.int 0 0), (.int 0 0), (.int 3 0), (.ref 1026), (.bool true), (.int 181 0), (.ref 1027), .none, (.ref 1028), (.ref 1029), (.ref 1030), (.int 1634 0), (.int 544 0), (.str "/claim/cut.py" 1635)], #[]⟩
def ob1039 : Obj := ⟨(.type "function"), none, .func (PySem.W.fnOf "do_all" "Deck.do_all" (defArgs (inClass (topS 104) 4)) (defBody (inClass (topS 104) 4)) (defScope (inClass (topS 104) 4)) .none .none .none (.str "reedtapes.deck" 1595) none (.ref 1038) .none), #[]⟩
def ob1038 : Obj := ⟨(.type "code"), none, .fields #[(.str "do_all" 1637), (.str "Deck.do_all" 1638), (.str "/claim/cut.py" 1639), (.int 547 0), (.int 2 0), (.int 0 0), (.int 0 0), (.int 3 0), (.ref 1033), (.bool true), (.int 181 0), (.ref 1034), .none, (.ref 1035), (.ref 1036), (.ref 1037), (.int 1645 0), (.int 547 0), (.str "/claim/cut.py" 1646)], #[]⟩
def ob1053 : Obj := ⟨(.type "function"), none, .func (PySem.W.fnOf "undo" "Deck.undo" (defArgs (inClass (topS 104) 6)) (defBody (inClass (topS 104) 6)) (defScope (inClass (topS 104) 6)) .none .none .none (.str "reedtapes.deck" 1595) none (.ref 1052) .none), #[]⟩
def ob1052 : Obj := ⟨(.type "code"), none, .fields #[(.str "undo" 1655), (.str "Deck.undo" 1656), (.str "/claim/cut.py" 1657), (.int 567 0), (.int 1 0), (.int 0 0), (.int 0 0), (.int 3 0), (.ref 1047), (.bool true), (.int 181 0), (.ref 1048), .none, (.ref 1049), (.ref 1050), (.ref 1051), (.int 1661 0), (.int 567 0), (.str "/claim/cut.py" 1662)], #[]⟩
def ob1072 : Obj := ⟨(.type "function"), none, .func (PySem.W.fnOf "names" "Deck.names" (defArgs (inClass (topS 104) 9)) (defBody (inClass (topS 104) 9)) (defScope (inClass (topS 104) 9)) .none .none .none (.str "reedtapes.deck" 1595) none (.ref 1071) .none), #[]⟩
def ob1071 : Obj := ⟨(.type "code"), none, .fields #[(.str "names" 1677), (.str "Deck.names" 1678), (.str "/claim/cut.py" 1679), (.int 581 0), (.int 1 0), (.int 0 0), (.int 0 0), (.int 3 0), (.ref 1066), (.bool true), (.int 181 0), (.ref 1067), .none, (.ref 1068), (.ref 1069), (.ref 1070), (.int 1681 0), (.int 581 0), (.str "/claim/cut.py" 1682)], #[]⟩
def ob1079 : Obj := ⟨(.type "function"), none, .func (PySem.W.fnOf "tape" "Deck.tape" (defArgs (inClass (topS 104) 10)) (defBody (inClass (topS 104) 10)) (defScope (inClass (topS 104) 10)) .none .none .none (.str "reedtapes.deck" 1595) none (.ref 1078) .none), #[]⟩
def ob1078 : Obj := ⟨(.type "code"), none, .fields #[(.str "tape" 1684), (.str "Deck.tape" 1685), (.str "/claim/cut.py" 1686), (.int 584 0), (.int 2 0), (.int 0 0), (.int 0 0), (.int 3 0), (.ref 1073), (.bool true), (.int 181 0), (.ref 1074), .none, (.ref 1075), (.ref 1076), (.ref 1077), (.int 1689 0), (.int 584 0), (.str "/claim/cut.py" 1690)], #[]⟩
def ob513 : Obj := ⟨(.type "function"), none, .func (PySem.W.fnOf "__init__" "Map.__init__" (defArgs (inClass (topS 50) 0)) (defBody (inClass (topS 50) 0)) (defScope (inClass (topS 50) 0)) (.ref 508) .none .none (.str "reedtapes.maps" 784) none (.ref 512) .none), #[]⟩
def ob512 : Obj := ⟨(.type "code"), none, .fields #[(.str "__init__" 837), (.str "Map.__init__" 838), (.str "/claim/cut.py" 839), (.int 160 0), (.int 3 0), (.int 0 0), (.int 0 0), (.int 3 0), (.ref 509), (.bool true), (.int 181 0), (.ref 510), .none, .none, .none, (.ref 511), (.int 840 0), (.int 160 0), (.str "/claim/cut.py" 841)], #[]⟩
def ob709 : Obj := ⟨(.type "function"), none, .func (PySem.W.fnOf "__init__" "Tape.__init__" (defArgs (inClass (topS 66) 0)) (defBody (inClass (topS 66) 0)) (defScope (inClass (topS 66) 0)) (.ref 703) (.ref 704) .none (.str "reedtapes.tape" 1082) none (.ref 708) .none), #[]⟩
def ob708 : Obj := ⟨(.type "code"), none, .fields #[(.str "__init__" 1101), (.str "Tape.__init__" 1102), (.str "/claim/cut.py" 1103), (.int 296 0), (.int 3 0), (.int 0 0), (.int 1 0), (.int 3 0), (.ref 705), (.bool true), (.int 181 0), (.ref 706), .none, .none, .none, (.ref 707), (.int 1104 0), (.int 296 0), (.str "/claim/cut.py" 1105)], #[]⟩
def ob775 : Obj := ⟨(.type "function"), none, .func (PySem.W.fnOf "__init__" "Stand.__init__" (defArgs (inClass (topS 68) 0)) (defBody (inClass (topS 68) 0)) (defScope (inClass (topS 68) 0)) .none .none .none (.str "reedtapes.stands" 1166) none (.ref 774) .none), #[]⟩
def ob774 : Obj := ⟨(.type "code"), none, .fields #[(.str "__init__" 1180), (.str "Stand.__init__" 1181), (.str "/claim/cut.py" 1182), (.int 327 0), (.int 1 0), (.int 0 0), (.int 0 0), (.int 3 0), (.ref 769), (.bool true), (.int 181 0), (.ref 770), .none, (.ref 771), (.ref 772), (.ref 773), (.int 1184 0), (.int 327 0), (.str "/claim/cut.py" 1185)], #[]⟩
def ob1013 : Obj := ⟨(.type "function"), none, .func (PySem.W.fnOf "__init__" "Deck.__init__" (defArgs (inClass (topS 104) 0)) (defBody (inClass (topS 104) 0)) (defScope (inClass (topS 104) 0)) .none .none .none (.str "reedtapes.deck" 1595) none (.ref 1012) .none), #[]⟩
def ob1012 : Obj := ⟨(.type "code"), none, .fields #[(.str "__init__" 1609), (.str "Deck.__init__" 1610), (.str "/claim/cut.py" 1611), (.int 529 0), (.int 1 0), (.int 0 0), (.int 0 0), (.int 3 0), (.ref 1007), (.bool true), (.int 181 0), (.ref 1008), .none, (.ref 1009), (.ref 1010), (.ref 1011), (.int 1613 0), (.int 529 0), (.str "/claim/cut.py" 1614)], #[]⟩
def ob406 (w : World) : Obj := ⟨(.type "dict"), none, .dict #[⟨PyData.keyHash w.params "on", (.str "on" 700), (.ref 408)⟩, ⟨PyData.keyHash w.params "off", (.str "off" 703), (.ref 409)⟩, ⟨PyData.keyHash w.params "knob", (.str "knob" 704), (.ref 410)⟩, ⟨PyData.keyHash w.params "voice", (.str "voice" 705), (.ref 411)⟩] 4, #[]⟩
def ob857 (w : World) : Obj := ⟨(.type "dict"), none, .dict #[⟨PyData.keyHash w.params "new", (.str "new" 1304), (.int 3 1305)⟩, ⟨PyData.keyHash w.params "drop", (.str "drop" 1306), (.int 2 1307)⟩, ⟨PyData.keyHash w.params "add", (.str "add" 1308), (.int 2 1309)⟩, ⟨PyData.keyHash w.params "put", (.str "put" 1310), (.int 4 1311)⟩, ⟨PyData.keyHash w.params "take", (.str "take" 1312), (.int 4 1313)⟩, ⟨PyData.keyHash w.params "pace", (.str "pace" 1314), (.int 4 1315)⟩, ⟨PyData.keyHash w.params "unpace", (.str "unpace" 1316), (.int 3 1317)⟩, ⟨PyData.keyHash w.params "later", (.str "later" 1318), (.int 4 1319)⟩, ⟨PyData.keyHash w.params "keyed", (.str "keyed" 1320), (.int 4 1321)⟩, ⟨PyData.keyHash w.params "even", (.str "even" 1322), (.int 6 1323)⟩, ⟨PyData.keyHash w.params "cure", (.str "cure" 1324), (.int 3 1325)⟩, ⟨PyData.keyHash w.params "merge", (.str "merge" 1326), (.int 4 1327)⟩, ⟨PyData.keyHash w.params "part", (.str "part" 1328), (.int 4 1329)⟩, ⟨PyData.keyHash w.params "beat", (.str "beat" 1330), (.int 3 1331)⟩, ⟨PyData.keyHash w.params "cut", (.str "cut" 1332), (.int 4 1333)⟩] 15, #[]⟩
def ob992 (w : World) : Obj := ⟨(.type "dict"), none, .dict #[⟨PyData.keyHash w.params "new", (.str "new" 1555), (.ref 897)⟩, ⟨PyData.keyHash w.params "add", (.str "add" 1556), (.ref 904)⟩, ⟨PyData.keyHash w.params "put", (.str "put" 1557), (.ref 911)⟩, ⟨PyData.keyHash w.params "take", (.str "take" 1558), (.ref 918)⟩, ⟨PyData.keyHash w.params "pace", (.str "pace" 1559), (.ref 925)⟩, ⟨PyData.keyHash w.params "unpace", (.str "unpace" 1560), (.ref 932)⟩, ⟨PyData.keyHash w.params "later", (.str "later" 1561), (.ref 939)⟩, ⟨PyData.keyHash w.params "keyed", (.str "keyed" 1562), (.ref 946)⟩, ⟨PyData.keyHash w.params "even", (.str "even" 1563), (.ref 953)⟩, ⟨PyData.keyHash w.params "cure", (.str "cure" 1564), (.ref 960)⟩, ⟨PyData.keyHash w.params "merge", (.str "merge" 1565), (.ref 967)⟩, ⟨PyData.keyHash w.params "part", (.str "part" 1566), (.ref 974)⟩, ⟨PyData.keyHash w.params "beat", (.str "beat" 1567), (.ref 986)⟩] 13, #[]⟩
def ob408 : Obj := ⟨(.type "tuple"), none, .seq #[(.ref 404), (.ref 405), (.ref 407)] 0, #[]⟩
def ob404 : Obj := ⟨(.type "tuple"), none, .seq #[(.int 0 694), (.int 15 695)] 0, #[]⟩
def ob405 : Obj := ⟨(.type "tuple"), none, .seq #[(.int 0 697), (.int 127 698)] 0, #[]⟩
def ob407 : Obj := ⟨(.type "tuple"), none, .seq #[(.int 1 701), (.int 127 702)] 0, #[]⟩
def ob409 : Obj := ⟨(.type "tuple"), none, .seq #[(.ref 404), (.ref 405), (.ref 405)] 0, #[]⟩
def ob410 : Obj := ⟨(.type "tuple"), none, .seq #[(.ref 404), (.ref 405), (.ref 405)] 0, #[]⟩
def ob411 : Obj := ⟨(.type "tuple"), none, .seq #[(.ref 404), (.ref 405)] 0, #[]⟩
def ob508 : Obj := ⟨(.type "tuple"), none, .seq #[(.ref 507)] 0, #[]⟩
def ob507 : Obj := ⟨(.type "tuple"), none, .seq #[] 0, #[]⟩
def ob703 : Obj := ⟨(.type "tuple"), none, .seq #[(.int 96 1086), (.ref 701)] 0, #[]⟩
def ob701 : Obj := ⟨(.type "tuple"), none, .seq #[(.ref 700)] 0, #[]⟩
def ob700 : Obj := ⟨(.type "tuple"), none, .seq #[] 0, #[]⟩
def ob704 (w : World) : Obj := ⟨(.type "dict"), none, .dict #[⟨PyData.keyHash w.params "paces", (.str "paces" 1100), (.ref 702)⟩] 1, #[]⟩
def ob702 : Obj := ⟨(.type "tuple"), none, .seq #[] 0, #[]⟩
def k0 (w : World) : PySem.W.Frag := [(3, ob3 w), (603, ob603), (602, ob602 w), (757, ob757), (756, ob756 w), (821, ob821), (820, ob820 w), (1096, ob1096), (1095, ob1095 w), (418, ob418), (417, ob417), (423, ob423), (422, ob422), (428, ob428), (427, ob427), (435, ob435), (434, ob434), (442, ob442), (441, ob441), (449, ob449), (448, ob448), (454, ob454), (453, ob453), (471, ob471), (470, ob470)]
def as0 : List Addr := [3, 603, 602, 757, 756, 821, 820, 1096, 1095, 418, 417, 423, 422, 428, 427, 435, 434, 442, 441, 449, 448, 454, 453, 471, 470]
def k1 (w : World) : PySem.W.Frag := [(478, ob478), (477, ob477), (485, ob485), (484, ob484), (492, ob492), (491, ob491), (499, ob499), (498, ob498), (832, ob832), (831, ob831), (849, ob849), (848, ob848), (856, ob856), (855, ob855), (862, ob862), (861, ob861), (869, ob869), (868, ob868), (876, ob876), (875, ob875), (883, ob883), (882, ob882), (890, ob890), (889, ob889), (897, ob897)]
def as1 : List Addr := [478, 477, 485, 484, 492, 491, 499, 498, 832, 831, 849, 848, 856, 855, 862, 861, 869, 868, 876, 875, 883, 882, 890, 889, 897]
def k2 (w : World) : PySem.W.Frag := [(896, ob896), (904, ob904), (903, ob903), (911, ob911), (910, ob910), (925, ob925), (924, ob924), (991, ob991), (990, ob990), (999, ob999), (998, ob998), (1107, ob1107), (1106, ob1106), (1112, ob1112), (1111, ob1111), (1119, ob1119), (1118, ob1118), (1126, ob1126), (1125, ob1125), (1133, ob1133), (1132, ob1132), (1140, ob1140), (1139, ob1139), (1147, ob1147), (1146, ob1146)]
def as2 : List Addr := [896, 904, 903, 911, 910, 925, 924, 991, 990, 999, 998, 1107, 1106, 1112, 1111, 1119, 1118, 1126, 1125, 1133, 1132, 1140, 1139, 1147, 1146]
def k3 (w : World) : PySem.W.Frag := [(1154, ob1154), (1153, ob1153), (1161, ob1161), (1160, ob1160), (1166, ob1166), (1165, ob1165), (1173, ob1173), (1172, ob1172), (1178, ob1178), (1177, ob1177), (1185, ob1185), (1184, ob1184), (1192, ob1192), (1191, ob1191), (1199, ob1199), (1198, ob1198), (1206, ob1206), (1205, ob1205), (1211, ob1211), (1210, ob1210), (1216, ob1216), (1215, ob1215), (527, ob527), (526, ob526), (541, ob541)]
def as3 : List Addr := [1154, 1153, 1161, 1160, 1166, 1165, 1173, 1172, 1178, 1177, 1185, 1184, 1192, 1191, 1199, 1198, 1206, 1205, 1211, 1210, 1216, 1215, 527, 526, 541]
def k4 (w : World) : PySem.W.Frag := [(540, ob540), (555, ob555), (554, ob554), (562, ob562), (561, ob561), (567, ob567), (566, ob566), (574, ob574), (573, ob573), (579, ob579), (578, ob578), (600, ob600), (599, ob599), (721, ob721), (720, ob720), (735, ob735), (734, ob734), (740, ob740), (739, ob739), (747, ob747), (746, ob746), (754, ob754), (753, ob753), (789, ob789), (788, ob788)]
def as4 : List Addr := [540, 555, 554, 562, 561, 567, 566, 574, 573, 579, 578, 600, 599, 721, 720, 735, 734, 740, 739, 747, 746, 754, 753, 789, 788]
def k5 (w : World) : PySem.W.Frag := [(796, ob796), (795, ob795), (803, ob803), (802, ob802), (808, ob808), (807, ob807), (813, ob813), (812, ob812), (818, ob818), (817, ob817), (1032, ob1032), (1031, ob1031), (1039, ob1039), (1038, ob1038), (1053, ob1053), (1052, ob1052), (1072, ob1072), (1071, ob1071), (1079, ob1079), (1078, ob1078), (513, ob513), (512, ob512), (709, ob709), (708, ob708), (775, ob775)]
def as5 : List Addr := [796, 795, 803, 802, 808, 807, 813, 812, 818, 817, 1032, 1031, 1039, 1038, 1053, 1052, 1072, 1071, 1079, 1078, 513, 512, 709, 708, 775]
def k6 (w : World) : PySem.W.Frag := [(774, ob774), (1013, ob1013), (1012, ob1012), (406, ob406 w), (857, ob857 w), (992, ob992 w), (408, ob408), (404, ob404), (405, ob405), (407, ob407), (409, ob409), (410, ob410), (411, ob411), (508, ob508), (507, ob507), (703, ob703), (701, ob701), (700, ob700), (704, ob704 w), (702, ob702)]
def as6 : List Addr := [774, 1013, 1012, 406, 857, 992, 408, 404, 405, 407, 409, 410, 411, 508, 507, 703, 701, 700, 704, 702]
def K0 (w : World) : PySem.W.Frag := k0 w ++ (k1 w ++ (k2 w ++ (k3 w ++ (k4 w ++ (k5 w ++ (k6 w))))))
def asK : List Addr := as0 ++ (as1 ++ (as2 ++ (as3 ++ (as4 ++ (as5 ++ (as6))))))
theorem as_eq (w : World) : asK = (K0 w).map (·.1) := rfl
def ad0 : Ad := ⟨603, 757, 821, 1096, 406, 857, 992, 701, 702, 507⟩
end TpH
set_option maxHeartbeats 0
namespace TpH
open PySem PySem.Spec PyProof.Rows L2 Tp
abbrev R : PySem.W.OpenRow := PySem.W.OpenLaw.row PySem.Challenge.rw_reedtapes_k72_whole_cut_tapes_go_on
abbrev hkA : PySem.W.Hook where
  α := List (Option Obj)
  obs := fun s => asK.map s.heap.get?
  val := fun w => (K0 w).map fun p => some p.2
  says := fun w h => (K0 w).In h
  of := fun w _ e => PySem.W.Frag.in_of (as_eq w) e
  keeps := fun _ _ _ x k => x.keeps k
def obA (s : PySem.W.SharedT) : List (Option Obj) := asK.map (HandSHeadRun.getT s)
theorem obA_eq (s : PySem.W.SharedT) : obA s = hkA.obs s.abs := by
  have e : HandSHeadRun.getT s = s.abs.heap.get? := funext (HandSHeadRun.getT_eq s)
  unfold obA
  rw [e]
def loose0 : List PySem.Str := ["_wall", "TapeError", "MissingError", "BadEvent", "BadBeat", "BadPace", "BadTick", "BadKey", "BadGrid", "BadChannel", "BadName", "Taken", "Full", "BadDeed", "NothingLeft", "BadTrack", "NotWhole", "NoTape", "NoTrack", "NoEvent"]
def loose1 : List PySem.Str := ["NoPace", "MOST_TICK", "MOST_EVENTS", "MOST_SIGNS_events", "SIGNS", "CHANNEL", "SEVEN", "FORMS", "is_between", "is_text", "is_event", "need_track", "need_tick", "need_room", "need_room_events", "later", "keyed_event", "keyed", "put_in", "USUAL"]
def loose2 : List PySem.Str := ["MOST_BEAT", "MOST_PACE", "MOST_PACES", "common", "share", "need_beat", "need_pace", "Map", "MOST_STEP", "WHOLE", "Grid", "evened", "SOFT", "paired", "notes", "lone", "hung", "cured", "MOST_TRACKS", "PLAIN_BEAT"]
def loose3 : List PySem.Str := ["Tape", "Stand", "stand_behind", "is_of", "apart", "cut", "glued", "MOST_TAPES", "MOST_SIGNS_deeds", "LETTERS", "SIZES", "need_new", "need_room_deeds", "tape_of", "track_of", "with_track", "do_new", "do_add", "do_put", "do_take"]
def loose4 : List PySem.Str := ["do_pace", "do_unpace", "do_later", "do_keyed", "do_even", "do_cure", "do_merge", "do_part", "at_new_beat", "do_beat", "do_cut", "DEEDS", "after", "Deck", "ahead_of", "timed", "next_moment", "unlike", "_law_begin", "_law_pick"]
def loose5 : List PySem.Str := ["_law_channel", "_law_key", "_law_one", "_law_word", "_law_thing", "_law_keen_track", "_law_beat", "_law_tick", "_law_pace", "_law_paces", "_law_pairs"]
def loose : List PySem.Str := loose0 ++ loose1 ++ loose2 ++ loose3 ++ loose4 ++ loose5
theorem runF (w : World) : HandSHeadRun.RunEq R (PySem.W.view R.prog [124]) hkA obA 20000 loose (w.withFollow "special-get-raises" false) := by
  intro os
  kernel_rfl
theorem runT (w : World) : HandSHeadRun.RunEq R (PySem.W.view R.prog [124]) hkA obA 20000 loose (w.withFollow "special-get-raises" true) := by
  intro os
  kernel_rfl
theorem run (w : World) : HandSHeadRun.RunEq R (PySem.W.view R.prog [124]) hkA obA 20000 loose w := PySem.W.byRow2 "special-get-raises" runF runT w
end TpH
set_option maxHeartbeats 0
namespace TpH
open PySem PySem.Spec PyProof.Rows L2 Tp
theorem dp_t {K : PySem.W.Frag} {p : Addr} {od : Option Addr} {sl : Array (Option Value)} {its : Array Value} {n : Nat} {vs : List V} {ds : List PyData} (h : K.lookup p = some ⟨.type "tuple", od, .seq its n, sl⟩) (hz : its.size ≤ sizeLine) (r : Vals vs its.toList) (d : DpAll K (fun _ => none) vs ds) : Dp K (fun _ => none) (.ref p) (.tuple ds) :=
  .tup (.inr ⟨_, its, n, h, rfl, rfl, hz, r⟩) d
variable (w : World)
theorem n3_len : PySem.W.nsIn (K0 w) 3 "len" = some none := by kernel_rfl
theorem n3_range : PySem.W.nsIn (K0 w) 3 "range" = some none := by kernel_rfl
theorem n3_min : PySem.W.nsIn (K0 w) 3 "min" = some none := by kernel_rfl
theorem n3_max : PySem.W.nsIn (K0 w) 3 "max" = some none := by kernel_rfl
theorem n3_abs : PySem.W.nsIn (K0 w) 3 "abs" = some none := by kernel_rfl
theorem n3_list : PySem.W.nsIn (K0 w) 3 "list" = some none := by kernel_rfl
theorem n3_dict : PySem.W.nsIn (K0 w) 3 "dict" = some none := by kernel_rfl
theorem n3_sorted : PySem.W.nsIn (K0 w) 3 "sorted" = some none := by kernel_rfl
theorem n3_all : PySem.W.nsIn (K0 w) 3 "all" = some none := by kernel_rfl
theorem n3_isinstance : PySem.W.nsIn (K0 w) 3 "isinstance" = some none := by kernel_rfl
theorem n3_int : PySem.W.nsIn (K0 w) 3 "int" = some none := by kernel_rfl
theorem n3_str : PySem.W.nsIn (K0 w) 3 "str" = some none := by kernel_rfl
theorem n3_enumerate : PySem.W.nsIn (K0 w) 3 "enumerate" = some none := by kernel_rfl
theorem n3_zip : PySem.W.nsIn (K0 w) 3 "zip" = some none := by kernel_rfl
theorem n3_MOST_TICK : PySem.W.nsIn (K0 w) 3 "MOST_TICK" = some (some (.int 999999 686)) := by kernel_rfl
theorem n3_MOST_EVENTS : PySem.W.nsIn (K0 w) 3 "MOST_EVENTS" = some (some (.int 200 688)) := by kernel_rfl
theorem n3_MOST_SIGNS_events : PySem.W.nsIn (K0 w) 3 "MOST_SIGNS_events" = some (some (.int 12 690)) := by kernel_rfl
theorem n3_USUAL : PySem.W.nsIn (K0 w) 3 "USUAL" = some (some (.int 500000 786)) := by kernel_rfl
theorem n3_MOST_BEAT : PySem.W.nsIn (K0 w) 3 "MOST_BEAT" = some (some (.int 960 788)) := by kernel_rfl
theorem n3_MOST_PACE : PySem.W.nsIn (K0 w) 3 "MOST_PACE" = some (some (.int 16777215 790)) := by kernel_rfl
theorem n3_MOST_PACES : PySem.W.nsIn (K0 w) 3 "MOST_PACES" = some (some (.int 20 792)) := by kernel_rfl
theorem n3_SOFT : PySem.W.nsIn (K0 w) 3 "SOFT" = some (some (.int 64 1036)) := by kernel_rfl
theorem n3_MOST_TRACKS : PySem.W.nsIn (K0 w) 3 "MOST_TRACKS" = some (some (.int 6 1084)) := by kernel_rfl
theorem n3_MOST_TAPES : PySem.W.nsIn (K0 w) 3 "MOST_TAPES" = some (some (.int 6 1298)) := by kernel_rfl
theorem n3_MOST_SIGNS_deeds : PySem.W.nsIn (K0 w) 3 "MOST_SIGNS_deeds" = some (some (.int 8 1300)) := by kernel_rfl
theorem n3_SIGNS : PySem.W.nsIn (K0 w) 3 "SIGNS" = some (some (.str "abcdefghijklmnopqrstuvwxyz0123456789 " 692)) := by kernel_rfl
theorem n3_LETTERS : PySem.W.nsIn (K0 w) 3 "LETTERS" = some (some (.str "abcdefghijklmnopqrstuvwxyz" 1302)) := by kernel_rfl
theorem n3_FORMS : PySem.W.nsIn (K0 w) 3 "FORMS" = some (some (.ref 406)) := by kernel_rfl
theorem n3_SIZES : PySem.W.nsIn (K0 w) 3 "SIZES" = some (some (.ref 857)) := by kernel_rfl
theorem n3_DEEDS : PySem.W.nsIn (K0 w) 3 "DEEDS" = some (some (.ref 992)) := by kernel_rfl
theorem x_F : ∃ es n, KDict (K0 w) w 406 es n := ⟨_, _, (show (K0 w).lookup 406 = some (ob406 w) by kernel_rfl), ⟨⟨_, _, rfl, rfl⟩, ⟨⟨_, _, rfl, rfl⟩, ⟨⟨_, _, rfl, rfl⟩, ⟨⟨_, _, rfl, rfl⟩, trivial⟩⟩⟩⟩, rfl⟩
theorem x_S : ∃ es n, KDict (K0 w) w 857 es n := ⟨_, _, (show (K0 w).lookup 857 = some (ob857 w) by kernel_rfl), ⟨⟨_, _, rfl, rfl⟩, ⟨⟨_, _, rfl, rfl⟩, ⟨⟨_, _, rfl, rfl⟩, ⟨⟨_, _, rfl, rfl⟩, ⟨⟨_, _, rfl, rfl⟩, ⟨⟨_, _, rfl, rfl⟩, ⟨⟨_, _, rfl, rfl⟩, ⟨⟨_, _, rfl, rfl⟩, ⟨⟨_, _, rfl, rfl⟩, ⟨⟨_, _, rfl, rfl⟩, ⟨⟨_, _, rfl, rfl⟩, ⟨⟨_, _, rfl, rfl⟩, ⟨⟨_, _, rfl, rfl⟩, ⟨⟨_, _, rfl, rfl⟩, ⟨⟨_, _, rfl, rfl⟩, trivial⟩⟩⟩⟩⟩⟩⟩⟩⟩⟩⟩⟩⟩⟩⟩, rfl⟩
theorem x_D : ∃ es n, KDict (K0 w) w 992 es n := ⟨_, _, (show (K0 w).lookup 992 = some (ob992 w) by kernel_rfl), ⟨⟨_, _, rfl, rfl⟩, ⟨⟨_, _, rfl, rfl⟩, ⟨⟨_, _, rfl, rfl⟩, ⟨⟨_, _, rfl, rfl⟩, ⟨⟨_, _, rfl, rfl⟩, ⟨⟨_, _, rfl, rfl⟩, ⟨⟨_, _, rfl, rfl⟩, ⟨⟨_, _, rfl, rfl⟩, ⟨⟨_, _, rfl, rfl⟩, ⟨⟨_, _, rfl, rfl⟩, ⟨⟨_, _, rfl, rfl⟩, ⟨⟨_, _, rfl, rfl⟩, ⟨⟨_, _, rfl, rfl⟩, trivial⟩⟩⟩⟩⟩⟩⟩⟩⟩⟩⟩⟩⟩, rfl⟩
theorem n857_new : PySem.W.nsIn (K0 w) 857 "new" = some (some (.int 3 1305)) := by kernel_rfl
theorem n857_add : PySem.W.nsIn (K0 w) 857 "add" = some (some (.int 2 1309)) := by kernel_rfl
theorem n857_put : PySem.W.nsIn (K0 w) 857 "put" = some (some (.int 4 1311)) := by kernel_rfl
theorem n857_pace : PySem.W.nsIn (K0 w) 857 "pace" = some (some (.int 4 1315)) := by kernel_rfl
theorem n857_cut : PySem.W.nsIn (K0 w) 857 "cut" = some (some (.int 4 1333)) := by kernel_rfl
theorem n3_do_new : PySem.W.nsIn (K0 w) 3 "do_new" = some (some (.ref 897)) := by kernel_rfl
theorem n992_new : PySem.W.nsIn (K0 w) 992 "new" = some (some (.ref 897)) := by kernel_rfl
theorem n3_do_add : PySem.W.nsIn (K0 w) 3 "do_add" = some (some (.ref 904)) := by kernel_rfl
theorem n992_add : PySem.W.nsIn (K0 w) 992 "add" = some (some (.ref 904)) := by kernel_rfl
theorem n3_do_put : PySem.W.nsIn (K0 w) 3 "do_put" = some (some (.ref 911)) := by kernel_rfl
theorem n992_put : PySem.W.nsIn (K0 w) 992 "put" = some (some (.ref 911)) := by kernel_rfl
theorem n3_do_pace : PySem.W.nsIn (K0 w) 3 "do_pace" = some (some (.ref 925)) := by kernel_rfl
theorem n992_pace : PySem.W.nsIn (K0 w) 992 "pace" = some (some (.ref 925)) := by kernel_rfl
theorem d407 : Dp (K0 w) (fun _ => none) (.ref 407) (.tuple [.int 1, .int 127]) := dp_t (vs := [.int 1, .int 127]) (show (K0 w).lookup 407 = some (ob407) by kernel_rfl) (by decide) (.cons ⟨_, rfl⟩ (.cons ⟨_, rfl⟩ .nil)) (.cons (.int _) (.cons (.int _) .nil))
theorem d405 : Dp (K0 w) (fun _ => none) (.ref 405) (.tuple [.int 0, .int 127]) := dp_t (vs := [.int 0, .int 127]) (show (K0 w).lookup 405 = some (ob405) by kernel_rfl) (by decide) (.cons ⟨_, rfl⟩ (.cons ⟨_, rfl⟩ .nil)) (.cons (.int _) (.cons (.int _) .nil))
theorem d404 : Dp (K0 w) (fun _ => none) (.ref 404) (.tuple [.int 0, .int 15]) := dp_t (vs := [.int 0, .int 15]) (show (K0 w).lookup 404 = some (ob404) by kernel_rfl) (by decide) (.cons ⟨_, rfl⟩ (.cons ⟨_, rfl⟩ .nil)) (.cons (.int _) (.cons (.int _) .nil))
theorem d408 : Dp (K0 w) (fun _ => none) (.ref 408) (.tuple [.tuple [.int 0, .int 15], .tuple [.int 0, .int 127], .tuple [.int 1, .int 127]]) := dp_t (vs := [.ref 404, .ref 405, .ref 407]) (show (K0 w).lookup 408 = some (ob408) by kernel_rfl) (by decide) (.cons rfl (.cons rfl (.cons rfl .nil))) (.cons (d404 w) (.cons (d405 w) (.cons (d407 w) .nil)))
theorem n406_on : PySem.W.nsIn (K0 w) 406 "on" = some (some (.ref 408)) := by kernel_rfl
theorem d409 : Dp (K0 w) (fun _ => none) (.ref 409) (.tuple [.tuple [.int 0, .int 15], .tuple [.int 0, .int 127], .tuple [.int 0, .int 127]]) := dp_t (vs := [.ref 404, .ref 405, .ref 405]) (show (K0 w).lookup 409 = some (ob409) by kernel_rfl) (by decide) (.cons rfl (.cons rfl (.cons rfl .nil))) (.cons (d404 w) (.cons (d405 w) (.cons (d405 w) .nil)))
theorem n406_off : PySem.W.nsIn (K0 w) 406 "off" = some (some (.ref 409)) := by kernel_rfl
theorem d410 : Dp (K0 w) (fun _ => none) (.ref 410) (.tuple [.tuple [.int 0, .int 15], .tuple [.int 0, .int 127], .tuple [.int 0, .int 127]]) := dp_t (vs := [.ref 404, .ref 405, .ref 405]) (show (K0 w).lookup 410 = some (ob410) by kernel_rfl) (by decide) (.cons rfl (.cons rfl (.cons rfl .nil))) (.cons (d404 w) (.cons (d405 w) (.cons (d405 w) .nil)))
theorem n406_knob : PySem.W.nsIn (K0 w) 406 "knob" = some (some (.ref 410)) := by kernel_rfl
theorem d411 : Dp (K0 w) (fun _ => none) (.ref 411) (.tuple [.tuple [.int 0, .int 15], .tuple [.int 0, .int 127]]) := dp_t (vs := [.ref 404, .ref 405]) (show (K0 w).lookup 411 = some (ob411) by kernel_rfl) (by decide) (.cons rfl (.cons rfl .nil)) (.cons (d404 w) (.cons (d405 w) .nil))
theorem n406_voice : PySem.W.nsIn (K0 w) 406 "voice" = some (some (.ref 411)) := by kernel_rfl
theorem d702 : Dp (K0 w) (fun _ => none) (.ref 702) (.tuple []) := dp_t (vs := []) (show (K0 w).lookup 702 = some (ob702) by kernel_rfl) (by decide) (.nil) (.nil)
theorem d700 : Dp (K0 w) (fun _ => none) (.ref 700) (.tuple []) := dp_t (vs := []) (show (K0 w).lookup 700 = some (ob700) by kernel_rfl) (by decide) (.nil) (.nil)
theorem d701 : Dp (K0 w) (fun _ => none) (.ref 701) (.tuple [.tuple []]) := dp_t (vs := [.ref 700]) (show (K0 w).lookup 701 = some (ob701) by kernel_rfl) (by decide) (.cons rfl .nil) (.cons (d700 w) .nil)
theorem x_ne : PySem.W.findIn (K0 w) (.ref 821) "__ne__" = some (some (.builtin "object.__ne__")) := by kernel_rfl
theorem n3_Map : PySem.W.nsIn (K0 w) 3 "Map" = some (some (.ref 603)) := by kernel_rfl
theorem cl_Map : Cls (K0 w) 603 := ⟨by kernel_rfl, by kernel_rfl, by kernel_rfl, by kernel_rfl⟩
theorem is_Map : C8.InsC (K0 w) 603 := ⟨cl_Map w, by kernel_rfl, by kernel_rfl, by kernel_rfl, by kernel_rfl, by kernel_rfl⟩
theorem n_Map_ticks : NoAttr (K0 w) 603 "ticks" := by
  unfold NoAttr
  kernel_rfl
theorem n_Map_known : NoAttr (K0 w) 603 "known" := by
  unfold NoAttr
  kernel_rfl
theorem n3_Tape : PySem.W.nsIn (K0 w) 3 "Tape" = some (some (.ref 757)) := by kernel_rfl
theorem cl_Tape : Cls (K0 w) 757 := ⟨by kernel_rfl, by kernel_rfl, by kernel_rfl, by kernel_rfl⟩
theorem is_Tape : C8.InsC (K0 w) 757 := ⟨cl_Tape w, by kernel_rfl, by kernel_rfl, by kernel_rfl, by kernel_rfl, by kernel_rfl⟩
theorem n_Tape_own : NoAttr (K0 w) 757 "own" := by
  unfold NoAttr
  kernel_rfl
theorem n_Tape_rows : NoAttr (K0 w) 757 "rows" := by
  unfold NoAttr
  kernel_rfl
theorem n3_Stand : PySem.W.nsIn (K0 w) 3 "Stand" = some (some (.ref 821)) := by kernel_rfl
theorem cl_Stand : Cls (K0 w) 821 := ⟨by kernel_rfl, by kernel_rfl, by kernel_rfl, by kernel_rfl⟩
theorem is_Stand : C8.InsC (K0 w) 821 := ⟨cl_Stand w, by kernel_rfl, by kernel_rfl, by kernel_rfl, by kernel_rfl, by kernel_rfl⟩
theorem n_Stand_ringing : NoAttr (K0 w) 821 "ringing" := by
  unfold NoAttr
  kernel_rfl
theorem n_Stand_turned : NoAttr (K0 w) 821 "turned" := by
  unfold NoAttr
  kernel_rfl
theorem n_Stand_chosen : NoAttr (K0 w) 821 "chosen" := by
  unfold NoAttr
  kernel_rfl
theorem n3_Deck : PySem.W.nsIn (K0 w) 3 "Deck" = some (some (.ref 1096)) := by kernel_rfl
theorem cl_Deck : Cls (K0 w) 1096 := ⟨by kernel_rfl, by kernel_rfl, by kernel_rfl, by kernel_rfl⟩
theorem n_Deck_book : NoAttr (K0 w) 1096 "book" := by
  unfold NoAttr
  kernel_rfl
theorem n_Deck_elder : NoAttr (K0 w) 1096 "elder" := by
  unfold NoAttr
  kernel_rfl
theorem n_Deck_past : NoAttr (K0 w) 1096 "past" := by
  unfold NoAttr
  kernel_rfl
theorem n_Deck_ahead : NoAttr (K0 w) 1096 "ahead" := by
  unfold NoAttr
  kernel_rfl
theorem n_Deck_under : NoAttr (K0 w) 1096 "under" := by
  unfold NoAttr
  kernel_rfl
theorem fs_is_between : ∃ fd, FunD (K0 w) "is_between" "is_between" (defArgs s_is_between) (defBody s_is_between) (defScope s_is_between) [] [] 418 fd :=
  ⟨_, ⟨_, _, _, _, _, _, _, _, _, _, rfl, (show (K0 w).lookup 418 = some (ob418) by kernel_rfl), (by kernel_rfl), (.inl ⟨rfl, rfl⟩), (.inl rfl)⟩, (by kernel_rfl)⟩
theorem n3_is_between : PySem.W.nsIn (K0 w) 3 "is_between" = some (some (.ref 418)) := by kernel_rfl
theorem fs_is_text : ∃ fd, FunD (K0 w) "is_text" "is_text" (defArgs s_is_text) (defBody s_is_text) (defScope s_is_text) [] [] 423 fd :=
  ⟨_, ⟨_, _, _, _, _, _, _, _, _, _, rfl, (show (K0 w).lookup 423 = some (ob423) by kernel_rfl), (by kernel_rfl), (.inl ⟨rfl, rfl⟩), (.inl rfl)⟩, (by kernel_rfl)⟩
theorem n3_is_text : PySem.W.nsIn (K0 w) 3 "is_text" = some (some (.ref 423)) := by kernel_rfl
theorem fs_is_event : ∃ fd, FunD (K0 w) "is_event" "is_event" (defArgs s_is_event) (defBody s_is_event) (defScope s_is_event) [] [] 428 fd :=
  ⟨_, ⟨_, _, _, _, _, _, _, _, _, _, rfl, (show (K0 w).lookup 428 = some (ob428) by kernel_rfl), (by kernel_rfl), (.inl ⟨rfl, rfl⟩), (.inl rfl)⟩, (by kernel_rfl)⟩
theorem n3_is_event : PySem.W.nsIn (K0 w) 3 "is_event" = some (some (.ref 428)) := by kernel_rfl
theorem fs_need_track : ∃ fd, FunD (K0 w) "need_track" "need_track" (defArgs s_need_track) (defBody s_need_track) (defScope s_need_track) [] [] 435 fd :=
  ⟨_, ⟨_, _, _, _, _, _, _, _, _, _, rfl, (show (K0 w).lookup 435 = some (ob435) by kernel_rfl), (by kernel_rfl), (.inl ⟨rfl, rfl⟩), (.inl rfl)⟩, (by kernel_rfl)⟩
theorem n3_need_track : PySem.W.nsIn (K0 w) 3 "need_track" = some (some (.ref 435)) := by kernel_rfl
theorem fs_need_tick : ∃ fd, FunD (K0 w) "need_tick" "need_tick" (defArgs s_need_tick) (defBody s_need_tick) (defScope s_need_tick) [] [] 442 fd :=
  ⟨_, ⟨_, _, _, _, _, _, _, _, _, _, rfl, (show (K0 w).lookup 442 = some (ob442) by kernel_rfl), (by kernel_rfl), (.inl ⟨rfl, rfl⟩), (.inl rfl)⟩, (by kernel_rfl)⟩
theorem n3_need_tick : PySem.W.nsIn (K0 w) 3 "need_tick" = some (some (.ref 442)) := by kernel_rfl
theorem fs_need_room_events : ∃ fd, FunD (K0 w) "need_room" "need_room" (defArgs s_need_room_events) (defBody s_need_room_events) (defScope s_need_room_events) [] [] 449 fd :=
  ⟨_, ⟨_, _, _, _, _, _, _, _, _, _, rfl, (show (K0 w).lookup 449 = some (ob449) by kernel_rfl), (by kernel_rfl), (.inl ⟨rfl, rfl⟩), (.inl rfl)⟩, (by kernel_rfl)⟩
theorem n3_need_room_events : PySem.W.nsIn (K0 w) 3 "need_room_events" = some (some (.ref 449)) := by kernel_rfl
theorem fs_later : ∃ fd, FunD (K0 w) "later" "later" (defArgs s_later) (defBody s_later) (defScope s_later) [] [] 454 fd :=
  ⟨_, ⟨_, _, _, _, _, _, _, _, _, _, rfl, (show (K0 w).lookup 454 = some (ob454) by kernel_rfl), (by kernel_rfl), (.inl ⟨rfl, rfl⟩), (.inl rfl)⟩, (by kernel_rfl)⟩
theorem n3_later : PySem.W.nsIn (K0 w) 3 "later" = some (some (.ref 454)) := by kernel_rfl
theorem fs_put_in : ∃ fd, FunD (K0 w) "put_in" "put_in" (defArgs s_put_in) (defBody s_put_in) (defScope s_put_in) [] [] 471 fd :=
  ⟨_, ⟨_, _, _, _, _, _, _, _, _, _, rfl, (show (K0 w).lookup 471 = some (ob471) by kernel_rfl), (by kernel_rfl), (.inl ⟨rfl, rfl⟩), (.inl rfl)⟩, (by kernel_rfl)⟩
theorem n3_put_in : PySem.W.nsIn (K0 w) 3 "put_in" = some (some (.ref 471)) := by kernel_rfl
theorem fs_common : ∃ fd, FunD (K0 w) "common" "common" (defArgs s_common) (defBody s_common) (defScope s_common) [] [] 478 fd :=
  ⟨_, ⟨_, _, _, _, _, _, _, _, _, _, rfl, (show (K0 w).lookup 478 = some (ob478) by kernel_rfl), (by kernel_rfl), (.inl ⟨rfl, rfl⟩), (.inl rfl)⟩, (by kernel_rfl)⟩
theorem n3_common : PySem.W.nsIn (K0 w) 3 "common" = some (some (.ref 478)) := by kernel_rfl
theorem fs_share : ∃ fd, FunD (K0 w) "share" "share" (defArgs s_share) (defBody s_share) (defScope s_share) [] [] 485 fd :=
  ⟨_, ⟨_, _, _, _, _, _, _, _, _, _, rfl, (show (K0 w).lookup 485 = some (ob485) by kernel_rfl), (by kernel_rfl), (.inl ⟨rfl, rfl⟩), (.inl rfl)⟩, (by kernel_rfl)⟩
theorem n3_share : PySem.W.nsIn (K0 w) 3 "share" = some (some (.ref 485)) := by kernel_rfl
theorem fs_need_beat : ∃ fd, FunD (K0 w) "need_beat" "need_beat" (defArgs s_need_beat) (defBody s_need_beat) (defScope s_need_beat) [] [] 492 fd :=
  ⟨_, ⟨_, _, _, _, _, _, _, _, _, _, rfl, (show (K0 w).lookup 492 = some (ob492) by kernel_rfl), (by kernel_rfl), (.inl ⟨rfl, rfl⟩), (.inl rfl)⟩, (by kernel_rfl)⟩
theorem n3_need_beat : PySem.W.nsIn (K0 w) 3 "need_beat" = some (some (.ref 492)) := by kernel_rfl
theorem fs_need_pace : ∃ fd, FunD (K0 w) "need_pace" "need_pace" (defArgs s_need_pace) (defBody s_need_pace) (defScope s_need_pace) [] [] 499 fd :=
  ⟨_, ⟨_, _, _, _, _, _, _, _, _, _, rfl, (show (K0 w).lookup 499 = some (ob499) by kernel_rfl), (by kernel_rfl), (.inl ⟨rfl, rfl⟩), (.inl rfl)⟩, (by kernel_rfl)⟩
theorem n3_need_pace : PySem.W.nsIn (K0 w) 3 "need_pace" = some (some (.ref 499)) := by kernel_rfl
theorem fs_Map___init__ : ∃ fd, FunD (K0 w) "__init__" "Map.__init__" (defArgs s_Map___init__) (defBody s_Map___init__) (defScope s_Map___init__) [.ref 507] [] 513 fd :=
  ⟨_, ⟨_, _, _, _, _, _, _, _, _, _, rfl, (show (K0 w).lookup 513 = some (ob513) by kernel_rfl), (by kernel_rfl), (.inr ⟨by simp, 508, ob508, [.ref 507], 0, rfl, (by kernel_rfl), rfl, .cons rfl .nil⟩), (.inl rfl)⟩, (by kernel_rfl)⟩
theorem mks_Map___init__ : Mk (K0 w) 603 513 := ⟨by kernel_rfl, by kernel_rfl, by kernel_rfl, by kernel_rfl⟩
theorem fs_Map___eq__ : ∃ fd, FunD (K0 w) "__eq__" "Map.__eq__" (defArgs s_Map___eq__) (defBody s_Map___eq__) (defScope s_Map___eq__) [] [] 527 fd :=
  ⟨_, ⟨_, _, _, _, _, _, _, _, _, _, rfl, (show (K0 w).lookup 527 = some (ob527) by kernel_rfl), (by kernel_rfl), (.inl ⟨rfl, rfl⟩), (.inl rfl)⟩, (by kernel_rfl)⟩
theorem mts_Map___eq__ : Meth (K0 w) 603 "__eq__" 527 := ⟨by kernel_rfl, by kernel_rfl, by kernel_rfl⟩
theorem fs_Map_put : ∃ fd, FunD (K0 w) "put" "Map.put" (defArgs s_Map_put) (defBody s_Map_put) (defScope s_Map_put) [] [] 541 fd :=
  ⟨_, ⟨_, _, _, _, _, _, _, _, _, _, rfl, (show (K0 w).lookup 541 = some (ob541) by kernel_rfl), (by kernel_rfl), (.inl ⟨rfl, rfl⟩), (.inl rfl)⟩, (by kernel_rfl)⟩
theorem mts_Map_put : Meth (K0 w) 603 "put" 541 := ⟨by kernel_rfl, by kernel_rfl, by kernel_rfl⟩
theorem fs_Map_beat : ∃ fd, FunD (K0 w) "beat" "Map.beat" (defArgs s_Map_beat) (defBody s_Map_beat) (defScope s_Map_beat) [] [] 555 fd :=
  ⟨_, ⟨_, _, _, _, _, _, _, _, _, _, rfl, (show (K0 w).lookup 555 = some (ob555) by kernel_rfl), (by kernel_rfl), (.inl ⟨rfl, rfl⟩), (.inl rfl)⟩, (by kernel_rfl)⟩
theorem mts_Map_beat : Meth (K0 w) 603 "beat" 555 := ⟨by kernel_rfl, by kernel_rfl, by kernel_rfl⟩
theorem fs_Map_paces : ∃ fd, FunD (K0 w) "paces" "Map.paces" (defArgs s_Map_paces) (defBody s_Map_paces) (defScope s_Map_paces) [] [] 562 fd :=
  ⟨_, ⟨_, _, _, _, _, _, _, _, _, _, rfl, (show (K0 w).lookup 562 = some (ob562) by kernel_rfl), (by kernel_rfl), (.inl ⟨rfl, rfl⟩), (.inl rfl)⟩, (by kernel_rfl)⟩
theorem mts_Map_paces : Meth (K0 w) 603 "paces" 562 := ⟨by kernel_rfl, by kernel_rfl, by kernel_rfl⟩
theorem fs_Map_pace_at : ∃ fd, FunD (K0 w) "pace_at" "Map.pace_at" (defArgs s_Map_pace_at) (defBody s_Map_pace_at) (defScope s_Map_pace_at) [] [] 567 fd :=
  ⟨_, ⟨_, _, _, _, _, _, _, _, _, _, rfl, (show (K0 w).lookup 567 = some (ob567) by kernel_rfl), (by kernel_rfl), (.inl ⟨rfl, rfl⟩), (.inl rfl)⟩, (by kernel_rfl)⟩
theorem mts_Map_pace_at : Meth (K0 w) 603 "pace_at" 567 := ⟨by kernel_rfl, by kernel_rfl, by kernel_rfl⟩
theorem fs_Map_stretches : ∃ fd, FunD (K0 w) "stretches" "Map.stretches" (defArgs s_Map_stretches) (defBody s_Map_stretches) (defScope s_Map_stretches) [] [] 574 fd :=
  ⟨_, ⟨_, _, _, _, _, _, _, _, _, _, rfl, (show (K0 w).lookup 574 = some (ob574) by kernel_rfl), (by kernel_rfl), (.inl ⟨rfl, rfl⟩), (.inl rfl)⟩, (by kernel_rfl)⟩
theorem mts_Map_stretches : Meth (K0 w) 603 "stretches" 574 := ⟨by kernel_rfl, by kernel_rfl, by kernel_rfl⟩
theorem fs_Map_moment : ∃ fd, FunD (K0 w) "moment" "Map.moment" (defArgs s_Map_moment) (defBody s_Map_moment) (defScope s_Map_moment) [] [] 579 fd :=
  ⟨_, ⟨_, _, _, _, _, _, _, _, _, _, rfl, (show (K0 w).lookup 579 = some (ob579) by kernel_rfl), (by kernel_rfl), (.inl ⟨rfl, rfl⟩), (.inl rfl)⟩, (by kernel_rfl)⟩
theorem mts_Map_moment : Meth (K0 w) 603 "moment" 579 := ⟨by kernel_rfl, by kernel_rfl, by kernel_rfl⟩
theorem fs_Map_twin : ∃ fd, FunD (K0 w) "twin" "Map.twin" (defArgs s_Map_twin) (defBody s_Map_twin) (defScope s_Map_twin) [] [] 600 fd :=
  ⟨_, ⟨_, _, _, _, _, _, _, _, _, _, rfl, (show (K0 w).lookup 600 = some (ob600) by kernel_rfl), (by kernel_rfl), (.inl ⟨rfl, rfl⟩), (.inl rfl)⟩, (by kernel_rfl)⟩
theorem mts_Map_twin : Meth (K0 w) 603 "twin" 600 := ⟨by kernel_rfl, by kernel_rfl, by kernel_rfl⟩
theorem n704_paces : PySem.W.nsIn (K0 w) 704 "paces" = some (some (.ref 702)) := by kernel_rfl
theorem fs_Tape___init__ : ∃ fd, FunD (K0 w) "__init__" "Tape.__init__" (defArgs s_Tape___init__) (defBody s_Tape___init__) (defScope s_Tape___init__) [.int 96, .ref 701] [("paces", .ref 702)] 709 fd :=
  ⟨_, ⟨_, _, _, _, _, _, _, _, _, _, rfl, (show (K0 w).lookup 709 = some (ob709) by kernel_rfl), (by kernel_rfl), (.inr ⟨by simp, 703, ob703, [.int 96 1086, .ref 701], 0, rfl, (by kernel_rfl), rfl, .cons ⟨_, rfl⟩ (.cons rfl .nil)⟩), (.inr ⟨704, rfl, fun q hq => by rw [List.mem_singleton] at hq; subst hq; exact ⟨_, n704_paces w, rfl⟩⟩)⟩, (by kernel_rfl)⟩
theorem mks_Tape___init__ : Mk (K0 w) 757 709 := ⟨by kernel_rfl, by kernel_rfl, by kernel_rfl, by kernel_rfl⟩
theorem fs_Tape___eq__ : ∃ fd, FunD (K0 w) "__eq__" "Tape.__eq__" (defArgs s_Tape___eq__) (defBody s_Tape___eq__) (defScope s_Tape___eq__) [] [] 721 fd :=
  ⟨_, ⟨_, _, _, _, _, _, _, _, _, _, rfl, (show (K0 w).lookup 721 = some (ob721) by kernel_rfl), (by kernel_rfl), (.inl ⟨rfl, rfl⟩), (.inl rfl)⟩, (by kernel_rfl)⟩
theorem mts_Tape___eq__ : Meth (K0 w) 757 "__eq__" 721 := ⟨by kernel_rfl, by kernel_rfl, by kernel_rfl⟩
theorem fs_Tape_beat : ∃ fd, FunD (K0 w) "beat" "Tape.beat" (defArgs s_Tape_beat) (defBody s_Tape_beat) (defScope s_Tape_beat) [] [] 735 fd :=
  ⟨_, ⟨_, _, _, _, _, _, _, _, _, _, rfl, (show (K0 w).lookup 735 = some (ob735) by kernel_rfl), (by kernel_rfl), (.inl ⟨rfl, rfl⟩), (.inl rfl)⟩, (by kernel_rfl)⟩
theorem mts_Tape_beat : Meth (K0 w) 757 "beat" 735 := ⟨by kernel_rfl, by kernel_rfl, by kernel_rfl⟩
theorem fs_Tape_tracks : ∃ fd, FunD (K0 w) "tracks" "Tape.tracks" (defArgs s_Tape_tracks) (defBody s_Tape_tracks) (defScope s_Tape_tracks) [] [] 740 fd :=
  ⟨_, ⟨_, _, _, _, _, _, _, _, _, _, rfl, (show (K0 w).lookup 740 = some (ob740) by kernel_rfl), (by kernel_rfl), (.inl ⟨rfl, rfl⟩), (.inl rfl)⟩, (by kernel_rfl)⟩
theorem mts_Tape_tracks : Meth (K0 w) 757 "tracks" 740 := ⟨by kernel_rfl, by kernel_rfl, by kernel_rfl⟩
theorem fs_Tape_paces : ∃ fd, FunD (K0 w) "paces" "Tape.paces" (defArgs s_Tape_paces) (defBody s_Tape_paces) (defScope s_Tape_paces) [] [] 747 fd :=
  ⟨_, ⟨_, _, _, _, _, _, _, _, _, _, rfl, (show (K0 w).lookup 747 = some (ob747) by kernel_rfl), (by kernel_rfl), (.inl ⟨rfl, rfl⟩), (.inl rfl)⟩, (by kernel_rfl)⟩
theorem mts_Tape_paces : Meth (K0 w) 757 "paces" 747 := ⟨by kernel_rfl, by kernel_rfl, by kernel_rfl⟩
theorem fs_Tape_paced : ∃ fd, FunD (K0 w) "paced" "Tape.paced" (defArgs s_Tape_paced) (defBody s_Tape_paced) (defScope s_Tape_paced) [] [] 754 fd :=
  ⟨_, ⟨_, _, _, _, _, _, _, _, _, _, rfl, (show (K0 w).lookup 754 = some (ob754) by kernel_rfl), (by kernel_rfl), (.inl ⟨rfl, rfl⟩), (.inl rfl)⟩, (by kernel_rfl)⟩
theorem mts_Tape_paced : Meth (K0 w) 757 "paced" 754 := ⟨by kernel_rfl, by kernel_rfl, by kernel_rfl⟩
theorem fs_Stand___init__ : ∃ fd, FunD (K0 w) "__init__" "Stand.__init__" (defArgs s_Stand___init__) (defBody s_Stand___init__) (defScope s_Stand___init__) [] [] 775 fd :=
  ⟨_, ⟨_, _, _, _, _, _, _, _, _, _, rfl, (show (K0 w).lookup 775 = some (ob775) by kernel_rfl), (by kernel_rfl), (.inl ⟨rfl, rfl⟩), (.inl rfl)⟩, (by kernel_rfl)⟩
theorem mks_Stand___init__ : Mk (K0 w) 821 775 := ⟨by kernel_rfl, by kernel_rfl, by kernel_rfl, by kernel_rfl⟩
theorem fs_Stand___eq__ : ∃ fd, FunD (K0 w) "__eq__" "Stand.__eq__" (defArgs s_Stand___eq__) (defBody s_Stand___eq__) (defScope s_Stand___eq__) [] [] 789 fd :=
  ⟨_, ⟨_, _, _, _, _, _, _, _, _, _, rfl, (show (K0 w).lookup 789 = some (ob789) by kernel_rfl), (by kernel_rfl), (.inl ⟨rfl, rfl⟩), (.inl rfl)⟩, (by kernel_rfl)⟩
theorem mts_Stand___eq__ : Meth (K0 w) 821 "__eq__" 789 := ⟨by kernel_rfl, by kernel_rfl, by kernel_rfl⟩
theorem fs_Stand_parts : ∃ fd, FunD (K0 w) "parts" "Stand.parts" (defArgs s_Stand_parts) (defBody s_Stand_parts) (defScope s_Stand_parts) [] [] 796 fd :=
  ⟨_, ⟨_, _, _, _, _, _, _, _, _, _, rfl, (show (K0 w).lookup 796 = some (ob796) by kernel_rfl), (by kernel_rfl), (.inl ⟨rfl, rfl⟩), (.inl rfl)⟩, (by kernel_rfl)⟩
theorem mts_Stand_parts : Meth (K0 w) 821 "parts" 796 := ⟨by kernel_rfl, by kernel_rfl, by kernel_rfl⟩
theorem fs_Stand_after : ∃ fd, FunD (K0 w) "after" "Stand.after" (defArgs s_Stand_after) (defBody s_Stand_after) (defScope s_Stand_after) [] [] 803 fd :=
  ⟨_, ⟨_, _, _, _, _, _, _, _, _, _, rfl, (show (K0 w).lookup 803 = some (ob803) by kernel_rfl), (by kernel_rfl), (.inl ⟨rfl, rfl⟩), (.inl rfl)⟩, (by kernel_rfl)⟩
theorem mts_Stand_after : Meth (K0 w) 821 "after" 803 := ⟨by kernel_rfl, by kernel_rfl, by kernel_rfl⟩
theorem fs_Stand_sounds : ∃ fd, FunD (K0 w) "sounds" "Stand.sounds" (defArgs s_Stand_sounds) (defBody s_Stand_sounds) (defScope s_Stand_sounds) [] [] 808 fd :=
  ⟨_, ⟨_, _, _, _, _, _, _, _, _, _, rfl, (show (K0 w).lookup 808 = some (ob808) by kernel_rfl), (by kernel_rfl), (.inl ⟨rfl, rfl⟩), (.inl rfl)⟩, (by kernel_rfl)⟩
theorem mts_Stand_sounds : Meth (K0 w) 821 "sounds" 808 := ⟨by kernel_rfl, by kernel_rfl, by kernel_rfl⟩
theorem fs_Stand_knobs : ∃ fd, FunD (K0 w) "knobs" "Stand.knobs" (defArgs s_Stand_knobs) (defBody s_Stand_knobs) (defScope s_Stand_knobs) [] [] 813 fd :=
  ⟨_, ⟨_, _, _, _, _, _, _, _, _, _, rfl, (show (K0 w).lookup 813 = some (ob813) by kernel_rfl), (by kernel_rfl), (.inl ⟨rfl, rfl⟩), (.inl rfl)⟩, (by kernel_rfl)⟩
theorem mts_Stand_knobs : Meth (K0 w) 821 "knobs" 813 := ⟨by kernel_rfl, by kernel_rfl, by kernel_rfl⟩
theorem fs_Stand_voices : ∃ fd, FunD (K0 w) "voices" "Stand.voices" (defArgs s_Stand_voices) (defBody s_Stand_voices) (defScope s_Stand_voices) [] [] 818 fd :=
  ⟨_, ⟨_, _, _, _, _, _, _, _, _, _, rfl, (show (K0 w).lookup 818 = some (ob818) by kernel_rfl), (by kernel_rfl), (.inl ⟨rfl, rfl⟩), (.inl rfl)⟩, (by kernel_rfl)⟩
theorem mts_Stand_voices : Meth (K0 w) 821 "voices" 818 := ⟨by kernel_rfl, by kernel_rfl, by kernel_rfl⟩
theorem fs_stand_behind : ∃ fd, FunD (K0 w) "stand_behind" "stand_behind" (defArgs s_stand_behind) (defBody s_stand_behind) (defScope s_stand_behind) [] [] 832 fd :=
  ⟨_, ⟨_, _, _, _, _, _, _, _, _, _, rfl, (show (K0 w).lookup 832 = some (ob832) by kernel_rfl), (by kernel_rfl), (.inl ⟨rfl, rfl⟩), (.inl rfl)⟩, (by kernel_rfl)⟩
theorem n3_stand_behind : PySem.W.nsIn (K0 w) 3 "stand_behind" = some (some (.ref 832)) := by kernel_rfl
theorem fs_cut : ∃ fd, FunD (K0 w) "cut" "cut" (defArgs s_cut) (defBody s_cut) (defScope s_cut) [] [] 849 fd :=
  ⟨_, ⟨_, _, _, _, _, _, _, _, _, _, rfl, (show (K0 w).lookup 849 = some (ob849) by kernel_rfl), (by kernel_rfl), (.inl ⟨rfl, rfl⟩), (.inl rfl)⟩, (by kernel_rfl)⟩
theorem n3_cut : PySem.W.nsIn (K0 w) 3 "cut" = some (some (.ref 849)) := by kernel_rfl
theorem fs_glued : ∃ fd, FunD (K0 w) "glued" "glued" (defArgs s_glued) (defBody s_glued) (defScope s_glued) [] [] 856 fd :=
  ⟨_, ⟨_, _, _, _, _, _, _, _, _, _, rfl, (show (K0 w).lookup 856 = some (ob856) by kernel_rfl), (by kernel_rfl), (.inl ⟨rfl, rfl⟩), (.inl rfl)⟩, (by kernel_rfl)⟩
theorem n3_glued : PySem.W.nsIn (K0 w) 3 "glued" = some (some (.ref 856)) := by kernel_rfl
theorem fs_need_new : ∃ fd, FunD (K0 w) "need_new" "need_new" (defArgs s_need_new) (defBody s_need_new) (defScope s_need_new) [] [] 862 fd :=
  ⟨_, ⟨_, _, _, _, _, _, _, _, _, _, rfl, (show (K0 w).lookup 862 = some (ob862) by kernel_rfl), (by kernel_rfl), (.inl ⟨rfl, rfl⟩), (.inl rfl)⟩, (by kernel_rfl)⟩
theorem n3_need_new : PySem.W.nsIn (K0 w) 3 "need_new" = some (some (.ref 862)) := by kernel_rfl
theorem fs_need_room_deeds : ∃ fd, FunD (K0 w) "need_room" "need_room" (defArgs s_need_room_deeds) (defBody s_need_room_deeds) (defScope s_need_room_deeds) [] [] 869 fd :=
  ⟨_, ⟨_, _, _, _, _, _, _, _, _, _, rfl, (show (K0 w).lookup 869 = some (ob869) by kernel_rfl), (by kernel_rfl), (.inl ⟨rfl, rfl⟩), (.inl rfl)⟩, (by kernel_rfl)⟩
theorem n3_need_room_deeds : PySem.W.nsIn (K0 w) 3 "need_room_deeds" = some (some (.ref 869)) := by kernel_rfl
theorem fs_tape_of : ∃ fd, FunD (K0 w) "tape_of" "tape_of" (defArgs s_tape_of) (defBody s_tape_of) (defScope s_tape_of) [] [] 876 fd :=
  ⟨_, ⟨_, _, _, _, _, _, _, _, _, _, rfl, (show (K0 w).lookup 876 = some (ob876) by kernel_rfl), (by kernel_rfl), (.inl ⟨rfl, rfl⟩), (.inl rfl)⟩, (by kernel_rfl)⟩
theorem n3_tape_of : PySem.W.nsIn (K0 w) 3 "tape_of" = some (some (.ref 876)) := by kernel_rfl
theorem fs_track_of : ∃ fd, FunD (K0 w) "track_of" "track_of" (defArgs s_track_of) (defBody s_track_of) (defScope s_track_of) [] [] 883 fd :=
  ⟨_, ⟨_, _, _, _, _, _, _, _, _, _, rfl, (show (K0 w).lookup 883 = some (ob883) by kernel_rfl), (by kernel_rfl), (.inl ⟨rfl, rfl⟩), (.inl rfl)⟩, (by kernel_rfl)⟩
theorem n3_track_of : PySem.W.nsIn (K0 w) 3 "track_of" = some (some (.ref 883)) := by kernel_rfl
theorem fs_with_track : ∃ fd, FunD (K0 w) "with_track" "with_track" (defArgs s_with_track) (defBody s_with_track) (defScope s_with_track) [] [] 890 fd :=
  ⟨_, ⟨_, _, _, _, _, _, _, _, _, _, rfl, (show (K0 w).lookup 890 = some (ob890) by kernel_rfl), (by kernel_rfl), (.inl ⟨rfl, rfl⟩), (.inl rfl)⟩, (by kernel_rfl)⟩
theorem n3_with_track : PySem.W.nsIn (K0 w) 3 "with_track" = some (some (.ref 890)) := by kernel_rfl
theorem fs_do_new : ∃ fd, FunD (K0 w) "do_new" "do_new" (defArgs s_do_new) (defBody s_do_new) (defScope s_do_new) [] [] 897 fd :=
  ⟨_, ⟨_, _, _, _, _, _, _, _, _, _, rfl, (show (K0 w).lookup 897 = some (ob897) by kernel_rfl), (by kernel_rfl), (.inl ⟨rfl, rfl⟩), (.inl rfl)⟩, (by kernel_rfl)⟩
theorem fs_do_add : ∃ fd, FunD (K0 w) "do_add" "do_add" (defArgs s_do_add) (defBody s_do_add) (defScope s_do_add) [] [] 904 fd :=
  ⟨_, ⟨_, _, _, _, _, _, _, _, _, _, rfl, (show (K0 w).lookup 904 = some (ob904) by kernel_rfl), (by kernel_rfl), (.inl ⟨rfl, rfl⟩), (.inl rfl)⟩, (by kernel_rfl)⟩
theorem fs_do_put : ∃ fd, FunD (K0 w) "do_put" "do_put" (defArgs s_do_put) (defBody s_do_put) (defScope s_do_put) [] [] 911 fd :=
  ⟨_, ⟨_, _, _, _, _, _, _, _, _, _, rfl, (show (K0 w).lookup 911 = some (ob911) by kernel_rfl), (by kernel_rfl), (.inl ⟨rfl, rfl⟩), (.inl rfl)⟩, (by kernel_rfl)⟩
theorem fs_do_pace : ∃ fd, FunD (K0 w) "do_pace" "do_pace" (defArgs s_do_pace) (defBody s_do_pace) (defScope s_do_pace) [] [] 925 fd :=
  ⟨_, ⟨_, _, _, _, _, _, _, _, _, _, rfl, (show (K0 w).lookup 925 = some (ob925) by kernel_rfl), (by kernel_rfl), (.inl ⟨rfl, rfl⟩), (.inl rfl)⟩, (by kernel_rfl)⟩
theorem fs_do_cut : ∃ fd, FunD (K0 w) "do_cut" "do_cut" (defArgs s_do_cut) (defBody s_do_cut) (defScope s_do_cut) [] [] 991 fd :=
  ⟨_, ⟨_, _, _, _, _, _, _, _, _, _, rfl, (show (K0 w).lookup 991 = some (ob991) by kernel_rfl), (by kernel_rfl), (.inl ⟨rfl, rfl⟩), (.inl rfl)⟩, (by kernel_rfl)⟩
theorem n3_do_cut : PySem.W.nsIn (K0 w) 3 "do_cut" = some (some (.ref 991)) := by kernel_rfl
theorem fs_after : ∃ fd, FunD (K0 w) "after" "after" (defArgs s_after) (defBody s_after) (defScope s_after) [] [] 999 fd :=
  ⟨_, ⟨_, _, _, _, _, _, _, _, _, _, rfl, (show (K0 w).lookup 999 = some (ob999) by kernel_rfl), (by kernel_rfl), (.inl ⟨rfl, rfl⟩), (.inl rfl)⟩, (by kernel_rfl)⟩
theorem n3_after : PySem.W.nsIn (K0 w) 3 "after" = some (some (.ref 999)) := by kernel_rfl
theorem fs_Deck___init__ : ∃ fd, FunD (K0 w) "__init__" "Deck.__init__" (defArgs s_Deck___init__) (defBody s_Deck___init__) (defScope s_Deck___init__) [] [] 1013 fd :=
  ⟨_, ⟨_, _, _, _, _, _, _, _, _, _, rfl, (show (K0 w).lookup 1013 = some (ob1013) by kernel_rfl), (by kernel_rfl), (.inl ⟨rfl, rfl⟩), (.inl rfl)⟩, (by kernel_rfl)⟩
theorem mks_Deck___init__ : Mk (K0 w) 1096 1013 := ⟨by kernel_rfl, by kernel_rfl, by kernel_rfl, by kernel_rfl⟩
theorem fs_Deck_do : ∃ fd, FunD (K0 w) "do" "Deck.do" (defArgs s_Deck_do) (defBody s_Deck_do) (defScope s_Deck_do) [] [] 1032 fd :=
  ⟨_, ⟨_, _, _, _, _, _, _, _, _, _, rfl, (show (K0 w).lookup 1032 = some (ob1032) by kernel_rfl), (by kernel_rfl), (.inl ⟨rfl, rfl⟩), (.inl rfl)⟩, (by kernel_rfl)⟩
theorem mts_Deck_do : Meth (K0 w) 1096 "do" 1032 := ⟨by kernel_rfl, by kernel_rfl, by kernel_rfl⟩
theorem fs_Deck_do_all : ∃ fd, FunD (K0 w) "do_all" "Deck.do_all" (defArgs s_Deck_do_all) (defBody s_Deck_do_all) (defScope s_Deck_do_all) [] [] 1039 fd :=
  ⟨_, ⟨_, _, _, _, _, _, _, _, _, _, rfl, (show (K0 w).lookup 1039 = some (ob1039) by kernel_rfl), (by kernel_rfl), (.inl ⟨rfl, rfl⟩), (.inl rfl)⟩, (by kernel_rfl)⟩
theorem mts_Deck_do_all : Meth (K0 w) 1096 "do_all" 1039 := ⟨by kernel_rfl, by kernel_rfl, by kernel_rfl⟩
theorem fs_Deck_undo : ∃ fd, FunD (K0 w) "undo" "Deck.undo" (defArgs s_Deck_undo) (defBody s_Deck_undo) (defScope s_Deck_undo) [] [] 1053 fd :=
  ⟨_, ⟨_, _, _, _, _, _, _, _, _, _, rfl, (show (K0 w).lookup 1053 = some (ob1053) by kernel_rfl), (by kernel_rfl), (.inl ⟨rfl, rfl⟩), (.inl rfl)⟩, (by kernel_rfl)⟩
theorem mts_Deck_undo : Meth (K0 w) 1096 "undo" 1053 := ⟨by kernel_rfl, by kernel_rfl, by kernel_rfl⟩
theorem fs_Deck_names : ∃ fd, FunD (K0 w) "names" "Deck.names" (defArgs s_Deck_names) (defBody s_Deck_names) (defScope s_Deck_names) [] [] 1072 fd :=
  ⟨_, ⟨_, _, _, _, _, _, _, _, _, _, rfl, (show (K0 w).lookup 1072 = some (ob1072) by kernel_rfl), (by kernel_rfl), (.inl ⟨rfl, rfl⟩), (.inl rfl)⟩, (by kernel_rfl)⟩
theorem mts_Deck_names : Meth (K0 w) 1096 "names" 1072 := ⟨by kernel_rfl, by kernel_rfl, by kernel_rfl⟩
theorem fs_Deck_tape : ∃ fd, FunD (K0 w) "tape" "Deck.tape" (defArgs s_Deck_tape) (defBody s_Deck_tape) (defScope s_Deck_tape) [] [] 1079 fd :=
  ⟨_, ⟨_, _, _, _, _, _, _, _, _, _, rfl, (show (K0 w).lookup 1079 = some (ob1079) by kernel_rfl), (by kernel_rfl), (.inl ⟨rfl, rfl⟩), (.inl rfl)⟩, (by kernel_rfl)⟩
theorem mts_Deck_tape : Meth (K0 w) 1096 "tape" 1079 := ⟨by kernel_rfl, by kernel_rfl, by kernel_rfl⟩
theorem fs_ahead_of : ∃ fd, FunD (K0 w) "ahead_of" "ahead_of" (defArgs s_ahead_of) (defBody s_ahead_of) (defScope s_ahead_of) [] [] 1107 fd :=
  ⟨_, ⟨_, _, _, _, _, _, _, _, _, _, rfl, (show (K0 w).lookup 1107 = some (ob1107) by kernel_rfl), (by kernel_rfl), (.inl ⟨rfl, rfl⟩), (.inl rfl)⟩, (by kernel_rfl)⟩
theorem n3_ahead_of : PySem.W.nsIn (K0 w) 3 "ahead_of" = some (some (.ref 1107)) := by kernel_rfl
theorem fs_timed : ∃ fd, FunD (K0 w) "timed" "timed" (defArgs s_timed) (defBody s_timed) (defScope s_timed) [] [] 1112 fd :=
  ⟨_, ⟨_, _, _, _, _, _, _, _, _, _, rfl, (show (K0 w).lookup 1112 = some (ob1112) by kernel_rfl), (by kernel_rfl), (.inl ⟨rfl, rfl⟩), (.inl rfl)⟩, (by kernel_rfl)⟩
theorem n3_timed : PySem.W.nsIn (K0 w) 3 "timed" = some (some (.ref 1112)) := by kernel_rfl
theorem fs_next_moment : ∃ fd, FunD (K0 w) "next_moment" "next_moment" (defArgs s_next_moment) (defBody s_next_moment) (defScope s_next_moment) [] [] 1119 fd :=
  ⟨_, ⟨_, _, _, _, _, _, _, _, _, _, rfl, (show (K0 w).lookup 1119 = some (ob1119) by kernel_rfl), (by kernel_rfl), (.inl ⟨rfl, rfl⟩), (.inl rfl)⟩, (by kernel_rfl)⟩
theorem n3_next_moment : PySem.W.nsIn (K0 w) 3 "next_moment" = some (some (.ref 1119)) := by kernel_rfl
theorem fs_unlike : ∃ fd, FunD (K0 w) "unlike" "unlike" (defArgs s_unlike) (defBody s_unlike) (defScope s_unlike) [] [] 1126 fd :=
  ⟨_, ⟨_, _, _, _, _, _, _, _, _, _, rfl, (show (K0 w).lookup 1126 = some (ob1126) by kernel_rfl), (by kernel_rfl), (.inl ⟨rfl, rfl⟩), (.inl rfl)⟩, (by kernel_rfl)⟩
theorem n3_unlike : PySem.W.nsIn (K0 w) 3 "unlike" = some (some (.ref 1126)) := by kernel_rfl
theorem fs__law_begin : ∃ fd, FunD (K0 w) "_law_begin" "_law_begin" (defArgs s__law_begin) (defBody s__law_begin) (defScope s__law_begin) [] [] 1133 fd :=
  ⟨_, ⟨_, _, _, _, _, _, _, _, _, _, rfl, (show (K0 w).lookup 1133 = some (ob1133) by kernel_rfl), (by kernel_rfl), (.inl ⟨rfl, rfl⟩), (.inl rfl)⟩, (by kernel_rfl)⟩
theorem n3__law_begin : PySem.W.nsIn (K0 w) 3 "_law_begin" = some (some (.ref 1133)) := by kernel_rfl
theorem fs__law_pick : ∃ fd, FunD (K0 w) "_law_pick" "_law_pick" (defArgs s__law_pick) (defBody s__law_pick) (defScope s__law_pick) [] [] 1140 fd :=
  ⟨_, ⟨_, _, _, _, _, _, _, _, _, _, rfl, (show (K0 w).lookup 1140 = some (ob1140) by kernel_rfl), (by kernel_rfl), (.inl ⟨rfl, rfl⟩), (.inl rfl)⟩, (by kernel_rfl)⟩
theorem n3__law_pick : PySem.W.nsIn (K0 w) 3 "_law_pick" = some (some (.ref 1140)) := by kernel_rfl
theorem fs__law_channel : ∃ fd, FunD (K0 w) "_law_channel" "_law_channel" (defArgs s__law_channel) (defBody s__law_channel) (defScope s__law_channel) [] [] 1147 fd :=
  ⟨_, ⟨_, _, _, _, _, _, _, _, _, _, rfl, (show (K0 w).lookup 1147 = some (ob1147) by kernel_rfl), (by kernel_rfl), (.inl ⟨rfl, rfl⟩), (.inl rfl)⟩, (by kernel_rfl)⟩
theorem n3__law_channel : PySem.W.nsIn (K0 w) 3 "_law_channel" = some (some (.ref 1147)) := by kernel_rfl
theorem fs__law_key : ∃ fd, FunD (K0 w) "_law_key" "_law_key" (defArgs s__law_key) (defBody s__law_key) (defScope s__law_key) [] [] 1154 fd :=
  ⟨_, ⟨_, _, _, _, _, _, _, _, _, _, rfl, (show (K0 w).lookup 1154 = some (ob1154) by kernel_rfl), (by kernel_rfl), (.inl ⟨rfl, rfl⟩), (.inl rfl)⟩, (by kernel_rfl)⟩
theorem n3__law_key : PySem.W.nsIn (K0 w) 3 "_law_key" = some (some (.ref 1154)) := by kernel_rfl
theorem fs__law_one : ∃ fd, FunD (K0 w) "_law_one" "_law_one" (defArgs s__law_one) (defBody s__law_one) (defScope s__law_one) [] [] 1161 fd :=
  ⟨_, ⟨_, _, _, _, _, _, _, _, _, _, rfl, (show (K0 w).lookup 1161 = some (ob1161) by kernel_rfl), (by kernel_rfl), (.inl ⟨rfl, rfl⟩), (.inl rfl)⟩, (by kernel_rfl)⟩
theorem n3__law_one : PySem.W.nsIn (K0 w) 3 "_law_one" = some (some (.ref 1161)) := by kernel_rfl
theorem fs__law_word : ∃ fd, FunD (K0 w) "_law_word" "_law_word" (defArgs s__law_word) (defBody s__law_word) (defScope s__law_word) [] [] 1166 fd :=
  ⟨_, ⟨_, _, _, _, _, _, _, _, _, _, rfl, (show (K0 w).lookup 1166 = some (ob1166) by kernel_rfl), (by kernel_rfl), (.inl ⟨rfl, rfl⟩), (.inl rfl)⟩, (by kernel_rfl)⟩
theorem n3__law_word : PySem.W.nsIn (K0 w) 3 "_law_word" = some (some (.ref 1166)) := by kernel_rfl
theorem fs__law_thing : ∃ fd, FunD (K0 w) "_law_thing" "_law_thing" (defArgs s__law_thing) (defBody s__law_thing) (defScope s__law_thing) [] [] 1173 fd :=
  ⟨_, ⟨_, _, _, _, _, _, _, _, _, _, rfl, (show (K0 w).lookup 1173 = some (ob1173) by kernel_rfl), (by kernel_rfl), (.inl ⟨rfl, rfl⟩), (.inl rfl)⟩, (by kernel_rfl)⟩
theorem n3__law_thing : PySem.W.nsIn (K0 w) 3 "_law_thing" = some (some (.ref 1173)) := by kernel_rfl
theorem fs__law_keen_track : ∃ fd, FunD (K0 w) "_law_keen_track" "_law_keen_track" (defArgs s__law_keen_track) (defBody s__law_keen_track) (defScope s__law_keen_track) [] [] 1178 fd :=
  ⟨_, ⟨_, _, _, _, _, _, _, _, _, _, rfl, (show (K0 w).lookup 1178 = some (ob1178) by kernel_rfl), (by kernel_rfl), (.inl ⟨rfl, rfl⟩), (.inl rfl)⟩, (by kernel_rfl)⟩
theorem n3__law_keen_track : PySem.W.nsIn (K0 w) 3 "_law_keen_track" = some (some (.ref 1178)) := by kernel_rfl
theorem fs__law_beat : ∃ fd, FunD (K0 w) "_law_beat" "_law_beat" (defArgs s__law_beat) (defBody s__law_beat) (defScope s__law_beat) [] [] 1185 fd :=
  ⟨_, ⟨_, _, _, _, _, _, _, _, _, _, rfl, (show (K0 w).lookup 1185 = some (ob1185) by kernel_rfl), (by kernel_rfl), (.inl ⟨rfl, rfl⟩), (.inl rfl)⟩, (by kernel_rfl)⟩
theorem n3__law_beat : PySem.W.nsIn (K0 w) 3 "_law_beat" = some (some (.ref 1185)) := by kernel_rfl
theorem fs__law_tick : ∃ fd, FunD (K0 w) "_law_tick" "_law_tick" (defArgs s__law_tick) (defBody s__law_tick) (defScope s__law_tick) [] [] 1192 fd :=
  ⟨_, ⟨_, _, _, _, _, _, _, _, _, _, rfl, (show (K0 w).lookup 1192 = some (ob1192) by kernel_rfl), (by kernel_rfl), (.inl ⟨rfl, rfl⟩), (.inl rfl)⟩, (by kernel_rfl)⟩
theorem n3__law_tick : PySem.W.nsIn (K0 w) 3 "_law_tick" = some (some (.ref 1192)) := by kernel_rfl
theorem fs__law_pace : ∃ fd, FunD (K0 w) "_law_pace" "_law_pace" (defArgs s__law_pace) (defBody s__law_pace) (defScope s__law_pace) [] [] 1199 fd :=
  ⟨_, ⟨_, _, _, _, _, _, _, _, _, _, rfl, (show (K0 w).lookup 1199 = some (ob1199) by kernel_rfl), (by kernel_rfl), (.inl ⟨rfl, rfl⟩), (.inl rfl)⟩, (by kernel_rfl)⟩
theorem n3__law_pace : PySem.W.nsIn (K0 w) 3 "_law_pace" = some (some (.ref 1199)) := by kernel_rfl
theorem fs__law_paces : ∃ fd, FunD (K0 w) "_law_paces" "_law_paces" (defArgs s__law_paces) (defBody s__law_paces) (defScope s__law_paces) [] [] 1206 fd :=
  ⟨_, ⟨_, _, _, _, _, _, _, _, _, _, rfl, (show (K0 w).lookup 1206 = some (ob1206) by kernel_rfl), (by kernel_rfl), (.inl ⟨rfl, rfl⟩), (.inl rfl)⟩, (by kernel_rfl)⟩
theorem n3__law_paces : PySem.W.nsIn (K0 w) 3 "_law_paces" = some (some (.ref 1206)) := by kernel_rfl
theorem fs__law_pairs : ∃ fd, FunD (K0 w) "_law_pairs" "_law_pairs" (defArgs s__law_pairs) (defBody s__law_pairs) (defScope s__law_pairs) [] [] 1211 fd :=
  ⟨_, ⟨_, _, _, _, _, _, _, _, _, _, rfl, (show (K0 w).lookup 1211 = some (ob1211) by kernel_rfl), (by kernel_rfl), (.inl ⟨rfl, rfl⟩), (.inl rfl)⟩, (by kernel_rfl)⟩
theorem n3__law_pairs : PySem.W.nsIn (K0 w) 3 "_law_pairs" = some (some (.ref 1211)) := by kernel_rfl
theorem fs_law : ∃ fd, FunD (K0 w) "law" "law" (defArgs s_law) (defBody s_law) (defScope s_law) [] [] 1216 fd :=
  ⟨_, ⟨_, _, _, _, _, _, _, _, _, _, rfl, (show (K0 w).lookup 1216 = some (ob1216) by kernel_rfl), (by kernel_rfl), (.inl ⟨rfl, rfl⟩), (.inl rfl)⟩, (by kernel_rfl)⟩
theorem n3_law : PySem.W.nsIn (K0 w) 3 "law" = some (some (.ref 1216)) := by kernel_rfl
theorem tx {base : Heap} {mg : Str → Option Value} (X : (K0 w).In base) (G : base.Ns mainGlobals mg) : Tx w (K0 w) mg ad0 where
  f_len := PySem.W.mg_none_of X G (n3_len w)
  f_range := PySem.W.mg_none_of X G (n3_range w)
  f_min := PySem.W.mg_none_of X G (n3_min w)
  f_max := PySem.W.mg_none_of X G (n3_max w)
  f_abs := PySem.W.mg_none_of X G (n3_abs w)
  f_list := PySem.W.mg_none_of X G (n3_list w)
  f_dict := PySem.W.mg_none_of X G (n3_dict w)
  f_sorted := PySem.W.mg_none_of X G (n3_sorted w)
  f_all := PySem.W.mg_none_of X G (n3_all w)
  f_isinstance := PySem.W.mg_none_of X G (n3_isinstance w)
  f_int := PySem.W.mg_none_of X G (n3_int w)
  f_str := PySem.W.mg_none_of X G (n3_str w)
  f_enumerate := PySem.W.mg_none_of X G (n3_enumerate w)
  f_zip := PySem.W.mg_none_of X G (n3_zip w)
  g_MOST_TICK := ⟨_, PySem.W.mg_of X G (n3_MOST_TICK w), ⟨_, rfl⟩⟩
  g_MOST_EVENTS := ⟨_, PySem.W.mg_of X G (n3_MOST_EVENTS w), ⟨_, rfl⟩⟩
  g_MOST_SIGNS_events := ⟨_, PySem.W.mg_of X G (n3_MOST_SIGNS_events w), ⟨_, rfl⟩⟩
  g_USUAL := ⟨_, PySem.W.mg_of X G (n3_USUAL w), ⟨_, rfl⟩⟩
  g_MOST_BEAT := ⟨_, PySem.W.mg_of X G (n3_MOST_BEAT w), ⟨_, rfl⟩⟩
  g_MOST_PACE := ⟨_, PySem.W.mg_of X G (n3_MOST_PACE w), ⟨_, rfl⟩⟩
  g_MOST_PACES := ⟨_, PySem.W.mg_of X G (n3_MOST_PACES w), ⟨_, rfl⟩⟩
  g_SOFT := ⟨_, PySem.W.mg_of X G (n3_SOFT w), ⟨_, rfl⟩⟩
  g_MOST_TRACKS := ⟨_, PySem.W.mg_of X G (n3_MOST_TRACKS w), ⟨_, rfl⟩⟩
  g_MOST_TAPES := ⟨_, PySem.W.mg_of X G (n3_MOST_TAPES w), ⟨_, rfl⟩⟩
  g_MOST_SIGNS_deeds := ⟨_, PySem.W.mg_of X G (n3_MOST_SIGNS_deeds w), ⟨_, rfl⟩⟩
  g_SIGNS := ⟨_, PySem.W.mg_of X G (n3_SIGNS w), ⟨_, rfl⟩⟩
  g_LETTERS := ⟨_, PySem.W.mg_of X G (n3_LETTERS w), ⟨_, rfl⟩⟩
  g_FORMS := ⟨_, PySem.W.mg_of X G (n3_FORMS w), rfl⟩
  g_SIZES := ⟨_, PySem.W.mg_of X G (n3_SIZES w), rfl⟩
  g_DEEDS := ⟨_, PySem.W.mg_of X G (n3_DEEDS w), rfl⟩
  x_F := x_F w
  x_S := x_S w
  x_D := x_D w
  x_S_new := ⟨_, n857_new w, ⟨_, rfl⟩⟩
  x_S_add := ⟨_, n857_add w, ⟨_, rfl⟩⟩
  x_S_put := ⟨_, n857_put w, ⟨_, rfl⟩⟩
  x_S_pace := ⟨_, n857_pace w, ⟨_, rfl⟩⟩
  x_S_cut := ⟨_, n857_cut w, ⟨_, rfl⟩⟩
  x_D_new := ⟨_, PySem.W.mg_of X G (n3_do_new w), n992_new w⟩
  x_D_add := ⟨_, PySem.W.mg_of X G (n3_do_add w), n992_add w⟩
  x_D_put := ⟨_, PySem.W.mg_of X G (n3_do_put w), n992_put w⟩
  x_D_pace := ⟨_, PySem.W.mg_of X G (n3_do_pace w), n992_pace w⟩
  x_F_on := ⟨_, n406_on w, d408 w⟩
  x_F_off := ⟨_, n406_off w, d409 w⟩
  x_F_knob := ⟨_, n406_knob w, d410 w⟩
  x_F_voice := ⟨_, n406_voice w, d411 w⟩
  x_eP := d702 w
  x_eT := d701 w
  x_ne := x_ne w
  m_Map := PySem.W.mg_of X G (n3_Map w)
  cl_Map := cl_Map w
  is_Map := is_Map w
  n_Map_ticks := n_Map_ticks w
  n_Map_known := n_Map_known w
  m_Tape := PySem.W.mg_of X G (n3_Tape w)
  cl_Tape := cl_Tape w
  is_Tape := is_Tape w
  n_Tape_own := n_Tape_own w
  n_Tape_rows := n_Tape_rows w
  m_Stand := PySem.W.mg_of X G (n3_Stand w)
  cl_Stand := cl_Stand w
  is_Stand := is_Stand w
  n_Stand_ringing := n_Stand_ringing w
  n_Stand_turned := n_Stand_turned w
  n_Stand_chosen := n_Stand_chosen w
  m_Deck := PySem.W.mg_of X G (n3_Deck w)
  cl_Deck := cl_Deck w
  n_Deck_book := n_Deck_book w
  n_Deck_elder := n_Deck_elder w
  n_Deck_past := n_Deck_past w
  n_Deck_ahead := n_Deck_ahead w
  n_Deck_under := n_Deck_under w
  d_is_between := (let ⟨fd, h⟩ := fs_is_between w; ⟨_, fd, h, PySem.W.mg_of X G (n3_is_between w)⟩)
  d_is_text := (let ⟨fd, h⟩ := fs_is_text w; ⟨_, fd, h, PySem.W.mg_of X G (n3_is_text w)⟩)
  d_is_event := (let ⟨fd, h⟩ := fs_is_event w; ⟨_, fd, h, PySem.W.mg_of X G (n3_is_event w)⟩)
  d_need_track := (let ⟨fd, h⟩ := fs_need_track w; ⟨_, fd, h, PySem.W.mg_of X G (n3_need_track w)⟩)
  d_need_tick := (let ⟨fd, h⟩ := fs_need_tick w; ⟨_, fd, h, PySem.W.mg_of X G (n3_need_tick w)⟩)
  d_need_room_events := (let ⟨fd, h⟩ := fs_need_room_events w; ⟨_, fd, h, PySem.W.mg_of X G (n3_need_room_events w)⟩)
  d_later := (let ⟨fd, h⟩ := fs_later w; ⟨_, fd, h, PySem.W.mg_of X G (n3_later w)⟩)
  d_put_in := (let ⟨fd, h⟩ := fs_put_in w; ⟨_, fd, h, PySem.W.mg_of X G (n3_put_in w)⟩)
  d_common := (let ⟨fd, h⟩ := fs_common w; ⟨_, fd, h, PySem.W.mg_of X G (n3_common w)⟩)
  d_share := (let ⟨fd, h⟩ := fs_share w; ⟨_, fd, h, PySem.W.mg_of X G (n3_share w)⟩)
  d_need_beat := (let ⟨fd, h⟩ := fs_need_beat w; ⟨_, fd, h, PySem.W.mg_of X G (n3_need_beat w)⟩)
  d_need_pace := (let ⟨fd, h⟩ := fs_need_pace w; ⟨_, fd, h, PySem.W.mg_of X G (n3_need_pace w)⟩)
  d_Map___init__ := (let ⟨fd, h⟩ := fs_Map___init__ w; ⟨_, fd, h, mks_Map___init__ w⟩)
  d_Map___eq__ := (let ⟨fd, h⟩ := fs_Map___eq__ w; ⟨_, fd, h, mts_Map___eq__ w⟩)
  d_Map_put := (let ⟨fd, h⟩ := fs_Map_put w; ⟨_, fd, h, mts_Map_put w⟩)
  d_Map_beat := (let ⟨fd, h⟩ := fs_Map_beat w; ⟨_, fd, h, mts_Map_beat w⟩)
  d_Map_paces := (let ⟨fd, h⟩ := fs_Map_paces w; ⟨_, fd, h, mts_Map_paces w⟩)
  d_Map_pace_at := (let ⟨fd, h⟩ := fs_Map_pace_at w; ⟨_, fd, h, mts_Map_pace_at w⟩)
  d_Map_stretches := (let ⟨fd, h⟩ := fs_Map_stretches w; ⟨_, fd, h, mts_Map_stretches w⟩)
  d_Map_moment := (let ⟨fd, h⟩ := fs_Map_moment w; ⟨_, fd, h, mts_Map_moment w⟩)
  d_Map_twin := (let ⟨fd, h⟩ := fs_Map_twin w; ⟨_, fd, h, mts_Map_twin w⟩)
  d_Tape___init__ := (let ⟨fd, h⟩ := fs_Tape___init__ w; ⟨_, fd, h, mks_Tape___init__ w⟩)
  d_Tape___eq__ := (let ⟨fd, h⟩ := fs_Tape___eq__ w; ⟨_, fd, h, mts_Tape___eq__ w⟩)
  d_Tape_beat := (let ⟨fd, h⟩ := fs_Tape_beat w; ⟨_, fd, h, mts_Tape_beat w⟩)
  d_Tape_tracks := (let ⟨fd, h⟩ := fs_Tape_tracks w; ⟨_, fd, h, mts_Tape_tracks w⟩)
  d_Tape_paces := (let ⟨fd, h⟩ := fs_Tape_paces w; ⟨_, fd, h, mts_Tape_paces w⟩)
  d_Tape_paced := (let ⟨fd, h⟩ := fs_Tape_paced w; ⟨_, fd, h, mts_Tape_paced w⟩)
  d_Stand___init__ := (let ⟨fd, h⟩ := fs_Stand___init__ w; ⟨_, fd, h, mks_Stand___init__ w⟩)
  d_Stand___eq__ := (let ⟨fd, h⟩ := fs_Stand___eq__ w; ⟨_, fd, h, mts_Stand___eq__ w⟩)
  d_Stand_parts := (let ⟨fd, h⟩ := fs_Stand_parts w; ⟨_, fd, h, mts_Stand_parts w⟩)
  d_Stand_after := (let ⟨fd, h⟩ := fs_Stand_after w; ⟨_, fd, h, mts_Stand_after w⟩)
  d_Stand_sounds := (let ⟨fd, h⟩ := fs_Stand_sounds w; ⟨_, fd, h, mts_Stand_sounds w⟩)
  d_Stand_knobs := (let ⟨fd, h⟩ := fs_Stand_knobs w; ⟨_, fd, h, mts_Stand_knobs w⟩)
  d_Stand_voices := (let ⟨fd, h⟩ := fs_Stand_voices w; ⟨_, fd, h, mts_Stand_voices w⟩)
  d_stand_behind := (let ⟨fd, h⟩ := fs_stand_behind w; ⟨_, fd, h, PySem.W.mg_of X G (n3_stand_behind w)⟩)
  d_cut := (let ⟨fd, h⟩ := fs_cut w; ⟨_, fd, h, PySem.W.mg_of X G (n3_cut w)⟩)
  d_glued := (let ⟨fd, h⟩ := fs_glued w; ⟨_, fd, h, PySem.W.mg_of X G (n3_glued w)⟩)
  d_need_new := (let ⟨fd, h⟩ := fs_need_new w; ⟨_, fd, h, PySem.W.mg_of X G (n3_need_new w)⟩)
  d_need_room_deeds := (let ⟨fd, h⟩ := fs_need_room_deeds w; ⟨_, fd, h, PySem.W.mg_of X G (n3_need_room_deeds w)⟩)
  d_tape_of := (let ⟨fd, h⟩ := fs_tape_of w; ⟨_, fd, h, PySem.W.mg_of X G (n3_tape_of w)⟩)
  d_track_of := (let ⟨fd, h⟩ := fs_track_of w; ⟨_, fd, h, PySem.W.mg_of X G (n3_track_of w)⟩)
  d_with_track := (let ⟨fd, h⟩ := fs_with_track w; ⟨_, fd, h, PySem.W.mg_of X G (n3_with_track w)⟩)
  d_do_new := (let ⟨fd, h⟩ := fs_do_new w; ⟨_, fd, h, PySem.W.mg_of X G (n3_do_new w)⟩)
  d_do_add := (let ⟨fd, h⟩ := fs_do_add w; ⟨_, fd, h, PySem.W.mg_of X G (n3_do_add w)⟩)
  d_do_put := (let ⟨fd, h⟩ := fs_do_put w; ⟨_, fd, h, PySem.W.mg_of X G (n3_do_put w)⟩)
  d_do_pace := (let ⟨fd, h⟩ := fs_do_pace w; ⟨_, fd, h, PySem.W.mg_of X G (n3_do_pace w)⟩)
  d_do_cut := (let ⟨fd, h⟩ := fs_do_cut w; ⟨_, fd, h, PySem.W.mg_of X G (n3_do_cut w)⟩)
  d_after := (let ⟨fd, h⟩ := fs_after w; ⟨_, fd, h, PySem.W.mg_of X G (n3_after w)⟩)
  d_Deck___init__ := (let ⟨fd, h⟩ := fs_Deck___init__ w; ⟨_, fd, h, mks_Deck___init__ w⟩)
  d_Deck_do := (let ⟨fd, h⟩ := fs_Deck_do w; ⟨_, fd, h, mts_Deck_do w⟩)
  d_Deck_do_all := (let ⟨fd, h⟩ := fs_Deck_do_all w; ⟨_, fd, h, mts_Deck_do_all w⟩)
  d_Deck_undo := (let ⟨fd, h⟩ := fs_Deck_undo w; ⟨_, fd, h, mts_Deck_undo w⟩)
  d_Deck_names := (let ⟨fd, h⟩ := fs_Deck_names w; ⟨_, fd, h, mts_Deck_names w⟩)
  d_Deck_tape := (let ⟨fd, h⟩ := fs_Deck_tape w; ⟨_, fd, h, mts_Deck_tape w⟩)
  d_ahead_of := (let ⟨fd, h⟩ := fs_ahead_of w; ⟨_, fd, h, PySem.W.mg_of X G (n3_ahead_of w)⟩)
  d_timed := (let ⟨fd, h⟩ := fs_timed w; ⟨_, fd, h, PySem.W.mg_of X G (n3_timed w)⟩)
  d_next_moment := (let ⟨fd, h⟩ := fs_next_moment w; ⟨_, fd, h, PySem.W.mg_of X G (n3_next_moment w)⟩)
  d_unlike := (let ⟨fd, h⟩ := fs_unlike w; ⟨_, fd, h, PySem.W.mg_of X G (n3_unlike w)⟩)
  d__law_begin := (let ⟨fd, h⟩ := fs__law_begin w; ⟨_, fd, h, PySem.W.mg_of X G (n3__law_begin w)⟩)
  d__law_pick := (let ⟨fd, h⟩ := fs__law_pick w; ⟨_, fd, h, PySem.W.mg_of X G (n3__law_pick w)⟩)
  d__law_channel := (let ⟨fd, h⟩ := fs__law_channel w; ⟨_, fd, h, PySem.W.mg_of X G (n3__law_channel w)⟩)
  d__law_key := (let ⟨fd, h⟩ := fs__law_key w; ⟨_, fd, h, PySem.W.mg_of X G (n3__law_key w)⟩)
  d__law_one := (let ⟨fd, h⟩ := fs__law_one w; ⟨_, fd, h, PySem.W.mg_of X G (n3__law_one w)⟩)
  d__law_word := (let ⟨fd, h⟩ := fs__law_word w; ⟨_, fd, h, PySem.W.mg_of X G (n3__law_word w)⟩)
  d__law_thing := (let ⟨fd, h⟩ := fs__law_thing w; ⟨_, fd, h, PySem.W.mg_of X G (n3__law_thing w)⟩)
  d__law_keen_track := (let ⟨fd, h⟩ := fs__law_keen_track w; ⟨_, fd, h, PySem.W.mg_of X G (n3__law_keen_track w)⟩)
  d__law_beat := (let ⟨fd, h⟩ := fs__law_beat w; ⟨_, fd, h, PySem.W.mg_of X G (n3__law_beat w)⟩)
  d__law_tick := (let ⟨fd, h⟩ := fs__law_tick w; ⟨_, fd, h, PySem.W.mg_of X G (n3__law_tick w)⟩)
  d__law_pace := (let ⟨fd, h⟩ := fs__law_pace w; ⟨_, fd, h, PySem.W.mg_of X G (n3__law_pace w)⟩)
  d__law_paces := (let ⟨fd, h⟩ := fs__law_paces w; ⟨_, fd, h, PySem.W.mg_of X G (n3__law_paces w)⟩)
  d__law_pairs := (let ⟨fd, h⟩ := fs__law_pairs w; ⟨_, fd, h, PySem.W.mg_of X G (n3__law_pairs w)⟩)
  d_law := (let ⟨fd, h⟩ := fs_law w; ⟨_, fd, h, PySem.W.mg_of X G (n3_law w)⟩)
end TpH
set_option maxHeartbeats 2000000
namespace Tp
open PySem PySem.Spec PyProof.Rows L2
/-! ### typed data -/
inductive Th where
  | on (c k f : Int) | off (c k f : Int) | knob (c k v : Int) | voice (c v : Int) | mark (z : Str)
structure Ev where
  t : Int
  th : Th
def Th.ds : Th → List PyData
  | .on c k f => [.str "on", .int c, .int k, .int f]
  | .off c k f => [.str "off", .int c, .int k, .int f]
  | .knob c k v => [.str "knob", .int c, .int k, .int v]
  | .voice c v => [.str "voice", .int c, .int v]
  | .mark z => [.str "mark", .str z]
def Th.d (x : Th) : PyData := .tuple x.ds
def Ev.d (e : Ev) : PyData := .tuple (.int e.t :: e.th.ds)
def trD (l : List Ev) : PyData := .list (l.map Ev.d)
def signs : Str := "abcdefghijklmnopqrstuvwxyz0123456789 "
def Th.ok : Th → Prop
  | .on c k f => (0 ≤ c ∧ c ≤ 15) ∧ (0 ≤ k ∧ k ≤ 127) ∧ 1 ≤ f ∧ f ≤ 127
  | .off c k f => (0 ≤ c ∧ c ≤ 15) ∧ (0 ≤ k ∧ k ≤ 127) ∧ 0 ≤ f ∧ f ≤ 127
  | .knob c k v => (0 ≤ c ∧ c ≤ 15) ∧ (0 ≤ k ∧ k ≤ 127) ∧ 0 ≤ v ∧ v ≤ 127
  | .voice c v => (0 ≤ c ∧ c ≤ 15) ∧ 0 ≤ v ∧ v ≤ 127
  | .mark z => z.length ≤ 12 ∧ ∀ c ∈ z.cps.toList, c ∈ signs.cps.toList
def Ev.ok (e : Ev) : Prop := (0 ≤ e.t ∧ e.t ≤ 999999) ∧ e.th.ok
structure TrOk (l : List Ev) : Prop where
  ok : ∀ e ∈ l, e.ok
  up : l.Pairwise fun x y => x.t ≤ y.t
  len : l.length ≤ 200
def Ev.shift (by_ : Int) (e : Ev) : Ev := ⟨e.t + by_, e.th⟩
/-- pairs of ticks and paces -/
abbrev Ps : Type := List (Int × Int)
def prD (q : Int × Int) : PyData := .tuple [.int q.1, .int q.2]
def psD (l : Ps) : PyData := .list (l.map prD)
def triD (q : Int × Int × Int) : PyData := .tuple [.int q.1, .int q.2.1, .int q.2.2]
structure PsOk (l : Ps) : Prop where
  ok : ∀ q ∈ l, (0 ≤ q.1 ∧ q.1 ≤ 999999) ∧ 1 ≤ q.2 ∧ q.2 ≤ 16777215
  up : l.Pairwise fun x y => x.1 < y.1
  len : l.length ≤ 20
def BeatOk (b : Int) : Prop := 1 ≤ b ∧ b ≤ 960
/-! ### a list or a tuple -/
def SqA (K : PySem.W.Frag) (G : Hp) (a : Addr) (xs : List V) : Prop := SqL K G a xs ∨ SqT K G a xs
section
variable {K : PySem.W.Frag} {G G' : Hp} {p : Addr} {ad : Ad}
theorem SqA.mono {a : Addr} {xs : List V} (s : Same G G') (h : SqA K G a xs) : SqA K G' a xs := h.elim (fun h => .inl (sqL_mono s h)) fun h => .inr (sqT_mono s h)
/-! ### maps -/
def fM (b : Int) (d : Addr) : List (Str × V) := [("ticks", .int b), ("known", .ref d)]
def kM (kvs : Ps) : List (Key × V) := kvs.map fun q => (Sum.inl q.1, V.int q.2)
def MapD (ad : Ad) (G : Hp) (p d : Addr) (b : Int) (kvs : Ps) : Prop := (∃ dx, G p = some (.ins ad.cM dx (fM b d))) ∧ G d = some (.dK (kM kvs))
def MapAt (ad : Ad) (G : Hp) (p : Addr) (b : Int) (kvs : Ps) : Prop := ∃ d, MapD ad G p d b kvs
theorem MapD.mono {d : Addr} {b : Int} {kvs : Ps} (s : Same G G') (h : MapD ad G p d b kvs) : MapD ad G' p d b kvs := let ⟨⟨dx, h1⟩, h2⟩ := h; ⟨⟨dx, s _ _ h1⟩, s _ _ h2⟩
theorem MapAt.mono {b : Int} {kvs : Ps} (s : Same G G') (h : MapAt ad G p b kvs) : MapAt ad G' p b kvs := let ⟨d, h⟩ := h; ⟨d, h.mono s⟩
/-! ### tapes -/
structure Tp0 where
  b : Int
  ps : Ps
  trs : List (List Ev)
structure TpOk (t : Tp0) : Prop where
  b : BeatOk t.b
  ps : PsOk t.ps
  trs : ∀ l ∈ t.trs, TrOk l
  len : 1 ≤ t.trs.length ∧ t.trs.length ≤ 6
def fT (m r : Addr) : List (Str × V) := [("own", .ref m), ("rows", .ref r)]
def trsD (l : List (List Ev)) : PyData := .list (l.map trD)
def TapeAt (ad : Ad) (K : PySem.W.Frag) (G : Hp) (p : Addr) (t : Tp0) : Prop := ∃ dx m r, G p = some (.ins ad.cT dx (fT m r)) ∧ MapAt ad G m t.b t.ps ∧ Dp K G (.ref r) (trsD t.trs)
theorem TapeAt.mono {t : Tp0} (s : Same G G') (h : TapeAt ad K G p t) : TapeAt ad K G' p t := let ⟨dx, m, r, h1, h2, h3⟩ := h; ⟨dx, m, r, s _ _ h1, h2.mono s, dp_mono s h3⟩
/-! ### stands -/
structure Sd where
  r : Int × Int → List Int
  t : Int × Int → Int
  c : Int → Int
def Sd.nil : Sd := ⟨fun _ => [], fun _ => 0, fun _ => 0⟩
def Sd.step (s : Sd) : Th → Sd
  | .on c k f => { s with r := fun q => if q = (c, k) then s.r q ++ [f] else s.r q }
  | .off c k _ => { s with r := fun q => if q = (c, k) then (s.r q).drop 1 else s.r q }
  | .knob c k v => { s with t := fun q => if q = (c, k) then v else s.t q }
  | .voice c v => { s with c := fun q => if q = c then v else s.c q }
  | .mark _ => s
def Sd.run (s : Sd) (l : List Ev) : Sd := l.foldl (fun s e => s.step e.th) s
def fS (r t c : Addr) : List (Str × V) := [("ringing", .ref r), ("turned", .ref t), ("chosen", .ref c)]
abbrev kk (q : Int × Int) : List Key := [Sum.inl q.1, Sum.inl q.2]
def InR (q : Int × Int) : Prop := (0 ≤ q.1 ∧ q.1 ≤ 15) ∧ 0 ≤ q.2 ∧ q.2 ≤ 127
structure Ring (K : PySem.W.Frag) (G : Hp) (r : Addr) (f : Int × Int → List Int) (es : List ((Int × Int) × Addr)) : Prop where
  at_ : G r = some (.dT (es.map fun e => (kk e.1, .ref e.2)))
  nd : (es.map (·.1)).Nodup
  val : ∀ e ∈ es, SqT K G e.2 ((f e.1).map V.int)
  out : ∀ q, q ∉ es.map (·.1) → f q = []
  rng : ∀ e ∈ es, InR e.1
structure Turn2 (G : Hp) (r : Addr) (f : Int × Int → Int) (es : List ((Int × Int) × Int)) : Prop where
  at_ : G r = some (.dT (es.map fun e => (kk e.1, .int e.2)))
  nd : (es.map (·.1)).Nodup
  val : ∀ e ∈ es, f e.1 = e.2
  out : ∀ q, q ∉ es.map (·.1) → f q = 0
  rng : ∀ e ∈ es, InR e.1
structure Chos (G : Hp) (r : Addr) (f : Int → Int) (es : List (Int × Int)) : Prop where
  at_ : G r = some (.dK (kM es))
  nd : (es.map (·.1)).Nodup
  val : ∀ e ∈ es, f e.1 = e.2
  out : ∀ q, q ∉ es.map (·.1) → f q = 0
def StandAt (ad : Ad) (K : PySem.W.Frag) (G : Hp) (p : Addr) (s : Sd) (n : Nat) : Prop := ∃ dx r t c er et ec, G p = some (.ins ad.cS dx (fS r t c)) ∧ Ring K G r s.r er ∧ Turn2 G t s.t et ∧ Chos G c s.c ec ∧ er.length ≤ n ∧ et.length ≤ n ∧ ec.length ≤ n ∧ ∀ q, (s.r q).length ≤ n
theorem Ring.mono {r : Addr} {f : Int × Int → List Int} {es : List ((Int × Int) × Addr)} (s : Same G G') (h : Ring K G r f es) : Ring K G' r f es := ⟨s _ _ h.at_, h.nd, fun e he => sqT_mono s (h.val e he), h.out, h.rng⟩
theorem Turn2.mono {r : Addr} {f : Int × Int → Int} {es : List ((Int × Int) × Int)} (s : Same G G') (h : Turn2 G r f es) : Turn2 G' r f es := ⟨s _ _ h.at_, h.nd, h.val, h.out, h.rng⟩
theorem Chos.mono {r : Addr} {f : Int → Int} {es : List (Int × Int)} (s : Same G G') (h : Chos G r f es) : Chos G' r f es := ⟨s _ _ h.at_, h.nd, h.val, h.out⟩
theorem StandAt.mono {sd : Sd} {n : Nat} (s : Same G G') (h : StandAt ad K G p sd n) : StandAt ad K G' p sd n := by
  obtain ⟨dx, r, t, c, er, et, ec, h1, h2, h3, h4, h5⟩ := h
  exact ⟨dx, r, t, c, er, et, ec, s _ _ h1, h2.mono s, h3.mono s, h4.mono s, h5⟩
end
end Tp
set_option maxHeartbeats 2000000
/-! rules of our own -/
namespace Tp
open PySem PySem.Spec PyProof.Rows L2
section
variable {X : Cx}
/-- try: body / finally: suite, where nothing is raised -/
def tFinN (tb tf : TS) : TS := fun D σ H => tb { nx := fun σ1 H1 => tf D σ1 H1, rt := fun _ _ => False } σ H
theorem ps_finN {body : List Stmt} {f₀ : Stmt} {fs : List Stmt} {pos : Pos} {tb tf : TS} (hb : PSs X.nox body tb) (hf : PSs X.nox (f₀ :: fs) tf) : PS X (.Try body [] [] (f₀ :: fs) pos) (tFinN tb tf) := by
  refine ⟨fun pins s σ H D I h => wpAny_Try_finally ?_⟩
  refine wpAny_mono (hb.run pins s σ H _ (I.wish _) h) (fun f s1 q => ?_) fun _ _ z => False.elim z
  cases f with
  | next =>
    obtain ⟨σ1, H1, I1, q1⟩ := q
    refine wpAny_execs_nil (wpAny_mono (hf.run pins s1 σ1 H1 D I1 q1) (fun g s2 q2 => ?_) fun _ _ z => False.elim z)
    have q3 : SP X pins D g s2 := q2.unwish
    cases g <;> exact q3
  | ret v => obtain ⟨_, _, _, _, _, z⟩ := q; exact False.elim z
  | brk => obtain ⟨_, _, _, z⟩ := q; exact False.elim z
  | cont => obtain ⟨_, _, _, z⟩ := q; exact False.elim z
end
end Tp
set_option maxHeartbeats 2000000
namespace Tp
open PySem PySem.Spec PyProof.Rows L2
section
variable {σ : L2.St} {H : Hp} {Q : VK} {v x y : V} {i j : Int} {n : Nat} {ta tb tc te : TE} {r r' : R2} {D : Ends} {t u : TS} {g : TG} {tt t1 t2 : TT} {QB : Bool → Hp → Prop} {b : Bool} {tr : TA} {QA : List V → Hp → Prop} {K : PySem.W.Frag}
theorem ev_var (h : σ[n]? = some (some v)) (q : Q v H) : tVar n σ H Q := ⟨v, h, q⟩
theorem ev_c (q : Q v H) : tC v σ H Q := q
theorem ev_op (q : ta σ H fun x H1 => tb σ H1 fun y H2 => r x y H2 Q) : tOp r ta tb σ H Q := q
theorem ev_un {f : V → Hp → VK → Prop} (q : ta σ H fun x H1 => f x H1 Q) : tUn f ta σ H Q := q
theorem ev_I0 {f : Int → Int → V} (q : Q (f i j) H) : rI0 f (.int i) (.int j) H Q := ⟨i, j, rfl, rfl, q⟩
theorem ev_I {C : Int → Int → Prop} {f : Int → Int → V} (c : C i j) (q : Q (f i j) H) : rI C f (.int i) (.int j) H Q := ⟨i, j, rfl, rfl, c, q⟩
theorem ev_eq (c : scal x y = true) (q : Q (.bl (decide (x = y))) H) : rEq x y H Q := ⟨c, q⟩
theorem ev_ne (c : scal x y = true) (q : Q (.bl (!decide (x = y))) H) : rNe x y H Q := ⟨c, q⟩
theorem ev_test (q : te σ H fun x H' => ∃ k, x = .bl k ∧ QB k H') : tTest te σ H QB := q
theorem ev_B (q : te σ H fun x H' => ∃ k, x = .bl k ∧ QB k H') : tB te σ H QB := q
theorem ev_bl {R : Bool → Prop} (q : R b) : ∃ k, V.bl b = .bl k ∧ R k := ⟨b, rfl, q⟩
theorem ev_chain (q : ta σ H fun x H1 => tb σ H1 fun y H2 => r x y H2 fun z H3 => ∃ k, z = .bl k ∧ if k = true then tc σ H3 fun w' H4 => r' y w' H4 Q else Q (.bl false) H3) : tChain r r' ta tb tc σ H Q := q
theorem ev_not (q : tt σ H fun c H1 => QB (!c) H1) : tNot tt σ H QB := q
theorem ev_and (q : t1 σ H fun c H1 => if c = true then t2 σ H1 QB else QB false H1) : tAnd t1 t2 σ H QB := q
theorem ev_or (q : t1 σ H fun c H1 => if c = true then QB true H1 else t2 σ H1 QB) : tOr t1 t2 σ H QB := q
theorem ev_andV (q : ta σ H fun x H1 => ∃ c, x = .bl c ∧ if c = true then tb σ H1 Q else Q (.bl false) H1) : tAndV ta tb σ H Q := q
theorem ev_orV (q : ta σ H fun x H1 => ∃ c, x = .bl c ∧ if c = true then Q (.bl true) H1 else tb σ H1 Q) : tOrV ta tb σ H Q := q
theorem ev_ifE (q : tt σ H fun c H1 => if c = true then ta σ H1 Q else tb σ H1 Q) : tIf tt ta tb σ H Q := q
theorem ev_seq (q : t { D with nx := u D } σ H) : tSeq t u D σ H := q
theorem ev_asg (q : te σ H fun x H1 => g x σ H1 D.nx) : tAsg te g D σ H := q
theorem ev_drop (q : te σ H fun _ H1 => D.nx σ H1) : tDrop te D σ H := q
theorem ev_ret (q : te σ H D.rt) : tRet te D σ H := q
theorem ev_next (q : D.nx σ H) : tNext D σ H := q
theorem ev_ifS (q : tt σ H fun b H1 => if b = true then t D σ H1 else u D σ H1) : tIfS tt t u D σ H := q
theorem ev_name {R : L2.St → Hp → Prop} (q : R (σ.set n (some v)) H) : gName n v σ H R := q
theorem ev_nil (q : QA [] H) : tNil σ H QA := q
theorem ev_cons (q : ta σ H fun x H1 => tr σ H1 fun xs H2 => QA (x :: xs) H2) : tCons ta tr σ H QA := q
theorem ev_call {sp : Sp} {dvs : List V} {E : XK} (q : tr σ H fun vs H1 => sp (vs ++ dvs) H1 Q E) : tCall sp dvs E tr σ H Q := q
theorem ev_tup (q : tr σ H fun xs H1 => xs.length ≤ sizeLine ∧ ∀ p, H1 p = none → Q (.ref p) (upd H1 p (.tup xs))) : tTup tr σ H Q := q
theorem ev_lst (q : tr σ H fun xs H1 => xs.length ≤ sizeLine ∧ ∀ p, H1 p = none → Q (.ref p) (upd H1 p (.lst xs))) : tLst tr σ H Q := q
theorem ev_CB {f : List V → Hp → VK → Prop} (q : tr σ H fun vs H1 => f vs H1 Q) : tCB f tr σ H Q := q
theorem ev_fld {f : Str} (q : ta σ H fun x H1 => ∃ a C dx fs v, x = .ref a ∧ H1 a = some (.ins C dx fs) ∧ Cls K C ∧ NoAttr K C f ∧ fs.lookup f = some v ∧ Q v H1) : tFld K ta f σ H Q := q
theorem ev_fldAt {a C dx : Addr} {fs : List (Str × V)} {f : Str} (h : H a = some (.ins C dx fs)) (c : Cls K C) (n : NoAttr K C f) (l : fs.lookup f = some v) (q : Q v H) :
    ∃ a' C' dx' fs' v', V.ref a = .ref a' ∧ H a' = some (.ins C' dx' fs') ∧ Cls K C' ∧ NoAttr K C' f ∧ fs'.lookup f = some v' ∧ Q v' H := ⟨a, C, dx, fs, v, rfl, h, c, n, l, q⟩
theorem ev_meth {C : Addr} {m : Str} {sp : Sp} {dvs : List V} {E : XK} (q : ta σ H fun x H1 => ∃ a dx fs, x = .ref a ∧ H1 a = some (.ins C dx fs) ∧ fs.lookup m = none ∧ tr σ H1 fun vs H2 => sp (x :: (vs ++ dvs)) H2 Q E) : tMeth C m sp dvs E ta tr σ H Q := q
theorem ev_lenT {p : Addr} {xs : List V} (h : SqL K H p xs ∨ SqT K H p xs) (q : Q (.int xs.length) H) : ∃ p' ys, [V.ref p] = [.ref p'] ∧ (SqL K H p' ys ∨ SqT K H p' ys) ∧ Q (.int ys.length) H := ⟨p, xs, rfl, h, q⟩
theorem ev_ixT {p : Addr} {xs : List V} (h : SqT K H p xs) (e : atI xs i = some v) (q : Q v H) : rIxT K (.ref p) (.int i) H Q := ⟨p, xs, i, v, rfl, rfl, h, e, q⟩
theorem ev_ixL {p : Addr} {xs : List V} (h : SqL K H p xs) (e : atI xs i = some v) (q : Q v H) : rIxL K (.ref p) (.int i) H Q := ⟨p, xs, i, v, rfl, rfl, h, e, q⟩
theorem if_t {A B : Prop} (h : b = true) (q : A) : if b = true then A else B := by
  rw [if_pos h]
  exact q
theorem if_f {A B : Prop} (h : b = false) (q : B) : if b = true then A else B := by
  rw [if_neg (by rw [h]; decide)]
  exact q
theorem if_2 {A B : Prop} (q1 : b = true → A) (q2 : b = false → B) : if b = true then A else B := by
  cases b with
  | true => exact iteT (q1 rfl)
  | false => exact iteF (q2 rfl)
theorem if_d {p : Prop} [Decidable p] {A B : Prop} (h : p) (q : A) : if decide p = true then A else B := if_t (decide_eq_true h) q
theorem if_nd {p : Prop} [Decidable p] {A B : Prop} (h : ¬ p) (q : B) : if decide p = true then A else B := if_f (decide_eq_false h) q
theorem if_n {A B : Prop} (h : b = true) (q : B) : if (!b) = true then A else B := if_f (by rw [h]; rfl) q
theorem if_nn {A B : Prop} (h : b = false) (q : A) : if (!b) = true then A else B := if_t (by rw [h]; rfl) q
theorem if_dd {p : Prop} [Decidable p] {A B : Prop} (q1 : p → A) (q2 : ¬ p → B) : if decide p = true then A else B := if_2 (fun h => q1 (of_decide_eq_true h)) fun h => q2 (of_decide_eq_false h)
end
end Tp
set_option maxHeartbeats 2000000
namespace Tp
open PySem PySem.Spec PyProof.Rows L2
/-- a new list at r, its items the data ds; they don't lean on r -/
structure NewL (K : PySem.W.Frag) (N : List Addr) (H H' : Hp) (r : Addr) (ds : List PyData) : Prop where
  same : Same H H'
  new : H r = none
  at_ : ∃ xs, H' r = some (.lst xs) ∧ DpAll K (wo (r :: N) H') xs ds
section
variable {K : PySem.W.Frag} {N : List Addr} {H H' H1 : Hp} {r D a : Addr} {ds : List PyData}
theorem NewL.dp (n : NewL K N H H' r ds) (l : Live N H) : Dp K (wo N H') (.ref r) (.list ds) := by
  obtain ⟨xs, h1, h2⟩ := n.at_
  exact .lst (.of (wo_at (l.notin n.new) h1)) (dpA_mono wo_drop h2)
theorem NewL.back (n : NewL K N H1 H' r ds) (s : Same H H1) : NewL K N H H' r ds := ⟨s.trans n.same, s.free n.new, n.at_⟩
theorem take_up {α : Type} : ∀ {l : List α} {i : Nat} {x : α}, l[i]? = some x → l.take (i + 1) = l.take i ++ [x]
  | [], i, x, h => by simp at h
  | y :: l, 0, x, h => by
    cases h
    rfl
  | y :: l, i + 1, x, h => congrArg (y :: ·) (take_up (l := l) (i := i) (x := x) h)
/-- a comprehension over a list of data, its test and its items plain -/
theorem lc_data {α : Type} {xs : List V} {g : TG} {tt : TT} {te : TE} {vs : List Nat} {σ : L2.St} {Qd : Hp → Prop} (N : List Addr) (es : List α) (enc : α → PyData) (keep : α → Bool) (out : α → PyData)
    (hx : SqL K H1 a xs) (hd : DpAll K (wo N H1) xs (es.map enc)) (hD : H1 D = none) (hz : es.length ≤ 100000) (lv : Live N H1)
    (turn : ∀ e ∈ es, ∀ x H, Same H1 H → Live (D :: N) H → Dp K (wo (D :: N) H) x (enc e) → ∀ (R : Hp → Prop) (Y : V → Hp → Prop), (keep e = false → ∀ H', Same H H' → R H') →
      (keep e = true → ∀ y H', Same H H' → Dp K (wo (D :: N) H') y (out e) → Y y H') → g x (wipe σ vs) H fun σ2 H2 => wipe σ2 vs = wipe σ vs ∧ tt σ2 H2 fun b H3 => if b = true then te σ2 H3 Y else R H3)
    (done : ∀ H', NewL K N H1 H' D ((es.filter keep).map out) → Qd H') :
    ∃ W : Nat → Nat → Hp → Prop, (∃ m, W 0 m (upd H1 D (.lst []))) ∧ ∀ i m H, W i m H →
      ((Itl K a).stop i H ∧ Qd H) ∨ ((Itl K a).go i H ∧ ∃ Nx : Hp → Prop, (∀ H', Nx H' → ∃ m', m' < m ∧ W (i + 1) m' H') ∧ ∀ x H', (Itl K a).yld i H x H' → g x (wipe σ vs) H' fun σ2 H2 => wipe σ2 vs = wipe σ vs ∧ tt σ2 H2 fun b H3 =>
        if b = true then te σ2 H3 fun y H4 => ∃ acc, H4 D = some (.lst acc) ∧ acc.length < sizeLine ∧ Nx (upd H4 D (.lst (acc ++ [y]))) else Nx H3) := by
  have ln : xs.length = es.length := by rw [dpA_len hd, List.length_map]
  refine lc_list (K := K) (a := a) (xs := xs) (fun i H => ∃ ys, Same H1 H ∧ H D = some (.lst ys) ∧ DpAll K (wo (D :: N) H) ys (((es.take i).filter keep).map out)) ⟨[], same_new hD, upd_same, .nil⟩
    (fun i H _ ⟨_, s, _⟩ => s.seq hx) ?_ ?_
  · rintro i x H hi ⟨ys, s, hH, hys⟩
    obtain ⟨d, hd1, hd2⟩ := dpA_at hd hi
    rw [List.getElem?_map] at hd1
    cases he : es[i]? with
    | none =>
      rw [he] at hd1
      cases hd1
    | some e =>
      rw [he] at hd1
      have ed : enc e = d := Option.some.inj hd1
      have lv2 : Live (D :: N) H := (lv.same s).cons hH
      have ly : ys.length ≤ i := by
        have q := dpA_len hys
        rw [List.length_map] at q
        have q2 := List.length_filter_le keep (es.take i)
        rw [List.length_take] at q2
        omega
      have li : i < es.length := (List.getElem?_eq_some_iff.mp he).1
      have dx : Dp K (wo (D :: N) H) x (enc e) := by
        rw [ed]
        exact dp_mono (wo_more hD s) hd2
      refine turn e (List.mem_of_getElem? he) x H s lv2 dx _ _ (fun hk H' s' => ?_) fun hk y H' s' hy => ?_
      · refine ⟨ys, s.trans s', s' _ _ hH, ?_⟩
        rw [take_up he, List.filter_append, List.filter_cons_of_neg (by rw [hk]; decide), List.filter_nil, List.append_nil]
        exact dpA_mono (wo_same s') hys
      · refine ⟨ys, s' _ _ hH, Nat.lt_of_le_of_lt ly (Nat.lt_of_lt_of_le li (Nat.le_trans hz (by decide))), ys ++ [y], same_mut (s.trans s') hD, upd_same, ?_⟩
        rw [take_up he, List.filter_append, List.filter_cons_of_pos hk, List.filter_nil, List.map_append]
        exact dpA_app (dpA_mono ((wo_same s').trans (wo_mut List.mem_cons_self)) hys) (.cons (dp_mono (wo_mut List.mem_cons_self) hy) .nil)
  · rintro H ⟨ys, s, hH, hys⟩
    refine done H ⟨s, hD, ys, hH, ?_⟩
    rw [List.take_of_length_le (by omega)] at hys
    exact hys
end
end Tp
set_option maxHeartbeats 2000000
/-! targets with a star: a, *b = v -/
namespace Tp
open PySem PySem.Spec PyProof.Rows L2
theorem ns_uniq {h : Heap} {L : Addr} {m m' : Str → Option Value} (x : h.Ns L m) (y : h.Ns L m') : m = m' := by
  obtain ⟨o, es, ep, e, d, _, f⟩ := x
  obtain ⟨o', es', ep', e', d', _, f'⟩ := y
  have eo : o = o' := Option.some.inj (e.symm.trans e')
  subst eo
  have ed := d.symm.trans d'
  injection ed with e1 _
  subst e1
  funext n
  exact (f n).symm.trans (f' n)
section
variable {X : Cx} {pins : List (Addr × Obj)} {σ : L2.St} {H : Hp} {s : Shared}
/-- behind a rule of the ledger's that lays one new list -/
theorem inv_new {h' : Heap} {tk : Nat} {m : Str → Option Value} {D : Addr} {its : List Value} {ys : List V} (I : Inv X pins σ H s) (F : Fr X.base X.env.locals s.heap m) (F' : Fr X.base X.env.locals h' m)
    (N' : News X.base X.env.locals h' ((D, PySem.W.listOf its.toArray 0) :: allNews X.base s.heap X.env.locals)) (lt : ∀ p ∈ allNews X.base s.heap X.env.locals, p.1 < D) (r : Vals ys its) (hz : ys.length ≤ sizeLine) :
    H D = none ∧ Inv X pins σ (upd H D (.lst ys)) { s with heap := h', toks := tk } := by
  obtain ⟨eD, nL, nB⟩ := N' (D, PySem.W.listOf its.toArray 0) List.mem_cons_self
  have keep : ∀ b o, b ≠ X.env.locals → s.heap.get? b = some o → h'.get? b = some o := fun b o hb e => by
    cases q : X.base.get? b with
    | some u =>
      have z := I.bk b u q
      rw [e] at z
      cases z
      exact F'.keep b _ q
    | none => exact (N' (b, o) (List.mem_cons_of_mem _ (mem_allNews hb q e))).1
  have old : ∀ b o, s.heap.get? b = some o → b ≠ D := fun b o e z => by
    subst z
    have q : X.base.get? b = none := nB
    exact Nat.lt_irrefl _ (lt (b, o) (mem_allNews nL q e))
  have hD : H D = none := by
    cases q : H D with
    | none => rfl
    | some u =>
      obtain ⟨o, e⟩ : ∃ o, s.heap.get? D = some o := by
        have hlt := I.hok.lt q
        cases w : s.heap.get? D with
        | some o => exact ⟨o, rfl⟩
        | none =>
          have k := I.hok D u q
          cases u with
          | lst xs => obtain ⟨_, _, _, _, e⟩ := k; rw [w] at e; cases e
          | tup xs => obtain ⟨_, _, _, ob, e, _⟩ := k; rw [w] at e; cases e
          | dK kvs => obtain ⟨_, _, _, _, o, _, _, e, _⟩ := k; rw [w] at e; cases e
          | dT kvs => obtain ⟨_, _, _, _, o, _, _, e, _⟩ := k; rw [w] at e; cases e
          | set S n => obtain ⟨o, _, _, _, e, _⟩ := k; rw [w] at e; cases e
          | ins C dx fs => obtain ⟨_, _, _, e, _⟩ := k; rw [w] at e; cases e
          | own y => obtain ⟨_, e⟩ := k; rw [w] at e; cases e
          | xd fs => obtain ⟨_, ⟨_, _, _, e, _⟩, _⟩ := k; rw [w] at e; cases e
          | rng lo hi => obtain ⟨_, _, _, e⟩ := k; rw [w] at e; cases e
          | frz ob u => obtain ⟨e, _⟩ := k; rw [w] at e; cases e
          | tbl ps => have e : s.heap.get? D = some _ := k; rw [w] at e; cases e
          | met f y => have e : s.heap.get? D = some _ := k; rw [w] at e; cases e
          | ext φ => obtain ⟨_, ⟨_, e⟩, _⟩ := k; rw [w] at e; cases e
      exact absurd rfl (old D o e)
  refine ⟨hD, I.step (g' := s.gens) (d' := s.drawn) (ch := []) (fun _ z => nomatch z) (fun b o h1 _ _ e _ => keep b o h1 e) (fun b o h1 _ _ e _ => ⟨o.slots, keep b o h1 e⟩) (fun b o _ e n => ?_) (fun b o _ e => ?_)
    (fun b xs e => ?_) (fun b o u e => ?_) (fun b ps e => ⟨#[], ?_⟩) (fun m' hm => ?_) (fun b u e => ?_) I.bare⟩
  · rw [upd_ne (old b o e)]
    exact n
  · by_cases hb : b = X.env.locals
    · obtain ⟨o', _, _, e', _⟩ := F'.ns
      exact ⟨o', by rw [hb]; exact e'⟩
    · exact ⟨o, keep b o hb e⟩
  · rw [upd_ne (ne_of_none e hD)]
    exact e
  · rw [upd_ne (ne_of_none e hD)]
    exact e
  · rw [upd_ne (ne_of_none e hD), e, Array.append_empty]
  · rw [ns_uniq hm F.ns]
    exact F'.ns
  · by_cases hb : b = D
    · subst hb
      rw [upd_same] at e
      cases e
      exact ⟨hz, its, 0, r, eD⟩
    · rw [upd_ne hb] at e
      refine (I.hok b u e).stay (fun c v hc q => keep c v ?_ q) (fun c q => by rw [upd_ne (ne_of_none q hD)]; exact q) fun c xs q => by rw [upd_ne (ne_of_none q hD)]; exact q
      rintro rfl
      rcases hc with hc | hc
      · rw [← hc, I.free] at e
        cases e
      · rw [I.free] at hc
        cases hc
/-- a, .., *b = v (the star last, at place i): v a tuple or a list -/
def gStar (K : PySem.W.Frag) (i : Nat) (t : TGs) : TG := fun v σ H Q => ∃ a xs, v = .ref a ∧ (SqT K H a xs ∨ SqL K H a xs) ∧ i ≤ xs.length ∧ xs.length ≤ 16384 ∧
  ∀ p, H p = none → t (xs.take i ++ [.ref p]) σ (upd H p (.lst (xs.drop i))) Q
theorem pgs_star {e : Expr} {p : Pos} {es : List Expr} {t : TG} {u : TGs} (h1 : PG X e t) (h2 : PGs X es u)
    (hs : (assignEach (.Starred e p :: es) X.env).map (·.2) = assign e X.env :: (assignEach es X.env).map (·.2) := by rfl) : PGs X (.Starred e p :: es) (gCons t u) := by
  refine ⟨fun pins s σ H vs us Q I r h => ?_⟩
  obtain ⟨v, vr, rfl, h⟩ := h
  cases r with
  | cons r rr =>
    rw [hs]
    exact assignInOrder_cons (thn (h1.run pins s σ H _ _ _ I r h) fun _ s1 ⟨σ1, H1, I1, q1⟩ => h2.run pins s1 σ1 H1 _ _ Q I1 rr q1)
theorem pg_star {es : List Expr} {k : Nat} {t : TGs} {i : Nat} {pos : Pos} (hc : X.calm = true) (h : PGs X es t)
    (hn : (assignEach es X.env).length = i + 1 := by rfl) (hst : (assignEach es X.env).findIdx? (·.1) = some i := by rfl) : PG X (.Tuple es k pos) (gStar X.K i t) := by
  refine ⟨fun pins s σ H v u Q I r hw => ?_⟩
  obtain ⟨a, xs, rfl, hq, hi, hz, hw⟩ := hw
  cases r
  obtain ⟨m, F⟩ := I.fr
  have fin : ∀ (its : List Value), Vals xs its → ∀ D h' tk, Fr X.base X.env.locals h' m → News X.base X.env.locals h' ((D, PySem.W.listOf (its.drop i).toArray 0) :: allNews X.base s.heap X.env.locals) → (∀ p ∈ allNews X.base s.heap X.env.locals, p.1 < D) →
      wpAny (model X.prog X.w) X.A (assignInOrder ((assignEach es X.env).map (·.2)) (its.take i ++ [.ref D] ++ [])) (fun _ s' => ∃ σ' H', Inv X pins σ' H' s' ∧ Q σ' H') X.xe { s with heap := h', toks := tk } := fun its rv D h' tk F' N' l => by
    have hdl : (xs.drop i).length ≤ sizeLine := by
      rw [List.length_drop, sizeLine_eq]
      omega
    obtain ⟨hD, I1⟩ := inv_new (tk := tk) I F F' N' l (rv.drop i) hdl
    rw [List.append_nil]
    exact h.run pins _ σ _ (xs.take i ++ [.ref D]) _ Q I1 ((rv.take i).append (.cons (show RelV (.ref D) (Value.ref D) from rfl) .nil)) (hw D hD)
  rcases hq with hq | hq
  · obtain ⟨its, rv, ht, _⟩ := I.tuple hq
    have hl := rv.length
    refine PySem.W.kun_assignT F news_all ht (I.ok.hd hc) hn hst (Nat.lt_succ_self i) (by simp; omega) (by simp; omega) rfl ?_ ?_ (fin its rv)
    · simp only [List.size_toArray, Nat.add_sub_add_right]
      exact List.take_of_length_le (by simp)
    · simp only [List.size_toArray, Nat.add_sub_add_right]
      exact List.drop_of_length_le (by simp)
  · obtain ⟨its, rv, ht, _⟩ := I.list hq
    have hl := rv.length
    refine PySem.W.kun_assignL F news_all ht.isList (I.ok.hd hc) hn hst (Nat.lt_succ_self i) (by simp; omega) (by simp; omega) rfl ?_ ?_ (fin its rv)
    · simp only [List.size_toArray, Nat.add_sub_add_right]
      exact List.take_of_length_le (by simp)
    · simp only [List.size_toArray, Nat.add_sub_add_right]
      exact List.drop_of_length_le (by simp)
end
end Tp
namespace Tp
open PySem PySem.Spec PyProof.Rows L2
def rLn (K : PySem.W.Frag) : List V → Hp → VK → Prop := fun xs H Q => ∃ p ys, xs = [V.ref p] ∧ (SqL K H p ys ∨ SqT K H p ys) ∧ Q (.int ys.length) H
def rLi (K : PySem.W.Frag) : List V → Hp → VK → Prop := fun xs H Q => ∃ p ys, xs = [V.ref p] ∧ (SqL K H p ys ∨ SqT K H p ys) ∧ ∀ l, H l = none → Q (.ref l) (upd H l (.lst ys))
theorem sz0 {α : Type} : ([] : List α).length ≤ sizeLine := Nat.zero_le _
theorem sz1 {α : Type} {a : α} : [a].length ≤ sizeLine := by
  show 1 ≤ 2 ^ 24
  decide
theorem sz2 {α : Type} {a b : α} : [a, b].length ≤ sizeLine := by
  show 2 ≤ 2 ^ 24
  decide
theorem sz3 {α : Type} {a b c : α} : [a, b, c].length ≤ sizeLine := by
  show 3 ≤ 2 ^ 24
  decide
theorem sz4 {α : Type} {a b c d : α} : [a, b, c, d].length ≤ sizeLine := by
  show 4 ≤ 2 ^ 24
  decide
theorem sz5 {α : Type} {a b c d e : α} : [a, b, c, d, e].length ≤ sizeLine := by
  show 5 ≤ 2 ^ 24
  decide
theorem sz6 {α : Type} {a b c d e f : α} : [a, b, c, d, e, f].length ≤ sizeLine := by
  show 6 ≤ 2 ^ 24
  decide
section
variable {X : Cx} {K : PySem.W.Frag} {e tg : Expr} {st : Stmt} {F : PySem.W.Frag → TE} {t ta tv to : TE} {tr : TA} {T : String} {r : V → List V → Hp → VK → Prop} {f : Str} {n i : Nat} {ts : TGs} {rd : V → V → Hp → VK → Prop}
theorem kix_list (h : X.K = K) : IxR X (rIxL K) := h ▸ ix_list
theorem kix_tup (h : X.K = K) : IxR X (rIxT K) := h ▸ ix_tup
theorem ksl_list (h : X.K = K) : SlR X (rSlL K) := h ▸ sl_list
theorem ksl_tup (h : X.K = K) : SlR X (rSlA K) := h ▸ sl_tupA
theorem kop_cat (h : X.K = K) : OpR X (binaryOp .Add) (rCatA K) := h ▸ op_catA
theorem kop_eq (h : X.K = K) (u : X.A.units + 64 < cLine) : OpR X (compareOp .Eq) (rEqD K) := h ▸ op_eqD u
theorem kop_ne (h : X.K = K) (u : X.A.units + 64 < cLine) : OpR X (compareOp .NotEq) (rNeD K) := h ▸ op_neD u
theorem kcall_len (h : X.K = K) : CallR X (.builtin "len") (rLn K) := h ▸ call_len_seq
theorem kcall_list (h : X.K = K) : CallR X (.type "list") (rLi K) := h ▸ call_list_of
theorem kcr_all (h : X.K = K) (c : X.calm = true) : CallR X (.builtin "all") (rAll K) := h ▸ cr_all c
theorem k_fld (h : X.K = K) (p : PE X e (tFld X.K ta f)) : PE X e (tFld K ta f) := h ▸ p
theorem k_sfld (h : X.K = K) (p : PS X st (sFld X.K ta tv f)) : PS X st (sFld K ta tv f) := h ▸ p
theorem k_saug (h : X.K = K) (p : PS X st (sFldAug X.K ta tv rd f)) : PS X st (sFldAug K ta tv rd f) := h ▸ p
theorem k_bm (h : X.K = K) (p : PE X e (tBM X.K T r to tr)) : PE X e (tBM K T r to tr) := h ▸ p
theorem k_bm0 (h : X.K = K) (p : PE X e (tBM0 X.K T r to)) : PE X e (tBM0 K T r to) := h ▸ p
theorem k_list (h : X.K = K) (p : PI X tg e (iList X.K ta)) : PI X tg e (iList K ta) := h ▸ p
theorem k_tup (h : X.K = K) (p : PI X tg e (iTup X.K ta)) : PI X tg e (iTup K ta) := h ▸ p
theorem k_enum (h : X.K = K) (p : PI X tg e (iEnum X.K tr)) : PI X tg e (iEnum K tr) := h ▸ p
theorem kg_tup (h : X.K = K) (p : PG X e (gTup X.K n ts)) : PG X e (gTup K n ts) := h ▸ p
theorem kg_star (h : X.K = K) (p : PG X e (gStar X.K i ts)) : PG X e (gStar K i ts) := h ▸ p
end
end Tp
set_option maxHeartbeats 2000000
namespace Tp
open PySem PySem.Spec PyProof.Rows L2
abbrev Dw (K : PySem.W.Frag) (N : List Addr) (H : Hp) (v : V) (d : PyData) : Prop := Dp K (wo N H) v d
abbrev DwA (K : PySem.W.Frag) (N : List Addr) (H : Hp) (vs : List V) (ds : List PyData) : Prop := DpAll K (wo N H) vs ds
section
variable {K : PySem.W.Frag} {N M : List Addr} {H H' H1 : Hp} {x y v : V} {d e : PyData} {ds es : List PyData} {xs ys : List V} {Q : VK} {a r D : Addr} {σ : L2.St}
theorem Dw.up (h : Dw K N H v d) (s : Same H H') : Dw K N H' v d := dp_mono (wo_same s) h
theorem DwA.up (h : DwA K N H xs ds) (s : Same H H') : DwA K N H' xs ds := dpA_mono (wo_same s) h
theorem Dw.real (h : Dw K N H v d) : Dp K H v d := dp_mono wo_sub h
theorem same_rfl : Same H H := fun _ _ h => h
/-- a new tuple -/
theorem dw_tup (lv : Live N H) (h : DwA K N H xs ds) {p : Addr} (n : H p = none) : Same H (upd H p (.tup xs)) ∧ Dw K N (upd H p (.tup xs)) (.ref p) (.tuple ds) :=
  ⟨same_new n, .tup (.inl (.inl (wo_at (lv.notin n) upd_same))) (dpA_mono (wo_same (same_new n)) h)⟩
/-- a new list -/
theorem newL_lst (h : DwA K N H xs ds) {p : Addr} (n : H p = none) : NewL K N H (upd H p (.lst xs)) p ds := ⟨same_new n, n, xs, upd_same, dpA_mono (wo_newM n) h⟩
theorem NewL.dw (n : NewL K N H H' r ds) (l : Live N H) : Dw K N H' (.ref r) (.list ds) := n.dp l
theorem NewL.len (n : NewL K N H H' r ds) : ∃ xs, H' r = some (.lst xs) ∧ xs.length = ds.length := let ⟨xs, h1, h2⟩ := n.at_; ⟨xs, h1, dpA_len h2⟩
theorem atI_n {α : Type} {l : List α} {n : Nat} {z : α} (h : l[n]? = some z) : atI l (n : Int) = some z := by
  have hn : n < l.length := (List.getElem?_eq_some_iff.mp h).1
  unfold atI ixN
  rw [if_pos (by omega), if_pos (by omega)]
  exact h
theorem atI_e {α : Type} {l : List α} {i : Int} {z : α} (h0 : 0 ≤ i) (h : l[i.toNat]? = some z) : atI l i = some z := by
  have q := atI_n h
  rw [Int.toNat_of_nonneg h0] at q
  exact q
theorem atI_last {α : Type} {l : List α} {z : α} (h : l.getLast? = some z) : atI l (-1) = some z := by
  cases l with
  | nil => cases h
  | cons b l =>
    rw [List.getLast?_eq_getElem?] at h
    unfold atI ixN
    rw [if_neg (by decide), if_pos (by rw [List.length_cons]; omega)]
    show (b :: l)[((-1 : Int) + ((b :: l).length : Int)).toNat]? = some z
    rw [show ((-1 : Int) + ((b :: l).length : Int)).toNat = (b :: l).length - 1 by omega]
    exact h
theorem dp_at {G : Hp} (a : DpAll K G xs ds) {i : Int} (h : atI ds i = some d) : ∃ v, atI xs i = some v ∧ Dp K G v d := by
  unfold atI at h ⊢
  rw [dpA_len a]
  cases e : ixN ds.length i with
  | none =>
    rw [e] at h
    cases h
  | some j =>
    rw [e] at h
    exact dpA_at' a h
/-- reading a tuple's place -/
theorem q_ixT {i : Int} (h : Dw K N H x (.tuple ds)) (e : atI ds i = some d) (q : ∀ v, Dw K N H v d → Q v H) : rIxT K x (.int i) H Q := by
  obtain ⟨p, us, rfl, h1, h2⟩ := dp_tup h
  obtain ⟨v, h3, h4⟩ := dp_at h2 e
  exact ⟨p, us, i, v, rfl, rfl, sqT_mono wo_sub h1, h3, q v h4⟩
theorem q_ixL {i : Int} (h : Dw K N H x (.list ds)) (e : atI ds i = some d) (q : ∀ v, Dw K N H v d → Q v H) : rIxL K x (.int i) H Q := by
  obtain ⟨p, us, rfl, h1, h2⟩ := dp_lst h
  obtain ⟨v, h3, h4⟩ := dp_at h2 e
  exact ⟨p, us, i, v, rfl, rfl, sqL_mono wo_sub h1, h3, q v h4⟩
/-- whole numbers, texts at a place -/
theorem q_ixTi {i z : Int} (h : Dw K N H x (.tuple ds)) (e : atI ds i = some (.int z)) (q : Q (.int z) H) : rIxT K x (.int i) H Q := q_ixT h e fun v hv => by rw [dp_int hv]; exact q
theorem q_ixTs {i : Int} {z : Str} (h : Dw K N H x (.tuple ds)) (e : atI ds i = some (.str z)) (q : Q (.str z) H) : rIxT K x (.int i) H Q := q_ixT h e fun v hv => by rw [dp_str hv]; exact q
theorem q_ixLi {i z : Int} (h : Dw K N H x (.list ds)) (e : atI ds i = some (.int z)) (q : Q (.int z) H) : rIxL K x (.int i) H Q := q_ixL h e fun v hv => by rw [dp_int hv]; exact q
/-- two tuples, one behind the other -/
theorem q_catT (lv : Live N H) (hx : Dw K N H x (.tuple ds)) (hy : Dw K N H y (.tuple es)) (z : ds.length + es.length ≤ 16384) (q : ∀ v H', Same H H' → Dw K N H' v (.tuple (ds ++ es)) → Q v H') : rCatA K x y H Q := by
  obtain ⟨p, us, rfl, h1, h2⟩ := dp_tup hx
  obtain ⟨p', us', rfl, h3, h4⟩ := dp_tup hy
  have l1 := dpA_len h2
  have l2 := dpA_len h4
  refine ⟨p, p', us, us', rfl, rfl, sqT_mono wo_sub h1, sqT_mono wo_sub h3, by rw [l1, l2]; exact Nat.le_trans z (by decide), fun e => ?_, fun _ e => ?_, fun _ _ r n => ?_⟩
  · refine q _ _ same_rfl ?_
    cases h2 with
    | nil => exact hy
    | cons a b => cases e
  · refine q _ _ same_rfl ?_
    cases h4 with
    | nil =>
      rw [List.append_nil]
      exact hx
    | cons a b => cases e
  · have t := dw_tup lv (dpA_app h2 h4) n
    exact q _ _ t.1 t.2
/-- a tuple from a place on -/
theorem q_slT (n : Nat) (lv : Live N H) (hx : Dw K N H x (.tuple ds)) (q : ∀ v H', Same H H' → Dw K N H' v (.tuple (ds.drop n)) → Q v H') : rSlA K x (some (n : Int)) none H Q := by
  obtain ⟨p, us, rfl, h1, h2⟩ := dp_tup hx
  have l1 := dpA_len h2
  refine ⟨p, us, rfl, sqT_mono wo_sub h1, fun e => ?_, fun _ r n' => ?_⟩
  · refine q _ _ same_rfl ?_
    have e1 := e.1
    rw [HT.sIx_nat, l1] at e1
    have z : ds.drop n = ds := by
      rcases Nat.eq_zero_or_pos n with hn | hn
      · rw [hn]
        rfl
      · have : ds.length = 0 := by omega
        rw [List.length_eq_zero_iff.mp this]
        exact List.drop_nil
    rw [z]
    exact hx
  · have hc : cutV us (some (n : Int)) none = us.drop n := by
      unfold cutV
      rw [HT.sIx_nat]
      show List.take (us.length - _) _ = _
      rcases Nat.le_total n us.length with hn | hn
      · rw [Nat.min_eq_left hn, List.take_of_length_le (by rw [List.length_drop]; exact Nat.le_refl _)]
      · rw [Nat.min_eq_right hn, List.drop_of_length_le (Nat.le_refl _), List.drop_of_length_le hn, List.take_nil]
    rw [hc]
    have t := dw_tup lv (dpA_drop n h2) n'
    exact q _ _ t.1 t.2
/-- a list from a place on, and up to one -/
theorem cut_from (n : Nat) (us : List V) : cutV us (some (n : Int)) none = us.drop n := by
  unfold cutV
  rw [HT.sIx_nat]
  show List.take (us.length - _) _ = _
  rcases Nat.le_total n us.length with hn | hn
  · rw [Nat.min_eq_left hn, List.take_of_length_le (by rw [List.length_drop]; exact Nat.le_refl _)]
  · rw [Nat.min_eq_right hn, List.drop_of_length_le (Nat.le_refl _), List.drop_of_length_le hn, List.take_nil]
theorem cut_to (n : Nat) (us : List V) : cutV us none (some (n : Int)) = us.take n := by
  unfold cutV
  rw [HT.sIx_nat]
  show List.take (min n us.length - 0) (List.drop 0 us) = _
  rw [List.drop_zero, Nat.sub_zero]
  rcases Nat.le_total n us.length with hn | hn
  · rw [Nat.min_eq_left hn]
  · rw [Nat.min_eq_right hn, List.take_of_length_le (Nat.le_refl _), List.take_of_length_le hn]
theorem q_slFrom {n : Nat} (hx : Dw K N H x (.list ds)) (q : ∀ r H', NewL K N H H' r (ds.drop n) → Q (.ref r) H') : rSlL K x (some (n : Int)) none H Q := by
  obtain ⟨p, us, rfl, h1, h2⟩ := dp_lst hx
  refine ⟨p, us, rfl, sqL_mono wo_sub h1, fun r n' => ?_⟩
  rw [cut_from]
  exact q _ _ (newL_lst (dpA_drop n h2) n')
theorem q_slTo {n : Nat} (hx : Dw K N H x (.list ds)) (q : ∀ r H', NewL K N H H' r (ds.take n) → Q (.ref r) H') : rSlL K x none (some (n : Int)) H Q := by
  obtain ⟨p, us, rfl, h1, h2⟩ := dp_lst hx
  refine ⟨p, us, rfl, sqL_mono wo_sub h1, fun r n' => ?_⟩
  rw [cut_to]
  exact q _ _ (newL_lst (dpA_take n h2) n')
theorem Dw.lst_at (n : NewL K N H1 H r ds) : ∃ us, H r = some (.lst us) ∧ DwA K (r :: N) H us ds := n.at_
/-- two lists, one behind the other; each must be one that a run made -/
theorem q_cat {p p' : Addr} {us us' : List V} (h1 : H p = some (.lst us)) (h2 : H p' = some (.lst us')) (g1 : DwA K N H us ds) (g2 : DwA K N H us' es) (z : ds.length + es.length ≤ 16384)
    (q : ∀ r H', NewL K N H H' r (ds ++ es) → Q (.ref r) H') : rCat (.ref p) (.ref p') H Q :=
  ⟨p, p', us, us', rfl, rfl, h1, h2, by rw [dpA_len g1, dpA_len g2]; exact Nat.le_trans z (by decide), fun r n => q _ _ (newL_lst (dpA_app g1 g2) n)⟩
/-- list(x) -/
theorem q_list {Q : VK} (hx : Dw K N H x (.list ds)) (q : ∀ r H', NewL K N H H' r ds → Q (.ref r) H') : rLi K [x] H Q := by
  obtain ⟨p, us, rfl, h1, h2⟩ := dp_lst hx
  exact ⟨p, us, rfl, .inl (sqL_mono wo_sub h1), fun l n => q _ _ (newL_lst h2 n)⟩
/-- len(x) -/
theorem q_len (hx : Dw K N H x (.list ds)) (q : Q (.int ds.length) H) : rLn K [x] H Q := by
  obtain ⟨p, us, rfl, h1, h2⟩ := dp_lst hx
  exact ⟨p, us, rfl, .inl (sqL_mono wo_sub h1), by rw [dpA_len h2]; exact q⟩
theorem q_lenT (hx : Dw K N H x (.tuple ds)) (q : Q (.int ds.length) H) : rLn K [x] H Q := by
  obtain ⟨p, us, rfl, h1, h2⟩ := dp_tup hx
  exact ⟨p, us, rfl, .inr (sqT_mono wo_sub h1), by rw [dpA_len h2]; exact q⟩
/-- a, b = tuple -/
theorem q_unT {n : Nat} {t : TGs} {R : L2.St → Hp → Prop} (hx : Dw K N H x (.tuple ds)) (ln : ds.length = n) (q : ∀ xs, DwA K N H xs ds → t xs σ H R) : gTup K n t x σ H R := by
  obtain ⟨p, us, rfl, h1, h2⟩ := dp_tup hx
  exact ⟨p, us, rfl, sqT_mono wo_sub h1, by rw [dpA_len h2, ln], q us h2⟩
theorem DwA.same (h : DpAll K (wo N H1) xs ds) (s : Same H1 H) : DwA K N H xs ds := dpA_mono (wo_same s) h
theorem dpA_cons {G : Hp} (h : DpAll K G xs (d :: ds)) : ∃ v vs, xs = v :: vs ∧ Dp K G v d ∧ DpAll K G vs ds := by
  cases h with
  | cons a b => exact ⟨_, _, rfl, a, b⟩
theorem dpA_nil {G : Hp} (h : DpAll K G xs []) : xs = [] := by
  cases h
  rfl
/-- a loop over a list of data -/
theorem for_data {g : TG} {tb : TS} {E : Ends} (hx : SqL K (wo N H) a xs) (hd : DwA K N H xs ds) (Pv : Nat → L2.St → Hp → Prop) (h0 : Pv 0 σ H) (sm : ∀ i σ H', Pv i σ H' → Same (wo N H) (wo N H'))
    (turn : ∀ i d x σ H', ds[i]? = some d → Pv i σ H' → Dw K N H' x d → g x σ H' fun σ2 H2 => tb { nx := Pv (i + 1), rt := E.rt, bk := E.nx, ct := Pv (i + 1) } σ2 H2) (done : ∀ σ H', Pv ds.length σ H' → E.nx σ H') :
    ∃ W : Nat → Nat → L2.St → Hp → Prop, (∃ m, W 0 m σ H) ∧ ∀ (i m : Nat) (σ : L2.St) (H : Hp), W i m σ H → (It.stop (Itl K a) i H ∧ E.nx σ H) ∨ (It.go (Itl K a) i H ∧
      ∃ N' : L2.St → Hp → Prop, (∀ σ' H', N' σ' H' → ∃ m', m' < m ∧ W (i + 1) m' σ' H') ∧ ∀ x H', It.yld (Itl K a) i H x H' → g x σ H' fun σ2 H2 => tb { nx := N', rt := E.rt, bk := E.nx, ct := N' } σ2 H2) := by
  refine for_list Pv h0 (fun i σ H' _ p => sqL_mono ((sm i σ H' p).trans wo_sub) hx) (fun i x σ H' hi p => ?_) (fun σ H' p => done σ H' (by rw [← dpA_len hd]; exact p))
  obtain ⟨d, h1, h2⟩ := dpA_at hd hi
  exact turn i d x σ H' h1 p (dp_mono (sm i σ H' p) h2)
end
end Tp
set_option maxHeartbeats 2000000
namespace Tp
open PySem PySem.Spec PyProof.Rows L2
section
variable {σ : L2.St} {H : Hp} {Q : VK} {v x y : V} {i j : Int} {n : Nat} {ta tb tc te td ty tv : TE} {D : Ends} {t u : TS} {g : TG} {tt : TT} {b : Bool} {tr : TA} {K : PySem.W.Frag} {wi : TI} {R : It → Hp → Prop} {f : Str}
theorem ev_sl {r : V → Option Int → Option Int → Hp → VK → Prop} {tl th : TO} (q : te σ H fun x H1 => tl σ H1 fun l H2 => th σ H2 fun u H3 => r x l u H3 Q) : tSl r te tl th σ H Q := q
theorem ev_part {Q : Option Int → Hp → Prop} (q : te σ H fun x H1 => ∃ i, x = .int i ∧ Q (some i) H1) : tPart te σ H Q := q
theorem ev_nopart {Q : Option Int → Hp → Prop} (q : Q none H) : tNoPart σ H Q := q
theorem ev_int {R : Int → Prop} (q : R i) : ∃ k, V.int i = .int k ∧ R k := ⟨i, rfl, q⟩
theorem ev_ref {R : Addr → Prop} {a : Addr} (q : R a) : ∃ k, V.ref a = .ref k ∧ R k := ⟨a, rfl, q⟩
theorem ev_for {tb : TS} (q : wi σ H fun J H1 => ∃ W : Nat → Nat → L2.St → Hp → Prop, (∃ m, W 0 m σ H1) ∧ ∀ i m σ H, W i m σ H → (J.stop i H ∧ D.nx σ H) ∨ (J.go i H ∧ ∃ N : L2.St → Hp → Prop, (∀ σ' H', N σ' H' → ∃ m', m' < m ∧ W (i + 1) m' σ' H') ∧ ∀ x H', J.yld i H x H' →
    g x σ H' fun σ2 H2 => tb { nx := N, rt := D.rt, bk := D.nx, ct := N } σ2 H2)) : tFor wi g tb D σ H := q
theorem ev_list (q : te σ H fun x H1 => ∃ a, x = .ref a ∧ (∃ xs, SqL K H1 a xs) ∧ R (Itl K a) H1) : iList K te σ H R := q
theorem ev_tupI (q : te σ H fun x H1 => ∃ a, x = .ref a ∧ (∃ xs, SqT K H1 a xs) ∧ R (Itt K a) H1) : iTup K te σ H R := q
theorem ev_enum (q : tr σ H fun vs H1 => ∃ a xs, vs = [.ref a] ∧ SqL K H1 a xs ∧ R (Ite K a) H1) : iEnum K tr σ H R := q
theorem ev_lc {vs : List Nat} (q : wi σ H fun J H1 => ∀ D : Addr, H1 D = none → ∃ W : Nat → Nat → Hp → Prop, (∃ m, W 0 m (upd H1 D (.lst []))) ∧ ∀ i m H, W i m H → (J.stop i H ∧ Q (.ref D) H) ∨ (J.go i H ∧ ∃ Nx : Hp → Prop, (∀ H', Nx H' → ∃ m', m' < m ∧ W (i + 1) m' H') ∧
    ∀ x H', J.yld i H x H' → g x (wipe σ vs) H' fun σ2 H2 => wipe σ2 vs = wipe σ vs ∧ tt σ2 H2 fun b H3 => if b = true then te σ2 H3 fun y H4 => ∃ acc, H4 D = some (.lst acc) ∧ acc.length < sizeLine ∧ Nx (upd H4 D (.lst (acc ++ [y]))) else Nx H3)) : tLc wi g tt te vs σ H Q := q
theorem ev_gcons {t : TG} {u : TGs} {vs : List V} {R : L2.St → Hp → Prop} (q : t v σ H fun σ' H' => u vs σ' H' R) : gCons t u (v :: vs) σ H R := ⟨v, vs, rfl, q⟩
theorem ev_gnil {R : L2.St → Hp → Prop} (q : R σ H) : gNil [] σ H R := ⟨rfl, q⟩
theorem ev_sfld (q : tv σ H fun y H1 => ta σ H1 fun x H2 => ∃ a C dx fs, x = .ref a ∧ H2 a = some (.ins C dx fs) ∧ Cls K C ∧ NoAttr K C f ∧ fs.length < 1000 ∧ D.nx σ (upd H2 a (.ins C dx (putF f y fs)))) : sFld K ta tv f D σ H := q
theorem ev_make {C : Addr} {sp : Sp} {dvs : List V} {E : XK} (q : tr σ H fun vs H1 => ∀ x dx, H1 x = none → H1 dx = none → dx ≠ x → sp (.ref x :: (vs ++ dvs)) (upd (upd H1 dx (.own x)) x (.ins C dx [])) (fun v H2 => v = .non ∧ Q (.ref x) H2) E) : tMake C sp dvs E tr σ H Q := q
theorem ev_notV (q : ta σ H fun x H1 => ∃ c, x = .bl c ∧ Q (.bl !c) H1) : tNotV ta σ H Q := q
theorem ev_yes {QB : Bool → Hp → Prop} (q : QB true H) : tYes σ H QB := q
theorem ev_dget (q : td σ H fun x H1 => ty σ H1 fun y H2 => ∃ a v, x = .ref a ∧ DGet H2 a y (some v) ∧ Q v H2) : tDGet td ty σ H Q := q
theorem ev_dput (q : tv σ H fun v H1 => td σ H1 fun x H2 => ty σ H2 fun y H3 => ∃ a H4, x = .ref a ∧ DPut H3 a y v H4 ∧ D.nx σ H4) : sDPut td ty tv D σ H := q
theorem ev_bm {T : String} {r : V → List V → Hp → VK → Prop} (q : te σ H fun x H1 => tyV K T x H1 ∧ tr σ H1 fun xs H2 => r x xs H2 Q) : tBM K T r te tr σ H Q := q
theorem ev_bm0 {T : String} {r : V → List V → Hp → VK → Prop} (q : te σ H fun x H1 => tyV K T x H1 ∧ r x [] H1 Q) : tBM0 K T r te σ H Q := q
theorem ev_par {i j : Nat} (q : tr σ H fun vs H1 => ∃ v w', vs = [v, w'] ∧ D.nx ((σ.set i (some v)).set j (some w')) H1) : tPar i j tr D σ H := q
theorem ev_two {R : V → V → Prop} (q : R x y) : ∃ v w', [x, y] = [v, w'] ∧ R v w' := ⟨x, y, rfl, q⟩
theorem ev_dnotin (q : ty σ H fun y H1 => td σ H1 fun x H2 => ∃ a o, x = .ref a ∧ DGet H2 a y o ∧ Q (.bl (!o.isSome)) H2) : tDNotIn ty td σ H Q := q
theorem ev_din (q : ty σ H fun y H1 => td σ H1 fun x H2 => ∃ a o, x = .ref a ∧ DGet H2 a y o ∧ Q (.bl o.isSome) H2) : tDIn ty td σ H Q := q
theorem ev_lock (q : ∃ d u, H d = some u ∧ Mut (some u) ∧ ∀ od : Obj, te σ (upd H d (.frz od u)) fun v H' => H' d = some (.frz od u) ∧ Q v (upd H' d u)) : tLockE te σ H Q := q
theorem ev_keys (q : td σ H fun x H1 => ∃ d o, x = .ref d ∧ ((∃ kvs, H1 d = some (.frz o (.dK kvs)) ∧ R (Itk d o kvs) H1) ∨ ∃ kvs, H1 d = some (.frz o (.dT kvs)) ∧ R (Itkt d o kvs) H1)) : iKeys td σ H R := q
theorem ev_items (q : td σ H fun x H1 => ∃ d o kvs, x = .ref d ∧ H1 d = some (.frz o (.dK kvs)) ∧ R (Iti d o kvs) H1) : iItems td σ H R := q
end
end Tp
set_option maxHeartbeats 2000000
namespace Tp
open PySem PySem.Spec PyProof.Rows L2
section
variable {K : PySem.W.Frag} {H1 : Hp} {D a : Addr}
/-- a comprehension without a test -/
theorem lc_map {α : Type} {xs : List V} {g : TG} {te : TE} {vs : List Nat} {σ : L2.St} {Qd : Hp → Prop} (N : List Addr) (es : List α) (enc : α → PyData) (out : α → PyData)
    (hx : SqL K H1 a xs) (hd : DpAll K (wo N H1) xs (es.map enc)) (hD : H1 D = none) (hz : es.length ≤ 100000) (lv : Live N H1)
    (turn : ∀ e ∈ es, ∀ x H, Same H1 H → Live (D :: N) H → Dw K (D :: N) H x (enc e) → ∀ Y : V → Hp → Prop, (∀ y H', Same H H' → Dw K (D :: N) H' y (out e) → Y y H') →
      g x (wipe σ vs) H fun σ2 H2 => wipe σ2 vs = wipe σ vs ∧ te σ2 H2 Y)
    (done : ∀ H', NewL K N H1 H' D (es.map out) → Qd H') :
    ∃ W : Nat → Nat → Hp → Prop, (∃ m, W 0 m (upd H1 D (.lst []))) ∧ ∀ i m H, W i m H →
      ((Itl K a).stop i H ∧ Qd H) ∨ ((Itl K a).go i H ∧ ∃ Nx : Hp → Prop, (∀ H', Nx H' → ∃ m', m' < m ∧ W (i + 1) m' H') ∧ ∀ x H', (Itl K a).yld i H x H' → g x (wipe σ vs) H' fun σ2 H2 => wipe σ2 vs = wipe σ vs ∧ tYes σ2 H2 fun b H3 =>
        if b = true then te σ2 H3 fun y H4 => ∃ acc, H4 D = some (.lst acc) ∧ acc.length < sizeLine ∧ Nx (upd H4 D (.lst (acc ++ [y]))) else Nx H3) := by
  refine lc_data N es enc (fun _ => true) out hx hd hD hz lv (fun e he x H s lv2 dx R Y _ hy => ?_) (fun H' n => done H' ?_)
  · exact turn e he x H s lv2 dx _ (hy rfl)
  · rw [List.filter_eq_self.mpr (fun _ _ => rfl)] at n
    exact n
end
end Tp
set_option maxHeartbeats 2000000
namespace Tp
open PySem PySem.Spec PyProof.Rows L2
/-- an iterator over the items xs, wherever Pq stands -/
structure Runs (J : It) (xs : List V) (Pq : Hp → Prop) : Prop where
  stop : ∀ i H, Pq H → xs.length ≤ i → J.stop i H
  go : ∀ i x H, Pq H → xs[i]? = some x → J.go i H
  yld : ∀ i H x H', Pq H → J.yld i H x H' → H' = H ∧ xs[i]? = some x
section
variable {K : PySem.W.Frag} {G H H1 : Hp} {a D : Addr} {xs : List V} {n : Nat} {X : Cx} {N : List Addr} {ds : List PyData} {v : V}
theorem runs_l (h : SqL K G a xs) : Runs (Itl K a) xs (Same G) :=
  ⟨fun i H s hi => ⟨xs, sqL_mono s h, hi⟩, fun i x H s hi => ⟨xs, x, sqL_mono s h, hi⟩, fun i H x H' s y => ⟨y.1, y.2 xs (sqL_mono s h)⟩⟩
theorem runs_t (h : SqT K G a xs) : Runs (Itt K a) xs (Same G) :=
  ⟨fun i H s hi => ⟨xs, sqT_mono s h, hi⟩, fun i x H s hi => ⟨xs, x, sqT_mono s h, hi⟩, fun i H x H' s y => ⟨y.1, y.2 xs (sqT_mono s h)⟩⟩
/-- what is walked stands in a variable: a list or a tuple -/
def iSeqV (K : PySem.W.Frag) (n : Nat) : TI := fun σ H R => ∃ a xs, σ[n]? = some (some (.ref a)) ∧ ((SqL K H a xs ∧ R (Itl K a) H) ∨ (SqT K H a xs ∧ R (Itt K a) H))
theorem pi_seqV {tg l : Expr} (hk : X.K = K) (h : PE X l (tVar n)) : PI X tg l (iSeqV K n) := by
  subst hk
  refine ⟨fun pins s σ H R I q => ?_⟩
  obtain ⟨a, xs, e, ⟨q1, q2⟩ | ⟨q1, q2⟩⟩ := q
  · exact (pi_list h).run pins s σ H R I ⟨.ref a, e, a, rfl, ⟨xs, q1⟩, q2⟩
  · exact (pi_tup h).run pins s σ H R I ⟨.ref a, e, a, rfl, ⟨xs, q1⟩, q2⟩
/-- a list or a tuple of data -/
def DwS (K : PySem.W.Frag) (N : List Addr) (H : Hp) (v : V) (ds : List PyData) : Prop := ∃ a xs, v = .ref a ∧ SqA K (wo N H) a xs ∧ DwA K N H xs ds
theorem DwS.up (h : DwS K N H v ds) (s : Same H H1) : DwS K N H1 v ds := let ⟨a, xs, e, h1, h2⟩ := h; ⟨a, xs, e, h1.mono (wo_same s), DwA.same h2 s⟩
theorem DwS.lst (h : Dw K N H v (.list ds)) : DwS K N H v ds := let ⟨a, xs, e, h1, h2⟩ := dp_lst h; ⟨a, xs, e, .inl h1, h2⟩
theorem DwS.tup (h : Dw K N H v (.tuple ds)) : DwS K N H v ds := let ⟨a, xs, e, h1, h2⟩ := dp_tup h; ⟨a, xs, e, .inr h1, h2⟩
theorem q_seqV {σ : L2.St} {R : It → Hp → Prop} (e : σ[n]? = some (some v)) (h : DwS K N H v ds) (q : ∀ J xs, DwA K N H xs ds → Runs J xs (Same (wo N H)) → R J H) : iSeqV K n σ H R := by
  obtain ⟨a, xs, rfl, h1 | h1, h2⟩ := h
  · exact ⟨a, xs, e, .inl ⟨sqL_mono wo_sub h1, q _ xs h2 (runs_l h1)⟩⟩
  · exact ⟨a, xs, e, .inr ⟨sqT_mono wo_sub h1, q _ xs h2 (runs_t h1)⟩⟩
variable {J : It} {g : TG}
/-- a loop over data -/
theorem for_runs {tb : TS} {E : Ends} {σ : L2.St} (hr : Runs J xs (Same (wo N H))) (hd : DwA K N H xs ds) (Pv : Nat → L2.St → Hp → Prop) (h0 : Pv 0 σ H) (sm : ∀ i σ H', Pv i σ H' → Same (wo N H) (wo N H'))
    (turn : ∀ i d x σ H', ds[i]? = some d → Pv i σ H' → Dw K N H' x d → g x σ H' fun σ2 H2 => tb { nx := Pv (i + 1), rt := E.rt, bk := E.nx, ct := Pv (i + 1) } σ2 H2) (done : ∀ σ H', Pv ds.length σ H' → E.nx σ H') :
    ∃ W : Nat → Nat → L2.St → Hp → Prop, (∃ m, W 0 m σ H) ∧ ∀ (i m : Nat) (σ : L2.St) (H : Hp), W i m σ H → (It.stop J i H ∧ E.nx σ H) ∨ (It.go J i H ∧
      ∃ N' : L2.St → Hp → Prop, (∀ σ' H', N' σ' H' → ∃ m', m' < m ∧ W (i + 1) m' σ' H') ∧ ∀ x H', It.yld J i H x H' → g x σ H' fun σ2 H2 => tb { nx := N', rt := E.rt, bk := E.nx, ct := N' } σ2 H2) := by
  have ln := dpA_len hd
  refine ⟨fun i m σ H' => m = xs.length - i ∧ i ≤ xs.length ∧ Pv i σ H', ⟨xs.length, rfl, Nat.zero_le _, h0⟩, ?_⟩
  rintro i m σ H' ⟨rfl, hi, p⟩
  have sH := (sm i σ H' p).trans wo_sub
  by_cases hlt : i < xs.length
  · refine .inr ⟨hr.go i _ H' sH (List.getElem?_eq_getElem hlt), Pv (i + 1), fun σ' H2 p' => ⟨xs.length - (i + 1), by omega, rfl, hlt, p'⟩, fun v H2 y => ?_⟩
    obtain ⟨rfl, hx⟩ := hr.yld i H' v H2 sH y
    obtain ⟨d, h1, h2⟩ := dpA_at hd hx
    exact turn i d v σ _ h1 p (dp_mono (sm i σ _ p) h2)
  · have e : i = ds.length := by omega
    subst e
    exact .inl ⟨hr.stop _ H' sH (by omega), done σ H' p⟩
/-- a comprehension over data, without a test -/
theorem lc_runs {α : Type} {te : TE} {vs : List Nat} {σ : L2.St} {Qd : Hp → Prop} (N : List Addr) (es : List α) (enc : α → PyData) (out : α → PyData) (hr : Runs J xs (Same (wo N H1))) (hd : DwA K N H1 xs (es.map enc)) (hD : H1 D = none)
    (hz : es.length ≤ 100000) (lv : Live N H1)
    (turn : ∀ e ∈ es, ∀ x H, Same H1 H → Live (D :: N) H → Dw K (D :: N) H x (enc e) → ∀ Y : V → Hp → Prop, (∀ y H', Same H H' → Dw K (D :: N) H' y (out e) → Y y H') →
      g x (wipe σ vs) H fun σ2 H2 => wipe σ2 vs = wipe σ vs ∧ te σ2 H2 Y)
    (done : ∀ H', NewL K N H1 H' D (es.map out) → Qd H') :
    ∃ W : Nat → Nat → Hp → Prop, (∃ m, W 0 m (upd H1 D (.lst []))) ∧ ∀ i m H, W i m H →
      (J.stop i H ∧ Qd H) ∨ (J.go i H ∧ ∃ Nx : Hp → Prop, (∀ H', Nx H' → ∃ m', m' < m ∧ W (i + 1) m' H') ∧ ∀ x H', J.yld i H x H' → g x (wipe σ vs) H' fun σ2 H2 => wipe σ2 vs = wipe σ vs ∧ tYes σ2 H2 fun b H3 =>
        if b = true then te σ2 H3 fun y H4 => ∃ acc, H4 D = some (.lst acc) ∧ acc.length < sizeLine ∧ Nx (upd H4 D (.lst (acc ++ [y]))) else Nx H3) := by
  have ln : xs.length = es.length := by rw [dpA_len hd, List.length_map]
  let Pv : Nat → Hp → Prop := fun i H => ∃ ys, Same H1 H ∧ H D = some (.lst ys) ∧ DpAll K (wo (D :: N) H) ys ((es.take i).map out)
  refine ⟨fun i m H => m = xs.length - i ∧ i ≤ xs.length ∧ Pv i H, ⟨xs.length, rfl, Nat.zero_le _, [], same_new hD, upd_same, .nil⟩, ?_⟩
  rintro i m H ⟨rfl, hi, ys, s, hH, hys⟩
  by_cases hlt : i < xs.length
  · refine .inr ⟨hr.go i _ H (wo_sub.trans s) (List.getElem?_eq_getElem hlt), Pv (i + 1), fun H2 p' => ⟨xs.length - (i + 1), by omega, rfl, hlt, p'⟩, fun x H2 y => ?_⟩
    obtain ⟨rfl, hx⟩ := hr.yld i H x H2 (wo_sub.trans s) y
    obtain ⟨d, hd1, hd2⟩ := dpA_at hd hx
    rw [List.getElem?_map] at hd1
    cases he : es[i]? with
    | none =>
      rw [he] at hd1
      cases hd1
    | some e =>
      rw [he] at hd1
      have ed : enc e = d := Option.some.inj hd1
      have dx : Dw K (D :: N) H2 x (enc e) := by
        rw [ed]
        exact dp_mono (wo_more hD s) hd2
      have ly : ys.length = i := by
        rw [dpA_len hys, List.length_map, List.length_take]
        omega
      refine turn e (List.mem_of_getElem? he) x H2 s ((lv.same s).cons hH) dx _ fun y H3 s3 hy => ?_
      refine ⟨ys, s3 _ _ hH, by rw [ly]; exact Nat.lt_of_lt_of_le (by omega : i < 100000) (by decide), ys ++ [y], same_mut (s.trans s3) hD, upd_same, ?_⟩
      rw [take_up he, List.map_append]
      exact dpA_app (dpA_mono ((wo_same s3).trans (wo_mut List.mem_cons_self)) hys) (.cons (dp_mono (wo_mut List.mem_cons_self) hy) .nil)
  · refine .inl ⟨hr.stop _ H (wo_sub.trans s) (by omega), done H ⟨s, hD, ys, hH, ?_⟩⟩
    rw [List.take_of_length_le (by omega)] at hys
    exact hys
/-- a dict from data, its keys apart -/
theorem dc_runs {α : Type} {tk tv : TE} {vs : List Nat} {σ : L2.St} {Qd : Hp → Prop} (N : List Addr) (es : List α) (enc : α → PyData) (key : α → Int) (out : α → V) (hr : Runs J xs (Same (wo N H1))) (hd : DwA K N H1 xs (es.map enc)) (hD : H1 D = none)
    (hz : es.length ≤ 100000) (nd : (es.map key).Nodup)
    (turn : ∀ e ∈ es, ∀ x H, Same H1 H → Dw K (D :: N) H x (enc e) → ∀ Y : V → V → Hp → Prop, (∀ H', Same H H' → Y (.int (key e)) (out e) H') →
      g x (wipe σ vs) H fun σ2 H2 => wipe σ2 vs = wipe σ vs ∧ tk σ2 H2 fun y H4 => tv σ2 H4 fun z H5 => Y y z H5)
    (done : ∀ H', Same H1 H' → H' D = some (.dK (es.map fun e => (Sum.inl (key e), out e))) → Qd H') :
    ∃ W : Nat → Nat → Hp → Prop, (∃ m, W 0 m (upd H1 D (.dK []))) ∧ ∀ i m H, W i m H →
      (J.stop i H ∧ Qd H) ∨ (J.go i H ∧ ∃ Nx : Hp → Prop, (∀ H', Nx H' → ∃ m', m' < m ∧ W (i + 1) m' H') ∧ ∀ x H', J.yld i H x H' → g x (wipe σ vs) H' fun σ2 H2 => wipe σ2 vs = wipe σ vs ∧ tYes σ2 H2 fun b H3 =>
        if b = true then tk σ2 H3 fun y H4 => tv σ2 H4 fun z H5 => ∃ kvs k, y = kV k ∧ H5 D = some (.dK kvs) ∧ kvs.length < sizeLine ∧ Nx (upd H5 D (.dK (putK kvs k z))) else Nx H3) := by
  have ln : xs.length = es.length := by rw [dpA_len hd, List.length_map]
  let Pv : Nat → Hp → Prop := fun i H => Same H1 H ∧ H D = some (.dK ((es.take i).map fun e => (Sum.inl (key e), out e)))
  refine ⟨fun i m H => m = xs.length - i ∧ i ≤ xs.length ∧ Pv i H, ⟨xs.length, rfl, Nat.zero_le _, same_new hD, upd_same⟩, ?_⟩
  rintro i m H ⟨rfl, hi, s, hH⟩
  by_cases hlt : i < xs.length
  · refine .inr ⟨hr.go i _ H (wo_sub.trans s) (List.getElem?_eq_getElem hlt), Pv (i + 1), fun H2 p' => ⟨xs.length - (i + 1), by omega, rfl, hlt, p'⟩, fun x H2 y => ?_⟩
    obtain ⟨rfl, hx⟩ := hr.yld i H x H2 (wo_sub.trans s) y
    obtain ⟨d, hd1, hd2⟩ := dpA_at hd hx
    rw [List.getElem?_map] at hd1
    cases he : es[i]? with
    | none =>
      rw [he] at hd1
      cases hd1
    | some e =>
      rw [he] at hd1
      have ed : enc e = d := Option.some.inj hd1
      have dx : Dw K (D :: N) H2 x (enc e) := by
        rw [ed]
        exact dp_mono (wo_more hD s) hd2
      refine turn e (List.mem_of_getElem? he) x H2 s dx _ fun H3 s3 => ?_
      refine ⟨_, Sum.inl (key e), rfl, s3 _ _ hH, ?_, same_mut (s.trans s3) hD, ?_⟩
      · rw [List.length_map, List.length_take]
        exact Nat.lt_of_le_of_lt (Nat.min_le_right _ _) (Nat.lt_of_le_of_lt hz (by decide))
      · rw [upd_same, take_up he, List.map_append]
        unfold putK
        rw [if_neg]
        · rfl
        · intro hb
          obtain ⟨kv, hkv, hk⟩ := List.any_eq_true.mp hb
          obtain ⟨e2, he2, rfl⟩ := List.mem_map.mp hkv
          have hk : (Sum.inl (key e2) : Key) = Sum.inl (key e) := of_decide_eq_true hk
          have hk : key e2 = key e := Sum.inl.inj hk
          obtain ⟨j, hj⟩ := List.mem_iff_getElem?.mp he2
          have hji : j < i := by
            have := (List.getElem?_eq_some_iff.mp hj).1
            rw [List.length_take] at this
            omega
          rw [List.getElem?_take, if_pos hji] at hj
          have hjl := (List.getElem?_eq_some_iff.mp hj).1
          have hil := (List.getElem?_eq_some_iff.mp he).1
          have q := (List.pairwise_iff_getElem.mp nd) j i (by rw [List.length_map]; exact hjl) (by rw [List.length_map]; exact hil) hji
          rw [List.getElem_map, List.getElem_map, (List.getElem?_eq_some_iff.mp hj).2, (List.getElem?_eq_some_iff.mp he).2] at q
          exact q hk
  · refine .inl ⟨hr.stop _ H (wo_sub.trans s) (by omega), done H s ?_⟩
    rw [List.take_of_length_le (by omega)] at hH
    exact hH
end
end Tp
set_option maxHeartbeats 2000000
namespace Tp
open PySem PySem.Spec PyProof.Rows L2
/-- what stands apart from m stays -/
def SameBut (m : Addr) (H H' : Hp) : Prop := ∀ b o, b ≠ m → H b = some o → H' b = some o
section
variable {K : PySem.W.Frag} {G H H1 H2 : Hp} {a D m dx x : Addr} {N : List Addr} {o o1 o2 : HO} {v : V} {ds : List PyData}
theorem sb_same (s : Same H H1) : SameBut m H H1 := fun b o _ h => s b o h
theorem sb_upd (s : SameBut m H H1) : SameBut m H (upd H1 m o) := fun b u e h => by
  rw [upd_ne e]
  exact s b u e h
theorem sb_then (s : SameBut m H H1) (t : Same H1 H2) : SameBut m H H2 := fun b u e h => t b u (s b u e h)
theorem sb_after (s : Same H H1) (t : SameBut m H1 H2) : SameBut m H H2 := fun b u e h => t b u e (s b u h)
theorem sb_new (s : SameBut m H H1) (n : H1 a = none) : SameBut m H (upd H1 a o) := sb_then s (same_new n)
theorem sb_wo (s : SameBut m H H1) : Same (wo (m :: N) H) (wo (m :: N) H1) := wo_but fun b o h n => s b o (fun e => n (by rw [e]; exact List.mem_cons_self)) h
theorem sb_none (s : SameBut m H H1) (n : H m = none) : Same H H1 := fun b o h => s b o (ne_of_none h n) h
theorem mk_same (hx : H x = none) (hd : H dx = none) (s : SameBut x (upd (upd H dx o1) x o2) H1) : Same H H1 := fun b o h => s b o (ne_of_none h hx) (by
  rw [upd_ne (ne_of_none h hx), upd_ne (ne_of_none h hd)]
  exact h)
theorem mk_wo (hx : H x = none) (hd : H dx = none) : Same (wo N H) (wo (x :: N) (upd (upd H dx o1) x o2)) := fun b u e => by
  obtain ⟨h1, h2⟩ := wo_of e
  exact wo_at (fun z => (List.mem_cons.mp z).elim (ne_of_none h2 hx) h1) (by rw [upd_ne (ne_of_none h2 hx), upd_ne (ne_of_none h2 hd)]; exact h2)
theorem mk_live (lv : Live N H) (hx : H x = none) (hd : H dx = none) : Live N (upd (upd H dx o1) x o2) := fun n h => by
  obtain ⟨u, q⟩ := lv n h
  exact ⟨u, by rw [upd_ne (ne_of_none q hx), upd_ne (ne_of_none q hd)]; exact q⟩
theorem DwS.mk (h : DwS K N H v ds) (s : Same (wo N H) (wo (m :: N) H1)) : DwS K (m :: N) H1 v ds := let ⟨a, xs, e, h1, h2⟩ := h; ⟨a, xs, e, h1.mono s, dpA_mono s h2⟩
theorem DwS.sb (h : DwS K (m :: N) H v ds) (s : SameBut m H H1) : DwS K (m :: N) H1 v ds := let ⟨a, xs, e, h1, h2⟩ := h; ⟨a, xs, e, h1.mono (sb_wo s), dpA_mono (sb_wo s) h2⟩
theorem Live.sb (l : Live N H) (s : SameBut m H H1) (n : m ∉ N) : Live N H1 := fun b h => let ⟨o, e⟩ := l b h; ⟨o, s b o (fun z => n (by rw [← z]; exact h)) e⟩
theorem q_lenS {Q : VK} (hx : DwS K N H v ds) (q : Q (.int ds.length) H) : rLn K [v] H Q := by
  obtain ⟨p, us, rfl, h1, h2⟩ := hx
  refine ⟨p, us, rfl, ?_, by rw [dpA_len h2]; exact q⟩
  exact h1.elim (fun h => .inl (sqL_mono wo_sub h)) fun h => .inr (sqT_mono wo_sub h)
theorem q_listS {Q : VK} (hx : DwS K N H v ds) (q : ∀ r H', NewL K N H H' r ds → Q (.ref r) H') : rLi K [v] H Q := by
  obtain ⟨p, us, rfl, h1, h2⟩ := hx
  refine ⟨p, us, rfl, ?_, fun l n => q _ _ (newL_lst h2 n)⟩
  exact h1.elim (fun h => .inl (sqL_mono wo_sub h)) fun h => .inr (sqT_mono wo_sub h)
end
section
variable {P : Program} {w : World} {K : PySem.W.Frag} {mg : Str → Option Value} {base : Heap} {st : Stmt} {N ps : List Str} {k : Nat} {sp : Sp} {C : Addr} {m qual x y : Str} {dvs : List V}
/-- __init__ with positional defaults; all values are written -/
theorem iniD1 (h : InF K C qual st dvs []) (hd : dvs ≠ []) (hx : mg x = some (.ref C)) (S : FnScope N ps (defScope st))
    (b : ∀ (T : Addr) (kV doc pm : Value) (an : Option Addr) (cdv ct : Value) (us its : List Value), us.length = ps.length → its.length = dvs.length →
      ∃ k, bindArgs (PySem.W.fnOf "__init__" qual (defArgs st) (defBody st) (defScope st) (.ref T) kV doc pm an cdv ct) ⟨us, []⟩ = seqItems? (.ref T) >>= k ∧ k (some its.toArray) = pure (ps.zip us))
    (len : ∀ vs H Q E, sp vs H Q E → vs.length = ps.length) (body : BodyF P w K mg base N qual st k sp) : C8.Mak P w K mg base (k + 1) x C sp [] := by
  obtain ⟨f, fd, F, hm⟩ := h
  obtain ⟨ds, r, hb⟩ := F.binds1 (ps := ps) ps.length dvs.length hd (by omega) (fun T kV doc pm an cdv ct us its h1 h2 => by
    obtain ⟨k, e1, e2⟩ := b T kV doc pm an cdv ct us its h1 h2
    exact ⟨k, e1, by rw [e2, ← h2, List.drop_length, List.append_nil]⟩)
  rw [List.drop_length] at r
  refine ⟨⟨f, fd, ps, ds, hm, F.ok S len (fun cdv A outer s H vs Q E hr hsp => ?_), hx, hb, r⟩⟩
  obtain ⟨t, h1, h2⟩ := body f cdv A outer s H vs Q E hr hsp
  exact ⟨t, h1.nox, h2⟩
theorem hu_of {A : Around} (hr : Room k A) : A.units + 1 < cLine := by
  have := hr.units
  omega
end
end Tp
set_option maxHeartbeats 4000000
namespace Tp
open PySem PySem.Spec PyProof.Rows L2
local macro_rules | `(tactic| tm_at "ev") => `(tactic| repeat first
  | with_reducible refine ev_seq ?_ | with_reducible refine ev_asg ?_ | with_reducible refine ev_drop ?_ | with_reducible refine ev_ret ?_ | with_reducible refine ev_ifS ?_ | with_reducible refine ev_next ?_
  | ((with_reducible refine' ev_var ?k1 ?_); (case k1 => exact rfl)) | with_reducible refine ev_c ?_ | with_reducible refine ev_op ?_ | with_reducible refine ev_I0 ?_ | with_reducible refine ev_test ?_ | with_reducible refine ev_B ?_ | with_reducible refine ev_bl ?_
  | ((with_reducible refine ev_eq ?k1 ?_); (case k1 => exact rfl)) | ((with_reducible refine ev_ne ?k1 ?_); (case k1 => exact rfl))
  | ((with_reducible refine' ev_nameL ?k1 ?_); (case k1 => first | (dsimp only [L2.start, wipe, List.map, List.set, List.length, List.replicate, List.append]; exact rfl) | exact rfl)) | with_reducible refine ev_name ?_ | with_reducible refine ev_nil ?_ | with_reducible refine ev_cons ?_ | with_reducible refine ev_call ?_ | with_reducible refine ev_tup ?_ | with_reducible refine ev_lst ?_ | with_reducible refine ev_CB ?_ | with_reducible refine ev_fld ?_
  | with_reducible refine ev_not ?_ | with_reducible refine ev_and ?_ | with_reducible refine ev_or ?_ | with_reducible refine ev_andV ?_ | with_reducible refine ev_orV ?_ | with_reducible refine ev_ifE ?_ | with_reducible refine ev_chain ?_ | with_reducible refine ev_meth ?_ | with_reducible refine ev_un ?_
  | with_reducible refine ev_sl ?_ | with_reducible refine ev_part ?_ | with_reducible refine ev_nopart ?_ | with_reducible refine ev_int ?_ | with_reducible refine ev_for ?_ | with_reducible refine ev_list ?_ | with_reducible refine ev_lc ?_ | with_reducible refine ev_gcons ?_ | with_reducible refine ev_gnil ?_ | with_reducible refine ev_sfld ?_ | with_reducible refine ev_make ?_ | with_reducible refine ev_notV ?_ | with_reducible refine ev_yes ?_ | with_reducible refine ev_dget ?_ | with_reducible refine ev_dput ?_ | with_reducible refine ev_bm ?_ | with_reducible refine ev_bm0 ?_ | with_reducible refine ev_items ?_ | with_reducible refine ev_keys ?_ | with_reducible refine ev_enum ?_ | with_reducible refine ev_tupI ?_ | with_reducible refine ev_par ?_ | with_reducible refine ev_two ?_ | with_reducible refine ev_kget ?_ | with_reducible refine ev_gsub ?_ | with_reducible refine ev_tapeK ?_ | with_reducible refine ev_str ?_ | with_reducible refine ev_txt ?_ | with_reducible refine ev_lc2 ?_ | with_reducible refine ev_dget2 ?_ | with_reducible refine ev_rU ?_ | with_reducible refine ev_ckw ?_ | with_reducible refine ev_dnotin ?_ | with_reducible refine ev_din ?_ | with_reducible refine ev_gfld ?_ | with_reducible refine ev_saug ?_ | with_reducible refine ev_finN ?_)
section
variable {P : Program} {w : World} {K : PySem.W.Frag} {mg : Str → Option Value} {base : Heap} {a : Ad}
/-! ### need_tick -/
def sp_need_tick : Sp := fun vs H Q _ => ∃ t : Int, vs = [.int t] ∧ 0 ≤ t ∧ t ≤ 999999 ∧ Q .non H
theorem sc_need_tick : FnScope ["tick"] ["tick"] (defScope s_need_tick) := ⟨rfl, rfl, rfl, by decide +kernel, rfl, by decide +kernel, by decide +kernel⟩
theorem ok_need_tick (T : Tx w K mg a) : C8.Cal P w K mg base 1 "need_tick" sp_need_tick [] := by
  refine calD T.d_need_tick sc_need_tick (fun _ _ _ _ _ _ us hl => match us, hl with | [_], _ => rfl) (fun vs H Q E h => ?_) (fun f cdv A outer s H vs Q E hr h => ?_)
  · obtain ⟨t, rfl, _⟩ := h
    rfl
  · obtain ⟨t, rfl, h1, h2, q⟩ := h
    refine ⟨_, (pss_one (ps_if (pt_not (pt_chain op_le op_le pe_int (pv 0) (C8.pe_gc rfl T.g_MOST_TICK))) pss_never pss_nil)), ?_⟩
    tm_at "ev"
    refine if_d h1 ?_
    tm_at "ev"
    refine if_n (decide_eq_true h2) ?_
    tm_at "ev"
    exact q
/-! ### need_room_events -/
def sp_need_room_events (K : PySem.W.Frag) : Sp := fun vs H Q _ => ∃ (N : List Addr) (v : V) (ds : List PyData), vs = [v] ∧ Dw K N H v (.list ds) ∧ ds.length ≤ 200 ∧ Q .non H
theorem sc_need_room_events : FnScope ["track"] ["track"] (defScope s_need_room_events) := ⟨rfl, rfl, rfl, by decide +kernel, rfl, by decide +kernel, by decide +kernel⟩
theorem ok_need_room_events (T : Tx w K mg a) : C8.Cal P w K mg base 1 "need_room_events" (sp_need_room_events K) [] := by
  refine calD T.d_need_room_events sc_need_room_events (fun _ _ _ _ _ _ us hl => match us, hl with | [_], _ => rfl) (fun vs H Q E h => ?_) (fun f cdv A outer s H vs Q E hr h => ?_)
  · obtain ⟨N, v, ds, rfl, _⟩ := h
    rfl
  · obtain ⟨N, v, ds, rfl, h1, h2, q⟩ := h
    refine ⟨_, (pss_one (ps_if (pt_cmpR op_gt (pe_callB (kcall_len (K := K) rfl) rfl T.f_len (by decide +kernel) (pa_cons (pv 0) pa_nil)) (C8.pe_gc rfl T.g_MOST_EVENTS) (nomark _)) pss_never pss_nil)), ?_⟩
    tm_at "ev"
    refine q_len h1 ?_
    tm_at "ev"
    refine if_nd (by omega) ?_
    tm_at "ev"
    exact q
/-! ### later -/
theorem mem_d {α : Type} {l : List α} {enc : α → PyData} {k : Nat} {d : PyData} (h : (l.map enc)[k]? = some d) : ∃ e, l[k]? = some e ∧ e ∈ l ∧ d = enc e := by
  rw [List.getElem?_map] at h
  cases he : l[k]? with
  | none =>
    rw [he] at h
    cases h
  | some e =>
    rw [he] at h
    exact ⟨e, rfl, List.mem_of_getElem? he, (Option.some.inj h).symm⟩
def sp_later (K : PySem.W.Frag) : Sp := fun vs H Q _ => ∃ (N : List Addr) (v : V) (i : Int) (l : List Ev), vs = [v, .int i] ∧ Live N H ∧ Dw K N H v (trD l) ∧ l.length ≤ 1000 ∧
  (∀ e ∈ l, 0 ≤ e.t + i ∧ e.t + i ≤ 999999) ∧ ∀ r H', NewL K N H H' r ((l.map (Ev.shift i)).map Ev.d) → Q (.ref r) H'
theorem sc_later : FnScope ["track", "by", "event"] ["track", "by"] (defScope s_later) := ⟨rfl, rfl, rfl, by decide +kernel, rfl, by decide +kernel, by decide +kernel⟩
theorem ok_later (T : Tx w K mg a) (c_need_tick : C8.Cal P w K mg base 1 "need_tick" sp_need_tick []) : C8.Cal P w K mg base 2 "later" (sp_later K) [] := by
  refine calD T.d_later sc_later (fun _ _ _ _ _ _ us hl => match us, hl with | [_, _], _ => rfl) (fun vs H Q E h => ?_) (fun f cdv A outer s H vs Q E hr h => ?_)
  · obtain ⟨N, v, i, l, rfl, _⟩ := h
    rfl
  · obtain ⟨N, v, i, l, rfl, lv, dl, hz, ht, q⟩ := h
    obtain ⟨p, xs, rfl, hx, dx⟩ := dp_lst dl
    refine ⟨_, (pss_cons (ps_for PassesOwn.never rfl (k_list (K := K) rfl (pi_list (pv 0))) (pg_name (i := 2) sc_later.nd rfl (Or.inl rfl))
        (pss_one (ps_expr (C8.pe_c c_need_tick hr (by decide) rfl (pa_cons (pe_op op_add (pe_ix (kix_tup (K := K) rfl) (pv 2) pe_int (fun _ _ => rfl)) (pv 1)) pa_nil)))))
      (pss_one (ps_ret (pe_lc (own := [("event", 2)]) rfl sc_later.nd (k_list (K := K) rfl (pi_list (pv 0))) (blkOk_by (own := [("event", 2)]) (N := ["track", "by", "event"]) (sc := defScope s_later) (by decide +kernel)) (fun _ _ _ _ _ => pg_name (i := 2) sc_later.nd rfl (Or.inl rfl)) (fun _ _ _ _ _ => pts_nil) (fun _ _ _ _ _ => pe_op (kop_cat (K := K) rfl) (pe_tup (pa_cons (pe_op op_add (pe_ix (kix_tup (K := K) rfl) (pv 2) pe_int (fun _ _ => rfl)) (pv 1)) pa_nil)) (pe_slice (ksl_tup (K := K) rfl) (pv 2) (po_some pe_int) po_none)))))), ?_⟩
    tm_at "ev"
    refine ⟨_, rfl, ⟨_, sqL_mono wo_sub hx⟩, for_data (N := N) hx dx (fun _ σ' H' => (∃ z, σ' = [some (.ref p), some (.int i), z]) ∧ Same H H') ⟨⟨none, rfl⟩, same_rfl⟩ (fun _ _ _ h => wo_same h.2) ?_ ?_⟩
    · rintro k d x σ' H' hk ⟨⟨z, rfl⟩, s⟩ hd
      obtain ⟨e, he, hm, rfl⟩ := mem_d hk
      tm_at "ev"
      refine q_ixTi hd (atI_n (n := 0) rfl) ?_
      tm_at "ev"
      exact ⟨_, rfl, (ht e hm).1, (ht e hm).2, ⟨_, rfl⟩, s⟩
    · rintro σ' H' ⟨⟨z, rfl⟩, s⟩
      tm_at "ev"
      refine ⟨_, rfl, ⟨_, sqL_mono (wo_sub.trans s) hx⟩, fun D hD => lc_map N l Ev.d (fun e => (e.shift i).d) (sqL_mono (wo_sub.trans s) hx) (DwA.same dx s) hD (by omega) (lv.same s) ?_ ?_⟩
      · intro e hm x H2 s2 lv2 dxe Y hY
        tm_at "ev"
        refine ⟨rfl, ?_⟩
        tm_at "ev"
        refine q_ixTi dxe (atI_n (n := 0) rfl) ?_
        tm_at "ev"
        refine ⟨sz1, fun t nt => ?_⟩
        have ht2 := dw_tup (K := K) lv2 (xs := [.int (e.t + i)]) (ds := [.int (e.t + i)]) (.cons (.int _) .nil) nt
        tm_at "ev"
        refine q_slT 1 (lv2.same ht2.1) (dxe.up ht2.1) fun y H3 s3 dy => ?_
        tm_at "ev"
        refine q_catT ((lv2.same ht2.1).same s3) (ht2.2.up s3) dy (by cases e.th <;> simp [Ev.d, Th.ds]) fun z H4 s4 dz => ?_
        exact hY _ _ ((ht2.1.trans s3).trans s4) dz
      · intro H2 n
        refine q _ _ ?_
        rw [List.map_map]
        exact n.back s
end
end Tp
set_option maxHeartbeats 2000000
namespace Tp
open PySem PySem.Spec PyProof.Rows L2 L2.DX PySem.Calls
/-! ### sorted(d.items()), a dict of ints to ints -/
def rItemsK : V → List V → Hp → VK → Prop := fun x xs H Q => ∃ (a : Addr) (kvs : List (Key × V)), x = .ref a ∧ xs = [] ∧ H a = some (.dK kvs) ∧ ∀ p, H p = none → Q (.ref p) (upd H p (itemsO p a))
def valI : Value → Int
  | .int i _ => i
  | _ => 0
def pk1 : Option Obj → Int × Int
  | some o => match o.data with
    | .seq arr _ => (valI (arr.getD 0 .none), valI (arr.getD 1 .none))
    | _ => (0, 0)
  | none => (0, 0)
def pk (h : Heap) : Value → Int × Int
  | .ref a => pk1 (h.get? a)
  | _ => (0, 0)
def adr : Value → Addr
  | .ref a => a
  | _ => 0
def lexLe (x y : Int × Int) : Prop := SrtO.lexB y x = false
def rSortItK : List V → Hp → VK → Prop := fun vs H Q => ∃ (p a : Addr) (kvs : Ps), vs = [.ref p] ∧ H p = some (itemsO p a) ∧ H a = some (.dK (kM kvs)) ∧ kvs.length ≤ 1000 ∧
  ∀ (ys : Ps) (H' : Hp) (l : Addr) (ts : List Addr), ys.Perm kvs → ys.Pairwise lexLe → Same H H' → H l = none → (∀ t ∈ ts, H t = none) → l ∉ ts → H' l = some (.lst (ts.map V.ref)) →
    Paired (fun (t : Addr) (q : Int × Int) => H' t = some (.tup [.int q.1, .int q.2])) ts ys → Q (.ref l) H'
/-- collecting the pairs of a dict; the heap has grown -/
theorem collectK {prog : Program} {w : World} {KT : Type} [DecidableEq KT] {knd : KeyKind prog w KT} {A : Around} {E : Value → Shared → Prop} {s : Shared} {r d : Addr} {kvs : List (KT × Value)} {ep : Nat} {R : List Value → Shared → Prop}
    (hh : A.handled = none) (hv : s.heap.IsItemsView r d) (hm : s.heap.DictAt knd d kvs ep) (hn : kvs.length ≤ sizeLine)
    (h : ∀ (h' : Heap) (tk : Nat) (as : List Addr), (∀ b o, s.heap.get? b = some o → h'.get? b = some o) → s.heap.objs.size < h'.objs.size → as.length = kvs.length → PySem.W.KdxG knd kvs s.heap.objs.size h' as → R (as.map Value.ref) { s with heap := h', toks := tk }) :
    wpAny (model prog w) A (collect (.ref r)) R E s := by
  have hr : r < s.heap.objs.size := let ⟨_, ho, _⟩ := hv; Heap.lt_size ho
  unfold collect
  refine wpAny_bind (wpAny_runValue (codeAny_builtin entry_proto_collect' ?_))
  rw [Around.under_plainId PySem.F.plain_proto_collect _]
  refine wpAny_bind (wpAny_newObj_type ?_)
  refine wpAny_pure ⟨plainId_quiet PySem.F.plain_list_iadd _, codeAny_builtin entry_list_iadd' ?_⟩
  rw [Around.under_plainId PySem.F.plain_list_iadd _]
  have v2 : (s.heap.push { cls := .type "list", data := .seq ([] : List Value).toArray }).IsItemsView r d := let ⟨o, ho, x⟩ := hv; ⟨o, Heap.get?_push_of_some _ ho, x⟩
  let Good : Result → Shared → Prop := fun q s' => ∃ (h' : Heap) (tk : Nat) (acc' : Array Value) (c' : Nat) (as : List Addr), q = .ok (.ret (.ref s.heap.objs.size)) ∧ s' = { s with heap := h', toks := tk } ∧ (∀ b o, s.heap.get? b = some o → h'.get? b = some o) ∧
    h'.get? s.heap.objs.size = some { cls := .type "list", dict := none, data := .seq acc' c', slots := #[] } ∧ as.length = kvs.length ∧ PySem.W.KdxG knd kvs s.heap.objs.size h' as ∧ acc'.toList = as.map Value.ref
  have main := PySem.W.kdx_extend (A := A) (s := { s with heap := s.heap.push { cls := .type "list", data := .seq ([] : List Value).toArray } }) (R := Good) hh v2 (hm.push _) s.heap.objs.size (Nat.ne_of_gt hr) (Nat.ne_of_lt hm.lt_size) (.ref s.heap.objs.size) 0
    (Heap.get?_push_size _ rfl) (fun h' tk acc' c' as hk hS' hl hG hacc => ⟨h', tk, acc', c', as, rfl, rfl, fun b o e => hk b o (Nat.ne_of_lt (Heap.lt_size e)) (Heap.get?_push_of_some _ e), hS', hl,
      hG.low (by show s.heap.objs.size ≤ (s.heap.push _).objs.size; rw [Heap.size_push]; exact Nat.le_succ _), hacc⟩) hn
  have fin : ∀ q s', Good q s' → ∃ (h' : Heap) (tk : Nat) (acc' : Array Value) (c' : Nat), q = .ok (.ret (.ref s.heap.objs.size)) ∧ s' = { s with heap := h', toks := tk } ∧ h'.get? s.heap.objs.size = some { cls := .type "list", dict := none, data := .seq acc' c', slots := #[] } ∧
      R acc'.toList { s with heap := h', toks := tk } := by
    rintro q s' ⟨h', tk, acc', c', as, e1, e2, hk, hS', hl, hG, hacc⟩
    exact ⟨h', tk, acc', c', e1, e2, hS', by rw [hacc]; exact h h' tk as hk (Heap.lt_size hS') hl hG⟩
  refine wpAny_mono main (fun f s' x => ?_) fun e s' x => ?_
  · cases f with
    | done fl =>
      obtain ⟨h', tk, acc', c', e, rfl, hS', hR⟩ := fin _ _ x
      cases e
      exact wpAny_bind (wpAny_load hS' (wpAny_pure hR))
    | again c₁ =>
      refine ⟨x.1, codeAny_mono x.2 fun q s₂ y => ?_⟩
      obtain ⟨h', tk, acc', c', rfl, rfl, hS', hR⟩ := fin _ _ y
      exact wpAny_bind (wpAny_load hS' (wpAny_pure hR))
  · obtain ⟨_, _, _, _, e', _⟩ := fin _ _ x
    cases e'
theorem paired_map {α β γ : Type} {F : α → γ → Prop} {g : β → γ} {f : β → α} : ∀ {l : List β}, (∀ b ∈ l, F (f b) (g b)) → Paired F (l.map f) (l.map g)
  | [], _ => .nil
  | b :: l, h => .cons (h b List.mem_cons_self) (paired_map fun c hc => h c (List.mem_cons_of_mem _ hc))
section
variable {X : Cx}
theorem mt_itemsK : MtR X "dict.items" rItemsK := by
  intro pins s σ H x xs v us Q I rx rxs h
  obtain ⟨a, kvs, rfl, rfl, ha, q⟩ := h
  cases rx
  cases rxs
  obtain ⟨hz, hs0, vs, kv, hdo⟩ := I.hok a _ ha
  refine call_meetsIn PySem.F.slot_dict_items hdo.typeIs PySem.F.entry_dict_items (PySem.F.args_dict_items_1 _) (meets_dict_items (mixKind X.prog X.w) a hs0) ⟨⟨vs, hdo⟩, ?_⟩
  exact ⟨.ref s.heap.objs.size, upd H s.heap.objs.size (itemsO s.heap.objs.size a), I.laid (t' := s.toks) (fun b u e => Heap.get?_push_of_some _ e) (Nat.le_refl _) (itemsO_ok (Heap.get?_push_size _ rfl)), rfl, q _ (I.hok.fresh (Nat.le_refl _))⟩
theorem cr_sortedItemsK (hc : X.calm = true) : CallR X (.builtin "sorted") rSortItK := by
  intro pins s σ H xs us Q I r h
  obtain ⟨p, a, kvs, rfl, hp, ha, hz, q⟩ := h
  obtain rfl := Vals.ref1 r
  have view : s.heap.IsItemsView p a := (show ObjOk X.prog X.w H s.heap p (itemsO p a) from I.hok p _ hp).1
  obtain ⟨hz0, hs0, vs, kv, hdo⟩ := I.hok a _ ha
  obtain ⟨ep, hat⟩ := hdo.dictAt
  have lk : (kM kvs).length = vs.length := Paired.length kv
  have lk2 : kvs.length = vs.length := by rw [← lk]; exact (List.length_map _).symm
  refine call_function_entry kind_sorted plain_sorted entry_sorted (args_sorted1 _) ?_
  unfold Builtin.«sorted»
  refine wpAny_bind (m := checkCount "sorted" 1 1 _) (wpAny_pure ?_)
  refine wpAny_bind (collectK (A := X.A.in1) (I.ok.hd hc) view hat (by rw [← lk2]; exact Nat.le_trans hz (by decide)) fun h' tk as hk hlt hl hG => ?_)
  have lak : as.length = kvs.length := by omega
  refine wpAny_bind (wpAny_newList ?_ (by rw [List.length_map, lak]; exact Nat.le_trans hz (by decide)))
  have nd : as.Nodup := List.Pairwise.imp (fun h => Nat.ne_of_lt h) hG.rise
  -- the pairs
  have pr : ∀ (j : Nat) (b : Addr), as[j]? = some b → ∃ (e : Int × Int) (t1 t2 : Nat), kvs[j]? = some e ∧ h'.get? b = some { cls := .type "tuple", data := .seq #[Value.int e.1 t1, Value.int e.2 t2] } := by
    intro j b hj
    obtain ⟨key, k, x, f1, f2, f3⟩ := hG.pairs j b hj
    have hjl : j < kvs.length := by rw [← lak]; exact (List.getElem?_eq_some_iff.mp hj).1
    have he : kvs[j]? = some kvs[j] := List.getElem?_eq_getElem hjl
    have hm : (kM kvs)[j]? = some (Sum.inl kvs[j].1, V.int kvs[j].2) := by
      unfold kM
      rw [List.getElem?_map, he]
      rfl
    obtain ⟨qv, g1, g2, g3⟩ := LiI.paired_get kv hm
    rw [f1] at g1
    cases g1
    have e2 : RelV (kV (Sum.inl kvs[j].1)) key := by
      rw [show (Sum.inl kvs[j].1 : Key) = k from g2]
      exact relV_key (show keyIs k key = true from f2)
    obtain ⟨t1, rfl⟩ := e2
    obtain ⟨t2, rfl⟩ := g3
    exact ⟨kvs[j], t1, t2, he, f3⟩
  have hob : (h'.push { cls := .type "list", data := .seq (as.map Value.ref).toArray }).get? h'.objs.size = some (seqObj "list" (as.map Value.ref).toArray 0) := Heap.get?_push_size _ rfl
  have ka : ∀ b o, h'.get? b = some o → (h'.push { cls := .type "list", data := .seq (as.map Value.ref).toArray }).get? b = some o := fun b o e => Heap.get?_push_of_some _ e
  have ne0 : ∀ b o, h'.get? b = some o → b ≠ h'.objs.size := fun b o e => Nat.ne_of_lt (Heap.lt_size e)
  generalize hh2 : h'.push { cls := .type "list", data := .seq (as.map Value.ref).toArray } = h2 at hob ka ⊢
  have pkE : ∀ (j : Nat) (b : Addr), as[j]? = some b → ∃ (e : Int × Int) (t1 t2 : Nat), kvs[j]? = some e ∧ h2.get? b = some { cls := .type "tuple", data := .seq #[Value.int e.1 t1, Value.int e.2 t2] } ∧ pk h2 (.ref b) = e := by
    intro j b hj
    obtain ⟨e, t1, t2, he, hg⟩ := pr j b hj
    refine ⟨e, t1, t2, he, ka _ _ hg, ?_⟩
    show pk1 (h2.get? b) = e
    rw [ka _ _ hg]
    rfl
  have at_ : ∀ v ∈ as.map Value.ref, ∃ (b : Addr) (e : Int × Int) (t1 t2 : Nat), v = .ref b ∧ b ∈ as ∧ h2.get? b = some { cls := .type "tuple", data := .seq #[Value.int e.1 t1, Value.int e.2 t2] } ∧ pk h2 (.ref b) = e := by
    intro v hv
    obtain ⟨b, hb, rfl⟩ := List.mem_map.mp hv
    obtain ⟨j, hj⟩ := List.mem_iff_getElem?.mp hb
    obtain ⟨e, t1, t2, _, h1, h2⟩ := pkE j b hj
    exact ⟨b, e, t1, t2, rfl, hb, h1, h2⟩
  have sorts : wpAny (model X.prog X.w) X.A.in1 (call (.builtin "list.sort") [.ref h'.objs.size]) (fun _ s' => ∃ out : List Value, SrtO.Srtd (fun v u => SrtO.lexB (pk h2 v) (pk h2 u)) out ∧ out.Perm (as.map Value.ref) ∧ s' = { s with heap := sortedHeap h2 h'.objs.size (as.map Value.ref) out.toArray, toks := tk }) X.xe { s with heap := h2, toks := tk } := by
    refine wpAny_call_entry PyProof.Rows.slot_list_sort ⟨_, hob, rfl⟩ PyProof.Rows.entry_list_sort
      (SrtO.list_sort_ord (s := { s with heap := h2, toks := tk }) (SrtO.swo_lex fun u => pk h2 u) hob (by rw [List.length_map, lak]; exact Nat.le_trans hz (by decide)) (fun hh => SrtO.pairs_sortableO (by omega) (fun v hv => ?_) fun o e => ?_)
        fun out o1 o2 => ⟨.none, rfl, out, o1, o2.perm, rfl⟩) (PyProof.Rows.args_list_sort _)
    · obtain ⟨b, e, t1, t2, rfl, hb, hg, hpk⟩ := at_ v hv
      show Srt.IsPair h2 (.ref b) (pk h2 (.ref b)).1 (pk h2 (.ref b)).2
      rw [hpk]
      exact ⟨b, _, t1, t2, 0, rfl, hg, rfl, rfl⟩
    · have e' : some o = some (seqObj "list" (as.map Value.ref).toArray 0) := e.symm.trans hob
      cases e'
      intro c
      exact absurd (Value.type.inj c) (by decide)
  refine wpAny_bind (wpAny_holding (wpAny_mono sorts (fun _ s' x => ?_) fun _ _ e => e))
  obtain ⟨out, o1, o2, rfl⟩ := x
  refine wpAny_pure ⟨_, rfl, ?_⟩
  have refs : ∀ v ∈ out, v = Value.ref (adr v) := fun v hv => by
    obtain ⟨b, _, _, _, rfl, _⟩ := at_ v (o2.mem_iff.mp hv)
    rfl
  have hout : out = (out.map adr).map Value.ref := by
    rw [List.map_map]
    exact (List.map_id' out).symm.trans (List.map_congr_left fun v hv => refs v hv)
  have hperm : (out.map adr).Perm as := by
    have e := o2.map adr
    rw [List.map_map] at e
    rw [show as.map (adr ∘ Value.ref) = as from List.map_id' as] at e
    exact e
  generalize hts : out.map adr = ts at hout hperm
  have nts : ts.Nodup := hperm.nodup_iff.mpr nd
  have inas : ∀ b ∈ ts, b ∈ as := fun b hb => hperm.mem_iff.mp hb
  have hys : (ts.map fun b => pk h2 (.ref b)).Perm kvs := by
    refine (hperm.map _).trans ?_
    have e : as.map (fun b => pk h2 (.ref b)) = kvs := by
      refine List.ext_getElem? fun j => ?_
      rw [List.getElem?_map]
      by_cases hj : j < as.length
      · obtain ⟨e, t1, t2, he, _, hpk⟩ := pkE j as[j] (List.getElem?_eq_getElem hj)
        rw [List.getElem?_eq_getElem hj, he, ← hpk]
        rfl
      · rw [List.getElem?_eq_none (by omega), List.getElem?_eq_none (by omega)]
        rfl
    rw [e]
  have hsrt : (ts.map fun b => pk h2 (.ref b)).Pairwise lexLe := by
    rw [List.pairwise_map]
    rw [hout, SrtO.Srtd, List.pairwise_map] at o1
    exact o1
  -- the heap behind
  have lo : s.heap.objs.size ≤ h'.objs.size := Nat.le_of_lt hlt
  have kF : ∀ b o, b ≠ h'.objs.size → h2.get? b = some o → (sortedHeap h2 h'.objs.size (as.map Value.ref) out.toArray).get? b = some o := fun b o hb e => (PyProof.Rows.sortedHeap_old hb (Heap.lt_size e)).trans e
  have kS : ∀ b o, s.heap.get? b = some o → (sortedHeap h2 h'.objs.size (as.map Value.ref) out.toArray).get? b = some o := fun b o e => kF b o (ne0 _ _ (hk b o e)) (ka b o (hk b o e))
  obtain ⟨eF, heF⟩ := PyProof.Rows.sortedHeap_at (vs := as.map Value.ref) (out := out.toArray) hob
  have hn0 : H h'.objs.size = none := I.hok.fresh lo
  have I2 : Inv X pins σ (upd H h'.objs.size (.lst (ts.map V.ref))) { s with heap := sortedHeap h2 h'.objs.size (as.map Value.ref) out.toArray, toks := tk } :=
    I.laid (t' := tk) kS lo ⟨by rw [List.length_map, hperm.length_eq, lak]; exact Nat.le_trans hz (by decide), out, eF, by rw [hout]; exact vals_maps V.ref Value.ref ts fun _ _ => rfl, heF⟩
  have nl : h'.objs.size ∉ ts := fun z => by
    obtain ⟨j, hj⟩ := List.mem_iff_getElem?.mp (inas _ z)
    obtain ⟨_, _, _, _, hg⟩ := pr j _ hj
    exact Nat.lt_irrefl _ (Heap.lt_size hg)
  have new : ∀ b ∈ ts, H b = none := fun b hb => I.hok.fresh (Nat.le_of_lt (hG.above b (inas b hb)))
  obtain ⟨H2, I3, g, qt⟩ := takeT (h' := sortedHeap h2 h'.objs.size (as.map Value.ref) out.toArray) (tk := tk) (P := fun b vs => vs = [.int (pk h2 (.ref b)).1, .int (pk h2 (.ref b)).2]) I ts _ I2 nts fun b hb => by
    obtain ⟨b', e, t1, t2, e1, _, hg, hpk⟩ := at_ (.ref b) (List.mem_map.mpr ⟨b, inas b hb, rfl⟩)
    cases e1
    have bn : b ≠ h'.objs.size := fun z => nl (by rw [← z]; exact hb)
    refine ⟨Nat.le_of_lt (hG.above b (inas b hb)), by rw [upd_ne bn]; exact new b hb, _, rfl, fun H2 => ?_⟩
    rw [hpk]
    exact ⟨by show 2 ≤ sizeLine; decide, _, .cons ⟨t1, rfl⟩ (.cons ⟨t2, rfl⟩ .nil), ⟨_, kF _ _ bn hg, rfl, 0, rfl⟩⟩
  refine ⟨.ref h'.objs.size, H2, I3, rfl, q _ H2 h'.objs.size ts hys hsrt (fun b o e => g b o (by rw [upd_ne (ne_of_none e hn0)]; exact e)) hn0 new nl (g _ _ upd_same) ?_⟩
  have pm := paired_map (F := fun (t : Addr) (q : Int × Int) => H2 t = some (.tup [.int q.1, .int q.2])) (f := id) (g := fun b => pk h2 (.ref b)) (l := ts) fun b hb => ?_
  · rw [List.map_id] at pm
    exact pm
  obtain ⟨vs', e, ht⟩ := qt b hb
  rw [e] at ht
  exact ht
end
end Tp
set_option maxHeartbeats 2000000
namespace Tp
open PySem PySem.Spec PyProof.Rows L2
/-! ### max of pairs, with a default -/
theorem lt_pair {a b : Int × Int} (h : a.1 < b.1) : PySem.W.dataLt (prD a) (prD b) = true := by
  unfold PySem.W.dataLt
  simp only [prD]
  rw [PySem.W.keyToks, PySem.W.keyToks, PySem.W.toks_all_cons, PySem.W.toks_all_cons (x := .int a.2), PySem.W.toks_all_cons (x := .int b.1)]
  rw [PyProof.Rows.lex_self, PySem.W.keyToks, PySem.W.keyToks]
  show PyProof.Rows.lexLt itemOrd (Sum.inl a.1 :: _) (Sum.inl b.1 :: _) = true
  rw [PyProof.Rows.lex_diff (fun e => by have := Sum.inl.inj e; omega)]
  exact decide_eq_true h
def Srt (l : Ps) : Prop := l.Pairwise fun x y => x.1 < y.1
theorem maxD_srt : ∀ (l : Ps) (x : Int × Int), Srt (x :: l) → PySem.W.maxD (prD x) (l.map prD) = prD ((x :: l).getLast (by simp))
  | [], x, _ => rfl
  | y :: l, x, h => by
    have h' := List.pairwise_cons.mp h
    show PySem.W.maxD (if PySem.W.dataLt (prD x) (prD y) then prD y else prD x) (l.map prD) = _
    rw [if_pos (lt_pair (h'.1 y List.mem_cons_self)), maxD_srt l y h'.2]
    rfl
theorem reads_int {h : Heap} {v : Value} {i : Int} {as : List Addr} (r : Reads h v (.int i) as) : ∃ t, v = .int i t := by
  cases r
  exact ⟨_, rfl⟩
theorem readsA_two {h : Heap} {vs : List Value} {p : Int × Int} {as : List Addr} (r : ReadsAll h vs [.int p.1, .int p.2] as) : ∃ t u, vs = [.int p.1 t, .int p.2 u] := by
  generalize e : [PyData.int p.1, PyData.int p.2] = ds at r
  cases r with
  | nil => cases e
  | cons r1 r2 =>
    cases e
    generalize e2 : [PyData.int p.2] = ds2 at r2
    cases r2 with
    | nil => cases e2
    | cons r2 r3 =>
      cases e2
      cases r3
      obtain ⟨t, rfl⟩ := reads_int r1
      obtain ⟨u, rfl⟩ := reads_int r2
      exact ⟨t, u, rfl⟩
theorem reads_pair {h : Heap} {v : Value} {p q : Int × Int} {as bs : List Addr} (h1 : Reads h v (prD p) as) (h2 : Reads h v (prD q) bs) : p = q := by
  unfold prD at h1 h2
  cases h1 with
  | tuple e1 _ e2 r1 =>
    cases h2 with
    | tuple e3 _ e4 r2 =>
      rw [e1] at e3
      cases e3
      rw [e2] at e4
      cases e4
      obtain ⟨t, u, h3⟩ := readsA_two r1
      obtain ⟨t', u', h4⟩ := readsA_two r2
      rw [h3] at h4
      injection h4 with a1 a2
      injection a2 with a2
      injection a1 with a1
      injection a2 with a2
      exact Prod.ext a1 a2
theorem alike_pairs (l : Ps) : PySem.W.AlikeAll (l.map prD) := by
  refine ⟨fun x hx y hy => ?_, fun x hx e => ?_⟩
  · obtain ⟨a, _, rfl⟩ := List.mem_map.mp hx
    obtain ⟨b, _, rfl⟩ := List.mem_map.mp hy
    rfl
  · obtain ⟨a, _, rfl⟩ := List.mem_map.mp hx
    cases e
theorem depth_pairs : ∀ l : Ps, PyData.depthAll (l.map prD) ≤ 2
  | [] => by simp [PyData.depthAll]
  | x :: l => by
    have := depth_pairs l
    simp only [List.map_cons, PyData.depthAll, prD, PyData.depth]
    omega
/-- max(xs, default=d), xs pairs in rising order: the last one, or d -/
def rMaxD (K : PySem.W.Frag) : List V → List V → Hp → VK → Prop := fun vs zs H Q => ∃ (l : Addr) (xs : List V) (ys : Ps) (d : V), vs = [.ref l] ∧ zs = [d] ∧ SqL K H l xs ∧ DpAll K H xs (ys.map prD) ∧ Srt ys ∧
  (ys = [] → Q d H) ∧ ∀ (i : Nat) (v : V) (q : Int × Int), xs[i]? = some v → ys.getLast? = some q → Dp K H v (prD q) → Q v H
section
variable {X : Cx}
theorem cr_maxD (hc : X.calm = true) (hu : X.A.units + 64 < cLine) : CallRK X (.builtin "max") ["default"] (rMaxD X.K) := by
  intro pins s σ H vs zs us ws Q I r rz h
  obtain ⟨l, xs, ys, d, rfl, rfl, hs, hd, srt, q0, q1⟩ := h
  obtain rfl := Vals.ref1 r
  obtain ⟨w1, rfl, e1⟩ := vals1 rz
  obtain ⟨its, rv, hl, hz⟩ := I.list hs
  obtain ⟨as, ra⟩ := Dp.readsAll I _ _ _ hd rv
  have hdep := depth_pairs ys
  refine PySem.W.max_list_default (xs := ys.map prD) (I.ok.hd hc) hl.isList (by simpa using ra) (alike_pairs ys) (by omega) (fun e h' tk hk => ?_) fun y ys' i v h' tk bs e hv hr hk => ?_
  · exact ⟨d, H, I.kept (t' := tk) hk, e1, q0 (List.map_eq_nil_iff.mp e)⟩
  · have I2 : Inv X pins σ H { s with heap := h', toks := tk } := I.kept (t' := tk) hk
    cases ys with
    | nil => cases e
    | cons p ps =>
      cases e
      rw [maxD_srt ps p srt] at hr
      have hv' : its[i]? = some v := by simpa using hv
      have hil : i < xs.length := by rw [rv.length]; exact (List.getElem?_eq_some_iff.mp hv').1
      have hx : xs[i]? = some xs[i] := List.getElem?_eq_getElem hil
      obtain ⟨u, hu', ru⟩ := rv.get hx
      rw [hv'] at hu'
      cases hu'
      obtain ⟨dd, hd1, hd2⟩ := dpA_at hd hx
      rw [List.getElem?_map] at hd1
      cases hp : (p :: ps)[i]? with
      | none =>
        rw [hp] at hd1
        cases hd1
      | some pp =>
        rw [hp] at hd1
        cases hd1
        obtain ⟨cs, hr2⟩ := Dp.reads I2 _ _ _ hd2 ru
        have ee := reads_pair hr2 hr
        subst ee
        exact ⟨xs[i], H, I2, ru, q1 i _ _ hx (List.getLast?_eq_some_getLast (by simp)) hd2⟩
end
end Tp
set_option maxHeartbeats 2000000
namespace Tp
open PySem PySem.Spec PyProof.Rows L2
theorem kcr_maxD {X : Cx} {K : PySem.W.Frag} (h : X.K = K) (hc : X.calm = true) (hu : X.A.units + 64 < cLine) : CallRK X (.builtin "max") ["default"] (rMaxD K) := h ▸ cr_maxD hc hu
section
variable {K : PySem.W.Frag} {N : List Addr} {H H' H1 : Hp} {d D : Addr} {ds : List PyData} {u f : HO} {kvs : Ps}
theorem NewL.unlock (n : NewL K (d :: N) (upd H d f) H' D ds) (hd : H d = some u) : NewL K N H (upd H' d u) D ds := by
  have hDd : D ≠ d := fun e => by
    have := n.new
    rw [e, upd_same] at this
    cases this
  refine ⟨fun b o h => ?_, ?_, ?_⟩
  · by_cases e : b = d
    · rw [e] at h ⊢
      rw [upd_same, ← h, hd]
    · rw [upd_ne e]
      exact n.same b o (by rw [upd_ne e]; exact h)
  · have := n.new
    rw [upd_ne hDd] at this
    exact this
  · obtain ⟨xs, h1, h2⟩ := n.at_
    refine ⟨xs, by rw [upd_ne hDd]; exact h1, dpA_mono (fun b o h => ?_) h2⟩
    obtain ⟨k1, k2⟩ := wo_of h
    have e : b ≠ d := fun e => k1 (by rw [e]; simp)
    exact wo_at (fun z => k1 ((List.mem_cons.mp z).elim (fun e => by rw [e]; simp) fun z => List.mem_cons_of_mem _ (List.mem_cons_of_mem _ z))) (by rw [upd_ne e]; exact k2)
theorem live_frz (l : Live N H) : Live (d :: N) (upd H d f) := (live_upd l).cons upd_same
/-- a comprehension over the items of a locked dict of ints -/
theorem lc_items {g : TG} {tt : TT} {te : TE} {vs : List Nat} {σ : L2.St} {Qd : Hp → Prop} {od : Obj} (N : List Addr) (keep : Int × Int → Bool) (out : Int × Int → PyData)
    (hx : H1 d = some (.frz od (.dK (kM kvs)))) (hD : H1 D = none) (hz : kvs.length ≤ 100000) (lv : Live N H1)
    (turn : ∀ e ∈ kvs, ∀ T H, Same H1 H → Live (D :: N) H → T ∉ D :: N → H T = some (.tup [.int e.1, .int e.2]) → ∀ (R : Hp → Prop) (Y : V → Hp → Prop), (keep e = false → ∀ H', Same H H' → R H') →
      (keep e = true → ∀ y H', Same H H' → Dw K (D :: N) H' y (out e) → Y y H') → g (.ref T) (wipe σ vs) H fun σ2 H2 => wipe σ2 vs = wipe σ vs ∧ tt σ2 H2 fun b H3 => if b = true then te σ2 H3 Y else R H3)
    (done : ∀ H', NewL K N H1 H' D ((kvs.filter keep).map out) → Qd H') :
    ∃ W : Nat → Nat → Hp → Prop, (∃ m, W 0 m (upd H1 D (.lst []))) ∧ ∀ i m H, W i m H →
      ((Iti d od (kM kvs)).stop i H ∧ Qd H) ∨ ((Iti d od (kM kvs)).go i H ∧ ∃ Nx : Hp → Prop, (∀ H', Nx H' → ∃ m', m' < m ∧ W (i + 1) m' H') ∧ ∀ x H', (Iti d od (kM kvs)).yld i H x H' → g x (wipe σ vs) H' fun σ2 H2 => wipe σ2 vs = wipe σ vs ∧ tt σ2 H2 fun b H3 =>
        if b = true then te σ2 H3 fun y H4 => ∃ acc, H4 D = some (.lst acc) ∧ acc.length < sizeLine ∧ Nx (upd H4 D (.lst (acc ++ [y]))) else Nx H3) := by
  have ln : (kM kvs).length = kvs.length := List.length_map _
  let Pv : Nat → Hp → Prop := fun i H => ∃ ys, Same H1 H ∧ H D = some (.lst ys) ∧ DpAll K (wo (D :: N) H) ys (((kvs.take i).filter keep).map out)
  refine ⟨fun i m H => m = kvs.length - i ∧ i ≤ kvs.length ∧ Pv i H, ⟨kvs.length, rfl, Nat.zero_le _, [], same_new hD, upd_same, .nil⟩, ?_⟩
  rintro i m H ⟨rfl, hi, ys, s, hH, hys⟩
  by_cases hlt : i < kvs.length
  · refine .inr ⟨⟨s _ _ hx, by omega⟩, Pv (i + 1), fun H2 p' => ⟨kvs.length - (i + 1), by omega, rfl, hlt, p'⟩, fun x H2 y => ?_⟩
    obtain ⟨T, k, v, hk, rfl, hT, rfl⟩ := y
    have he : kvs[i]? = some kvs[i] := List.getElem?_eq_getElem hlt
    have hk2 : (kM kvs)[i]? = some (Sum.inl kvs[i].1, V.int kvs[i].2) := by
      unfold kM
      rw [List.getElem?_map, he]
      rfl
    rw [hk2] at hk
    cases hk
    have s1 : Same H (upd H T (.tup [V.int kvs[i].1, V.int kvs[i].2])) := same_new hT
    have lv1 : Live (D :: N) H := (lv.same s).cons hH
    have ly : ys.length ≤ i := by
      have q := dpA_len hys
      rw [List.length_map] at q
      have q2 := List.length_filter_le keep (kvs.take i)
      rw [List.length_take] at q2
      omega
    refine turn kvs[i] (List.getElem_mem _) T _ (s.trans s1) (lv1.same s1) (lv1.notin hT) upd_same _ _ (fun hk H' s' => ?_) fun hk y H' s' hy => ?_
    · refine ⟨ys, (s.trans s1).trans s', s' _ _ (s1 _ _ hH), ?_⟩
      rw [take_up he, List.filter_append, List.filter_cons_of_neg (by rw [hk]; decide), List.filter_nil, List.append_nil]
      exact dpA_mono ((wo_same s1).trans (wo_same s')) hys
    · refine ⟨ys, s' _ _ (s1 _ _ hH), Nat.lt_of_le_of_lt ly (Nat.lt_of_lt_of_le hlt (Nat.le_trans hz (by decide))), ys ++ [y], same_mut ((s.trans s1).trans s') hD, upd_same, ?_⟩
      rw [take_up he, List.filter_append, List.filter_cons_of_pos hk, List.filter_nil, List.map_append]
      exact dpA_app (dpA_mono (((wo_same s1).trans (wo_same s')).trans (wo_mut List.mem_cons_self)) hys) (.cons (dp_mono (wo_mut List.mem_cons_self) hy) .nil)
  · refine .inl ⟨⟨s _ _ hx, by omega⟩, done H ⟨s, hD, ys, hH, ?_⟩⟩
    rw [List.take_of_length_le (by omega)] at hys
    exact hys
/-- reading a list that may change -/
theorem q_ixM {F : Addr} {us : List V} {e : PyData} {i : Int} {Q : VK} (h : H F = some (.lst us)) (hd : DwA K N H us ds) (at_ : atI ds i = some e) (q : ∀ v, Dw K N H v e → Q v H) : rIxL K (.ref F) (.int i) H Q := by
  obtain ⟨v, h3, h4⟩ := dp_at hd at_
  exact ⟨F, us, i, v, rfl, rfl, .inl (.inl h), h3, q v h4⟩
theorem q_lenM {F : Addr} {us : List V} {Q : VK} (h : H F = some (.lst us)) (hd : DwA K N H us ds) (q : Q (.int ds.length) H) : rLn K [.ref F] H Q := ⟨F, us, rfl, .inl (.inl (.inl h)), by rw [dpA_len hd]; exact q⟩
/-- xs.append(x), xs in N -/
theorem q_app {F : Addr} {us : List V} {v : V} {e : PyData} {Q : VK} (m : F ∈ N) (h : H F = some (.lst us)) (hd : DwA K N H us ds) (hv : Dw K N H v e) (z : us.length < 16000)
    (q : ∀ H', SameBut F H H' → Same (wo N H) (wo N H') → H' F = some (.lst (us ++ [v])) → DwA K N H' (us ++ [v]) (ds ++ [e]) → Q .non H') : rAppend (.ref F) [v] H Q :=
  ⟨F, us, v, rfl, rfl, h, Nat.lt_trans z (by decide), q _ (sb_upd (sb_same same_rfl)) (wo_mut m) upd_same (dpA_app (dpA_mono (wo_mut m) hd) (.cons (dp_mono (wo_mut m) hv) .nil))⟩
theorem tyL {F : Addr} {us : List V} (h : H F = some (.lst us)) : tyV K "list" (.ref F) H := .inl ⟨rfl, us, .inl (.inl h)⟩
theorem tyDk {F : Addr} {kvs : List (Key × V)} (h : H F = some (.dK kvs)) : tyV K "dict" (.ref F) H := .inr (.inr (.inl ⟨rfl, .inl ⟨_, h⟩⟩))
theorem ev_rU {f : Int → V} {i : Int} {Q : VK} (q : Q (f i) H) : rU f (.int i) H Q := ⟨i, rfl, q⟩
theorem ev_ckw {r : List V → List V → Hp → VK → Prop} {t tk : TA} {σ : L2.St} {Q : VK} (q : t σ H fun vs H1 => tk σ H1 fun zs H2 => r vs zs H2 Q) : tCKw r t tk σ H Q := q
theorem SameBut.none {F : Addr} (s : SameBut F H H') (n : H F = none) : Same H H' := fun b o h => s b o (ne_of_none h n) h
theorem lv_but {F : Addr} (l : Live (F :: N) H) (s : SameBut F H H') (h : H' F = some u) : Live (F :: N) H' := fun b hb => by
  by_cases e : b = F
  · rw [e]
    exact ⟨_, h⟩
  · obtain ⟨o, ho⟩ := l b hb
    exact ⟨o, s b o e ho⟩
end
end Tp
set_option maxHeartbeats 4000000
namespace Tp
open PySem PySem.Spec PyProof.Rows L2
local macro_rules | `(tactic| tm_at "ev") => `(tactic| repeat first
  | with_reducible refine ev_seq ?_ | with_reducible refine ev_asg ?_ | with_reducible refine ev_drop ?_ | with_reducible refine ev_ret ?_ | with_reducible refine ev_ifS ?_ | with_reducible refine ev_next ?_
  | ((with_reducible refine' ev_var ?k1 ?_); (case k1 => exact rfl)) | with_reducible refine ev_c ?_ | with_reducible refine ev_op ?_ | with_reducible refine ev_I0 ?_ | with_reducible refine ev_test ?_ | with_reducible refine ev_B ?_ | with_reducible refine ev_bl ?_
  | ((with_reducible refine ev_eq ?k1 ?_); (case k1 => exact rfl)) | ((with_reducible refine ev_ne ?k1 ?_); (case k1 => exact rfl))
  | ((with_reducible refine' ev_nameL ?k1 ?_); (case k1 => first | (dsimp only [L2.start, wipe, List.map, List.set, List.length, List.replicate, List.append]; exact rfl) | exact rfl)) | with_reducible refine ev_name ?_ | with_reducible refine ev_nil ?_ | with_reducible refine ev_cons ?_ | with_reducible refine ev_call ?_ | with_reducible refine ev_tup ?_ | with_reducible refine ev_lst ?_ | with_reducible refine ev_CB ?_ | with_reducible refine ev_fld ?_
  | with_reducible refine ev_not ?_ | with_reducible refine ev_and ?_ | with_reducible refine ev_or ?_ | with_reducible refine ev_andV ?_ | with_reducible refine ev_orV ?_ | with_reducible refine ev_ifE ?_ | with_reducible refine ev_chain ?_ | with_reducible refine ev_meth ?_ | with_reducible refine ev_un ?_
  | with_reducible refine ev_sl ?_ | with_reducible refine ev_part ?_ | with_reducible refine ev_nopart ?_ | with_reducible refine ev_int ?_ | with_reducible refine ev_for ?_ | with_reducible refine ev_list ?_ | with_reducible refine ev_lc ?_ | with_reducible refine ev_gcons ?_ | with_reducible refine ev_gnil ?_ | with_reducible refine ev_sfld ?_ | with_reducible refine ev_make ?_ | with_reducible refine ev_notV ?_ | with_reducible refine ev_yes ?_ | with_reducible refine ev_dget ?_ | with_reducible refine ev_dput ?_ | with_reducible refine ev_bm ?_ | with_reducible refine ev_bm0 ?_ | with_reducible refine ev_items ?_ | with_reducible refine ev_keys ?_ | with_reducible refine ev_enum ?_ | with_reducible refine ev_tupI ?_ | with_reducible refine ev_par ?_ | with_reducible refine ev_two ?_ | with_reducible refine ev_kget ?_ | with_reducible refine ev_gsub ?_ | with_reducible refine ev_tapeK ?_ | with_reducible refine ev_str ?_ | with_reducible refine ev_txt ?_ | with_reducible refine ev_lc2 ?_ | with_reducible refine ev_dget2 ?_ | with_reducible refine ev_rU ?_ | with_reducible refine ev_ckw ?_ | with_reducible refine ev_dnotin ?_ | with_reducible refine ev_din ?_ | with_reducible refine ev_gfld ?_ | with_reducible refine ev_saug ?_ | with_reducible refine ev_finN ?_)
section
variable {P : Program} {w : World} {K : PySem.W.Frag} {mg : Str → Option Value} {base : Heap} {a : Ad}
/-! ### common -/
def sp_common : Sp := fun vs H Q _ => ∃ a b : Nat, vs = [.int a, .int b] ∧ Q (.int (Nat.gcd a b : Nat)) H
theorem sc_common : FnScope ["one", "other"] ["one", "other"] (defScope s_common) := ⟨rfl, rfl, rfl, by decide +kernel, rfl, by decide +kernel, by decide +kernel⟩
theorem ok_common (T : Tx w K mg a) : C8.Cal P w K mg base 1 "common" sp_common [] := by
  refine calD T.d_common sc_common (fun _ _ _ _ _ _ us hl => match us, hl with | [_, _], _ => rfl) (fun vs H Q E h => ?_) (fun f cdv A outer s H vs Q E hr h => ?_)
  · obtain ⟨x, y, rfl, _⟩ := h
    rfl
  · obtain ⟨x, y, rfl, q⟩ := h
    refine ⟨_, (pss_cons (ps_while PassesOwn.never (pt_cmpR op_gt (pv 1) pe_int (nomark _))
        (pss_one (ps_par (i := 0) (j := 1) rfl sc_common.nd rfl rfl (by decide) rfl rfl (pa_cons (pv 1) (pa_cons (pe_op op_mod (pv 0) (pv 1)) pa_nil)) (by rfl))))
      (pss_one (ps_ret (pv 0)))), ?_⟩
    tm_at "ev"
    refine ⟨fun m σ H' => H' = H ∧ ∃ u : Nat, σ = [some (.int u), some (.int m)] ∧ Nat.gcd u m = Nat.gcd x y, ⟨y, rfl, x, rfl, rfl⟩, ?_⟩
    rintro m σ H' ⟨rfl, u, rfl, hg⟩
    tm_at "ev"
    refine if_dd (fun hm => ?_) fun hm => ?_
    · have hm' : 0 < m := by omega
      refine ⟨fun σ H2 => H2 = H' ∧ σ = [some (.int m), some (.int (u % m : Nat))], fun σ' H2 ⟨e, e2⟩ => ⟨u % m, Nat.mod_lt _ hm', e, m, e2, ?_⟩, ?_⟩
      · rw [← hg, Nat.gcd_comm u m, Nat.gcd_rec m u, Nat.gcd_comm]
      · tm_at "ev"
        refine ⟨_, _, rfl, rfl, by omega, ?_⟩
        tm_at "ev"
        exact ⟨rfl, rfl⟩
    · have hm' : m = 0 := by omega
      subst hm'
      tm_at "ev"
      rw [← hg, Nat.gcd_zero_right] at q
      exact q
/-! ### share -/
def shD (x y : Nat) : PyData := .tuple [.int (x / Nat.gcd x y : Nat), .int (y / Nat.gcd x y : Nat)]
def sp_share (K : PySem.W.Frag) : Sp := fun vs H Q _ => ∃ (N : List Addr) (x y : Nat), vs = [.int x, .int y] ∧ Live N H ∧ 0 < y ∧ y < 1073741824 ∧ ∀ v H', Same H H' → Dw K N H' v (shD x y) → Q v H'
theorem sc_share : FnScope ["top", "bottom", "part"] ["top", "bottom"] (defScope s_share) := ⟨rfl, rfl, rfl, by decide +kernel, rfl, by decide +kernel, by decide +kernel⟩
theorem ok_share (T : Tx w K mg a) (c_common : C8.Cal P w K mg base 1 "common" sp_common []) : C8.Cal P w K mg base 2 "share" (sp_share K) [] := by
  refine calD T.d_share sc_share (fun _ _ _ _ _ _ us hl => match us, hl with | [_, _], _ => rfl) (fun vs H Q E h => ?_) (fun f cdv A outer s H vs Q E hr h => ?_)
  · obtain ⟨N, x, y, rfl, _⟩ := h
    rfl
  · obtain ⟨N, x, y, rfl, lv, h1, h2, q⟩ := h
    have hg : 0 < Nat.gcd x y := Nat.gcd_pos_of_pos_right _ h1
    have hg2 : Nat.gcd x y ≤ y := Nat.le_of_dvd h1 (Nat.gcd_dvd_right _ _)
    refine ⟨_, (pss_cons (ps_set (i := 2) sc_share.nd rfl (Or.inl rfl) (C8.pe_c c_common hr (by decide) rfl (pa_cons (pe_callB call_abs rfl T.f_abs (by decide +kernel) (pa_cons (pv 0) pa_nil)) (pa_cons (pv 1) pa_nil))))
      (pss_one (ps_ret (pe_tup (pa_cons (pe_op op_fdiv (pv 0) (pv 2)) (pa_cons (pe_op op_fdiv (pv 1) (pv 2)) pa_nil)))))), ?_⟩
    tm_at "ev"
    refine ⟨_, rfl, ?_⟩
    rw [if_neg (by omega : ¬ (x : Int) < 0)]
    tm_at "ev"
    refine ⟨x, y, rfl, ?_⟩
    tm_at "ev"
    refine ⟨_, _, rfl, rfl, ⟨by omega, by omega⟩, ?_⟩
    tm_at "ev"
    refine ⟨_, _, rfl, rfl, ⟨by omega, by omega⟩, ?_⟩
    tm_at "ev"
    refine ⟨sz2, fun p n => ?_⟩
    have t := dw_tup (K := K) lv (xs := [.int ((x : Int) / (Nat.gcd x y : Nat)), .int ((y : Int) / (Nat.gcd x y : Nat))]) (.cons (.int _) (.cons (.int _) .nil)) n
    exact q _ _ t.1 t.2
/-! ### need_beat, need_pace -/
def sp_need_beat : Sp := fun vs H Q _ => ∃ t : Int, vs = [.int t] ∧ 1 ≤ t ∧ t ≤ 960 ∧ Q .non H
theorem sc_need_beat : FnScope ["beat"] ["beat"] (defScope s_need_beat) := ⟨rfl, rfl, rfl, by decide +kernel, rfl, by decide +kernel, by decide +kernel⟩
theorem ok_need_beat (T : Tx w K mg a) : C8.Cal P w K mg base 1 "need_beat" sp_need_beat [] := by
  refine calD T.d_need_beat sc_need_beat (fun _ _ _ _ _ _ us hl => match us, hl with | [_], _ => rfl) (fun vs H Q E h => ?_) (fun f cdv A outer s H vs Q E hr h => ?_)
  · obtain ⟨t, rfl, _⟩ := h
    rfl
  · obtain ⟨t, rfl, h1, h2, q⟩ := h
    refine ⟨_, (pss_one (ps_if (pt_not (pt_chain op_le op_le pe_int (pv 0) (C8.pe_gc rfl T.g_MOST_BEAT))) pss_never pss_nil)), ?_⟩
    tm_at "ev"
    refine if_d h1 ?_
    tm_at "ev"
    refine if_n (decide_eq_true h2) ?_
    tm_at "ev"
    exact q
def sp_need_pace : Sp := fun vs H Q _ => ∃ t : Int, vs = [.int t] ∧ 1 ≤ t ∧ t ≤ 16777215 ∧ Q .non H
theorem sc_need_pace : FnScope ["pace"] ["pace"] (defScope s_need_pace) := ⟨rfl, rfl, rfl, by decide +kernel, rfl, by decide +kernel, by decide +kernel⟩
theorem ok_need_pace (T : Tx w K mg a) : C8.Cal P w K mg base 1 "need_pace" sp_need_pace [] := by
  refine calD T.d_need_pace sc_need_pace (fun _ _ _ _ _ _ us hl => match us, hl with | [_], _ => rfl) (fun vs H Q E h => ?_) (fun f cdv A outer s H vs Q E hr h => ?_)
  · obtain ⟨t, rfl, _⟩ := h
    rfl
  · obtain ⟨t, rfl, h1, h2, q⟩ := h
    refine ⟨_, (pss_one (ps_if (pt_not (pt_chain op_le op_le pe_int (pv 0) (C8.pe_gc rfl T.g_MOST_PACE))) pss_never pss_nil)), ?_⟩
    tm_at "ev"
    refine if_d h1 ?_
    tm_at "ev"
    refine if_n (decide_eq_true h2) ?_
    tm_at "ev"
    exact q
theorem kM_len {l : Ps} : (kM l).length = l.length := List.length_map _
theorem ne_of_upd {H : Hp} {m D : Addr} {o : HO} (h : upd H m o D = none) : D ≠ m := fun e => by
  rw [e, upd_same] at h
  cases h
/-! ### Map.__init__ -/
theorem PsOk.nd {l : Ps} (h : PsOk l) : (l.map (·.1)).Nodup := by
  unfold List.Nodup
  rw [List.pairwise_map]
  exact h.up.imp fun h e => by omega
def sp_Map___init__ (ad : Ad) (K : PySem.W.Frag) : Sp := fun vs H Q _ => ∃ (N : List Addr) (m dx : Addr) (b : Int) (z0 : V) (kvs : Ps), vs = [.ref m, .int b, z0] ∧ H m = some (.ins ad.cM dx []) ∧ m ∉ N ∧ Live N H ∧ BeatOk b ∧
  DwS K (m :: N) H z0 (kvs.map prD) ∧ PsOk kvs ∧ ∀ d H', SameBut m H H' → H d = none → MapD ad (wo N H') m d b kvs → Q .non H'
theorem sc_Map___init__ : FnScope ["self", "beat", "paces", "tick", "pace"] ["self", "beat", "paces"] (defScope s_Map___init__) := ⟨rfl, rfl, rfl, by decide +kernel, rfl, by decide +kernel, by decide +kernel⟩
theorem ok_Map___init__ (T : Tx w K mg a) (c_need_tick : C8.Cal P w K mg base 1 "need_tick" sp_need_tick []) (c_need_beat : C8.Cal P w K mg base 1 "need_beat" sp_need_beat [])
    (c_need_pace : C8.Cal P w K mg base 1 "need_pace" sp_need_pace []) : C8.Mak P w K mg base 2 "Map" a.cM (sp_Map___init__ a K) [] := by
  refine iniD1 T.d_Map___init__ (by simp) T.m_Map sc_Map___init__ (fun _ _ _ _ _ _ _ us its hl hi => match us, its, hl, hi with | [_, _, _], [_], _, _ => ⟨_, rfl, rfl⟩) (fun vs H Q E h => ?_) (fun f cdv A outer s H vs Q E hr h => ?_)
  · obtain ⟨N, m, dx, b, z0, kvs, rfl, _⟩ := h
    rfl
  · obtain ⟨N, m, dx, b, z0, kvs, rfl, hm, mN, lv, hb, hp, ok, q⟩ := h
    have lv' : Live (m :: N) H := lv.cons hm
    refine ⟨_, (pss_cons (ps_expr (C8.pe_c c_need_beat hr (by decide) rfl (pa_cons (pv 1) pa_nil)))
      (pss_cons (ps_for PassesOwn.never rfl (pi_seqV (K := K) rfl (pv 2)) (kg_tup (K := K) rfl (pg_tup (n := 2) rfl (pgs_cons (pg_name (i := 3) sc_Map___init__.nd rfl (Or.inl rfl)) (pgs_cons (pg_name (i := 4) sc_Map___init__.nd rfl (Or.inl rfl)) pgs_nil))))
        (pss_cons (ps_expr (C8.pe_c c_need_tick hr (by decide) rfl (pa_cons (pv 3) pa_nil)))
        (pss_one (ps_expr (C8.pe_c c_need_pace hr (by decide) rfl (pa_cons (pv 4) pa_nil))))))
      (pss_cons (k_sfld (K := K) rfl (ps_fld (pv 0) (pv 1) rfl))
      (pss_cons (k_sfld (K := K) rfl (ps_fld (pv 0) (pe_dc (own := [("tick", 3), ("pace", 4)]) rfl sc_Map___init__.nd (pi_seqV (K := K) rfl (pv 2)) (blkOk_by (own := [("tick", 3), ("pace", 4)]) (N := ["self", "beat", "paces", "tick", "pace"]) (sc := defScope s_Map___init__) (by decide +kernel)) (fun _ _ _ _ _ => kg_tup (K := K) rfl (pg_tup (n := 2) rfl (pgs_cons (pg_name (i := 3) sc_Map___init__.nd rfl (Or.inl rfl)) (pgs_cons (pg_name (i := 4) sc_Map___init__.nd rfl (Or.inl rfl)) pgs_nil)))) (fun _ _ _ _ _ => pts_nil) (fun _ _ _ _ _ => pv 3) (fun _ _ _ _ _ => pv 4)) rfl))
      (pss_one (ps_if (pt_cmpR op_gt (pe_callB call_lenD rfl T.f_len (by decide +kernel) (pa_cons (k_fld (K := K) rfl (pe_fld (pv 0) rfl)) pa_nil)) (C8.pe_gc rfl T.g_MOST_PACES) (nomark _)) pss_never pss_nil)))))), ?_⟩
    tm_at "ev"
    refine ⟨b, rfl, hb.1, hb.2, ?_⟩
    tm_at "ev"
    refine q_seqV rfl hp fun J xs dx' hJ => ?_
    refine for_runs (N := m :: N) hJ dx' (fun _ σ' H' => (∃ z z', σ' = [some (.ref m), some (.int b), some z0, z, z']) ∧ H' = H) ⟨⟨none, none, rfl⟩, rfl⟩ (fun _ _ _ h => by rw [h.2]; exact same_rfl) ?_ ?_
    · rintro k d x σ' H' hk ⟨⟨z, z', rfl⟩, rfl⟩ hd
      obtain ⟨e, he, hme, rfl⟩ := mem_d hk
      have oke := ok.ok e hme
      tm_at "ev"
      refine q_unT hd rfl fun us hus => ?_
      obtain ⟨v1, r1, rfl, e1, hus⟩ := dpA_cons hus
      obtain ⟨v2, r2, rfl, e2, hus⟩ := dpA_cons hus
      obtain rfl := dpA_nil hus
      obtain rfl := dp_int e1
      obtain rfl := dp_int e2
      tm_at "ev"
      refine ⟨_, rfl, oke.1.1, oke.1.2, ?_⟩
      tm_at "ev"
      exact ⟨_, rfl, oke.2.1, oke.2.2, ⟨_, _, rfl⟩, rfl⟩
    · rintro σ' H' ⟨⟨z, z', rfl⟩, rfl⟩
      tm_at "ev"
      refine ⟨_, _, _, _, rfl, hm, T.cl_Map, T.n_Map_ticks, by decide, ?_⟩
      tm_at "ev"
      have s1 : SameBut m H' (upd H' m (.ins a.cM dx (putF "ticks" (.int b) []))) := sb_upd (sb_same same_rfl)
      refine q_seqV rfl (hp.sb s1) fun J xs dx' hJ D hD => ?_
      refine dc_runs (m :: N) kvs prD (·.1) (fun e => .int e.2) hJ dx' hD (Nat.le_trans ok.len (by decide)) ok.nd ?_ ?_
      · intro e hme x H2 s2 hd Y hY
        tm_at "ev"
        refine q_unT hd rfl fun us hus => ?_
        obtain ⟨v1, r1, rfl, e1, hus⟩ := dpA_cons hus
        obtain ⟨v2, r2, rfl, e2, hus⟩ := dpA_cons hus
        obtain rfl := dpA_nil hus
        obtain rfl := dp_int e1
        obtain rfl := dp_int e2
        tm_at "ev"
        refine ⟨rfl, ?_⟩
        tm_at "ev"
        exact hY _ same_rfl
      · intro H2 s2 hd2
        tm_at "ev"
        refine ⟨_, _, _, _, rfl, s2 _ _ upd_same, T.cl_Map, T.n_Map_known, (show 1 < 1000 by decide), ?_⟩
        have hDm : D ≠ m := ne_of_upd hD
        have hD2 : upd H2 m (.ins a.cM dx (fM b D)) D = some (.dK (kM kvs)) := (upd_ne hDm).trans hd2
        tm_at "ev"
        refine ⟨m, a.cM, dx, _, .ref D, rfl, upd_same, T.cl_Map, T.n_Map_known, rfl, ?_⟩
        tm_at "ev"
        refine ⟨D, _, rfl, hD2, ?_⟩
        tm_at "ev"
        refine if_nd (by rw [kM_len]; have := ok.len; omega) ?_
        tm_at "ev"
        have s3 : SameBut m H' (upd H2 m (.ins a.cM dx (fM b D))) := sb_upd (sb_then s1 s2)
        refine q D _ s3 ((upd_ne hDm).symm.trans hD) ⟨⟨dx, wo_at mN upd_same⟩, wo_at (fun hn => ?_) hD2⟩
        obtain ⟨o, ho⟩ := lv D hn
        rw [upd_ne hDm, ho] at hD
        cases hD
/-! ### Map.beat, Map.put -/
def sp_Map_beat (ad : Ad) : Sp := fun vs H Q _ => ∃ (m : Addr) (b : Int) (kvs : Ps), vs = [.ref m] ∧ MapAt ad H m b kvs ∧ Q (.int b) H
theorem sc_Map_beat : FnScope ["self"] ["self"] (defScope s_Map_beat) := ⟨rfl, rfl, rfl, by decide +kernel, rfl, by decide +kernel, by decide +kernel⟩
theorem ok_Map_beat (T : Tx w K mg a) : C8.Met P w K mg base 1 a.cM "beat" (sp_Map_beat a) [] := by
  refine metD T.cl_Map T.d_Map_beat sc_Map_beat (fun _ _ _ _ _ _ us hl => match us, hl with | [_], _ => rfl) (fun vs H Q E h => ?_) (fun f cdv A outer s H vs Q E hr h => ?_)
  · obtain ⟨m, b, kvs, rfl, _⟩ := h
    rfl
  · obtain ⟨m, b, kvs, rfl, ⟨d, ⟨dx, h1⟩, h2⟩, q⟩ := h
    refine ⟨_, (pss_one (ps_ret (k_fld (K := K) rfl (pe_fld (pv 0) rfl)))), ?_⟩
    tm_at "ev"
    refine ⟨m, a.cM, dx, _, .int b, rfl, h1, T.cl_Map, T.n_Map_ticks, rfl, ?_⟩
    exact q
/-- the dict of a map is written -/
def sp_Map_put (ad : Ad) : Sp := fun vs H Q _ => ∃ (m d : Addr) (b t p : Int) (kvs : Ps), vs = [.ref m, .int t, .int p] ∧ MapD ad H m d b kvs ∧ (0 ≤ t ∧ t ≤ 999999) ∧ (1 ≤ p ∧ p ≤ 16777215) ∧ kvs.length < 20 ∧
  Q .non (upd H d (.dK (putK (kM kvs) (.inl t) (.int p))))
theorem sc_Map_put : FnScope ["self", "tick", "pace"] ["self", "tick", "pace"] (defScope s_Map_put) := ⟨rfl, rfl, rfl, by decide +kernel, rfl, by decide +kernel, by decide +kernel⟩
theorem ok_Map_put (T : Tx w K mg a) (c_need_tick : C8.Cal P w K mg base 1 "need_tick" sp_need_tick []) (c_need_pace : C8.Cal P w K mg base 1 "need_pace" sp_need_pace []) :
    C8.Met P w K mg base 2 a.cM "put" (sp_Map_put a) [] := by
  refine metD T.cl_Map T.d_Map_put sc_Map_put (fun _ _ _ _ _ _ us hl => match us, hl with | [_, _, _], _ => rfl) (fun vs H Q E h => ?_) (fun f cdv A outer s H vs Q E hr h => ?_)
  · obtain ⟨m, d, b, t, p, kvs, rfl, _⟩ := h
    rfl
  · obtain ⟨m, d, b, t, p, kvs, rfl, ⟨⟨dx, h1⟩, h2⟩, ht, hp, hz, q⟩ := h
    refine ⟨_, (pss_cons (ps_expr (C8.pe_c c_need_tick hr (by decide) rfl (pa_cons (pv 1) pa_nil)))
      (pss_cons (ps_expr (C8.pe_c c_need_pace hr (by decide) rfl (pa_cons (pv 2) pa_nil)))
      (pss_cons (ps_if (PW.pt (pw_and (pt_cmp (pc_dnotin (hu_of hr) (pv 1) (k_fld (K := K) rfl (pe_fld (pv 0) rfl)))) (pw_and1 (pt_cmpR op_ge (pe_callB call_lenD rfl T.f_len (by decide +kernel) (pa_cons (k_fld (K := K) rfl (pe_fld (pv 0) rfl)) pa_nil)) (C8.pe_gc rfl T.g_MOST_PACES) (nomark _))))) pss_never pss_nil)
      (pss_one (ps_dput (hu_of hr) (k_fld (K := K) rfl (pe_fld (pv 0) rfl)) (pv 1) (pv 2) rfl))))), ?_⟩
    tm_at "ev"
    refine ⟨t, rfl, ht.1, ht.2, ?_⟩
    tm_at "ev"
    refine ⟨p, rfl, hp.1, hp.2, ?_⟩
    tm_at "ev"
    refine ⟨m, a.cM, dx, _, .ref d, rfl, h1, T.cl_Map, T.n_Map_known, rfl, ?_⟩
    refine ⟨d, _, rfl, .inl ⟨_, .inl t, .inl h2, rfl, rfl⟩, ?_⟩
    tm_at "ev"
    refine if_2 (fun hk => ?_) fun hk => ?_
    · tm_at "ev"
      refine ⟨m, a.cM, dx, _, .ref d, rfl, h1, T.cl_Map, T.n_Map_known, rfl, ?_⟩
      tm_at "ev"
      refine ⟨d, _, rfl, h2, ?_⟩
      tm_at "ev"
      refine if_nd (by rw [kM_len]; omega) ?_
      tm_at "ev"
      refine ⟨m, a.cM, dx, _, .ref d, rfl, h1, T.cl_Map, T.n_Map_known, rfl, ?_⟩
      tm_at "ev"
      exact ⟨d, _, rfl, .inl ⟨_, .inl t, h2, rfl, by rw [kM_len]; exact Nat.lt_trans hz (by decide), rfl⟩, q⟩
    · refine iteF ?_
      tm_at "ev"
      refine ⟨m, a.cM, dx, _, .ref d, rfl, h1, T.cl_Map, T.n_Map_known, rfl, ?_⟩
      tm_at "ev"
      exact ⟨d, _, rfl, .inl ⟨_, .inl t, h2, rfl, by rw [kM_len]; exact Nat.lt_trans hz (by decide), rfl⟩, q⟩
/-! ### Map.paces -/
theorem srt_of {ys kvs : Ps} (p : ys.Perm kvs) (s : ys.Pairwise lexLe) (nd : (kvs.map (·.1)).Nodup) : Srt ys := by
  have n2 : (ys.map (·.1)).Nodup := (p.map _).nodup_iff.mpr nd
  unfold List.Nodup at n2
  rw [List.pairwise_map] at n2
  refine (s.and n2).imp fun {x y} ⟨h1, h2⟩ => ?_
  have := SrtO.lexB_no.mp h1
  omega
theorem srt_uniq : ∀ {l m : Ps}, Srt l → Srt m → l.Perm m → l = m
  | [], m, _, _, p => p.nil_eq
  | x :: l, [], _, _, p => absurd p.length_eq (by simp)
  | x :: l, y :: m, hl, hm, p => by
    have hl' := List.pairwise_cons.mp hl
    have hm' := List.pairwise_cons.mp hm
    have e : x = y := by
      rcases List.mem_cons.mp (p.mem_iff.mp List.mem_cons_self) with e | h1
      · exact e
      · rcases List.mem_cons.mp (p.mem_iff.mpr List.mem_cons_self) with e | h2
        · exact e.symm
        · have a1 := hm'.1 x h1
          have a2 := hl'.1 y h2
          omega
    subst e
    rw [srt_uniq hl'.2 hm'.2 p.cons_inv]
theorem dpA_pairs {G : Hp} {ts : List Addr} {ys : Ps} (h : Paired (fun (t : Addr) (q : Int × Int) => G t = some (.tup [.int q.1, .int q.2])) ts ys) : DpAll K G (ts.map V.ref) (ys.map prD) := by
  induction h with
  | nil => exact .nil
  | cons h t ih => exact .cons (.tup (.inl (.inl h)) (.cons (.int _) (.cons (.int _) .nil))) ih
theorem paired_imp {α β : Type} {F G : α → β → Prop} : ∀ {xs : List α} {ys : List β}, Paired F xs ys → (∀ x y, x ∈ xs → F x y → G x y) → Paired G xs ys
  | _, _, .nil, _ => .nil
  | _, _, .cons h t, g => .cons (g _ _ List.mem_cons_self h) (paired_imp t fun x y hx => g x y (List.mem_cons_of_mem _ hx))
theorem q_sortItems {N : List Addr} {H : Hp} {p d : Addr} {kvs : Ps} {Q : VK} (lv : Live N H) (hp : H p = none) (hd : H d = some (.dK (kM kvs))) (nd : (kvs.map (·.1)).Nodup) (hz : kvs.length ≤ 1000)
    (q : ∀ ys r H', Srt ys → ys.Perm kvs → NewL K N H H' r (ys.map prD) → Q (.ref r) H') : rSortItK [.ref p] (upd H p (L2.DX.itemsO p d)) Q := by
  refine ⟨p, d, kvs, rfl, upd_same, by rw [upd_ne (ne_of_none hd hp)]; exact hd, hz, fun ys H' l ts e1 e2 s nl nt nlt e3 e4 => q ys l H' (srt_of e1 e2 nd) e1 ?_⟩
  have s0 : Same H H' := (same_new hp).trans s
  have nl0 : H l = none := (same_new hp).free nl
  refine ⟨s0, nl0, _, e3, dpA_pairs (paired_imp e4 fun t q ht h => wo_at (fun z => ?_) h)⟩
  rcases List.mem_cons.mp z with e | z
  · exact nlt (by rw [← e]; exact ht)
  · exact lv.notin ((same_new hp).free (nt t ht)) z
def sp_Map_paces (ad : Ad) (K : PySem.W.Frag) : Sp := fun vs H Q _ => ∃ (N : List Addr) (m : Addr) (b : Int) (kvs : Ps), vs = [.ref m] ∧ Live N H ∧ MapAt ad (wo N H) m b kvs ∧ (kvs.map (·.1)).Nodup ∧ kvs.length ≤ 1000 ∧
  ∀ ys r H', Srt ys → ys.Perm kvs → NewL K N H H' r (ys.map prD) → Q (.ref r) H'
theorem sc_Map_paces : FnScope ["self"] ["self"] (defScope s_Map_paces) := ⟨rfl, rfl, rfl, by decide +kernel, rfl, by decide +kernel, by decide +kernel⟩
theorem ok_Map_paces (T : Tx w K mg a) : C8.Met P w K mg base 1 a.cM "paces" (sp_Map_paces a K) [] := by
  refine metD T.cl_Map T.d_Map_paces sc_Map_paces (fun _ _ _ _ _ _ us hl => match us, hl with | [_], _ => rfl) (fun vs H Q E h => ?_) (fun f cdv A outer s H vs Q E hr h => ?_)
  · obtain ⟨N, m, b, kvs, rfl, _⟩ := h
    rfl
  · obtain ⟨N, m, b, kvs, rfl, lv, hm, nd, hz, q⟩ := h
    obtain ⟨d, ⟨dx, h1⟩, h2⟩ := hm
    have h1' := (wo_of h1).2
    have h2' := (wo_of h2).2
    refine ⟨_, (pss_one (ps_ret (pe_callB (cr_sortedItemsK rfl) rfl T.f_sorted (by decide +kernel) (pa_cons (k_bm0 (K := K) rfl (pe_bm0 PySem.F.plainAttrs_dict PySem.F.slot_dict_items PySem.F.type_dict_items mt_itemsK (k_fld (K := K) rfl (pe_fld (pv 0) rfl)))) pa_nil)))), ?_⟩
    tm_at "ev"
    refine ⟨m, a.cM, dx, _, .ref d, rfl, h1', T.cl_Map, T.n_Map_known, rfl, ?_⟩
    refine ⟨.inr (.inr (.inl ⟨rfl, .inl ⟨_, h2'⟩⟩)), ?_⟩
    refine ⟨d, _, rfl, rfl, h2', fun p hp => ?_⟩
    tm_at "ev"
    exact q_sortItems lv hp h2' nd hz q
end
end Tp
set_option maxHeartbeats 4000000
namespace Tp
open PySem PySem.Spec PyProof.Rows L2
local macro_rules | `(tactic| tm_at "ev") => `(tactic| repeat first
  | with_reducible refine ev_seq ?_ | with_reducible refine ev_asg ?_ | with_reducible refine ev_drop ?_ | with_reducible refine ev_ret ?_ | with_reducible refine ev_ifS ?_ | with_reducible refine ev_next ?_
  | ((with_reducible refine' ev_var ?k1 ?_); (case k1 => exact rfl)) | with_reducible refine ev_c ?_ | with_reducible refine ev_op ?_ | with_reducible refine ev_I0 ?_ | with_reducible refine ev_test ?_ | with_reducible refine ev_B ?_ | with_reducible refine ev_bl ?_
  | ((with_reducible refine ev_eq ?k1 ?_); (case k1 => exact rfl)) | ((with_reducible refine ev_ne ?k1 ?_); (case k1 => exact rfl))
  | ((with_reducible refine' ev_nameL ?k1 ?_); (case k1 => first | (dsimp only [L2.start, wipe, List.map, List.set, List.length, List.replicate, List.append]; exact rfl) | exact rfl)) | with_reducible refine ev_name ?_ | with_reducible refine ev_nil ?_ | with_reducible refine ev_cons ?_ | with_reducible refine ev_call ?_ | with_reducible refine ev_tup ?_ | with_reducible refine ev_lst ?_ | with_reducible refine ev_CB ?_ | with_reducible refine ev_fld ?_
  | with_reducible refine ev_not ?_ | with_reducible refine ev_and ?_ | with_reducible refine ev_or ?_ | with_reducible refine ev_andV ?_ | with_reducible refine ev_orV ?_ | with_reducible refine ev_ifE ?_ | with_reducible refine ev_chain ?_ | with_reducible refine ev_meth ?_ | with_reducible refine ev_un ?_
  | with_reducible refine ev_sl ?_ | with_reducible refine ev_part ?_ | with_reducible refine ev_nopart ?_ | with_reducible refine ev_int ?_ | with_reducible refine ev_for ?_ | with_reducible refine ev_list ?_ | with_reducible refine ev_lc ?_ | with_reducible refine ev_gcons ?_ | with_reducible refine ev_gnil ?_ | with_reducible refine ev_sfld ?_ | with_reducible refine ev_make ?_ | with_reducible refine ev_notV ?_ | with_reducible refine ev_yes ?_ | with_reducible refine ev_dget ?_ | with_reducible refine ev_dput ?_ | with_reducible refine ev_bm ?_ | with_reducible refine ev_bm0 ?_ | with_reducible refine ev_items ?_ | with_reducible refine ev_keys ?_ | with_reducible refine ev_enum ?_ | with_reducible refine ev_tupI ?_ | with_reducible refine ev_par ?_ | with_reducible refine ev_two ?_ | with_reducible refine ev_kget ?_ | with_reducible refine ev_gsub ?_ | with_reducible refine ev_tapeK ?_ | with_reducible refine ev_str ?_ | with_reducible refine ev_txt ?_ | with_reducible refine ev_lc2 ?_ | with_reducible refine ev_dget2 ?_ | with_reducible refine ev_rU ?_ | with_reducible refine ev_ckw ?_ | with_reducible refine ev_dnotin ?_ | with_reducible refine ev_din ?_ | with_reducible refine ev_gfld ?_ | with_reducible refine ev_saug ?_ | with_reducible refine ev_finN ?_)
section
variable {P : Program} {w : World} {K : PySem.W.Frag} {mg : Str → Option Value} {base : Heap} {a : Ad}
/-! ### Map.pace_at -/
def paceAt (l : Ps) (t : Int) : Int := match (l.filter fun q => decide (q.1 ≤ t)).getLast? with
  | some q => q.2
  | none => 500000
def sp_Map_pace_at (ad : Ad) (K : PySem.W.Frag) : Sp := fun vs H Q _ => ∃ (N : List Addr) (m : Addr) (b t : Int) (kvs : Ps), vs = [.ref m, .int t] ∧ Live N H ∧ MapAt ad (wo N H) m b kvs ∧ Srt kvs ∧ kvs.length ≤ 1000 ∧ (0 ≤ t ∧ t ≤ 999999) ∧
  ∀ H', Same H H' → Q (.int (paceAt kvs t)) H'
theorem sc_Map_pace_at : FnScope ["self", "tick", "at", "pace"] ["self", "tick"] (defScope s_Map_pace_at) := ⟨rfl, rfl, rfl, by decide +kernel, rfl, by decide +kernel, by decide +kernel⟩
theorem ok_Map_pace_at (T : Tx w K mg a) (c_need_tick : C8.Cal P w K mg base 1 "need_tick" sp_need_tick []) : C8.Met P w K mg base 2 a.cM "pace_at" (sp_Map_pace_at a K) [] := by
  refine metD T.cl_Map T.d_Map_pace_at sc_Map_pace_at (fun _ _ _ _ _ _ us hl => match us, hl with | [_, _], _ => rfl) (fun vs H Q E h => ?_) (fun f cdv A outer s H vs Q E hr h => ?_)
  · obtain ⟨N, m, b, t, kvs, rfl, _⟩ := h
    rfl
  · obtain ⟨N, m, b, t, kvs, rfl, lv, ⟨d, ⟨dx, h1⟩, h2⟩, srt, hz, ht, q⟩ := h
    have h1' := (wo_of h1).2
    have h2' := (wo_of h2).2
    have hmd : m ≠ d := fun e => by
      rw [e, h2'] at h1'
      cases h1'
    refine ⟨_, (pss_cons (ps_expr (C8.pe_c c_need_tick hr (by decide) rfl (pa_cons (pv 1) pa_nil)))
      (pss_one (ps_ret (pe_ix (kix_tup (K := K) rfl) (pe_callBK (kcr_maxD (K := K) rfl rfl hr.units) rfl T.f_max (by decide +kernel) (pa_cons (pe_lock (pe_lc (own := [("at", 2), ("pace", 3)]) rfl sc_Map_pace_at.nd (pi_items (k_fld (K := K) rfl (pe_fld (pv 0) rfl))) (blkOk_by (own := [("at", 2), ("pace", 3)]) (N := ["self", "tick", "at", "pace"]) (sc := defScope s_Map_pace_at) (by decide +kernel)) (fun _ _ _ _ _ => kg_tup (K := K) rfl (pg_tup (n := 2) rfl (pgs_cons (pg_name (i := 2) sc_Map_pace_at.nd rfl (Or.inl rfl)) (pgs_cons (pg_name (i := 3) sc_Map_pace_at.nd rfl (Or.inl rfl)) pgs_nil)))) (fun _ _ _ _ _ => pts_one (pt_cmpR op_le (pv 2) (pv 1) (nomark _))) (fun _ _ _ _ _ => pe_tup (pa_cons (pv 2) (pa_cons (pv 3) pa_nil))))) pa_nil) (pk_cons (pe_tup (pa_cons pe_int (pa_cons (C8.pe_gc rfl T.g_USUAL) pa_nil))) pk_nil)) pe_int (fun _ _ => rfl))))), ?_⟩
    tm_at "ev"
    refine ⟨t, rfl, ht.1, ht.2, ?_⟩
    tm_at "ev"
    refine ev_lock ⟨d, _, h2', trivial, fun od => ?_⟩
    tm_at "ev"
    refine ⟨m, a.cM, dx, _, .ref d, rfl, (upd_ne hmd).trans h1', T.cl_Map, T.n_Map_known, rfl, ?_⟩
    refine ⟨d, od, _, rfl, upd_same, fun D hD => lc_items (K := K) (d :: N) (fun q => decide (q.1 ≤ t)) prD upd_same hD (Nat.le_trans hz (by decide)) (live_frz lv) ?_ ?_⟩
    · intro e he T1 H2 s2 lv2 hT1 hT R Y hR hY
      tm_at "ev"
      refine ⟨_, _, rfl, .inl (.inl hT), rfl, ?_⟩
      tm_at "ev"
      refine ⟨rfl, ?_⟩
      tm_at "ev"
      refine if_2 (fun hb => ?_) fun hb => hR hb _ same_rfl
      tm_at "ev"
      refine ⟨sz2, fun p n => ?_⟩
      have t2 := dw_tup (K := K) lv2 (xs := [.int e.1, .int e.2]) (.cons (.int _) (.cons (.int _) .nil)) n
      exact hY hb _ _ t2.1 t2.2
    · intro H2 n
      have hfz := n.same _ _ upd_same
      have n2 := n.unlock h2'
      refine ⟨hfz, ?_⟩
      tm_at "ev"
      refine ⟨sz2, fun p hp => ?_⟩
      have lv3 : Live N (upd H2 d (.dK (kM kvs))) := lv.same n2.same
      have s3 := same_new (o := .tup [V.int 0, V.int 500000]) hp
      obtain ⟨xs, hx1, hx2⟩ := n2.at_
      tm_at "ev"
      refine ⟨D, xs, kvs.filter fun q => decide (q.1 ≤ t), .ref p, rfl, rfl, .inl (.inl (s3 _ _ hx1)), dpA_mono (wo_sub.trans s3) hx2, srt.sublist List.filter_sublist, fun e => ?_, fun i v q' hv hq hd => ?_⟩
      · tm_at "ev"
        refine ⟨p, _, 1, .int 500000, rfl, rfl, .inl (.inl upd_same), rfl, ?_⟩
        have e2 : paceAt kvs t = 500000 := by
          unfold paceAt
          rw [e]
          rfl
        have qq := q _ (n2.same.trans s3)
        rw [e2] at qq
        exact qq
      · tm_at "ev"
        obtain ⟨pp, us, e1, hu, hu2⟩ := dp_tup hd
        subst e1
        obtain ⟨v2, e3, e4⟩ := dp_at hu2 (i := 1) (d := .int q'.2) rfl
        obtain rfl := dp_int e4
        refine ⟨pp, us, 1, _, rfl, rfl, hu, e3, ?_⟩
        have e2 : paceAt kvs t = q'.2 := by
          unfold paceAt
          rw [hq]
        have qq := q _ (n2.same.trans s3)
        rw [e2] at qq
        exact qq
/-! ### Map.stretches -/
abbrev Tri : Type := Int × Int × Int
def nxT (q : Tri) (e : Int × Int) : Tri := (e.1, q.2.1 + (e.1 - q.1) * q.2.2, e.2)
def sts (l : Ps) : List Tri := l.foldl (fun acc e => acc ++ [nxT (acc.getLastD (0, 0, 500000)) e]) [(0, 0, 500000)]
theorem sts_up {l : Ps} {i : Nat} {e : Int × Int} (h : l[i]? = some e) : sts (l.take (i + 1)) = sts (l.take i) ++ [nxT ((sts (l.take i)).getLastD (0, 0, 500000)) e] := by
  unfold sts
  rw [take_up h, List.foldl_append]
  rfl
theorem sts_snoc (l : Ps) (e : Int × Int) : sts (l ++ [e]) = sts l ++ [nxT ((sts l).getLastD (0, 0, 500000)) e] := by
  unfold sts
  rw [List.foldl_append]
  rfl
theorem ps_rev {P : Ps → Prop} (h0 : P []) (h1 : ∀ l e, P l → P (l ++ [e])) (l : Ps) : P l := by
  have : ∀ (n : Nat) (l : Ps), l.length = n → P l := by
    intro n
    induction n with
    | zero =>
      intro l hl
      rw [List.length_eq_zero_iff.mp hl]
      exact h0
    | succ n ih =>
      intro l hl
      have hne : l ≠ [] := fun e => by rw [e] at hl; cases hl
      rw [← List.dropLast_concat_getLast hne]
      exact h1 _ _ (ih _ (by rw [List.length_dropLast, hl]; rfl))
  exact this _ l rfl
theorem sts_len (l : Ps) : (sts l).length = l.length + 1 := by
  refine ps_rev (P := fun l => (sts l).length = l.length + 1) rfl (fun l e ih => ?_) l
  rw [sts_snoc, List.length_append, List.length_append, ih]
  rfl
theorem sts_pace {l : Ps} (ok : ∀ q ∈ l, 1 ≤ q.2 ∧ q.2 ≤ 16777215) : ∀ t ∈ sts l, 1 ≤ t.2.2 ∧ t.2.2 ≤ 16777215 := by
  refine ps_rev (P := fun l => (∀ q ∈ l, 1 ≤ q.2 ∧ q.2 ≤ 16777215) → ∀ t ∈ sts l, 1 ≤ t.2.2 ∧ t.2.2 ≤ 16777215) (fun _ t ht => ?_) (fun l e ih ok t ht => ?_) l ok
  · rw [show sts [] = [(0, 0, 500000)] from rfl, List.mem_singleton] at ht
    subst ht
    decide
  · rw [sts_snoc] at ht
    rcases List.mem_append.mp ht with h | h
    · exact ih (fun q hq => ok q (List.mem_append_left _ hq)) t h
    · rw [List.mem_singleton] at h
      subst h
      exact ok e (List.mem_append_right _ List.mem_cons_self)
theorem last_mem {α : Type} {l : List α} (h : l ≠ []) (d : α) : l.getLastD d ∈ l := by
  cases l with
  | nil => exact absurd rfl h
  | cons a l =>
    rw [List.getLastD_cons]
    cases l with
    | nil => exact List.mem_cons_self
    | cons b l =>
      rw [List.getLastD_cons]
      have : ∀ (l : List α) (b : α), l.getLastD b ∈ b :: l := by
        intro l
        induction l with
        | nil => intro b; exact List.mem_cons_self
        | cons c l ih =>
          intro b
          rw [List.getLastD_cons]
          exact List.mem_cons_of_mem _ (ih c)
      exact List.mem_cons_of_mem _ (this l b)
theorem getLast_D {α : Type} {l : List α} (h : l ≠ []) (d : α) : l.getLast? = some (l.getLastD d) := by
  cases l with
  | nil => exact absurd rfl h
  | cons a l => simp [List.getLastD_eq_getLast?, List.getLast?_cons]
def sp_Map_stretches (ad : Ad) (K : PySem.W.Frag) : Sp := fun vs H Q _ => ∃ (N : List Addr) (m : Addr) (b : Int) (kvs : Ps), vs = [.ref m] ∧ Live N H ∧ MapAt ad (wo N H) m b kvs ∧ PsOk kvs ∧ ∀ r H', NewL K N H H' r ((sts kvs).map triD) → Q (.ref r) H'
theorem sc_Map_stretches : FnScope ["self", "found", "tick", "pace", "at", "ahead", "old"] ["self"] (defScope s_Map_stretches) := ⟨rfl, rfl, rfl, by decide +kernel, rfl, by decide +kernel, by decide +kernel⟩
theorem ok_Map_stretches (T : Tx w K mg a) (m_Map_paces : C8.Met P w K mg base 1 a.cM "paces" (sp_Map_paces a K) []) : C8.Met P w K mg base 3 a.cM "stretches" (sp_Map_stretches a K) [] := by
  refine metD T.cl_Map T.d_Map_stretches sc_Map_stretches (fun _ _ _ _ _ _ us hl => match us, hl with | [_], _ => rfl) (fun vs H Q E h => ?_) (fun f cdv A outer s H vs Q E hr h => ?_)
  · obtain ⟨N, m, b, kvs, rfl, _⟩ := h
    rfl
  · obtain ⟨N, m, b, kvs, rfl, lv, ⟨d, ⟨dx, h1⟩, h2⟩, ok, q⟩ := h
    refine ⟨_, (pss_cons (ps_set (i := 1) sc_Map_stretches.nd rfl (Or.inl rfl) (pe_lst (pa_cons (pe_tup (pa_cons pe_int (pa_cons pe_int (pa_cons (C8.pe_gc rfl T.g_USUAL) pa_nil)))) pa_nil)))
      (pss_cons (ps_for PassesOwn.never rfl (k_list (K := K) rfl (pi_list (C8.pe_mt0 m_Map_paces hr (by decide) (pv 0)))) (kg_tup (K := K) rfl (pg_tup (n := 2) rfl (pgs_cons (pg_name (i := 2) sc_Map_stretches.nd rfl (Or.inl rfl)) (pgs_cons (pg_name (i := 3) sc_Map_stretches.nd rfl (Or.inl rfl)) pgs_nil))))
        (pss_cons (ps_asg (pe_ix (kix_list (K := K) rfl) (pv 1) (pe_un un_neg pe_int) (fun _ _ => rfl)) (kg_tup (K := K) rfl (pg_tup (n := 3) rfl (pgs_cons (pg_name (i := 4) sc_Map_stretches.nd rfl (Or.inl rfl)) (pgs_cons (pg_name (i := 5) sc_Map_stretches.nd rfl (Or.inl rfl)) (pgs_cons (pg_name (i := 6) sc_Map_stretches.nd rfl (Or.inl rfl)) pgs_nil))))))
        (pss_one (ps_expr (k_bm (K := K) rfl (pe_bm PySem.F.plainAttrs_list PySem.F.slot_list_append PySem.F.type_list_append mt_append (pv 1) (pa_cons (pe_tup (pa_cons (pv 2) (pa_cons (pe_op op_add (pv 5) (pe_op op_mul (pe_op op_sub (pv 2) (pv 4)) (pv 6))) (pa_cons (pv 3) pa_nil)))) pa_nil)))))))
      (pss_one (ps_ret (pv 1))))), ?_⟩
    tm_at "ev"
    refine ⟨sz3, fun p hp => ?_⟩
    have t1 := dw_tup (K := K) lv (xs := [.int 0, .int 0, .int 500000]) (ds := [.int 0, .int 0, .int 500000]) (.cons (.int _) (.cons (.int _) (.cons (.int _) .nil))) hp
    tm_at "ev"
    refine ⟨sz1, fun F hF => ?_⟩
    have nF := newL_lst (K := K) (N := N) (xs := [.ref p]) (dpA_one t1.2) hF
    have nF2 := nF.back t1.1
    have lv2 : Live N (upd (upd H p (.tup [.int 0, .int 0, .int 500000])) F (.lst [.ref p])) := lv.same nF2.same
    tm_at "ev"
    refine ⟨m, dx, _, rfl, nF2.same _ _ (wo_of h1).2, rfl, ?_⟩
    tm_at "ev"
    have lvF : Live (F :: N) (upd (upd H p (.tup [.int 0, .int 0, .int 500000])) F (.lst [.ref p])) := lv2.cons upd_same
    have sF : Same (wo N H) (wo (F :: N) (upd (upd H p (.tup [.int 0, .int 0, .int 500000])) F (.lst [.ref p]))) := (wo_same t1.1).trans (wo_newM hF)
    refine ⟨F :: N, m, b, kvs, rfl, lvF, ⟨d, ⟨dx, sF _ _ h1⟩, sF _ _ h2⟩, ok.nd, Nat.le_trans ok.len (by decide), fun ys r H2 e1 e2 n2 => ?_⟩
    obtain rfl := srt_uniq e1 ok.up e2
    obtain ⟨vs0, hv0, hd0⟩ := nF.at_
    have hF2 := n2.same _ _ hv0
    have lvF2 := lvF.same n2.same
    obtain ⟨xs, hx1, hx2⟩ := n2.at_
    have hrN : r ∉ F :: N := lvF.notin n2.new
    refine ⟨_, rfl, ⟨_, .inl (.inl hx1)⟩, for_data (N := F :: N) (xs := xs) (ds := ys.map prD) (.inl (.inl (wo_at hrN hx1))) (dpA_mono wo_drop hx2) (fun i σ' H' => (∃ z1 z2 z3 z4 z5, σ' = [some (.ref m), some (.ref F), z1, z2, z3, z4, z5]) ∧ SameBut F H2 H' ∧ ∃ us, H' F = some (.lst us) ∧ DwA K (F :: N) H' us ((sts (ys.take i)).map triD))
      ⟨⟨_, _, _, _, _, rfl⟩, sb_same same_rfl, vs0, hF2, dpA_mono (wo_same n2.same) hd0⟩ (fun _ _ _ h => sb_wo h.2.1) ?_ ?_⟩
    · rintro k dd x σ' H' hk ⟨⟨z1, z2, z3, z4, z5, rfl⟩, s', us, hus, dus⟩ hd
      have lv' : Live (F :: N) H' := lv_but lvF2 s' hus
      obtain ⟨e, he, hme, rfl⟩ := mem_d hk
      have oke := ok.ok e hme
      tm_at "ev"
      refine q_unT hd rfl fun us2 hus2 => ?_
      obtain ⟨v1, r1, rfl, e1, hus2⟩ := dpA_cons hus2
      obtain ⟨v2, r2, rfl, e2, hus2⟩ := dpA_cons hus2
      obtain rfl := dpA_nil hus2
      obtain rfl := dp_int e1
      obtain rfl := dp_int e2
      tm_at "ev"
      have ne : sts (ys.take k) ≠ [] := fun e => by
        have := sts_len (ys.take k)
        rw [e] at this
        cases this
      have hl := getLast_D ne (0, 0, 500000)
      have okl := sts_pace (fun q hq => (ok.ok q (List.mem_of_mem_take hq)).2) _ (last_mem ne (0, 0, 500000))
      have hup := sts_up he
      generalize hlast : (sts (ys.take k)).getLastD (0, 0, 500000) = lt at hl okl hup
      obtain ⟨l1, l2, l3⟩ := lt
      refine q_ixM hus dus (atI_last (by rw [List.getLast?_map, hl]; rfl)) fun v hv => ?_
      tm_at "ev"
      refine q_unT hv rfl fun us3 hus3 => ?_
      obtain ⟨v1, r1, rfl, e1, hus3⟩ := dpA_cons hus3
      obtain ⟨v2, r2, rfl, e2, hus3⟩ := dpA_cons hus3
      obtain ⟨v3, r3, rfl, e3, hus3⟩ := dpA_cons hus3
      obtain rfl := dpA_nil hus3
      obtain rfl := dp_int e1
      obtain rfl := dp_int e2
      obtain rfl := dp_int e3
      tm_at "ev"
      refine ⟨tyL hus, ?_⟩
      tm_at "ev"
      refine ⟨_, _, rfl, rfl, .inr (by have h1 : 1 ≤ l3 ∧ l3 ≤ 16777215 := okl; constructor <;> omega), ?_⟩
      tm_at "ev"
      refine ⟨sz3, fun p2 np2 => ?_⟩
      have tt := dw_tup (K := K) lv' (xs := [.int e.1, .int (l2 + (e.1 - l1) * l3), .int e.2]) (ds := [.int e.1, .int (l2 + (e.1 - l1) * l3), .int e.2]) (.cons (.int _) (.cons (.int _) (.cons (.int _) .nil))) np2
      tm_at "ev"
      refine q_app (N := F :: N) List.mem_cons_self (tt.1 _ _ hus) (DwA.same dus tt.1) tt.2 (by rw [dpA_len dus, List.length_map, sts_len, List.length_take]; have := ok.len; omega) fun H3 sb sw hF3 d3 => ?_
      refine ⟨⟨_, _, _, _, _, rfl⟩, fun b o hb h => sb b o hb (tt.1 b o (s' b o hb h)), _, hF3, ?_⟩
      rw [hup, List.map_append]
      exact d3
    · rintro σ' H' ⟨⟨z1, z2, z3, z4, z5, rfl⟩, s', us, hus, dus⟩
      tm_at "ev"
      rw [List.length_map, List.take_of_length_le (Nat.le_refl _)] at dus
      exact q _ _ ⟨(sb_after (nF2.same.trans n2.same) s').none nF2.new, nF2.new, us, hus, dus⟩
end
end Tp
set_option maxHeartbeats 2000000
namespace Tp
open PySem PySem.Spec PyProof.Rows L2
/-- data that == is told of -/
structure Sh (n : Nat) (d : PyData) : Prop where
  can : d.canLay0 = true
  dep : d.depth ≤ n
theorem canAll {ds : List PyData} (h : ∀ d ∈ ds, d.canLay0 = true) : PyData.canLayAll0 ds = true := by
  induction ds with
  | nil => rfl
  | cons d ds ih =>
    rw [PyData.canLayAll0, h d List.mem_cons_self, ih fun e he => h e (List.mem_cons_of_mem _ he)]
    rfl
theorem depAll {n : Nat} {ds : List PyData} (h : ∀ d ∈ ds, d.depth ≤ n) : PyData.depthAll ds ≤ n := by
  induction ds with
  | nil =>
    rw [PyData.depthAll]
    exact Nat.zero_le _
  | cons d ds ih =>
    rw [PyData.depthAll]
    exact Nat.max_le.mpr ⟨h d List.mem_cons_self, ih fun e he => h e (List.mem_cons_of_mem _ he)⟩
theorem Sh.lst {n : Nat} {ds : List PyData} (h : ∀ d ∈ ds, Sh n d) : Sh (n + 1) (.list ds) := by
  refine ⟨?_, ?_⟩
  · rw [PyData.canLay0]
    exact canAll fun d hd => (h d hd).can
  · rw [PyData.depth]
    have := depAll fun d hd => (h d hd).dep
    omega
theorem Sh.tup {n : Nat} {ds : List PyData} (h : ∀ d ∈ ds, Sh n d) : Sh (n + 1) (.tuple ds) := by
  refine ⟨?_, ?_⟩
  · rw [PyData.canLay0]
    exact canAll fun d hd => (h d hd).can
  · rw [PyData.depth]
    have := depAll fun d hd => (h d hd).dep
    omega
theorem Sh.int {n : Nat} (i : Int) : Sh (n + 1) (.int i) := ⟨rfl, by rw [PyData.depth]; omega⟩
theorem Sh.str {n : Nat} {z : Str} (h : (PyData.str z).canLay0 = true) : Sh (n + 1) (.str z) := ⟨h, by rw [PyData.depth]; omega⟩
theorem Sh.shaped {n : Nat} {d : PyData} (h : Sh n d) (hn : n ≤ 64 := by decide) : PySem.SeqAt.shaped d = true := by
  unfold PySem.SeqAt.shaped
  rw [h.can, decide_eq_true (Nat.le_trans h.dep hn)]
  rfl
theorem sh_pr (q : Int × Int) : Sh 2 (prD q) := .tup fun d hd => by
  rcases List.mem_cons.mp hd with rfl | hd
  · exact .int _
  · rw [List.mem_singleton] at hd
    subst hd
    exact .int _
theorem sh_tri (q : Int × Int × Int) : Sh 2 (triD q) := .tup fun d hd => by
  simp only [List.mem_cons, List.not_mem_nil, or_false] at hd
  rcases hd with rfl | rfl | rfl <;> exact .int _
theorem sh_map {α : Type} {n : Nat} {f : α → PyData} {l : List α} (h : ∀ a ∈ l, Sh n (f a)) : Sh (n + 1) (.list (l.map f)) := .lst fun d hd => by
  obtain ⟨a, ha, rfl⟩ := List.mem_map.mp hd
  exact h a ha
section
variable {K : PySem.W.Frag} {N : List Addr} {H : Hp} {x y : V} {d : PyData} {Q : VK} {n : Nat}
theorem q_eqD (hx : Dp K H x d) (hy : Dp K H y d) (h : Sh n d) (q : Q (.bl true) H) (hn : n ≤ 64 := by decide) : rEqD K x y H Q := by
  refine ⟨d, d, hx, hy, h.shaped hn, h.shaped hn, ?_⟩
  rw [PySem.SeqAt.eqv_refl d h.can]
  exact q
theorem q_neD (hx : Dp K H x d) (hy : Dp K H y d) (h : Sh n d) (q : Q (.bl false) H) (hn : n ≤ 64 := by decide) : rNeD K x y H Q := by
  refine ⟨d, d, hx, hy, h.shaped hn, h.shaped hn, ?_⟩
  rw [PySem.SeqAt.eqv_refl d h.can]
  exact q
end
end Tp
set_option maxHeartbeats 4000000
namespace Tp
open PySem PySem.Spec PyProof.Rows L2
local macro_rules | `(tactic| tm_at "ev") => `(tactic| repeat first
  | with_reducible refine ev_seq ?_ | with_reducible refine ev_asg ?_ | with_reducible refine ev_drop ?_ | with_reducible refine ev_ret ?_ | with_reducible refine ev_ifS ?_ | with_reducible refine ev_next ?_
  | ((with_reducible refine' ev_var ?k1 ?_); (case k1 => exact rfl)) | with_reducible refine ev_c ?_ | with_reducible refine ev_op ?_ | with_reducible refine ev_I0 ?_ | with_reducible refine ev_test ?_ | with_reducible refine ev_B ?_ | with_reducible refine ev_bl ?_
  | ((with_reducible refine ev_eq ?k1 ?_); (case k1 => exact rfl)) | ((with_reducible refine ev_ne ?k1 ?_); (case k1 => exact rfl))
  | ((with_reducible refine' ev_nameL ?k1 ?_); (case k1 => first | (dsimp only [L2.start, wipe, List.map, List.set, List.length, List.replicate, List.append]; exact rfl) | exact rfl)) | with_reducible refine ev_name ?_ | with_reducible refine ev_nil ?_ | with_reducible refine ev_cons ?_ | with_reducible refine ev_call ?_ | with_reducible refine ev_tup ?_ | with_reducible refine ev_lst ?_ | with_reducible refine ev_CB ?_ | with_reducible refine ev_fld ?_
  | with_reducible refine ev_not ?_ | with_reducible refine ev_and ?_ | with_reducible refine ev_or ?_ | with_reducible refine ev_andV ?_ | with_reducible refine ev_orV ?_ | with_reducible refine ev_ifE ?_ | with_reducible refine ev_chain ?_ | with_reducible refine ev_meth ?_ | with_reducible refine ev_un ?_
  | with_reducible refine ev_sl ?_ | with_reducible refine ev_part ?_ | with_reducible refine ev_nopart ?_ | with_reducible refine ev_int ?_ | with_reducible refine ev_for ?_ | with_reducible refine ev_list ?_ | with_reducible refine ev_lc ?_ | with_reducible refine ev_gcons ?_ | with_reducible refine ev_gnil ?_ | with_reducible refine ev_sfld ?_ | with_reducible refine ev_make ?_ | with_reducible refine ev_notV ?_ | with_reducible refine ev_yes ?_ | with_reducible refine ev_dget ?_ | with_reducible refine ev_dput ?_ | with_reducible refine ev_bm ?_ | with_reducible refine ev_bm0 ?_ | with_reducible refine ev_items ?_ | with_reducible refine ev_keys ?_ | with_reducible refine ev_enum ?_ | with_reducible refine ev_tupI ?_ | with_reducible refine ev_par ?_ | with_reducible refine ev_two ?_ | with_reducible refine ev_kget ?_ | with_reducible refine ev_gsub ?_ | with_reducible refine ev_tapeK ?_ | with_reducible refine ev_str ?_ | with_reducible refine ev_txt ?_ | with_reducible refine ev_lc2 ?_ | with_reducible refine ev_dget2 ?_ | with_reducible refine ev_rU ?_ | with_reducible refine ev_ckw ?_ | with_reducible refine ev_dnotin ?_ | with_reducible refine ev_din ?_ | with_reducible refine ev_gfld ?_ | with_reducible refine ev_saug ?_ | with_reducible refine ev_finN ?_)
section
variable {P : Program} {w : World} {K : PySem.W.Frag} {mg : Str → Option Value} {base : Heap} {a : Ad}
/-! ### Map.moment -/
def lastT (l : Ps) (t : Int) : Tri := ((sts l).filter fun q => decide (q.1 ≤ t)).getLastD (0, 0, 500000)
def mom (l : Ps) (t : Int) : Int := (lastT l t).2.1 + (t - (lastT l t).1) * (lastT l t).2.2
theorem sts_ne (l : Ps) : sts l ≠ [] := fun e => by
  have := sts_len l
  rw [e] at this
  cases this
theorem sts_last (l : Ps) : ((sts l).getLastD (0, 0, 500000)).1 = match l.getLast? with
    | some q => q.1
    | none => 0 := by
  refine ps_rev (P := fun l => ((sts l).getLastD (0, 0, 500000)).1 = match l.getLast? with | some q => q.1 | none => 0) rfl (fun l e _ => ?_) l
  rw [sts_snoc, List.getLast?_concat, List.getLastD_concat]
  rfl
theorem sts_nn {l : Ps} (s : Srt l) (k : ∀ q ∈ l, 0 ≤ q.1) (p : ∀ q ∈ l, 1 ≤ q.2 ∧ q.2 ≤ 16777215) : ∀ t ∈ sts l, 0 ≤ t.2.1 := by
  refine ps_rev (P := fun l => Srt l → (∀ q ∈ l, 0 ≤ q.1) → (∀ q ∈ l, 1 ≤ q.2 ∧ q.2 ≤ 16777215) → ∀ t ∈ sts l, 0 ≤ t.2.1) (fun _ _ _ t ht => ?_) (fun l e ih s k p t ht => ?_) l s k p
  · rw [show sts [] = [(0, 0, 500000)] from rfl, List.mem_singleton] at ht
    subst ht
    decide
  · have s' := List.pairwise_append.mp s
    have ih := ih s'.1 (fun q hq => k q (List.mem_append_left _ hq)) (fun q hq => p q (List.mem_append_left _ hq))
    rw [sts_snoc] at ht
    rcases List.mem_append.mp ht with h | h
    · exact ih t h
    · rw [List.mem_singleton] at h
      subst h
      have hm := last_mem (sts_ne l) (0, 0, 500000)
      have h1 := ih _ hm
      have h2 := (sts_pace (fun q hq => p q (List.mem_append_left _ hq)) _ hm).1
      have h3 : ((sts l).getLastD (0, 0, 500000)).1 ≤ e.1 := by
        rw [sts_last]
        cases hl : l.getLast? with
        | none => exact k e (by simp)
        | some q => exact Int.le_of_lt (s'.2.2 q (List.mem_of_getLast? hl) e (by simp))
      show 0 ≤ ((sts l).getLastD (0, 0, 500000)).2.1 + (e.1 - ((sts l).getLastD (0, 0, 500000)).1) * ((sts l).getLastD (0, 0, 500000)).2.2
      have := Int.mul_nonneg (a := e.1 - ((sts l).getLastD (0, 0, 500000)).1) (b := ((sts l).getLastD (0, 0, 500000)).2.2) (by omega) (by omega)
      omega
theorem sts_head (l : Ps) : ∃ r, sts l = (0, 0, 500000) :: r := by
  refine ps_rev (P := fun l => ∃ r, sts l = (0, 0, 500000) :: r) ⟨[], rfl⟩ (fun l e ⟨r, h⟩ => ?_) l
  rw [sts_snoc, h]
  exact ⟨_, rfl⟩
theorem fil_ne {l : Ps} {t : Int} (h : 0 ≤ t) : ((sts l).filter fun q => decide (q.1 ≤ t)) ≠ [] := by
  obtain ⟨r, e⟩ := sts_head l
  rw [e, List.filter_cons_of_pos]
  · exact List.cons_ne_nil _ _
  · exact decide_eq_true h
theorem lastT_mem {l : Ps} {t : Int} (h : 0 ≤ t) : lastT l t ∈ sts l ∧ (lastT l t).1 ≤ t := by
  have := List.mem_filter.mp (last_mem (fil_ne (l := l) h) (0, 0, 500000))
  exact ⟨this.1, of_decide_eq_true this.2⟩
theorem mom_nn {l : Ps} (ok : PsOk l) {t : Int} (h : 0 ≤ t) : 0 ≤ mom l t := by
  obtain ⟨h1, h2⟩ := lastT_mem (l := l) h
  have a1 := sts_nn ok.up (fun q hq => (ok.ok q hq).1.1) (fun q hq => (ok.ok q hq).2) _ h1
  have a2 := (sts_pace (fun q hq => (ok.ok q hq).2) _ h1).1
  have := Int.mul_nonneg (a := t - (lastT l t).1) (b := (lastT l t).2.2) (by omega) (by omega)
  unfold mom
  omega
def sp_Map_moment (ad : Ad) (K : PySem.W.Frag) : Sp := fun vs H Q _ => ∃ (N : List Addr) (m : Addr) (b t : Int) (kvs : Ps), vs = [.ref m, .int t] ∧ Live N H ∧ MapAt ad (wo N H) m b kvs ∧ PsOk kvs ∧ BeatOk b ∧ (0 ≤ t ∧ t ≤ 999999) ∧
  ∀ v H', Same H H' → Dw K N H' v (shD (mom kvs t).toNat b.toNat) → Q v H'
theorem sc_Map_moment : FnScope ["self", "tick", "at", "ahead", "pace", "one"] ["self", "tick"] (defScope s_Map_moment) := ⟨rfl, rfl, rfl, by decide +kernel, rfl, by decide +kernel, by decide +kernel⟩
theorem ok_Map_moment (T : Tx w K mg a) (c_need_tick : C8.Cal P w K mg base 1 "need_tick" sp_need_tick []) (c_share : C8.Cal P w K mg base 2 "share" (sp_share K) [])
    (m_Map_stretches : C8.Met P w K mg base 3 a.cM "stretches" (sp_Map_stretches a K) []) : C8.Met P w K mg base 4 a.cM "moment" (sp_Map_moment a K) [] := by
  refine metD T.cl_Map T.d_Map_moment sc_Map_moment (fun _ _ _ _ _ _ us hl => match us, hl with | [_, _], _ => rfl) (fun vs H Q E h => ?_) (fun f cdv A outer s H vs Q E hr h => ?_)
  · obtain ⟨N, m, b, t, kvs, rfl, _⟩ := h
    rfl
  · obtain ⟨N, m, b, t, kvs, rfl, lv, ⟨d, ⟨dx, h1⟩, h2⟩, ok, hb, ht, q⟩ := h
    refine ⟨_, (pss_cons (ps_expr (C8.pe_c c_need_tick hr (by decide) rfl (pa_cons (pv 1) pa_nil)))
      (pss_cons (ps_asg (pe_ix (kix_list (K := K) rfl) (pe_lc (own := [("one", 5)]) rfl sc_Map_moment.nd (k_list (K := K) rfl (pi_list (C8.pe_mt0 m_Map_stretches hr (by decide) (pv 0)))) (blkOk_by (own := [("one", 5)]) (N := ["self", "tick", "at", "ahead", "pace", "one"]) (sc := defScope s_Map_moment) (by decide +kernel)) (fun _ _ _ _ _ => pg_name (i := 5) sc_Map_moment.nd rfl (Or.inl rfl)) (fun _ _ _ _ _ => pts_one (pt_cmpR op_le (pe_ix (kix_tup (K := K) rfl) (pv 5) pe_int (fun _ _ => rfl)) (pv 1) (nomark _))) (fun _ _ _ _ _ => pv 5)) (pe_un un_neg pe_int) (fun _ _ => rfl)) (kg_tup (K := K) rfl (pg_tup (n := 3) rfl (pgs_cons (pg_name (i := 2) sc_Map_moment.nd rfl (Or.inl rfl)) (pgs_cons (pg_name (i := 3) sc_Map_moment.nd rfl (Or.inl rfl)) (pgs_cons (pg_name (i := 4) sc_Map_moment.nd rfl (Or.inl rfl)) pgs_nil))))))
      (pss_one (ps_ret (C8.pe_c c_share hr (by decide) rfl (pa_cons (pe_op op_add (pv 3) (pe_op op_mul (pe_op op_sub (pv 1) (pv 2)) (pv 4))) (pa_cons (k_fld (K := K) rfl (pe_fld (pv 0) rfl)) pa_nil))))))), ?_⟩
    tm_at "ev"
    refine ⟨t, rfl, ht.1, ht.2, ?_⟩
    tm_at "ev"
    refine ⟨m, dx, _, rfl, (wo_of h1).2, rfl, ?_⟩
    tm_at "ev"
    refine ⟨N, m, b, kvs, rfl, lv, ⟨d, ⟨dx, h1⟩, h2⟩, ok, fun r H2 n2 => ?_⟩
    have lv2 := lv.same n2.same
    obtain ⟨r', xs, e0, hx, dxs⟩ := dp_lst (n2.dw lv)
    cases e0
    refine ⟨r, rfl, ⟨_, sqL_mono wo_sub hx⟩, fun D hD => lc_data (K := K) N (sts kvs) triD (fun q => decide (q.1 ≤ t)) triD (sqL_mono wo_sub hx) dxs hD (by rw [sts_len]; have := ok.len; omega) lv2 ?_ ?_⟩
    · intro e he x H3 s3 lv3 hd R Y hR hY
      tm_at "ev"
      refine ⟨rfl, ?_⟩
      tm_at "ev"
      refine q_ixTi hd (atI_n (n := 0) rfl) ?_
      tm_at "ev"
      refine if_2 (fun hbb => ?_) fun hbb => hR hbb _ same_rfl
      tm_at "ev"
      exact hY hbb _ _ same_rfl hd
    · intro H3 n3
      obtain ⟨us, hus, dus⟩ := n3.at_
      tm_at "ev"
      have hl : (((sts kvs).filter fun q => decide (q.1 ≤ t)).map triD).getLast? = some (triD (lastT kvs t)) := by
        rw [List.getLast?_map, getLast_D (fil_ne ht.1) (0, 0, 500000)]
        rfl
      refine q_ixM hus dus (atI_last hl) fun v hv => ?_
      tm_at "ev"
      refine q_unT hv rfl fun us3 hus3 => ?_
      obtain ⟨v1, r1, rfl, e1, hus3⟩ := dpA_cons hus3
      obtain ⟨v2, r2, rfl, e2, hus3⟩ := dpA_cons hus3
      obtain ⟨v3, r3, rfl, e3, hus3⟩ := dpA_cons hus3
      obtain rfl := dpA_nil hus3
      obtain rfl := dp_int e1
      obtain rfl := dp_int e2
      obtain rfl := dp_int e3
      have hp := sts_pace (fun q hq => (ok.ok q hq).2) _ (lastT_mem (l := kvs) ht.1).1
      tm_at "ev"
      refine ⟨_, _, rfl, rfl, .inr (by constructor <;> omega), ?_⟩
      tm_at "ev"
      have s4 := n2.same.trans n3.same
      refine ⟨m, a.cM, dx, _, .int b, rfl, s4 _ _ (wo_of h1).2, T.cl_Map, T.n_Map_ticks, rfl, ?_⟩
      tm_at "ev"
      have hm := mom_nn ok ht.1
      have hb1 := hb.1
      have hb2 := hb.2
      refine ⟨N, (mom kvs t).toNat, b.toNat, ?_, lv2.same n3.same, by omega, by omega, fun v H4 s5 hv4 => q v H4 (s4.trans s5) hv4⟩
      rw [Int.toNat_of_nonneg hm, Int.toNat_of_nonneg (by omega)]
      rfl
/-! ### Map.twin, Map.__eq__ -/
def sp_Map_twin (ad : Ad) (K : PySem.W.Frag) : Sp := fun vs H Q _ => ∃ (N : List Addr) (m : Addr) (b : Int) (kvs : Ps), vs = [.ref m] ∧ Live N H ∧ MapAt ad (wo N H) m b kvs ∧ PsOk kvs ∧ BeatOk b ∧
  ∀ x d H', Same H H' → H x = none → H d = none → MapD ad (wo N H') x d b kvs → Q (.ref x) H'
theorem sc_Map_twin : FnScope ["self"] ["self"] (defScope s_Map_twin) := ⟨rfl, rfl, rfl, by decide +kernel, rfl, by decide +kernel, by decide +kernel⟩
theorem ok_Map_twin (T : Tx w K mg a) (m_Map_paces : C8.Met P w K mg base 1 a.cM "paces" (sp_Map_paces a K) []) (k_Map : C8.Mak P w K mg base 2 "Map" a.cM (sp_Map___init__ a K) []) :
    C8.Met P w K mg base 4 a.cM "twin" (sp_Map_twin a K) [] := by
  refine metD T.cl_Map T.d_Map_twin sc_Map_twin (fun _ _ _ _ _ _ us hl => match us, hl with | [_], _ => rfl) (fun vs H Q E h => ?_) (fun f cdv A outer s H vs Q E hr h => ?_)
  · obtain ⟨N, m, b, kvs, rfl, _⟩ := h
    rfl
  · obtain ⟨N, m, b, kvs, rfl, lv, ⟨d, ⟨dx, h1⟩, h2⟩, ok, hb, q⟩ := h
    refine ⟨_, (pss_one (ps_ret (C8.pe_mk k_Map hr (by decide) rfl (pa_cons (k_fld (K := K) rfl (pe_fld (pv 0) rfl)) (pa_cons (C8.pe_mt0 m_Map_paces hr (by decide) (pv 0)) pa_nil))))), ?_⟩
    tm_at "ev"
    refine ⟨m, a.cM, dx, _, .int b, rfl, (wo_of h1).2, T.cl_Map, T.n_Map_ticks, rfl, ?_⟩
    tm_at "ev"
    refine ⟨m, dx, _, rfl, (wo_of h1).2, rfl, ?_⟩
    tm_at "ev"
    refine ⟨N, m, b, kvs, rfl, lv, ⟨d, ⟨dx, h1⟩, h2⟩, ok.nd, Nat.le_trans ok.len (by decide), fun ys r H2 e1 e2 n2 => ?_⟩
    obtain rfl := srt_uniq e1 ok.up e2
    tm_at "ev"
    intro x dx2 hx hdx hne
    have lv2 := lv.same n2.same
    refine ⟨N, x, dx2, b, .ref r, ys, rfl, upd_same, lv2.notin hx, mk_live lv2 hx hdx, hb, (DwS.lst (n2.dw lv)).mk (mk_wo hx hdx), ok, fun d3 H3 sb hd3 hm => ⟨rfl, ?_⟩⟩
    have hd3' : H2 d3 = none := by
      have h1 := hd3
      rw [upd_ne (ne_of_upd h1)] at h1
      rw [upd_ne (ne_of_upd h1)] at h1
      exact h1
    exact q x d3 H3 (n2.same.trans (mk_same hx hdx sb)) (n2.same.free hx) (n2.same.free hd3') hm
def sp_Map___eq__ (ad : Ad) (K : PySem.W.Frag) : Sp := fun vs H Q _ => ∃ (N : List Addr) (m o : Addr) (b : Int) (kvs : Ps), vs = [.ref m, .ref o] ∧ Live N H ∧ MapAt ad (wo N H) m b kvs ∧ MapAt ad (wo N H) o b kvs ∧ PsOk kvs ∧
  ∀ H', Same H H' → Q (.bl true) H'
theorem sc_Map___eq__ : FnScope ["self", "other"] ["self", "other"] (defScope s_Map___eq__) := ⟨rfl, rfl, rfl, by decide +kernel, rfl, by decide +kernel, by decide +kernel⟩
theorem ok_Map___eq__ (T : Tx w K mg a) (m_Map_paces : C8.Met P w K mg base 1 a.cM "paces" (sp_Map_paces a K) []) (m_Map_beat : C8.Met P w K mg base 1 a.cM "beat" (sp_Map_beat a) []) :
    C8.Met P w K mg base 3 a.cM "__eq__" (sp_Map___eq__ a K) [] := by
  refine metD T.cl_Map T.d_Map___eq__ sc_Map___eq__ (fun _ _ _ _ _ _ us hl => match us, hl with | [_, _], _ => rfl) (fun vs H Q E h => ?_) (fun f cdv A outer s H vs Q E hr h => ?_)
  · obtain ⟨N, m, o, b, kvs, rfl, _⟩ := h
    rfl
  · obtain ⟨N, m, o, b, kvs, rfl, lv, ⟨d, ⟨dx, h1⟩, h2⟩, ⟨d', ⟨dx', h1'⟩, h2'⟩, ok, q⟩ := h
    refine ⟨_, (pss_one (ps_ret (pe_and (pe_callB (C8.call_isC T.is_Map) rfl T.f_isinstance (by decide +kernel) (pa_cons (pv 1) (pa_cons (pe_glob (v := .ref a.cM) rfl T.m_Map rfl) pa_nil))) (pe_and (pe_cmpR op_eq (k_fld (K := K) rfl (pe_fld (pv 0) rfl)) (C8.pe_mt0 m_Map_beat hr (by decide) (pv 1)) (nomark _)) (pe_one (pe_cmpR (kop_eq (K := K) rfl hr.units) (C8.pe_mt0 m_Map_paces hr (by decide) (pv 0)) (C8.pe_mt0 m_Map_paces hr (by decide) (pv 1)) (nomark _))))))), ?_⟩
    tm_at "ev"
    refine ⟨o, dx', _, rfl, (wo_of h1').2, ?_⟩
    tm_at "ev"
    refine iteT ?_
    tm_at "ev"
    refine ⟨m, a.cM, dx, _, .int b, rfl, (wo_of h1).2, T.cl_Map, T.n_Map_ticks, rfl, ?_⟩
    tm_at "ev"
    refine ⟨o, dx', _, rfl, (wo_of h1').2, rfl, ?_⟩
    tm_at "ev"
    refine ⟨o, b, kvs, rfl, ⟨d', ⟨dx', (wo_of h1').2⟩, (wo_of h2').2⟩, ?_⟩
    tm_at "ev"
    refine if_t (decide_eq_true rfl) ?_
    tm_at "ev"
    refine ⟨m, dx, _, rfl, (wo_of h1).2, rfl, ?_⟩
    tm_at "ev"
    refine ⟨N, m, b, kvs, rfl, lv, ⟨d, ⟨dx, h1⟩, h2⟩, ok.nd, Nat.le_trans ok.len (by decide), fun ys r H2 e1 e2 n2 => ?_⟩
    obtain rfl := srt_uniq e1 ok.up e2
    tm_at "ev"
    have lv2 := lv.same n2.same
    refine ⟨o, dx', _, rfl, n2.same _ _ (wo_of h1').2, rfl, ?_⟩
    tm_at "ev"
    refine ⟨N, o, b, ys, rfl, lv2, (show MapAt a (wo N H) o b ys from ⟨d', ⟨dx', h1'⟩, h2'⟩).mono (wo_same n2.same), ok.nd, Nat.le_trans ok.len (by decide), fun zs r2 H3 e3 e4 n3 => ?_⟩
    obtain rfl := srt_uniq e3 ok.up e4
    refine q_eqD ((n2.dw lv).up n3.same).real (n3.dw lv2).real (sh_map fun q _ => sh_pr q) ?_
    exact q _ (n2.same.trans n3.same)
end
end Tp
set_option maxHeartbeats 2000000
namespace Tp
open PySem PySem.Spec PyProof.Rows L2
/-! ### enumerate(x), x a list or an empty tuple in a variable -/
theorem meets_enumT (l : Addr) (items : Array Value) : Meets (Builtin.«enumerate.__new__» ⟨[.type "enumerate", .ref l], []⟩) (fun _ R s => s.heap.IsTuple l items ∧
    R (.ok (.ret (.ref (s.heap.push { cls := .type "tuple_iterator", data := .fields #[.ref l, .int 0 0] }).objs.size)))
      { s with heap := (s.heap.push { cls := .type "tuple_iterator", data := .fields #[.ref l, .int 0 0] }).push { cls := .type "enumerate", data := .fields #[.none, .bool false, .ref s.heap.objs.size, rawInt 0, .none, .none] } }) :=
  .of_wp fun prog w A R s h => by
    obtain ⟨hp, g, d, tk, os⟩ := s
    obtain ⟨hL, h⟩ := h
    have hsub := sub_enumerate
    have hL' : Heap.IsTuple (Shared.heap ⟨hp, g, d, tk, os⟩) l items := hL
    wp_walk using wpAny_pyIter_tuple hL'
    refine wpAny_stack_any fun st => wpAny_pure ?_
    split
    · rename_i c _ _ _ _ _
      cases (c == Value.type "enumerate")
      · wp_walk using wpAny_pyIter_tuple hL'
        exact ⟨_, rfl, h⟩
      · wp_walk using wpAny_pyIter_tuple hL'
        exact ⟨_, rfl, h⟩
    · wp_walk using wpAny_pyIter_tuple hL'
      exact ⟨_, rfl, h⟩
section
variable {prog : Program} {w : World} {A : Around} {E : Value → Shared → Prop} {s : Shared}
theorem call_enumT {l : Addr} {items : Array Value} {Q : Value → Shared → Prop} (hL : s.heap.IsTuple l items)
    (h : ∀ h', IsEnum h' (s.heap.objs.size + 1) s.heap.objs.size 0 .none → h'.IsTupleIter s.heap.objs.size l 0 → (∀ b o, s.heap.get? b = some o → h'.get? b = some o) → Q (.ref (s.heap.objs.size + 1)) { s with heap := h' }) :
    wpAny (model prog w) A (call (.type "enumerate") [.ref l]) Q E s := by
  refine callType_new F.called_enumerate (by decide) (F.typeCall_enumerate_1 _) (F.newCall_enumerate_1 _) (fun obj => F.args_object_init_2 obj _) F.entry_enumerate_new (meets_enumT l items) ⟨hL, ?_⟩
  have hz : (s.heap.push { cls := .type "tuple_iterator", data := .fields #[.ref l, .int 0 0] }).objs.size = s.heap.objs.size + 1 := Heap.size_push ..
  show _ ∧ _
  rw [hz]
  have he : IsEnum ((s.heap.push { cls := .type "tuple_iterator", data := .fields #[.ref l, .int 0 0] }).push { cls := .type "enumerate", data := .fields #[.none, .bool false, .ref s.heap.objs.size, rawInt 0, .none, .none] }) (s.heap.objs.size + 1) s.heap.objs.size 0 .none := by
    have q := Heap.get?_push_size (s.heap.push { cls := .type "tuple_iterator", data := .fields #[.ref l, .int 0 0] }) (o := { cls := .type "enumerate", data := .fields #[.none, .bool false, .ref s.heap.objs.size, rawInt 0, .none, .none] }) rfl
    rw [hz] at q
    exact q
  exact ⟨⟨_, he, rfl⟩, h _ he ⟨_, Heap.get?_push_of_some _ (Heap.get?_push_size _ rfl), rfl, rfl⟩ fun b o x => Heap.get?_push_of_some _ (Heap.get?_push_of_some _ x)⟩
theorem next_enumT_end {e it l : Addr} {i : Nat} {k : Int} {items : Array Value} {old : Value} {Q : Option Value → Shared → Prop} (hh : A.handled = none) (he : IsEnum s.heap e it k old) (hit : s.heap.IsTupleIter it l i) (hl : s.heap.IsTuple l items) (hx : items[i]? = none)
    (hQ : ∀ h', Heap.ExtBut it s.heap h' → Q none { s with heap := h' }) : wpAny (model prog w) A (pyNext (.ref e)) Q E s := by
  have hT : s.TypeIs (.ref e) "enumerate" := ⟨_, he, rfl⟩
  unfold pyNext
  refine wpAny_bind (wpAny_attempt (wpAny_callSpecial?_slot (name := Str.ofString "__next__") hT F.slot_enumerate_next (wpAny_call_entry F.slot_enumerate_next hT F.entry_enumerate_next ?_ (F.args_enumerate_next_1 _))))
  show wpAny _ _ (field (.ref e) 2 >>= _) _ _ _
  refine wpAny_bind (wpAny_field he rfl (x := .ref it) rfl ?_)
  refine wpAny_bind (RZ.nextOf_tuple_end (A := A.in1) hh hit hl hx fun h' x he' hx' => ?_)
  obtain ⟨o, ho, hc⟩ := hx'
  refine wpAny_bind (wpAny_isInstance (T := "StopIteration") (b := true) ⟨o, ho, hc⟩ isSubtype_stop ?_)
  exact wpAny_pure (hQ _ he')
end
def ItNo (K : PySem.W.Frag) (a : Addr) : It := ⟨fun _ _ => False, fun _ _ _ _ => False, fun _ H => SqT K H a []⟩
theorem turn_no {P : Program} {w : World} {K : PySem.W.Frag} {elts : List Expr} {kk : Nat} {tpos : Pos} (a e it : Addr) :
    Turn P w K (.Tuple elts kk tpos) (ItNo K a) [e, it] e (fun _ h => (∃ old, IsEnum h e it 0 old) ∧ h.IsTupleIter it a 0 ∧ e ≠ it) where
  mem := by simp
  obj := fun i h st b hb => by
    obtain ⟨⟨old, he⟩, ⟨o, ho, hc, hd⟩, _⟩ := st
    have e' : b = e ∨ b = it := by simpa using hb
    rcases e' with z | z
    · rw [z]
      exact ⟨_, he, fun v q => nomatch q⟩
    · rw [z]
      exact ⟨o, ho, fun v q => by rw [hd] at q; cases q⟩
  keep := fun i h h' st k => let ⟨⟨old, he⟩, hi, hne⟩ := st; ⟨⟨old, k e (by simp) _ he⟩, hi.at fun o q => k it (by simp) o q, hne⟩
  item := by
    intro X hP hw hK hc i pins s σ H E I hf st hg
    exact hg.elim
  done := by
    intro X hP hw hK hc i pins s σ H E I hf st hg
    subst hP hw hK
    obtain ⟨⟨old, he⟩, hit, hne⟩ := st
    obtain ⟨its, rv, p, _⟩ := I.tuple hg
    cases rv
    obtain ⟨f0, f1, f2, f3, f4, f5⟩ := hf it (by simp)
    exact next_enumT_end (I.ok.hd hc) he hit p rfl fun h' eb => ⟨rfl, I.turned (t' := s.toks) (fun b o hb q => eb b o hb q) f0 f1 f3 f4 f5⟩
  self := fun A i s Q E st h => let ⟨⟨_, he⟩, _⟩ := st; wpAny_pyIter_enum he h
def iEnumV (K : PySem.W.Frag) (n : Nat) : TI := fun σ H R => ∃ a xs, σ[n]? = some (some (.ref a)) ∧ ((SqL K H a xs ∧ R (Ite K a) H) ∨ (SqT K H a [] ∧ R (ItNo K a) H))
theorem pi_enumV {X : Cx} {K : PySem.W.Frag} {e : Expr} {n : Nat} {p pos tpos : Pos} {elts : List Expr} {kk : Nat} (hk : X.K = K) (hg : Gl X "enumerate") (hm : X.mg "enumerate" = none) (ha : PE X e (tVar n))
    (hs : starEach [e] X.env = [(false, eval e X.env)] := by rfl) : PI X (.Tuple elts kk tpos) (.Call (.Name "enumerate" p) [e] [] pos) (iEnumV K n) := by
  subst hk
  refine ⟨fun pins s σ H R I q => ?_⟩
  obtain ⟨a, xs, e1, ⟨q1, q2⟩ | ⟨q1, q2⟩⟩ := q
  · exact (pi_enum hg hm (pa_cons ha pa_nil hs) hs).run pins s σ H R I ⟨.ref a, e1, a, xs, rfl, q1, q2⟩
  · refine Call_ (ld_blt I hg hm boot_enumerate (PyProof.Rows.callWith_type1 (thn ((pa_cons ha pa_nil hs).run pos pins s σ H (fun vs H1 => vs = [.ref a] ∧ H1 = H) I ⟨.ref a, e1, rfl, rfl⟩) fun us s1 ⟨vs, H1, I1, r1, q1'⟩ => ?_) hs rfl))
    obtain ⟨rfl, rfl⟩ := q1'
    obtain rfl := Vals.ref1 r1
    obtain ⟨its, rv, p', _⟩ := I1.tuple q1
    refine call_enumT p' fun h' he hit hk => wpAny_pyIter_enum he ?_
    have I2 : Inv X pins σ H1 { s1 with heap := h' } := I1.kept (t' := s1.toks) hk
    refine ⟨s1.heap.objs.size + 1, [s1.heap.objs.size + 1, s1.heap.objs.size], _, _, H1, rfl, I2, turn_no a (s1.heap.objs.size + 1) s1.heap.objs.size, ⟨⟨.none, he⟩, hit, Nat.succ_ne_self _⟩, fun b hb => ?_, q2⟩
    have e' : b = s1.heap.objs.size + 1 ∨ b = s1.heap.objs.size := by simpa using hb
    have hle : s1.heap.objs.size ≤ b := by
      rcases e' with z | z
      · rw [z]
        exact Nat.le_add_right _ _
      · rw [z]
        exact Nat.le_refl _
    exact I1.fpOk hle (I1.hok.fresh hle)
/-- a loop over enumerate(xs), xs data -/
theorem for_enumD {K : PySem.W.Frag} {N : List Addr} {H : Hp} {a : Addr} {xs : List V} {ds : List PyData} {g : TG} {tb : TS} {E : Ends} {σ : L2.St} (hx : SqL K (wo N H) a xs) (hd : DwA K N H xs ds) (lv : Live N H) (Pv : Nat → L2.St → Hp → Prop) (h0 : Pv 0 σ H)
    (sm : ∀ i σ H', Pv i σ H' → Same H H')
    (turn : ∀ (i : Nat) d v σ H', ds[i]? = some d → Pv i σ H' → ∀ H2, Same H' H2 → Dw K N H2 v (.tuple [.int i, d]) → g v σ H2 fun σ2 H2 => tb { nx := Pv (i + 1), rt := E.rt, bk := E.nx, ct := Pv (i + 1) } σ2 H2) (done : ∀ σ H', Pv ds.length σ H' → E.nx σ H') :
    ∃ W : Nat → Nat → L2.St → Hp → Prop, (∃ m, W 0 m σ H) ∧ ∀ (i m : Nat) (σ : L2.St) (H : Hp), W i m σ H → (It.stop (Ite K a) i H ∧ E.nx σ H) ∨ (It.go (Ite K a) i H ∧
      ∃ N' : L2.St → Hp → Prop, (∀ σ' H', N' σ' H' → ∃ m', m' < m ∧ W (i + 1) m' σ' H') ∧ ∀ x H', It.yld (Ite K a) i H x H' → g x σ H' fun σ2 H2 => tb { nx := N', rt := E.rt, bk := E.nx, ct := N' } σ2 H2) := by
  have ln := dpA_len hd
  refine ⟨fun i m σ H' => m = xs.length - i ∧ i ≤ xs.length ∧ Pv i σ H', ⟨xs.length, rfl, Nat.zero_le _, h0⟩, ?_⟩
  rintro i m σ H' ⟨rfl, hi, p⟩
  have sH := sm i σ H' p
  have hxs := sqL_mono (wo_sub.trans sH) hx
  by_cases hlt : i < xs.length
  · refine .inr ⟨⟨xs, _, hxs, List.getElem?_eq_getElem hlt⟩, Pv (i + 1), fun σ' H2 p' => ⟨xs.length - (i + 1), by omega, rfl, hlt, p'⟩, fun v H2 y => ?_⟩
    obtain ⟨T, x, rfl, hT, rfl, hx2⟩ := y
    have hx3 := hx2 xs hxs
    obtain ⟨d, h1, h2⟩ := dpA_at hd hx3
    have t := dw_tup (K := K) (lv.same sH) (xs := [.int i, x]) (ds := [.int i, d]) (.cons (.int _) (.cons (dp_mono (wo_same sH) h2) .nil)) hT
    exact turn i d _ σ H' h1 p _ t.1 t.2
  · have e : i = ds.length := by omega
    subst e
    exact .inl ⟨⟨xs, hxs, by omega⟩, done σ H' p⟩
theorem for_no {K : PySem.W.Frag} {H : Hp} {a : Addr} {g : TG} {tb : TS} {E : Ends} {σ : L2.St} (h : SqT K H a []) (q : E.nx σ H) :
    ∃ W : Nat → Nat → L2.St → Hp → Prop, (∃ m, W 0 m σ H) ∧ ∀ (i m : Nat) (σ : L2.St) (H : Hp), W i m σ H → (It.stop (ItNo K a) i H ∧ E.nx σ H) ∨ (It.go (ItNo K a) i H ∧
      ∃ N' : L2.St → Hp → Prop, (∀ σ' H', N' σ' H' → ∃ m', m' < m ∧ W (i + 1) m' σ' H') ∧ ∀ x H', It.yld (ItNo K a) i H x H' → g x σ H' fun σ2 H2 => tb { nx := N', rt := E.rt, bk := E.nx, ct := N' } σ2 H2) := by
  refine ⟨fun i m σ' H' => σ' = σ ∧ H' = H, ⟨0, rfl, rfl⟩, ?_⟩
  rintro i m σ' H' ⟨rfl, rfl⟩
  exact .inl ⟨h, q⟩
end Tp
set_option maxHeartbeats 4000000
namespace Tp
open PySem PySem.Spec PyProof.Rows L2
local macro_rules | `(tactic| tm_at "ev") => `(tactic| repeat first
  | with_reducible refine ev_seq ?_ | with_reducible refine ev_asg ?_ | with_reducible refine ev_drop ?_ | with_reducible refine ev_ret ?_ | with_reducible refine ev_ifS ?_ | with_reducible refine ev_next ?_
  | ((with_reducible refine' ev_var ?k1 ?_); (case k1 => exact rfl)) | with_reducible refine ev_c ?_ | with_reducible refine ev_op ?_ | with_reducible refine ev_I0 ?_ | with_reducible refine ev_test ?_ | with_reducible refine ev_B ?_ | with_reducible refine ev_bl ?_
  | ((with_reducible refine ev_eq ?k1 ?_); (case k1 => exact rfl)) | ((with_reducible refine ev_ne ?k1 ?_); (case k1 => exact rfl))
  | ((with_reducible refine' ev_nameL ?k1 ?_); (case k1 => first | (dsimp only [L2.start, wipe, List.map, List.set, List.length, List.replicate, List.append]; exact rfl) | exact rfl)) | with_reducible refine ev_name ?_ | with_reducible refine ev_nil ?_ | with_reducible refine ev_cons ?_ | with_reducible refine ev_call ?_ | with_reducible refine ev_tup ?_ | with_reducible refine ev_lst ?_ | with_reducible refine ev_CB ?_ | with_reducible refine ev_fld ?_
  | with_reducible refine ev_not ?_ | with_reducible refine ev_and ?_ | with_reducible refine ev_or ?_ | with_reducible refine ev_andV ?_ | with_reducible refine ev_orV ?_ | with_reducible refine ev_ifE ?_ | with_reducible refine ev_chain ?_ | with_reducible refine ev_meth ?_ | with_reducible refine ev_un ?_
  | with_reducible refine ev_sl ?_ | with_reducible refine ev_part ?_ | with_reducible refine ev_nopart ?_ | with_reducible refine ev_int ?_ | with_reducible refine ev_for ?_ | with_reducible refine ev_list ?_ | with_reducible refine ev_lc ?_ | with_reducible refine ev_gcons ?_ | with_reducible refine ev_gnil ?_ | with_reducible refine ev_sfld ?_ | with_reducible refine ev_make ?_ | with_reducible refine ev_notV ?_ | with_reducible refine ev_yes ?_ | with_reducible refine ev_dget ?_ | with_reducible refine ev_dput ?_ | with_reducible refine ev_bm ?_ | with_reducible refine ev_bm0 ?_ | with_reducible refine ev_items ?_ | with_reducible refine ev_keys ?_ | with_reducible refine ev_enum ?_ | with_reducible refine ev_tupI ?_ | with_reducible refine ev_par ?_ | with_reducible refine ev_two ?_ | with_reducible refine ev_kget ?_ | with_reducible refine ev_gsub ?_ | with_reducible refine ev_tapeK ?_ | with_reducible refine ev_str ?_ | with_reducible refine ev_txt ?_ | with_reducible refine ev_lc2 ?_ | with_reducible refine ev_dget2 ?_ | with_reducible refine ev_rU ?_ | with_reducible refine ev_ckw ?_ | with_reducible refine ev_dnotin ?_ | with_reducible refine ev_din ?_ | with_reducible refine ev_gfld ?_ | with_reducible refine ev_saug ?_ | with_reducible refine ev_finN ?_)
section
variable {P : Program} {w : World} {K : PySem.W.Frag} {mg : Str → Option Value} {base : Heap} {a : Ad}
/-! ### need_track -/
def sp_is_event (K : PySem.W.Frag) : Sp := fun vs H Q _ => ∃ (N : List Addr) (v : V) (e : Ev), vs = [v] ∧ Live N H ∧ Dw K N H v e.d ∧ e.ok ∧ ∀ H', Same H H' → Q (.bl true) H'
def sp_need_track (K : PySem.W.Frag) : Sp := fun vs H Q _ => ∃ (N : List Addr) (v : V) (l : List Ev), vs = [v] ∧ Live N H ∧ (Dw K N H v (trD l) ∨ (l = [] ∧ Dw K N H v (.tuple []))) ∧ TrOk l ∧ ∀ H', Same H H' → Q .non H'
theorem sc_need_track : FnScope ["track", "at", "event"] ["track"] (defScope s_need_track) := ⟨rfl, rfl, rfl, by decide +kernel, rfl, by decide +kernel, by decide +kernel⟩
theorem ok_need_track (T : Tx w K mg a) (c_is_event : C8.Cal P w K mg base 2 "is_event" (sp_is_event K) []) : C8.Cal P w K mg base 3 "need_track" (sp_need_track K) [] := by
  refine calD T.d_need_track sc_need_track (fun _ _ _ _ _ _ us hl => match us, hl with | [_], _ => rfl) (fun vs H Q E h => ?_) (fun f cdv A outer s H vs Q E hr h => ?_)
  · obtain ⟨N, v, l, rfl, _⟩ := h
    rfl
  · obtain ⟨N, v, l, rfl, lv, hd, ok, q⟩ := h
    refine ⟨_, (pss_one (ps_for PassesOwn.never rfl (pi_enumV (K := K) rfl rfl T.f_enumerate (pv 0)) (kg_tup (K := K) rfl (pg_tup (n := 2) rfl (pgs_cons (pg_name (i := 1) sc_need_track.nd rfl (Or.inl rfl)) (pgs_cons (pg_name (i := 2) sc_need_track.nd rfl (Or.inl rfl)) pgs_nil))))
        (pss_one (ps_if (PW.pt (pw_or (pt_cmpR op_ge (pv 1) (C8.pe_gc rfl T.g_MOST_EVENTS) (nomark _)) (pw_or (pt_not (pt_val (C8.pe_c c_is_event hr (by decide) rfl (pa_cons (pv 2) pa_nil)))) (pw_or1 (PW.pt (pw_and (pt_cmpR op_gt (pv 1) pe_int (nomark _)) (pw_and1 (pt_cmpR op_lt (pe_ix (kix_tup (K := K) rfl) (pv 2) pe_int (fun _ _ => rfl)) (pe_ix (kix_tup (K := K) rfl) (pe_ix (kix_list (K := K) rfl) (pv 0) (pe_op op_sub (pv 1) pe_int) (fun _ _ => rfl)) pe_int (fun _ _ => rfl)) (nomark _))))))))) pss_never pss_nil)))), ?_⟩
    tm_at "ev"
    rcases hd with hd | ⟨rfl, hd⟩
    · obtain ⟨p, xs, rfl, hx, dx⟩ := dp_lst hd
      refine ⟨p, xs, rfl, .inl ⟨sqL_mono wo_sub hx, for_enumD hx dx lv (fun _ σ' H' => (∃ z z', σ' = [some (.ref p), z, z']) ∧ Same H H') ⟨⟨_, _, rfl⟩, same_rfl⟩ (fun _ _ _ h => h.2) ?_ ?_⟩⟩
      · rintro i d x σ' H' hk ⟨⟨z, z', rfl⟩, s1⟩ H2 s2 hv
        obtain ⟨e, he, hm, rfl⟩ := mem_d hk
        have hil : i < l.length := (List.getElem?_eq_some_iff.mp he).1
        have hl2 := ok.len
        tm_at "ev"
        refine q_unT hv rfl fun us hus => ?_
        obtain ⟨v1, r1, rfl, e1, hus⟩ := dpA_cons hus
        obtain ⟨v2, r2, rfl, e2, hus⟩ := dpA_cons hus
        obtain rfl := dpA_nil hus
        obtain rfl := dp_int e1
        tm_at "ev"
        refine if_nd (by omega) ?_
        tm_at "ev"
        have lv2 := (lv.same s1).same s2
        refine ⟨N, v2, e, rfl, lv2, e2, ok.ok e hm, fun H3 s3 => ?_⟩
        tm_at "ev"
        refine if_n rfl ?_
        tm_at "ev"
        refine if_dd (fun hi => ?_) fun hi => ?_
        · tm_at "ev"
          have s13 := (s1.trans s2).trans s3
          refine q_ixTi (Dw.up e2 s3) (atI_n (n := 0) rfl) ?_
          tm_at "ev"
          obtain ⟨e0, he0⟩ : ∃ e0, l[i - 1]? = some e0 := ⟨_, List.getElem?_eq_getElem (by omega : i - 1 < l.length)⟩
          have hat : atI (l.map Ev.d) ((i : Int) - 1) = some e0.d := atI_e (by omega) (by rw [show ((i : Int) - 1).toNat = i - 1 by omega, List.getElem?_map, he0]; rfl)
          refine q_ixL (hd.up s13) hat fun v0 hv0 => ?_
          · tm_at "ev"
            refine q_ixTi hv0 (atI_n (n := 0) rfl) ?_
            tm_at "ev"
            have hle : e0.t ≤ e.t := by
              have h1 := List.getElem?_eq_some_iff.mp he0
              have h2 := List.getElem?_eq_some_iff.mp he
              have q := List.pairwise_iff_getElem.mp ok.up (i - 1) i h1.1 h2.1 (by omega)
              rw [h1.2, h2.2] at q
              exact q
            refine if_nd (by omega) ?_
            tm_at "ev"
            exact ⟨⟨_, _, rfl⟩, s13⟩
        · refine iteF ?_
          tm_at "ev"
          exact ⟨⟨_, _, rfl⟩, (s1.trans s2).trans s3⟩
      · rintro σ' H' ⟨_, s1⟩
        exact q _ s1
    · obtain ⟨p, xs, rfl, hx, dx⟩ := dp_tup hd
      obtain rfl := dpA_nil dx
      exact ⟨p, [], rfl, .inr ⟨sqT_mono wo_sub hx, for_no (sqT_mono wo_sub hx) (q _ same_rfl)⟩⟩
/-! ### put_in -/
def sp_put_in (K : PySem.W.Frag) : Sp := fun vs H Q _ => ∃ (N : List Addr) (v x : V) (l : List Ev) (e : Ev), vs = [v, x] ∧ Live N H ∧ Dw K N H v (trD l) ∧ Dw K N H x e.d ∧ e.ok ∧ l.length < 200 ∧ (∀ y ∈ l, y.t ≤ e.t) ∧
  ∀ r H', NewL K N H H' r ((l ++ [e]).map Ev.d) → Q (.ref r) H'
theorem sc_put_in : FnScope ["track", "event", "place", "found", "one"] ["track", "event"] (defScope s_put_in) := ⟨rfl, rfl, rfl, by decide +kernel, rfl, by decide +kernel, by decide +kernel⟩
theorem ok_put_in (T : Tx w K mg a) (c_is_event : C8.Cal P w K mg base 2 "is_event" (sp_is_event K) []) (c_need_room_events : C8.Cal P w K mg base 1 "need_room_events" (sp_need_room_events K) []) :
    C8.Cal P w K mg base 3 "put_in" (sp_put_in K) [] := by
  refine calD T.d_put_in sc_put_in (fun _ _ _ _ _ _ us hl => match us, hl with | [_, _], _ => rfl) (fun vs H Q E h => ?_) (fun f cdv A outer s H vs Q E hr h => ?_)
  · obtain ⟨N, v, x, l, e, rfl, _⟩ := h
    rfl
  · obtain ⟨N, v, x, l, e, rfl, lv, hd, he, ok, hz, hle, q⟩ := h
    refine ⟨_, (pss_cons (ps_if (pt_not (pt_val (C8.pe_c c_is_event hr (by decide) rfl (pa_cons (pv 1) pa_nil)))) pss_never pss_nil)
      (pss_cons (ps_set (i := 2) sc_put_in.nd rfl (Or.inl rfl) (pe_callB (kcall_len (K := K) rfl) rfl T.f_len (by decide +kernel) (pa_cons (pe_lc (own := [("one", 4)]) rfl sc_put_in.nd (k_list (K := K) rfl (pi_list (pv 0))) (blkOk_by (own := [("one", 4)]) (N := ["track", "event", "place", "found", "one"]) (sc := defScope s_put_in) (by decide +kernel)) (fun _ _ _ _ _ => pg_name (i := 4) sc_put_in.nd rfl (Or.inl rfl)) (fun _ _ _ _ _ => pts_one (pt_cmpR op_le (pe_ix (kix_tup (K := K) rfl) (pv 4) pe_int (fun _ _ => rfl)) (pe_ix (kix_tup (K := K) rfl) (pv 1) pe_int (fun _ _ => rfl)) (nomark _))) (fun _ _ _ _ _ => pv 4)) pa_nil)))
      (pss_cons (ps_set (i := 3) sc_put_in.nd rfl (Or.inl rfl) (pe_op op_cat (pe_op op_cat (pe_slice (ksl_list (K := K) rfl) (pv 0) po_none (po_some (pv 2))) (pe_lst (pa_cons (pv 1) pa_nil))) (pe_slice (ksl_list (K := K) rfl) (pv 0) (po_some (pv 2)) po_none)))
      (pss_cons (ps_expr (C8.pe_c c_need_room_events hr (by decide) rfl (pa_cons (pv 3) pa_nil)))
      (pss_one (ps_ret (pv 3))))))), ?_⟩
    tm_at "ev"
    refine ⟨N, x, e, rfl, lv, he, ok, fun H1 s1 => ?_⟩
    tm_at "ev"
    refine if_n rfl ?_
    tm_at "ev"
    have hd1 := hd.up s1
    have he1 := he.up s1
    have lv1 := lv.same s1
    obtain ⟨p, xs, rfl, hx, dx⟩ := dp_lst hd1
    refine ⟨_, rfl, ⟨_, sqL_mono wo_sub hx⟩, fun D hD => lc_data (K := K) N l Ev.d (fun y => decide (y.t ≤ e.t)) Ev.d (sqL_mono wo_sub hx) dx hD (by omega) lv1 ?_ ?_⟩
    · intro y hy z H2 s2 lv2 hdy R Y hR hY
      tm_at "ev"
      refine ⟨rfl, ?_⟩
      tm_at "ev"
      refine q_ixTi hdy (atI_n (n := 0) rfl) ?_
      tm_at "ev"
      refine q_ixTi (he1.up s2) (atI_n (n := 0) rfl) ?_
      tm_at "ev"
      refine if_2 (fun hb => ?_) fun hb => hR hb _ same_rfl
      tm_at "ev"
      exact hY hb _ _ same_rfl hdy
    · intro H2 n2
      rw [List.filter_eq_self.mpr (fun y hy => decide_eq_true (hle y hy))] at n2
      obtain ⟨us, hus, dus⟩ := n2.at_
      tm_at "ev"
      refine q_lenM hus dus ?_
      tm_at "ev"
      rw [List.length_map]
      refine q_slTo (n := l.length) (hd1.up n2.same) fun r3 H3 n3 => ?_
      have lv3 := (lv1.same n2.same).same n3.same
      tm_at "ev"
      refine ⟨sz1, fun p4 hp4 => ?_⟩
      have n4 := newL_lst (K := K) (N := N) (xs := [x]) (dpA_one (((he1.up n2.same).up n3.same))) hp4
      tm_at "ev"
      obtain ⟨us3, hus3, dus3⟩ := n3.at_
      obtain ⟨us4, hus4, dus4⟩ := n4.at_
      refine q_cat (N := N) (n4.same _ _ hus3) hus4 (dpA_mono (wo_drop.trans (wo_same n4.same)) dus3) (dpA_mono wo_drop dus4) (by rw [List.length_take, List.length_map]; simp; omega) fun r5 H5 n5 => ?_
      tm_at "ev"
      have s25 := ((n2.same.trans n3.same).trans n4.same).trans n5.same
      refine q_slFrom (n := l.length) (hd1.up s25) fun r6 H6 n6 => ?_
      obtain ⟨us5, hus5, dus5⟩ := n5.at_
      obtain ⟨us6, hus6, dus6⟩ := n6.at_
      refine q_cat (N := N) (n6.same _ _ hus5) hus6 (dpA_mono (wo_drop.trans (wo_same n6.same)) dus5) (dpA_mono wo_drop dus6) (by simp; omega) fun r7 H7 n7 => ?_
      have ee : List.take l.length (l.map Ev.d) ++ [e.d] ++ List.drop l.length (l.map Ev.d) = (l ++ [e]).map Ev.d := by
        rw [List.take_of_length_le (by rw [List.length_map]; exact Nat.le_refl _), List.drop_of_length_le (by rw [List.length_map]; exact Nat.le_refl _), List.map_append, List.append_nil]
        rfl
      rw [ee] at n7
      tm_at "ev"
      have s16 := s1.trans (s25.trans n6.same)
      refine ⟨N, _, _, rfl, n7.dw (lv.same s16), by rw [List.length_map, List.length_append]; simp; omega, ?_⟩
      tm_at "ev"
      exact q _ _ (n7.back s16)
end
end Tp
set_option maxHeartbeats 4000000
namespace Tp
open PySem PySem.Spec PyProof.Rows L2
local macro_rules | `(tactic| tm_at "ev") => `(tactic| repeat first
  | with_reducible refine ev_seq ?_ | with_reducible refine ev_asg ?_ | with_reducible refine ev_drop ?_ | with_reducible refine ev_ret ?_ | with_reducible refine ev_ifS ?_ | with_reducible refine ev_next ?_
  | ((with_reducible refine' ev_var ?k1 ?_); (case k1 => exact rfl)) | with_reducible refine ev_c ?_ | with_reducible refine ev_op ?_ | with_reducible refine ev_I0 ?_ | with_reducible refine ev_test ?_ | with_reducible refine ev_B ?_ | with_reducible refine ev_bl ?_
  | ((with_reducible refine ev_eq ?k1 ?_); (case k1 => exact rfl)) | ((with_reducible refine ev_ne ?k1 ?_); (case k1 => exact rfl))
  | ((with_reducible refine' ev_nameL ?k1 ?_); (case k1 => first | (dsimp only [L2.start, wipe, List.map, List.set, List.length, List.replicate, List.append]; exact rfl) | exact rfl)) | with_reducible refine ev_name ?_ | with_reducible refine ev_nil ?_ | with_reducible refine ev_cons ?_ | with_reducible refine ev_call ?_ | with_reducible refine ev_tup ?_ | with_reducible refine ev_lst ?_ | with_reducible refine ev_CB ?_ | with_reducible refine ev_fld ?_
  | with_reducible refine ev_not ?_ | with_reducible refine ev_and ?_ | with_reducible refine ev_or ?_ | with_reducible refine ev_andV ?_ | with_reducible refine ev_orV ?_ | with_reducible refine ev_ifE ?_ | with_reducible refine ev_chain ?_ | with_reducible refine ev_meth ?_ | with_reducible refine ev_un ?_
  | with_reducible refine ev_sl ?_ | with_reducible refine ev_part ?_ | with_reducible refine ev_nopart ?_ | with_reducible refine ev_int ?_ | with_reducible refine ev_for ?_ | with_reducible refine ev_list ?_ | with_reducible refine ev_lc ?_ | with_reducible refine ev_gcons ?_ | with_reducible refine ev_gnil ?_ | with_reducible refine ev_sfld ?_ | with_reducible refine ev_make ?_ | with_reducible refine ev_notV ?_ | with_reducible refine ev_yes ?_ | with_reducible refine ev_dget ?_ | with_reducible refine ev_dput ?_ | with_reducible refine ev_bm ?_ | with_reducible refine ev_bm0 ?_ | with_reducible refine ev_items ?_ | with_reducible refine ev_keys ?_ | with_reducible refine ev_enum ?_ | with_reducible refine ev_tupI ?_ | with_reducible refine ev_par ?_ | with_reducible refine ev_two ?_ | with_reducible refine ev_kget ?_ | with_reducible refine ev_gsub ?_ | with_reducible refine ev_tapeK ?_ | with_reducible refine ev_str ?_ | with_reducible refine ev_txt ?_ | with_reducible refine ev_lc2 ?_ | with_reducible refine ev_dget2 ?_ | with_reducible refine ev_rU ?_ | with_reducible refine ev_ckw ?_ | with_reducible refine ev_dnotin ?_ | with_reducible refine ev_din ?_ | with_reducible refine ev_gfld ?_ | with_reducible refine ev_saug ?_ | with_reducible refine ev_finN ?_)
section
variable {P : Program} {w : World} {K : PySem.W.Frag} {mg : Str → Option Value} {base : Heap} {a : Ad}
/-! ### Tape.__init__ -/
/-- tracks as they come: lists, or the empty tuple -/
def encT (q : Bool × List Ev) : PyData := if q.1 = true then trD q.2 else .tuple []
def sp_Tape___init__ (ad : Ad) (K : PySem.W.Frag) : Sp := fun vs H Q _ => ∃ (N : List Addr) (x dx : Addr) (b : Int) (tv z0 : V) (kvs : Ps) (es : List (Bool × List Ev)), vs = [.ref x, .int b, tv, z0] ∧ H x = some (.ins ad.cT dx []) ∧ x ∉ N ∧ Live N H ∧ BeatOk b ∧
  DwS K (x :: N) H tv (es.map encT) ∧ DwS K (x :: N) H z0 (kvs.map prD) ∧ PsOk kvs ∧ (∀ q ∈ es, TrOk q.2 ∧ (q.1 = false → q.2 = [])) ∧ 1 ≤ es.length ∧ es.length ≤ 6 ∧
  ∀ H', SameBut x H H' → TapeAt ad K (wo N H') x ⟨b, kvs, es.map (·.2)⟩ → Q .non H'
/-- the class Tape may be made: by one value, by two and paces= -/
structure TapeMk (P : Program) (w : World) (K : PySem.W.Frag) (mg : Str → Option Value) (base : Heap) (k : Nat) (a : Ad) : Prop where
  ex : ∃ (f : Addr) (fd : FuncData), Mk K a.cT f ∧ FnOk P w K mg base CX0 k f fd ["self", "beat", "tracks", "paces"] (sp_Tape___init__ a K) ∧ (∃ ds, Vals [.ref a.eT, .ref a.eP] ds ∧ Binds K fd ["self", "beat", "tracks", "paces"] ds) ∧
    ∃ its mv : List Value, KBn K fd ["self", "beat", "tracks", "paces"] 3 ["paces"] (fun us ws => us ++ ws) (fun vs zs => vs ++ zs)
def tTapeK (C : Addr) (sp : Sp) (t tk : TA) : TE := tMakeK C 2 1 sp (fun vs zs => vs ++ zs) C8.E0 t tk
theorem pe_tapeK {X : Cx} {k j : Nat} {p pos : Pos} {e : Expr} {es : List Expr} {kws : List Keyword} {t tk : TA} {ad : Ad} {x : Str} {K : PySem.W.Frag} (c : TapeMk X.prog X.w K X.mg X.base k ad) (hr : Room j X.A) (hk : k + 1 ≤ j) (hg : Gl X x) (hK : X.K = K) (hm : X.mg x = some (.ref ad.cT)) (ha : PA X (e :: es) t) (hkw : PK X kws tk)
    (hall : (backToKw pos (keywordEach kws X.env)).all (·.1.isSome) = true := by rfl) (hks : (backToKw pos (keywordEach kws X.env)).filterMap (·.1) = [Str.ofString "paces"] := by rfl) (hdb : (x == ("__debug__" : Str)) = false := by decide)
    (he : starEach (e :: es) X.env = (false, eval e X.env) :: starEach es X.env := by rfl) (hpl : ((backTo pos (starEach (e :: es) X.env)).any (·.1) || (backToKw pos (keywordEach kws X.env)).any (·.1.isNone)) = false := by rfl) :
    PE X (.Call (.Name x p) (e :: es) kws pos) (tTapeK ad.cT (sp_Tape___init__ ad K) t tk) := by
  subst hK
  obtain ⟨f, fd, M, F, _, its, mv, hb⟩ := c.ex
  exact pe_makeK M F (hr.mono hk) hg hm hb pass0 ha hkw hall hks hdb he hpl
theorem ev_tapeK {C : Addr} {sp : Sp} {t tk : TA} {σ : L2.St} {H : Hp} {Q : VK} (q : t σ H fun vs H1 => tk σ H1 fun zs H2 => vs.length = 2 ∧ zs.length = 1 ∧ ∀ x dx, H2 x = none → H2 dx = none → dx ≠ x → sp ((.ref x :: vs) ++ zs) (upd (upd H2 dx (.own x)) x (.ins C dx [])) (fun v H3 => v = .non ∧ Q (.ref x) H3) C8.E0) : tTapeK C sp t tk σ H Q := q
theorem TapeMk.one (c : TapeMk P w K mg base k a) (hm : mg "Tape" = some (.ref a.cT)) : C8.Mak P w K mg base k "Tape" a.cT (sp_Tape___init__ a K) [.ref a.eT, .ref a.eP] := by
  obtain ⟨f, fd, M, F, ⟨ds, hv, hb⟩, _⟩ := c.ex
  exact ⟨⟨f, fd, _, ds, M, F, hm, hb, hv⟩⟩
theorem sc_Tape___init__ : FnScope ["self", "beat", "tracks", "paces", "track"] ["self", "beat", "tracks", "paces"] (defScope s_Tape___init__) := ⟨rfl, rfl, rfl, by decide +kernel, rfl, by decide +kernel, by decide +kernel⟩
theorem ok_Tape___init__ (T : Tx w K mg a) (c_need_track : C8.Cal P w K mg base 3 "need_track" (sp_need_track K) []) (k_Map : C8.Mak P w K mg base 2 "Map" a.cM (sp_Map___init__ a K) []) :
    TapeMk P w K mg base 4 a := by
  obtain ⟨f, fd, F, hm⟩ := T.d_Tape___init__
  refine ⟨⟨f, fd, hm, F.ok sc_Tape___init__ (fun vs H Q E h => ?_) (fun cdv A outer s H vs Q E hr h => ?_), ?_, ?_⟩⟩
  · obtain ⟨N, x, dx, b, tv, z0, kvs, es, rfl, _⟩ := h
    rfl
  · have body : ∃ t, PSs (cxOf CX0 P w K mg base ["self", "beat", "tracks", "paces", "track"] "Tape.__init__" (defScope s_Tape___init__) f cdv A outer s H E).nox (defBody s_Tape___init__) t ∧ t { nx := fun _ H' => Q .non H', rt := Q } (start ["self", "beat", "tracks", "paces", "track"] vs) H := by
      obtain ⟨N, x, dx, b, tv, z0, kvs, es, rfl, hx, xN, lv, hb, ht, hp, ok, hes, z1, z2, q⟩ := h
      refine ⟨_, (pss_cons (k_sfld (K := K) rfl (ps_fld (pv 0) (C8.pe_mk k_Map hr (by decide) rfl (pa_cons (pv 1) (pa_cons (pv 3) pa_nil))) rfl))
      (pss_cons (ps_if (pt_not (pt_chain op_le op_le pe_int (pe_callB (kcall_len (K := K) rfl) rfl T.f_len (by decide +kernel) (pa_cons (pv 2) pa_nil)) (C8.pe_gc rfl T.g_MOST_TRACKS))) pss_never pss_nil)
      (pss_cons (ps_for PassesOwn.never rfl (pi_seqV (K := K) rfl (pv 2)) (pg_name (i := 4) sc_Tape___init__.nd rfl (Or.inl rfl))
        (pss_one (ps_expr (C8.pe_c c_need_track hr (by decide) rfl (pa_cons (pv 4) pa_nil)))))
      (pss_one (k_sfld (K := K) rfl (ps_fld (pv 0) (pe_lc (own := [("track", 4)]) rfl sc_Tape___init__.nd (pi_seqV (K := K) rfl (pv 2)) (blkOk_by (own := [("track", 4)]) (N := ["self", "beat", "tracks", "paces", "track"]) (sc := defScope s_Tape___init__) (by decide +kernel)) (fun _ _ _ _ _ => pg_name (i := 4) sc_Tape___init__.nd rfl (Or.inl rfl)) (fun _ _ _ _ _ => pts_nil) (fun _ _ _ _ _ => pe_callTy (kcall_list (K := K) rfl) rfl T.f_list (by decide +kernel) (pa_cons (pv 4) pa_nil))) rfl)))))), ?_⟩
      tm_at "ev"
      intro y dy hy hdy hne
      have lv' : Live (x :: N) H := lv.cons hx
      refine ⟨x :: N, y, dy, b, z0, kvs, rfl, upd_same, lv'.notin hy, mk_live lv' hy hdy, hb, hp.mk (mk_wo hy hdy), ok, fun d3 H3 sb3 _ hm3' => ⟨rfl, ?_⟩⟩
      have hm3 : MapAt a (wo (x :: N) H3) y b kvs := ⟨d3, hm3'⟩
      have s3 : Same H H3 := mk_same hy hdy sb3
      tm_at "ev"
      refine ⟨x, a.cT, dx, _, rfl, s3 _ _ hx, T.cl_Tape, T.n_Tape_own, by decide, ?_⟩
      have sb4 : SameBut x H (upd H3 x (.ins a.cT dx (putF "own" (.ref y) []))) := sb_upd (sb_same s3)
      have sb34 : SameBut x H3 (upd H3 x (.ins a.cT dx (putF "own" (.ref y) []))) := sb_upd (sb_same same_rfl)
      have ht4 := ht.sb sb4
      have hm4 := hm3.mono (sb_wo (N := N) sb34)
      have lv4 : Live (x :: N) (upd H3 x (.ins a.cT dx (putF "own" (.ref y) []))) := lv_but lv' sb4 upd_same
      have hx4 : upd H3 x (.ins a.cT dx (putF "own" (.ref y) [])) x = some (.ins a.cT dx [("own", .ref y)]) := upd_same
      generalize upd H3 x (.ins a.cT dx (putF "own" (.ref y) [])) = H4 at sb4 sb34 ht4 hm4 lv4 hx4 ⊢
      tm_at "ev"
      refine q_lenS ht4 ?_
      rw [List.length_map]
      tm_at "ev"
      refine if_d (by omega) ?_
      tm_at "ev"
      refine if_n (decide_eq_true (by omega)) ?_
      tm_at "ev"
      refine q_seqV rfl ht4 fun J xs dx' hJ => ?_
      refine for_runs (N := x :: N) hJ dx' (fun _ σ' H' => (∃ z, σ' = [some (.ref x), some (.int b), some tv, some z0, z]) ∧ Same H4 H') ⟨⟨none, rfl⟩, same_rfl⟩ (fun _ _ _ h => wo_same h.2) ?_ ?_
      · rintro k d v σ' H' hk ⟨⟨z, rfl⟩, s5⟩ hd
        obtain ⟨e, he, hme, rfl⟩ := mem_d hk
        have oke := hes e hme
        tm_at "ev"
        refine ⟨x :: N, v, e.2, rfl, lv4.same s5, ?_, oke.1, fun H6 s6 => ?_⟩
        · unfold encT at hd
          cases h1 : e.1 with
          | true =>
            rw [h1, if_pos rfl] at hd
            exact .inl hd
          | false =>
            rw [h1, if_neg (by decide)] at hd
            exact .inr ⟨oke.2 h1, hd⟩
        · exact ⟨⟨_, rfl⟩, s5.trans s6⟩
      · rintro σ' H' ⟨⟨z, rfl⟩, s5⟩
        tm_at "ev"
        have ht5 := ht4.up s5
        refine q_seqV rfl ht5 fun J xs dx' hJ D hD => ?_
        refine lc_runs (x :: N) es encT (fun e => trD e.2) hJ dx' hD (by omega) (lv4.same s5) ?_ ?_
        · intro e hme v H6 s6 lv6 hd Y hY
          tm_at "ev"
          refine ⟨rfl, ?_⟩
          tm_at "ev"
          have hs : DwS K (D :: x :: N) H6 v (e.2.map Ev.d) := by
            unfold encT at hd
            cases h1 : e.1 with
            | true =>
              rw [h1, if_pos rfl] at hd
              exact DwS.lst hd
            | false =>
              rw [h1, if_neg (by decide)] at hd
              rw [(hes e hme).2 h1]
              exact DwS.tup hd
          exact q_listS hs fun r H7 n7 => hY _ _ n7.same (n7.dw lv6)
        · intro H6 n6
          tm_at "ev"
          refine ⟨x, a.cT, dx, _, rfl, n6.same _ _ (s5 _ _ hx4), T.cl_Tape, T.n_Tape_rows, (show 1 < 1000 by decide), ?_⟩
          have s46 := s5.trans n6.same
          refine q _ (sb_upd (sb_then sb4 s46)) ⟨dx, y, D, wo_at xN upd_same, ?_, ?_⟩
          · exact hm4.mono ((wo_same s46).trans ((sb_wo (sb_upd (sb_same same_rfl))).trans wo_drop))
          · have := n6.dw (lv4.same s5)
            rw [show es.map (fun e => trD e.2) = (es.map (·.2)).map trD by rw [List.map_map]; rfl] at this
            exact dp_mono ((sb_wo (sb_upd (sb_same same_rfl))).trans wo_drop) this
    obtain ⟨t, h1, h2⟩ := body
    exact ⟨t, h1.nox, h2⟩
  · obtain ⟨ds, r, hb⟩ := F.binds (ps := ["self", "beat", "tracks", "paces"]) 2 1 (by simp) rfl (fun T' D' doc pm an cdv ct us its ks h1 h2 h3 => match us, its, ks, h1, h2, h3 with | [_, _], [_, _], [_], _, _, _ => ⟨_, rfl, ⟨_, _, _, _, _, _, rfl, rfl, rfl⟩⟩) (by simp)
    exact ⟨ds, r, hb⟩
  · exact F.kbinds (ps := ["self", "beat", "tracks", "paces"]) 3 ["paces"] [] (fun vs _ _ zs => vs ++ zs) (by simp) (by simp) (by simp) (fun r1 _ _ r4 => r1.append r4)
      (fun T' D' doc pm an cdv ct us its mv ws h1 h2 h3 h4 => match us, its, mv, ws, h1, h2, h3, h4 with | [_, _, _], [_, _], [], [_], _, _, _, _ => ⟨_, rfl, rfl⟩)
/-! ### the small methods of Tape -/
def sp_Tape_beat (ad : Ad) (K : PySem.W.Frag) : Sp := fun vs H Q _ => ∃ (x : Addr) (t : Tp0), vs = [.ref x] ∧ TapeAt ad K H x t ∧ Q (.int t.b) H
theorem sc_Tape_beat : FnScope ["self"] ["self"] (defScope s_Tape_beat) := ⟨rfl, rfl, rfl, by decide +kernel, rfl, by decide +kernel, by decide +kernel⟩
theorem ok_Tape_beat (T : Tx w K mg a) (m_Map_beat : C8.Met P w K mg base 1 a.cM "beat" (sp_Map_beat a) []) : C8.Met P w K mg base 2 a.cT "beat" (sp_Tape_beat a K) [] := by
  refine metD T.cl_Tape T.d_Tape_beat sc_Tape_beat (fun _ _ _ _ _ _ us hl => match us, hl with | [_], _ => rfl) (fun vs H Q E h => ?_) (fun f cdv A outer s H vs Q E hr h => ?_)
  · obtain ⟨x, t, rfl, _⟩ := h
    rfl
  · obtain ⟨x, t, rfl, ⟨dx, m, r, h1, h2, h3⟩, q⟩ := h
    refine ⟨_, (pss_one (ps_ret (C8.pe_mt0 m_Map_beat hr (by decide) (k_fld (K := K) rfl (pe_fld (pv 0) rfl))))), ?_⟩
    tm_at "ev"
    refine ⟨x, a.cT, dx, _, .ref m, rfl, h1, T.cl_Tape, T.n_Tape_own, rfl, ?_⟩
    obtain ⟨d, ⟨dm, h4⟩, h5⟩ := h2
    refine ⟨m, dm, _, rfl, h4, rfl, ?_⟩
    tm_at "ev"
    exact ⟨m, t.b, t.ps, rfl, ⟨d, ⟨dm, h4⟩, h5⟩, q⟩
def sp_Tape_tracks (ad : Ad) (K : PySem.W.Frag) : Sp := fun vs H Q _ => ∃ (N : List Addr) (x : Addr) (t : Tp0), vs = [.ref x] ∧ Live N H ∧ TapeAt ad K (wo N H) x t ∧ t.trs.length ≤ 6 ∧ ∀ r H', NewL K N H H' r (t.trs.map trD) → Q (.ref r) H'
theorem sc_Tape_tracks : FnScope ["self", "track"] ["self"] (defScope s_Tape_tracks) := ⟨rfl, rfl, rfl, by decide +kernel, rfl, by decide +kernel, by decide +kernel⟩
theorem ok_Tape_tracks (T : Tx w K mg a) : C8.Met P w K mg base 1 a.cT "tracks" (sp_Tape_tracks a K) [] := by
  refine metD T.cl_Tape T.d_Tape_tracks sc_Tape_tracks (fun _ _ _ _ _ _ us hl => match us, hl with | [_], _ => rfl) (fun vs H Q E h => ?_) (fun f cdv A outer s H vs Q E hr h => ?_)
  · obtain ⟨N, x, t, rfl, _⟩ := h
    rfl
  · obtain ⟨N, x, t, rfl, lv, ⟨dx, m, r, h1, h2, h3⟩, hz, q⟩ := h
    obtain ⟨r', xs, e0, hx, dxs⟩ := dp_lst h3
    cases e0
    refine ⟨_, (pss_one (ps_ret (pe_lc (own := [("track", 1)]) rfl sc_Tape_tracks.nd (k_list (K := K) rfl (pi_list (k_fld (K := K) rfl (pe_fld (pv 0) rfl)))) (blkOk_by (own := [("track", 1)]) (N := ["self", "track"]) (sc := defScope s_Tape_tracks) (by decide +kernel)) (fun _ _ _ _ _ => pg_name (i := 1) sc_Tape_tracks.nd rfl (Or.inl rfl)) (fun _ _ _ _ _ => pts_nil) (fun _ _ _ _ _ => pe_callTy (kcall_list (K := K) rfl) rfl T.f_list (by decide +kernel) (pa_cons (pv 1) pa_nil))))), ?_⟩
    tm_at "ev"
    refine ⟨x, a.cT, dx, _, .ref r, rfl, (wo_of h1).2, T.cl_Tape, T.n_Tape_rows, rfl, ?_⟩
    refine ⟨r, rfl, ⟨_, sqL_mono wo_sub hx⟩, fun D hD => lc_map N t.trs trD trD (sqL_mono wo_sub hx) dxs hD (by omega) lv ?_ ?_⟩
    · intro e hme v H6 s6 lv6 hd Y hY
      tm_at "ev"
      refine ⟨rfl, ?_⟩
      tm_at "ev"
      exact q_listS (DwS.lst hd) fun r H7 n7 => hY _ _ n7.same (n7.dw lv6)
    · intro H2 n
      exact q _ _ n
def sp_Tape_paces (ad : Ad) (K : PySem.W.Frag) : Sp := fun vs H Q _ => ∃ (N : List Addr) (x : Addr) (t : Tp0), vs = [.ref x] ∧ Live N H ∧ TapeAt ad K (wo N H) x t ∧ PsOk t.ps ∧ ∀ r H', NewL K N H H' r (t.ps.map prD) → Q (.ref r) H'
theorem sc_Tape_paces : FnScope ["self"] ["self"] (defScope s_Tape_paces) := ⟨rfl, rfl, rfl, by decide +kernel, rfl, by decide +kernel, by decide +kernel⟩
theorem ok_Tape_paces (T : Tx w K mg a) (m_Map_paces : C8.Met P w K mg base 1 a.cM "paces" (sp_Map_paces a K) []) : C8.Met P w K mg base 2 a.cT "paces" (sp_Tape_paces a K) [] := by
  refine metD T.cl_Tape T.d_Tape_paces sc_Tape_paces (fun _ _ _ _ _ _ us hl => match us, hl with | [_], _ => rfl) (fun vs H Q E h => ?_) (fun f cdv A outer s H vs Q E hr h => ?_)
  · obtain ⟨N, x, t, rfl, _⟩ := h
    rfl
  · obtain ⟨N, x, t, rfl, lv, ⟨dx, m, r, h1, h2, h3⟩, ok, q⟩ := h
    refine ⟨_, (pss_one (ps_ret (C8.pe_mt0 m_Map_paces hr (by decide) (k_fld (K := K) rfl (pe_fld (pv 0) rfl))))), ?_⟩
    tm_at "ev"
    refine ⟨x, a.cT, dx, _, .ref m, rfl, (wo_of h1).2, T.cl_Tape, T.n_Tape_own, rfl, ?_⟩
    obtain ⟨d, ⟨dm, h4⟩, h5⟩ := h2
    refine ⟨m, dm, _, rfl, (wo_of h4).2, rfl, ?_⟩
    tm_at "ev"
    refine ⟨N, m, t.b, t.ps, rfl, lv, ⟨d, ⟨dm, h4⟩, h5⟩, ok.nd, Nat.le_trans ok.len (by decide), fun ys r H2 e1 e2 n2 => ?_⟩
    obtain rfl := srt_uniq e1 ok.up e2
    exact q _ _ n2
def sp_Tape_paced (ad : Ad) (K : PySem.W.Frag) : Sp := fun vs H Q _ => ∃ (N : List Addr) (x : Addr) (t : Tp0), vs = [.ref x] ∧ Live N H ∧ TapeAt ad K (wo N H) x t ∧ PsOk t.ps ∧ BeatOk t.b ∧ ∀ y d H', Same H H' → H y = none → H d = none → MapD ad (wo N H') y d t.b t.ps → Q (.ref y) H'
theorem sc_Tape_paced : FnScope ["self"] ["self"] (defScope s_Tape_paced) := ⟨rfl, rfl, rfl, by decide +kernel, rfl, by decide +kernel, by decide +kernel⟩
theorem ok_Tape_paced (T : Tx w K mg a) (m_Map_twin : C8.Met P w K mg base 4 a.cM "twin" (sp_Map_twin a K) []) : C8.Met P w K mg base 5 a.cT "paced" (sp_Tape_paced a K) [] := by
  refine metD T.cl_Tape T.d_Tape_paced sc_Tape_paced (fun _ _ _ _ _ _ us hl => match us, hl with | [_], _ => rfl) (fun vs H Q E h => ?_) (fun f cdv A outer s H vs Q E hr h => ?_)
  · obtain ⟨N, x, t, rfl, _⟩ := h
    rfl
  · obtain ⟨N, x, t, rfl, lv, ⟨dx, m, r, h1, h2, h3⟩, ok, hb, q⟩ := h
    refine ⟨_, (pss_one (ps_ret (C8.pe_mt0 m_Map_twin hr (by decide) (k_fld (K := K) rfl (pe_fld (pv 0) rfl))))), ?_⟩
    tm_at "ev"
    refine ⟨x, a.cT, dx, _, .ref m, rfl, (wo_of h1).2, T.cl_Tape, T.n_Tape_own, rfl, ?_⟩
    obtain ⟨d, ⟨dm, h4⟩, h5⟩ := h2
    refine ⟨m, dm, _, rfl, (wo_of h4).2, rfl, ?_⟩
    tm_at "ev"
    exact ⟨N, m, t.b, t.ps, rfl, lv, ⟨d, ⟨dm, h4⟩, h5⟩, ok, hb, q⟩
end
end Tp
set_option maxHeartbeats 2000000
namespace Tp
open PySem PySem.Spec PyProof.Rows L2
/-! ### the places' hashes lie apart -/
def hq (n : Nat) : Nat := (reduceHash (Builtin.Tuple.tupleHashOf [hashInt (Int.ofNat (n / 128)), hashInt (Int.ofNat (n % 128))]) + 9223372036854775808).toNat
inductive Tr where
  | nil
  | node (l : Tr) (x : Nat) (r : Tr)
def Tr.ins : Tr → Nat → Option Tr
  | .nil, y => some (.node .nil y .nil)
  | .node l x r, y => if Nat.blt y x then (l.ins y).map (.node · x r) else if Nat.blt x y then (r.ins y).map (.node l x ·) else none
def Tr.all : List Nat → Tr → Bool
  | [], _ => true
  | y :: ys, t => match t.ins y with
    | some t' => Tr.all ys t'
    | none => false
def Tr.mem : Tr → Nat → Prop
  | .nil, _ => False
  | .node l x r, y => l.mem y ∨ y = x ∨ r.mem y
theorem Tr.ins_new : ∀ {t : Tr} {y : Nat} {t' : Tr}, t.ins y = some t' → ∀ z, t'.mem z ↔ z = y ∨ t.mem z
  | .nil, y, t', h, z => by
    cases h
    show (False ∨ z = y ∨ False) ↔ z = y ∨ False
    simp
  | .node l x r, y, t', h, z => by
    unfold Tr.ins at h
    split at h
    · cases e : l.ins y with
      | none =>
        rw [e] at h
        cases h
      | some l' =>
        rw [e] at h
        cases h
        show (l'.mem z ∨ z = x ∨ r.mem z) ↔ _
        rw [Tr.ins_new e z]
        show _ ↔ z = y ∨ (l.mem z ∨ z = x ∨ r.mem z)
        rw [or_assoc]
    · split at h
      · cases e : r.ins y with
        | none =>
          rw [e] at h
          cases h
        | some r' =>
          rw [e] at h
          cases h
          show (l.mem z ∨ z = x ∨ r'.mem z) ↔ _
          rw [Tr.ins_new e z]
          show _ ↔ z = y ∨ (l.mem z ∨ z = x ∨ r.mem z)
          constructor
          · rintro (h | h | h | h)
            · exact .inr (.inl h)
            · exact .inr (.inr (.inl h))
            · exact .inl h
            · exact .inr (.inr (.inr h))
          · rintro (h | h | h | h)
            · exact .inr (.inr (.inl h))
            · exact .inl h
            · exact .inr (.inl h)
            · exact .inr (.inr (.inr h))
      · cases h
/-- the search goes by order: what it meets not is not there, for a tree in order -/
def Tr.ord : Tr → Prop
  | .nil => True
  | .node l x r => l.ord ∧ r.ord ∧ (∀ z, l.mem z → z < x) ∧ ∀ z, r.mem z → x < z
theorem Tr.ins_ord : ∀ {t : Tr} {y : Nat} {t' : Tr}, t.ord → t.ins y = some t' → t'.ord ∧ ¬ t.mem y
  | .nil, y, t', _, h => by
    cases h
    exact ⟨⟨trivial, trivial, fun _ h => h.elim, fun _ h => h.elim⟩, fun h => h⟩
  | .node l x r, y, t', o, h => by
    obtain ⟨ol, or_, hl, hr⟩ := o
    unfold Tr.ins at h
    split at h
    · rename_i hb
      have hb : y < x := Nat.blt_eq.mp hb
      cases e : l.ins y with
      | none =>
        rw [e] at h
        cases h
      | some l' =>
        rw [e] at h
        cases h
        obtain ⟨o1, o2⟩ := Tr.ins_ord ol e
        refine ⟨⟨o1, or_, fun z hz => ?_, hr⟩, ?_⟩
        · rcases (Tr.ins_new e z).mp hz with rfl | hz
          · exact hb
          · exact hl z hz
        · rintro (h | h | h)
          · exact o2 h
          · omega
          · have := hr y h
            omega
    · split at h
      · rename_i hb
        have hb : x < y := Nat.blt_eq.mp hb
        cases e : r.ins y with
        | none =>
          rw [e] at h
          cases h
        | some r' =>
          rw [e] at h
          cases h
          obtain ⟨o1, o2⟩ := Tr.ins_ord or_ e
          refine ⟨⟨ol, o1, hl, fun z hz => ?_⟩, ?_⟩
          · rcases (Tr.ins_new e z).mp hz with rfl | hz
            · exact hb
            · exact hr z hz
          · rintro (h | h | h)
            · have := hl y h
              omega
            · omega
            · exact o2 h
      · cases h
theorem Tr.all_nd : ∀ {ys : List Nat} {t : Tr}, t.ord → Tr.all ys t = true → ys.Nodup ∧ ∀ y ∈ ys, ¬ t.mem y
  | [], t, _, _ => ⟨.nil, fun _ h => nomatch h⟩
  | y :: ys, t, o, h => by
    unfold Tr.all at h
    cases e : t.ins y with
    | none =>
      rw [e] at h
      cases h
    | some t' =>
      rw [e] at h
      obtain ⟨o1, o2⟩ := Tr.ins_ord o e
      obtain ⟨h1, h2⟩ := Tr.all_nd o1 h
      have h3 : ∀ z ∈ ys, z ≠ y ∧ ¬ t.mem z := fun z hz => ⟨fun e' => h2 z hz ((Tr.ins_new e z).mpr (.inl e')), fun m => h2 z hz ((Tr.ins_new e z).mpr (.inr m))⟩
      refine ⟨List.nodup_cons.mpr ⟨fun hy => (h3 y hy).1 rfl, h1⟩, fun z hz => ?_⟩
      rcases List.mem_cons.mp hz with rfl | hz
      · exact o2
      · exact (h3 z hz).2
def hlist : Nat → List Nat
  | 0 => []
  | n + 1 => hq n :: hlist n
theorem hlist_ok : Tr.all (hlist 2048) .nil = true := by decide +kernel
theorem mem_hlist : ∀ {n i : Nat}, i < n → hq i ∈ hlist n
  | n + 1, i, h => by
    by_cases e : i = n
    · rw [e]
      exact List.mem_cons_self
    · exact List.mem_cons_of_mem _ (mem_hlist (by omega))
theorem not_mem_hlist : ∀ {n j : Nat}, (hlist n).Nodup → j < n → hq j ∉ hlist j
  | n + 1, j, h, hj => by
    have h' := List.nodup_cons.mp h
    by_cases e : j = n
    · rw [e]
      exact h'.1
    · exact not_mem_hlist h'.2 (by omega)
theorem hq_inj {i j : Nat} (hi : i < 2048) (hj : j < 2048) (e : hq i = hq j) : i = j := by
  have nd : (hlist 2048).Nodup := (Tr.all_nd (t := .nil) trivial hlist_ok).1
  rcases Nat.lt_trichotomy i j with h | h | h
  · exact absurd (by rw [← e]; exact mem_hlist h) (not_mem_hlist nd hj)
  · exact h
  · exact absurd (by rw [e]; exact mem_hlist h) (not_mem_hlist nd hi)
def nq (q : Int × Int) : Nat := q.1.toNat * 128 + q.2.toNat
theorem hash_inj {P : Program} {w : World} {q q' : Int × Int} (h : InR q) (h' : InR q') (e : tupleKeyHash (mixKind P w) (kk q) = tupleKeyHash (mixKind P w) (kk q')) : q = q' := by
  obtain ⟨⟨a1, a2⟩, a3, a4⟩ := h
  obtain ⟨⟨b1, b2⟩, b3, b4⟩ := h'
  have f : ∀ q : Int × Int, InR q → hq (nq q) = (tupleKeyHash (mixKind P w) (kk q) + 9223372036854775808).toNat := fun q ⟨⟨c1, c2⟩, c3, c4⟩ => by
    have d1 : nq q / 128 = q.1.toNat := by unfold nq; omega
    have d2 : nq q % 128 = q.2.toNat := by unfold nq; omega
    unfold hq
    rw [d1, d2]
    have e1 : Int.ofNat q.1.toNat = q.1 := Int.toNat_of_nonneg c1
    have e2 : Int.ofNat q.2.toNat = q.2 := Int.toNat_of_nonneg c3
    rw [e1, e2]
    rfl
  have i := hq_inj (i := nq q) (j := nq q') (by unfold nq; omega) (by unfold nq; omega) (by rw [f q ⟨⟨a1, a2⟩, a3, a4⟩, f q' ⟨⟨b1, b2⟩, b3, b4⟩, e])
  unfold nq at i
  refine Prod.ext ?_ ?_ <;> omega
theorem hash_nd {P : Program} {w : World} : ∀ {l : List (Int × Int)}, l.Nodup → (∀ q ∈ l, InR q) → (l.map fun q => tupleKeyHash (mixKind P w) (kk q)).Nodup
  | [], _, _ => .nil
  | q :: l, h, hr => by
    have h' := List.nodup_cons.mp h
    refine List.nodup_cons.mpr ⟨fun hm => ?_, hash_nd h'.2 fun x hx => hr x (List.mem_cons_of_mem _ hx)⟩
    obtain ⟨x, hx, e⟩ := List.mem_map.mp hm
    have := hash_inj (hr x (List.mem_cons_of_mem _ hx)) (hr q List.mem_cons_self) e
    exact h'.1 (by rw [← this]; exact hx)
end Tp
set_option maxHeartbeats 2000000
namespace Tp
open PySem PySem.Spec PyProof.Rows L2
/-! ### dict(d), its keys such places -/
section
variable {prog : Program} {w : World} {KT : Type} [DecidableEq KT] {knd : HeapKind prog w KT} {A : Around} {E : Value → Shared → Prop} {s : Shared}
theorem call_dictH {o : Addr} {more : List (KT × Addr × Value)} {Q : Value → Shared → Prop} (hu : knd.room A.in1.in1) (hoS : (o == sysModules) = false) (ho : s.heap.DictOfH knd o more) (hsz : more.length ≤ sizeLine)
    (hty : ∀ x ∈ more, s.TypeIs (.ref x.2.1) "tuple") (hap : (more.map fun x => knd.hash x.1).Nodup) (hst : ∀ h', (∀ b o, s.heap.get? b = some o → h'.get? b = some o) → ∀ x ∈ more, knd.is h' x.1 x.2.1)
    (h : ∀ h', h'.DictOfH knd s.heap.objs.size more → Heap.SameBut s.heap.objs.size (s.heap.push { cls := .type "dict", data := .dict #[] }) h' → Q (.ref s.heap.objs.size) { s with heap := h' }) :
    wpAny (model prog w) A (call (.type "dict") [.ref o]) Q E s := by
  refine callType_codes (Q₁ := fun obj s₁ => obj = .ref s.heap.objs.size ∧ s₁ = { s with heap := s.heap.push { cls := .type "dict", data := .dict #[] } }) F.kt_called_dict (F.kt_typeCall_dict_1 _) F.entry_dict_init (kt_code_dict_new _ ⟨rfl, rfl⟩) ?_
  rintro obj s₁ ⟨rfl, rfl⟩
  have old : ∀ b o, s.heap.get? b = some o → (s.heap.push { cls := .type "dict", data := .dict #[] }).get? b = some o := fun b o e => Heap.get?_push_of_some _ e
  have hnew : (s.heap.push { cls := .type "dict", data := .dict #[] }).DictOfH knd s.heap.objs.size [] := ⟨_, #[], 0, Heap.get?_push_size _ rfl, ⟨rfl, rfl, rfl⟩, rfl, rfl, (fun _ h => nomatch h), .nil⟩
  have ho' : (s.heap.push { cls := .type "dict", data := .dict #[] }).DictOfH knd o more := by
    obtain ⟨ob, es, ep, e1, e2, e3, e4, e5, e6⟩ := id ho
    exact ⟨ob, es, ep, old _ _ e1, e2, e3, e4, hst _ old, e6⟩
  have hdo : s.heap.objs.size ≠ o := fun e => absurd (show o < s.heap.objs.size from let ⟨_, _, _, hg, _⟩ := ho; Heap.lt_size hg) (by rw [e]; exact Nat.lt_irrefl _)
  refine ⟨hnew.typeIs, F.args_dict_init_2 _ _, ?_⟩
  unfold Builtin.«dict.__init__»
  refine wpAny_bind ?_
  unfold Builtin.Dict.selfAndRest
  refine wpAny_bind (wpAny_notOrdered_dict hnew.typeIs ?_)
  refine wpAny_pure ?_
  refine updateFrom_dictH (A := A.in1) (s := { s with heap := s.heap.push { cls := .type "dict", data := .dict #[] } }) (nm := "dict.__init__") .none hu hdo hoS hnew ho' (.inr ⟨fun x hx => ?_, hap⟩) (by simpa using hsz)
    (fun h' hd' _ hs' => ⟨rfl, h h' (by rw [← storedAllH_nil_of_nodup more ho.nodup]; exact hd') hs'⟩)
  obtain ⟨ob, e, c⟩ := hty x hx
  exact ⟨ob, old _ _ e, c⟩
end
section
variable {X : Cx}
def kTV (es : List ((Int × Int) × V)) : List (List Key × V) := es.map fun e => (kk e.1, e.2)
/-- dict(d), d's keys pairs of small ints -/
def rDictT : List V → Hp → VK → Prop := fun xs H Q => ∃ (a : Addr) (es : List ((Int × Int) × V)), xs = [.ref a] ∧ H a = some (.dT (kTV es)) ∧ (∀ e ∈ es, InR e.1) ∧ ∀ p, H p = none → Q (.ref p) (upd H p (.dT (kTV es)))
theorem paired_fst {α β γ : Type} {F : (α × β) → (α × γ) → Prop} (hF : ∀ p q, F p q → p.1 = q.1) : ∀ {l : List (α × β)} {m : List (α × γ)}, Paired F l m → l.map (·.1) = m.map (·.1)
  | _, _, .nil => rfl
  | _, _, .cons h t => by
    rw [List.map_cons, List.map_cons, hF _ _ h, paired_fst hF t]
theorem paired_r {α β : Type} {F : α → β → Prop} : ∀ {l : List α} {m : List β}, Paired F l m → ∀ y ∈ m, ∃ x ∈ l, F x y
  | _, _, .nil, _, h => nomatch h
  | _, _, .cons h t, y, hy => by
    rcases List.mem_cons.mp hy with rfl | hy
    · exact ⟨_, List.mem_cons_self, h⟩
    · obtain ⟨x, hx, f⟩ := paired_r t y hy
      exact ⟨x, List.mem_cons_of_mem _ hx, f⟩
theorem paired_w {α β : Type} {F G : α → β → Prop} (g : ∀ x y, F x y → G x y) : ∀ {l : List α} {m : List β}, Paired F l m → Paired G l m
  | _, _, .nil => .nil
  | _, _, .cons h t => .cons (g _ _ h) (paired_w g t)
theorem kk_nd : ∀ {l : List ((Int × Int) × V)}, ((kTV l).map (·.1)).Nodup → (l.map (·.1)).Nodup
  | [], _ => .nil
  | e :: l, h => by
    have h' := List.nodup_cons.mp h
    refine List.nodup_cons.mpr ⟨fun hm => h'.1 ?_, kk_nd h'.2⟩
    obtain ⟨x, hx, e'⟩ := List.mem_map.mp hm
    refine List.mem_map.mpr ⟨(kk x.1, x.2), List.mem_map.mpr ⟨x, hx, rfl⟩, ?_⟩
    show kk x.1 = kk e.1
    rw [e']
theorem hash_eq {ks : List (List Key × Addr × Value)} {es : List ((Int × Int) × V)} (f g : List Key → Int) (h0 : ∀ k, g k = f k) (ek : (kTV es).map (·.1) = ks.map (·.1)) : ks.map (fun x => g x.1) = (es.map (·.1)).map fun q => f (kk q) := by
  have h1 : ks.map (fun x => g x.1) = (ks.map (·.1)).map f := by
    rw [List.map_map]
    exact List.map_congr_left fun x _ => h0 x.1
  have h2 : (kTV es).map (·.1) = es.map fun e => kk e.1 := by
    unfold kTV
    rw [List.map_map]
    exact List.map_congr_left fun x _ => rfl
  rw [h1, ← ek, h2, List.map_map, List.map_map]
  exact List.map_congr_left fun x _ => rfl
theorem tk_hash {P : Program} {w : World} (k : List Key) : (tupleKind (mixKind P w)).hash k = tupleKeyHash (mixKind P w) k := rfl
theorem call_dictT (hu : X.A.units + 64 < cLine) : CallR X (.type "dict") rDictT := by
  intro pins s σ H xs us Q I r q
  obtain ⟨a, es, rfl, ha, hr, q⟩ := q
  obtain rfl := Vals.ref1 r
  obtain ⟨z, hd, ks, rel, dd⟩ := dt_of I.hok ha
  have ek : (kTV es).map (·.1) = ks.map (·.1) := paired_fst (fun p q h => h.1) rel
  have nd : (es.map (·.1)).Nodup := kk_nd (by rw [ek]; exact dd.nodup)
  have lk : ks.length = (kTV es).length := by
    have := congrArg List.length ek
    rw [List.length_map, List.length_map] at this
    exact this.symm
  have hH : ks.map (fun x => (tupleKind (mixKind X.prog X.w)).hash x.1) = (es.map (·.1)).map fun q => tupleKeyHash (mixKind X.prog X.w) (kk q) := hash_eq (tupleKeyHash (mixKind X.prog X.w)) (tupleKind (mixKind X.prog X.w)).hash tk_hash ek
  refine call_dictH (knd := tupleKind (mixKind X.prog X.w)) (by show X.A.units + 1 + 1 < cLine; omega) hd dd (by rw [lk]; exact z) (fun x hx => ?_) (by rw [hH]; exact hash_nd nd fun q hq => by obtain ⟨e, he, rfl⟩ := List.mem_map.mp hq; exact hr e he) (fun h' hk x hx => ?_) fun h' hd' hs => ?_
  · obtain ⟨p, _, _, h2, _⟩ := paired_r rel x hx
    obtain ⟨_, its, rv, o, ho, hc, n, hdt⟩ := I.hok _ _ h2
    exact ⟨o, ho, hc⟩
  · obtain ⟨ob, es', ep, e1, e2, e3, e4, e5, e6⟩ := dd
    obtain ⟨ov, iv, nv, hov, hcv, hdv, hiv⟩ := e5 x hx
    exact ⟨ov, iv, nv, hk _ _ hov, hcv, hdv, hiv⟩
  · have hn : H s.heap.objs.size = none := I.hok.fresh (Nat.le_refl _)
    have hm : (s.heap.objs.size == sysModules) = false := beq_eq_false_iff_ne.mpr (Nat.ne_of_gt I.big)
    obtain ⟨ob, es', ep, e1, e2, e3, e4, e5, e6⟩ := hd'
    exact ⟨.ref s.heap.objs.size, upd H s.heap.objs.size (.dT (kTV es)), I.laid (t' := s.toks) (fun b u e => (hs.2 b (Nat.ne_of_lt (Heap.lt_size e))).trans (Heap.get?_push_of_some _ e)) (Nat.le_refl _)
      (show ObjOk X.prog X.w _ _ _ (.dT (kTV es)) from ⟨z, hm, ks, paired_w (fun p q h => ⟨h.1, by rw [upd_ne (ne_of_none h.2.1 hn)]; exact h.2.1, h.2.2⟩) rel, ob, es', ep, e1, e2, e3, e4, e6⟩), rfl, q _ hn⟩
end
end Tp
set_option maxHeartbeats 2000000
namespace Tp
open PySem PySem.Spec PyProof.Rows L2 PySem.Calls
/-- sorted(d), d's keys pairs of ints -/
def rSortT : List V → Hp → VK → Prop := fun xs H Q => ∃ (a : Addr) (es : List ((Int × Int) × V)), xs = [.ref a] ∧ H a = some (.dT (kTV es)) ∧ es.length ≤ 1000 ∧
  ∀ (ys : Ps) (ts : List Addr) (l : Addr), ys.Perm (es.map (·.1)) → ys.Pairwise lexLe → H l = none → Paired (fun (t : Addr) (q : Int × Int) => H t = some (.tup [.int q.1, .int q.2])) ts ys → Q (.ref l) (upd H l (.lst (ts.map V.ref)))
section
variable {X : Cx}
theorem call_sortedT (hc : X.calm = true) : CallR X (.builtin "sorted") rSortT := by
  intro pins s σ H xs us Q I r h
  obtain ⟨a, es, rfl, ha, hz, q⟩ := h
  obtain rfl := Vals.ref1 r
  obtain ⟨z, hd, ks, rel, dd⟩ := dt_of I.hok ha
  obtain ⟨ob, es', ep, e1, e2, e3, e4, e5, e6⟩ := dd
  have ek : (kTV es).map (·.1) = ks.map (·.1) := paired_fst (fun p q h => h.1) rel
  have lk : ks.length = es.length := by
    have := congrArg List.length ek
    rw [List.length_map, List.length_map] at this
    rw [← this]
    exact List.length_map _
  have l2 : es'.size = ks.length := size_of_entries e4
  refine call_function_entry PyProof.Rows.kind_sorted PyProof.Rows.plain_sorted PyProof.Rows.entry_sorted (PyProof.Rows.args_sorted1 _) ?_
  unfold Builtin.«sorted»
  refine wpAny_bind (m := checkCount "sorted" 1 1 _) (wpAny_pure ?_)
  refine wpAny_bind (PySem.W.kdu_collect (A := X.A.in1) (KdlSrc.rawDict (d := a) (es := es') (ep := ep) hd) (I.ok.hd hc) ⟨ob, e1, e2, e3⟩ (by rw [l2, lk]; exact Nat.le_trans hz (by decide)) fun h' tk acc hk hacc => ?_)
  have I1 : Inv X pins σ H { s with heap := h', toks := tk } := I.kept hk
  have acl : acc.size = ks.length := by rw [hacc.1, l2]
  have kq : ∀ (j : Nat) (x : List Key × Addr × Value), ks[j]? = some x → ∃ (e : (Int × Int) × V), es[j]? = some e ∧ H x.2.1 = some (.tup [.int e.1.1, .int e.1.2]) := by
    intro j x hx
    obtain ⟨p, hp, h1, h2, _⟩ := L2.DX.pget rel hx
    unfold kTV at hp
    rw [List.getElem?_map] at hp
    cases he : es[j]? with
    | none =>
      rw [he] at hp
      cases hp
    | some e =>
      rw [he] at hp
      cases hp
      exact ⟨e, rfl, h2⟩
  have acE : ∀ (j : Nat) (v : Value), acc[j]? = some v → ∃ (x : List Key × Addr × Value), ks[j]? = some x ∧ v = .ref x.2.1 := by
    intro j v hv
    obtain ⟨hi, e⟩ := hacc.2 j v hv
    have e7 : es'.toList[j]? = (ks.map (entryOfKey (tupleKind (mixKind X.prog X.w))))[j]? := by rw [e4]
    rw [List.getElem?_map, Array.getElem?_toList, Array.getElem?_eq_getElem hi] at e7
    cases hx : ks[j]? with
    | none =>
      rw [hx] at e7
      cases e7
    | some x =>
      rw [hx] at e7
      have := Option.some.inj e7
      exact ⟨x, rfl, by rw [e, this]; rfl⟩
  have hal : acc.toList = (ks.map (·.2.1)).map Value.ref := by
    refine List.ext_getElem? fun j => ?_
    rw [List.getElem?_map, List.getElem?_map, Array.getElem?_toList]
    by_cases hj : j < acc.size
    · obtain ⟨x, hx, e⟩ := acE j acc[j] (Array.getElem?_eq_getElem hj)
      rw [Array.getElem?_eq_getElem hj, hx, e]
      rfl
    · rw [Array.getElem?_eq_none (by omega), List.getElem?_eq_none (by omega)]
      rfl
  rw [hal]
  generalize has : ks.map (·.2.1) = as
  have lak : as.length = es.length := by rw [← has, List.length_map, lk]
  have asE : ∀ (j : Nat) (b : Addr), as[j]? = some b → ∃ (e : (Int × Int) × V), es[j]? = some e ∧ H b = some (.tup [.int e.1.1, .int e.1.2]) := by
    intro j b hb
    rw [← has, List.getElem?_map] at hb
    cases hx : ks[j]? with
    | none =>
      rw [hx] at hb
      cases hb
    | some x =>
      rw [hx] at hb
      cases hb
      exact kq j x hx
  refine wpAny_bind (wpAny_newList ?_ (by rw [List.length_map, lak]; exact Nat.le_trans hz (by decide)))
  have hob : (h'.push { cls := .type "list", data := .seq (as.map Value.ref).toArray }).get? h'.objs.size = some (seqObj "list" (as.map Value.ref).toArray 0) := Heap.get?_push_size _ rfl
  have ka : ∀ b o, h'.get? b = some o → (h'.push { cls := .type "list", data := .seq (as.map Value.ref).toArray }).get? b = some o := fun b o e => Heap.get?_push_of_some _ e
  have ne0 : ∀ b o, h'.get? b = some o → b ≠ h'.objs.size := fun b o e => Nat.ne_of_lt (Heap.lt_size e)
  generalize hh2 : h'.push { cls := .type "list", data := .seq (as.map Value.ref).toArray } = h2 at hob ka ⊢
  have tupE : ∀ (b : Addr) (q : Int × Int), H b = some (.tup [.int q.1, .int q.2]) → pk h2 (.ref b) = q ∧ Srt.IsPair h2 (.ref b) q.1 q.2 := by
    intro b q hb
    obtain ⟨_, its, rv, o, ho, hct, n, hdt⟩ := I1.hok _ _ hb
    obtain ⟨u1, u2, rfl, r1, r2⟩ := vals2 rv
    obtain ⟨t1, rfl⟩ := r1
    obtain ⟨t2, rfl⟩ := r2
    refine ⟨?_, b, o, t1, t2, n, rfl, ka _ _ ho, hct, hdt⟩
    show pk1 (h2.get? b) = q
    rw [ka _ _ ho]
    unfold pk1
    simp only [hdt]
    rfl
  have at_ : ∀ v ∈ as.map Value.ref, ∃ (b : Addr) (e : Int × Int), v = .ref b ∧ b ∈ as ∧ H b = some (.tup [.int e.1, .int e.2]) := by
    intro v hv
    obtain ⟨b, hb, rfl⟩ := List.mem_map.mp hv
    obtain ⟨j, hj⟩ := List.mem_iff_getElem?.mp hb
    obtain ⟨e, _, h1⟩ := asE j b hj
    exact ⟨b, e.1, rfl, hb, h1⟩
  have sorts : wpAny (model X.prog X.w) X.A.in1 (call (.builtin "list.sort") [.ref h'.objs.size]) (fun _ s' => ∃ out : List Value, SrtO.Srtd (fun v u => SrtO.lexB (pk h2 v) (pk h2 u)) out ∧ out.Perm (as.map Value.ref) ∧ s' = { s with heap := sortedHeap h2 h'.objs.size (as.map Value.ref) out.toArray, toks := tk }) X.xe { s with heap := h2, toks := tk } := by
    refine wpAny_call_entry PyProof.Rows.slot_list_sort ⟨_, hob, rfl⟩ PyProof.Rows.entry_list_sort
      (SrtO.list_sort_ord (s := { s with heap := h2, toks := tk }) (SrtO.swo_lex fun u => pk h2 u) hob (by rw [List.length_map, lak]; exact Nat.le_trans hz (by decide)) (fun hh => SrtO.pairs_sortableO (by omega) (fun v hv => ?_) fun o e => ?_)
        fun out o1 o2 => ⟨.none, rfl, out, o1, o2.perm, rfl⟩) (PyProof.Rows.args_list_sort _)
    · obtain ⟨b, e, rfl, hb, hg⟩ := at_ v hv
      obtain ⟨k1, k2⟩ := tupE b e hg
      show Srt.IsPair h2 (.ref b) (pk h2 (.ref b)).1 (pk h2 (.ref b)).2
      rw [k1]
      exact k2
    · have e' : some o = some (seqObj "list" (as.map Value.ref).toArray 0) := e.symm.trans hob
      cases e'
      intro c
      exact absurd (Value.type.inj c) (by decide)
  refine wpAny_bind (wpAny_holding (wpAny_mono sorts (fun _ s' x => ?_) fun _ _ e => e))
  obtain ⟨out, o1, o2, rfl⟩ := x
  refine wpAny_pure ⟨_, rfl, ?_⟩
  have refs : ∀ v ∈ out, v = Value.ref (adr v) := fun v hv => by
    obtain ⟨b, _, rfl, _⟩ := at_ v (o2.mem_iff.mp hv)
    rfl
  have hout : out = (out.map adr).map Value.ref := by
    rw [List.map_map]
    exact (List.map_id' out).symm.trans (List.map_congr_left fun v hv => refs v hv)
  have hperm : (out.map adr).Perm as := by
    have e := o2.map adr
    rw [List.map_map] at e
    rw [show as.map (adr ∘ Value.ref) = as from List.map_id' as] at e
    exact e
  generalize hts : out.map adr = ts at hout hperm
  have hys : (ts.map fun b => pk h2 (.ref b)).Perm (es.map (·.1)) := by
    refine (hperm.map _).trans ?_
    have e : as.map (fun b => pk h2 (.ref b)) = es.map (·.1) := by
      refine List.ext_getElem? fun j => ?_
      rw [List.getElem?_map, List.getElem?_map]
      by_cases hj : j < as.length
      · obtain ⟨e, he, hg⟩ := asE j as[j] (List.getElem?_eq_getElem hj)
        rw [List.getElem?_eq_getElem hj, he]
        exact congrArg some (tupE _ _ hg).1
      · rw [List.getElem?_eq_none (by omega), List.getElem?_eq_none (by omega)]
        rfl
    rw [e]
  have hsrt : (ts.map fun b => pk h2 (.ref b)).Pairwise lexLe := by
    rw [List.pairwise_map]
    rw [hout, SrtO.Srtd, List.pairwise_map] at o1
    exact o1
  have kF : ∀ b o, b ≠ h'.objs.size → h2.get? b = some o → (sortedHeap h2 h'.objs.size (as.map Value.ref) out.toArray).get? b = some o := fun b o hb e => (PyProof.Rows.sortedHeap_old hb (Heap.lt_size e)).trans e
  have kS : ∀ b o, h'.get? b = some o → (sortedHeap h2 h'.objs.size (as.map Value.ref) out.toArray).get? b = some o := fun b o e => kF b o (ne0 _ _ e) (ka b o e)
  obtain ⟨eF, heF⟩ := PyProof.Rows.sortedHeap_at (vs := as.map Value.ref) (out := out.toArray) hob
  have hn0 : H h'.objs.size = none := I1.hok.fresh (Nat.le_refl _)
  have I2 : Inv X pins σ (upd H h'.objs.size (.lst (ts.map V.ref))) { s with heap := sortedHeap h2 h'.objs.size (as.map Value.ref) out.toArray, toks := tk } :=
    I1.laid (t' := tk) kS (Nat.le_refl _) ⟨by rw [List.length_map, hperm.length_eq, lak]; exact Nat.le_trans hz (by decide), out, eF, by rw [hout]; exact vals_maps V.ref Value.ref ts fun _ _ => rfl, heF⟩
  refine ⟨.ref h'.objs.size, _, I2, rfl, q _ ts h'.objs.size hys hsrt hn0 ?_⟩
  have pm := paired_map (F := fun (t : Addr) (q : Int × Int) => H t = some (.tup [.int q.1, .int q.2])) (f := id) (g := fun b => pk h2 (.ref b)) (l := ts) fun b hb => ?_
  · rw [List.map_id] at pm
    exact pm
  obtain ⟨b', e, e1, _, hg⟩ := at_ (.ref b) (List.mem_map.mpr ⟨b, hperm.mem_iff.mp hb, rfl⟩)
  cases e1
  rw [(tupE _ _ hg).1]
  exact hg
end
end Tp
set_option maxHeartbeats 2000000
namespace Tp
open PySem PySem.Spec PyProof.Rows L2
section
variable {α β κ : Type} [DecidableEq α] [DecidableEq κ]
def putE (es : List (α × β)) (q : α) (v : β) : List (α × β) := if (es.any fun e => decide (e.1 = q)) = true then es.map fun e => if e.1 = q then (e.1, v) else e else es ++ [(q, v)]
theorem any_key {es : List (α × β)} {q : α} : (es.any fun e => decide (e.1 = q)) = true ↔ q ∈ es.map (·.1) := by
  rw [List.any_eq_true]
  constructor
  · rintro ⟨e, he, h⟩
    exact List.mem_map.mpr ⟨e, he, of_decide_eq_true h⟩
  · intro h
    obtain ⟨e, he, rfl⟩ := List.mem_map.mp h
    exact ⟨e, he, decide_eq_true rfl⟩
theorem putE_keys (es : List (α × β)) (q : α) (v : β) : (putE es q v).map (·.1) = if q ∈ es.map (·.1) then es.map (·.1) else es.map (·.1) ++ [q] := by
  unfold putE
  by_cases h : q ∈ es.map (·.1)
  · rw [if_pos (any_key.mpr h), if_pos h, List.map_map]
    refine List.map_congr_left fun e _ => ?_
    show (if e.1 = q then (e.1, v) else e).1 = e.1
    by_cases he : e.1 = q
    · rw [if_pos he]
    · rw [if_neg he]
  · rw [if_neg (fun z => h (any_key.mp z)), if_neg h, List.map_append]
    rfl
theorem putE_nd {es : List (α × β)} {q : α} {v : β} (h : (es.map (·.1)).Nodup) : ((putE es q v).map (·.1)).Nodup := by
  rw [putE_keys]
  by_cases hq : q ∈ es.map (·.1)
  · rw [if_pos hq]
    exact h
  · rw [if_neg hq]
    refine List.nodup_append.mpr ⟨h, by simp, fun a ha b hb => ?_⟩
    rw [List.mem_singleton] at hb
    subst hb
    exact fun e => hq (by rw [← e]; exact ha)
theorem putE_mem {es : List (α × β)} {q : α} {v : β} {e : α × β} (h : e ∈ putE es q v) : e = (q, v) ∨ (e ∈ es ∧ e.1 ≠ q) := by
  unfold putE at h
  by_cases hq : (es.any fun e => decide (e.1 = q)) = true
  · rw [if_pos hq] at h
    obtain ⟨e0, h0, rfl⟩ := List.mem_map.mp h
    by_cases he : e0.1 = q
    · rw [if_pos he, he]
      exact .inl rfl
    · rw [if_neg he]
      exact .inr ⟨h0, he⟩
  · rw [if_neg hq] at h
    rcases List.mem_append.mp h with h | h
    · refine .inr ⟨h, fun he => hq (any_key.mpr ?_)⟩
      rw [← he]
      exact List.mem_map.mpr ⟨e, h, rfl⟩
    · rw [List.mem_singleton] at h
      exact .inl h
theorem putE_out {es : List (α × β)} {q q' : α} {v : β} (h : q' ∉ (putE es q v).map (·.1)) : q' ∉ es.map (·.1) ∧ q' ≠ q := by
  rw [putE_keys] at h
  by_cases hq : q ∈ es.map (·.1)
  · rw [if_pos hq] at h
    exact ⟨h, fun e => h (by rw [e]; exact hq)⟩
  · rw [if_neg hq] at h
    exact ⟨fun z => h (List.mem_append_left _ z), fun e => h (List.mem_append_right _ (by rw [e]; exact List.mem_cons_self))⟩
theorem putE_len (es : List (α × β)) (q : α) (v : β) : (putE es q v).length ≤ es.length + 1 := by
  unfold putE
  by_cases hq : (es.any fun e => decide (e.1 = q)) = true
  · rw [if_pos hq, List.length_map]
    exact Nat.le_succ _
  · rw [if_neg hq, List.length_append]
    exact Nat.le_refl _
theorem putK_map (f : α → κ) (hf : ∀ a b, f a = f b → a = b) (g : β → V) (es : List (α × β)) (q : α) (v : β) : putK (es.map fun e => (f e.1, g e.2)) (f q) (g v) = (putE es q v).map fun e => (f e.1, g e.2) := by
  have ha : ((es.map fun e => (f e.1, g e.2)).any fun kv => decide (kv.1 = f q)) = es.any fun e => decide (e.1 = q) := by
    rw [List.any_map]
    congr 1
    funext e
    exact decide_eq_decide.mpr ⟨hf _ _, fun h => congrArg f h⟩
  unfold putK putE
  rw [ha]
  by_cases hq : (es.any fun e => decide (e.1 = q)) = true
  · rw [if_pos hq, if_pos hq, List.map_map, List.map_map]
    refine List.map_congr_left fun e _ => ?_
    show (if f e.1 = f q then (f e.1, g v) else (f e.1, g e.2)) = _
    by_cases he : e.1 = q
    · rw [if_pos (by rw [he])]
      show _ = (f (if e.1 = q then (e.1, v) else e).1, g (if e.1 = q then (e.1, v) else e).2)
      rw [if_pos he]
    · rw [if_neg (fun z => he (hf _ _ z))]
      show _ = (f (if e.1 = q then (e.1, v) else e).1, g (if e.1 = q then (e.1, v) else e).2)
      rw [if_neg he]
  · rw [if_neg hq, if_neg hq, List.map_append]
    rfl
theorem valV_map (f : α → κ) (hf : ∀ a b, f a = f b → a = b) (g : β → V) (es : List (α × β)) (q : α) :
    (∃ e ∈ es, e.1 = q ∧ valV (es.map fun e => (f e.1, g e.2)) (f q) = some (g e.2)) ∨ (q ∉ es.map (·.1) ∧ valV (es.map fun e => (f e.1, g e.2)) (f q) = none) := by
  induction es with
  | nil => exact .inr ⟨by simp, rfl⟩
  | cons e es ih =>
    by_cases he : e.1 = q
    · refine .inl ⟨e, List.mem_cons_self, he, ?_⟩
      unfold valV
      rw [List.map_cons, List.find?_cons_of_pos]
      · rfl
      · exact decide_eq_true (congrArg f he)
    · have h1 : valV ((e :: es).map fun e => (f e.1, g e.2)) (f q) = valV (es.map fun e => (f e.1, g e.2)) (f q) := by
        unfold valV
        rw [List.map_cons, List.find?_cons_of_neg]
        intro z
        exact he (hf _ _ (of_decide_eq_true z))
      rw [h1]
      rcases ih with ⟨x, hx, h2, h3⟩ | ⟨h2, h3⟩
      · exact .inl ⟨x, List.mem_cons_of_mem _ hx, h2, h3⟩
      · refine .inr ⟨fun z => ?_, h3⟩
        rw [List.map_cons] at z
        exact (List.mem_cons.mp z).elim (fun e' => he e'.symm) h2
end
theorem kk_inj (a b : Int × Int) (h : kk a = kk b) : a = b := by
  unfold kk at h
  injection h with h1 h2
  injection h2 with h2 _
  exact Prod.ext (Sum.inl.inj h1) (Sum.inl.inj h2)
theorem inl_inj (a b : Int) (h : (Sum.inl a : Key) = Sum.inl b) : a = b := Sum.inl.inj h
section
variable {K : PySem.W.Frag} {G : Hp} {v : V}
theorem dpA_ints : ∀ l : List Int, DpAll K G (l.map V.int) (l.map PyData.int)
  | [] => .nil
  | i :: l => .cons (.int i) (dpA_ints l)
theorem dpA_ints' : ∀ {l : List Int} {xs : List V}, DpAll K G xs (l.map PyData.int) → xs = l.map V.int
  | [], _, .nil => rfl
  | i :: l, _, .cons h t => by
    obtain rfl := dp_int h
    rw [dpA_ints' t]
    rfl
theorem dp_itup {l : List Int} (h : Dp K G v (.tuple (l.map .int))) : ∃ p, v = .ref p ∧ SqT K G p (l.map V.int) := by
  obtain ⟨p, xs, rfl, h1, h2⟩ := dp_tup h
  rw [dpA_ints' h2] at h1
  exact ⟨p, rfl, h1⟩
end
theorem ev_dget2 {td ty tx : TE} {σ : L2.St} {H : Hp} {Q : VK} (q : td σ H fun x H1 => ∃ a, x = .ref a ∧ IsD H1 a ∧ ty σ H1 fun y H2 => tx σ H2 fun z H3 => ∃ o, DGet H3 a y o ∧ Q (o.getD z) H3) : tDGet2 td ty tx σ H Q := q
end Tp
set_option maxHeartbeats 4000000
namespace Tp
open PySem PySem.Spec PyProof.Rows L2
local macro_rules | `(tactic| tm_at "ev") => `(tactic| repeat first
  | with_reducible refine ev_seq ?_ | with_reducible refine ev_asg ?_ | with_reducible refine ev_drop ?_ | with_reducible refine ev_ret ?_ | with_reducible refine ev_ifS ?_ | with_reducible refine ev_next ?_
  | ((with_reducible refine' ev_var ?k1 ?_); (case k1 => exact rfl)) | with_reducible refine ev_c ?_ | with_reducible refine ev_op ?_ | with_reducible refine ev_I0 ?_ | with_reducible refine ev_test ?_ | with_reducible refine ev_B ?_ | with_reducible refine ev_bl ?_
  | ((with_reducible refine ev_eq ?k1 ?_); (case k1 => exact rfl)) | ((with_reducible refine ev_ne ?k1 ?_); (case k1 => exact rfl))
  | ((with_reducible refine' ev_nameL ?k1 ?_); (case k1 => first | (dsimp only [L2.start, wipe, List.map, List.set, List.length, List.replicate, List.append]; exact rfl) | exact rfl)) | with_reducible refine ev_name ?_ | with_reducible refine ev_nil ?_ | with_reducible refine ev_cons ?_ | with_reducible refine ev_call ?_ | with_reducible refine ev_tup ?_ | with_reducible refine ev_lst ?_ | with_reducible refine ev_CB ?_ | with_reducible refine ev_fld ?_
  | with_reducible refine ev_not ?_ | with_reducible refine ev_and ?_ | with_reducible refine ev_or ?_ | with_reducible refine ev_andV ?_ | with_reducible refine ev_orV ?_ | with_reducible refine ev_ifE ?_ | with_reducible refine ev_chain ?_ | with_reducible refine ev_meth ?_ | with_reducible refine ev_un ?_
  | with_reducible refine ev_sl ?_ | with_reducible refine ev_part ?_ | with_reducible refine ev_nopart ?_ | with_reducible refine ev_int ?_ | with_reducible refine ev_for ?_ | with_reducible refine ev_list ?_ | with_reducible refine ev_lc ?_ | with_reducible refine ev_gcons ?_ | with_reducible refine ev_gnil ?_ | with_reducible refine ev_sfld ?_ | with_reducible refine ev_make ?_ | with_reducible refine ev_notV ?_ | with_reducible refine ev_yes ?_ | with_reducible refine ev_dget ?_ | with_reducible refine ev_dput ?_ | with_reducible refine ev_bm ?_ | with_reducible refine ev_bm0 ?_ | with_reducible refine ev_items ?_ | with_reducible refine ev_keys ?_ | with_reducible refine ev_enum ?_ | with_reducible refine ev_tupI ?_ | with_reducible refine ev_par ?_ | with_reducible refine ev_two ?_ | with_reducible refine ev_kget ?_ | with_reducible refine ev_gsub ?_ | with_reducible refine ev_tapeK ?_ | with_reducible refine ev_str ?_ | with_reducible refine ev_txt ?_ | with_reducible refine ev_lc2 ?_ | with_reducible refine ev_dget2 ?_ | with_reducible refine ev_rU ?_ | with_reducible refine ev_ckw ?_ | with_reducible refine ev_dnotin ?_ | with_reducible refine ev_din ?_ | with_reducible refine ev_gfld ?_ | with_reducible refine ev_saug ?_ | with_reducible refine ev_finN ?_)
section
variable {P : Program} {w : World} {K : PySem.W.Frag} {mg : Str → Option Value} {base : Heap} {a : Ad}
theorem kg_lst {X : Cx} {e : Expr} {n : Nat} {ts : TGs} (h : X.K = K) (p : PG X e (gLst X.K n ts)) : PG X e (gLst K n ts) := h ▸ p
theorem pf1 {r : V} : putF ("ringing" : Str) r [] = [(("ringing" : Str), r)] := rfl
theorem pf2 {r t : V} : putF ("turned" : Str) t [(("ringing" : Str), r)] = [(("ringing" : Str), r), (("turned" : Str), t)] := by
  show (if ("ringing" : Str) = "turned" then _ else _) = _
  rw [if_neg (by decide)]
  rfl
theorem pf3 {r t c : V} : putF ("chosen" : Str) c [(("ringing" : Str), r), (("turned" : Str), t)] = [(("ringing" : Str), r), (("turned" : Str), t), (("chosen" : Str), c)] := by
  show (if ("ringing" : Str) = "chosen" then _ else _ :: (if ("turned" : Str) = "chosen" then _ else _)) = _
  rw [if_neg (by decide), if_neg (by decide)]
  rfl
theorem none_sb {H H' : Hp} {x b : Addr} (s : SameBut x H H') (e : b ≠ x) (n : H' b = none) : H b = none := by
  cases h : H b with
  | none => rfl
  | some o =>
    rw [s b o e h] at n
    cases n
/-! ### Stand.__init__ -/
def sp_Stand___init__ (ad : Ad) (K : PySem.W.Frag) : Sp := fun vs H Q _ => ∃ (N : List Addr) (x dx : Addr), vs = [.ref x] ∧ H x = some (.ins ad.cS dx []) ∧ x ∉ N ∧ Live N H ∧
  ∀ H' r t c, SameBut x H H' → H' x = some (.ins ad.cS dx (fS r t c)) → r ∉ N → t ∉ N → c ∉ N → H r = none → H t = none → H c = none → r ≠ t → r ≠ c → t ≠ c → H' r = some (.dT []) → H' t = some (.dT []) → H' c = some (.dK []) → Q .non H'
theorem sc_Stand___init__ : FnScope ["self"] ["self"] (defScope s_Stand___init__) := ⟨rfl, rfl, rfl, by decide +kernel, rfl, by decide +kernel, by decide +kernel⟩
theorem ok_Stand___init__ (T : Tx w K mg a) : C8.Mak P w K mg base 1 "Stand" a.cS (sp_Stand___init__ a K) [] := by
  refine iniD T.d_Stand___init__ T.m_Stand sc_Stand___init__ (fun _ _ _ _ _ _ us hl => match us, hl with | [_], _ => rfl) (fun vs H Q E h => ?_) (fun f cdv A outer s H vs Q E hr h => ?_)
  · obtain ⟨N, x, dx, rfl, _⟩ := h
    rfl
  · obtain ⟨N, x, dx, rfl, hx, xN, lv, q⟩ := h
    refine ⟨_, (pss_cons (k_sfld (K := K) rfl (ps_fld (pv 0) pe_dnewT rfl))
      (pss_cons (k_sfld (K := K) rfl (ps_fld (pv 0) pe_dnewT rfl))
      (pss_one (k_sfld (K := K) rfl (ps_fld (pv 0) pe_dnewK rfl))))), ?_⟩
    tm_at "ev"
    intro r hr0
    tm_at "ev"
    have hrx : r ≠ x := fun e => by rw [e, hx] at hr0; cases hr0
    refine ⟨x, a.cS, dx, _, rfl, (upd_ne hrx.symm).trans hx, T.cl_Stand, T.n_Stand_ringing, (show 0 < 1000 by decide), ?_⟩
    have sb1 : SameBut x H (upd (upd H r (.dT [])) x (.ins a.cS dx [("ringing", .ref r)])) := sb_upd (sb_same (same_new hr0))
    have h1x : upd (upd H r (.dT [])) x (.ins a.cS dx [("ringing", .ref r)]) x = some (.ins a.cS dx [("ringing", .ref r)]) := upd_same
    have h1r : upd (upd H r (.dT [])) x (.ins a.cS dx [("ringing", .ref r)]) r = some (.dT []) := (upd_ne hrx).trans upd_same
    rw [pf1]
    generalize upd (upd H r (.dT [])) x (.ins a.cS dx [("ringing", .ref r)]) = H1 at sb1 h1x h1r ⊢
    tm_at "ev"
    intro t ht0
    tm_at "ev"
    have htx : t ≠ x := fun e => by rw [e, h1x] at ht0; cases ht0
    have htr : r ≠ t := fun e => by rw [← e, h1r] at ht0; cases ht0
    refine ⟨x, a.cS, dx, _, rfl, (upd_ne htx.symm).trans h1x, T.cl_Stand, T.n_Stand_turned, (show 1 < 1000 by decide), ?_⟩
    have sb2 : SameBut x H (upd (upd H1 t (.dT [])) x (.ins a.cS dx [("ringing", .ref r), ("turned", .ref t)])) := sb_upd (sb_new sb1 ht0)
    have h2x : upd (upd H1 t (.dT [])) x (.ins a.cS dx [("ringing", .ref r), ("turned", .ref t)]) x = some (.ins a.cS dx [("ringing", .ref r), ("turned", .ref t)]) := upd_same
    have h2t : upd (upd H1 t (.dT [])) x (.ins a.cS dx [("ringing", .ref r), ("turned", .ref t)]) t = some (.dT []) := (upd_ne htx).trans upd_same
    have h2r : upd (upd H1 t (.dT [])) x (.ins a.cS dx [("ringing", .ref r), ("turned", .ref t)]) r = some (.dT []) := ((upd_ne hrx).trans (upd_ne htr)).trans h1r
    have ht00 : H t = none := none_sb sb1 htx ht0
    rw [pf2]
    generalize upd (upd H1 t (.dT [])) x (.ins a.cS dx [("ringing", .ref r), ("turned", .ref t)]) = H2 at sb2 h2x h2r h2t ⊢
    tm_at "ev"
    intro c hc0
    tm_at "ev"
    have hcx : c ≠ x := fun e => by rw [e, h2x] at hc0; cases hc0
    have hcr : r ≠ c := fun e => by rw [← e, h2r] at hc0; cases hc0
    have hct : t ≠ c := fun e => by rw [← e, h2t] at hc0; cases hc0
    refine ⟨x, a.cS, dx, _, rfl, (upd_ne hcx.symm).trans h2x, T.cl_Stand, T.n_Stand_chosen, (show 2 < 1000 by decide), ?_⟩
    rw [pf3]
    have hc00 : H c = none := none_sb sb2 hcx hc0
    exact q _ r t c (sb_upd (sb_new sb2 hc0)) upd_same (lv.notin hr0) (lv.notin ht00) (lv.notin hc00) hr0 ht00 hc00 htr hcr hct (((upd_ne hrx).trans (upd_ne hcr)).trans h2r) (((upd_ne htx).trans (upd_ne hct)).trans h2t) ((upd_ne hcx).trans upd_same)
/-! ### Stand.after -/
theorem q_star1 {N : List Addr} {H : Hp} {v : V} {e : PyData} {ds : List PyData} {t : TGs} {σ : L2.St} {R : L2.St → Hp → Prop} (h : Dw K N H v (.tuple (e :: ds))) (z : ds.length ≤ 16000) (q : ∀ x p, Dw K N H x e → H p = none → ∀ H', NewL K N H H' p ds → t [x, .ref p] σ H' R) : gStar K 1 t v σ H R := by
  obtain ⟨a0, xs, rfl, h1, h2⟩ := dp_tup h
  obtain ⟨x, vs, rfl, h3, h4⟩ := dpA_cons h2
  have l := dpA_len h4
  refine ⟨a0, _, rfl, .inl (sqT_mono wo_sub h1), by rw [List.length_cons]; omega, by rw [List.length_cons]; omega, fun p n => ?_⟩
  exact q x p h3 n _ (newL_lst h4 n)
theorem vs_ne {x y : Str} (h : x ≠ y) : decide (V.str x = V.str y) = false := decide_eq_false fun e => h (by injection e)
theorem vs_eq {x : Str} : (!decide (V.str x = V.str x)) = false := by
  rw [decide_eq_true rfl]
  rfl
theorem vs_nn {x y : Str} (h : x ≠ y) : (!decide (V.str x = V.str y)) = true := by
  rw [vs_ne h]
  rfl
theorem q_unL {N : List Addr} {H : Hp} {x : V} {ds : List PyData} {σ : L2.St} {n : Nat} {t : TGs} {R : L2.St → Hp → Prop} (hx : Dw K N H x (.list ds)) (ln : ds.length = n) (q : ∀ xs, DwA K N H xs ds → t xs σ H R) : gLst K n t x σ H R := by
  obtain ⟨p, us, rfl, h1, h2⟩ := dp_lst hx
  exact ⟨p, us, rfl, sqL_mono wo_sub h1, by rw [dpA_len h2, ln], q us h2⟩
theorem sqT_upd {N : List Addr} {H : Hp} {p r : Addr} {xs : List V} {o : HO} {kvs : List (List Key × V)} (h : SqT K (wo N H) p xs) (hr : H r = some (.dT kvs)) : SqT K (wo N (upd H r o)) p xs := by
  have ne : ∀ u, wo N H p = some u → (∀ k, u ≠ .dT k) → wo N (upd H r o) p = some u := fun u h hu => by
    obtain ⟨h1, h2⟩ := wo_of h
    refine wo_at h1 (by rw [upd_ne]; exact h2; intro e; rw [e, hr] at h2; exact hu _ (Option.some.inj h2).symm)
  rcases h with (h | ⟨u, h⟩) | h
  · exact .inl (.inl (ne _ h fun k e => by cases e))
  · exact .inl (.inr ⟨u, ne _ h fun k e => by cases e⟩)
  · exact .inr h
theorem sd_len {s : Sd} {n : Nat} (th : Th) (h : ∀ q, (s.r q).length ≤ n) (q : Int × Int) : ((s.step th).r q).length ≤ n + 1 := by
  have := h q
  cases th with
  | on c k f =>
    show (if q = (c, k) then s.r q ++ [f] else s.r q).length ≤ n + 1
    by_cases e : q = (c, k)
    · rw [if_pos e, List.length_append]
      simp
      omega
    · rw [if_neg e]
      omega
  | off c k f =>
    show (if q = (c, k) then (s.r q).drop 1 else s.r q).length ≤ n + 1
    by_cases e : q = (c, k)
    · rw [if_pos e, List.length_drop]
      omega
    · rw [if_neg e]
      omega
  | knob c k v => exact Nat.le_succ_of_le this
  | voice c v => exact Nat.le_succ_of_le this
  | mark z => exact Nat.le_succ_of_le this
theorem pfS1 {r r' t c : Addr} : putF ("ringing" : Str) (.ref r') (fS r t c) = fS r' t c := by
  show (if ("ringing" : Str) = "ringing" then _ else _) = _
  rw [if_pos rfl]
  rfl
theorem pfS2 {r t t' c : Addr} : putF ("turned" : Str) (.ref t') (fS r t c) = fS r t' c := by
  show (if ("ringing" : Str) = "turned" then _ else _ :: (if ("turned" : Str) = "turned" then _ else _)) = _
  rw [if_neg (by decide), if_pos rfl]
  rfl
theorem pfS3 {r t c c' : Addr} : putF ("chosen" : Str) (.ref c') (fS r t c) = fS r t c' := by
  show (if ("ringing" : Str) = "chosen" then _ else _ :: (if ("turned" : Str) = "chosen" then _ else _ :: (if ("chosen" : Str) = "chosen" then _ else _))) = _
  rw [if_neg (by decide), if_neg (by decide), if_pos rfl]
  rfl
theorem ring_kTV {es : List ((Int × Int) × Addr)} : kTV (es.map fun e => (e.1, V.ref e.2)) = es.map fun e => (kk e.1, V.ref e.2) := by
  unfold kTV
  rw [List.map_map]
  rfl
theorem turn_kTV {es : List ((Int × Int) × Int)} : kTV (es.map fun e => (e.1, V.int e.2)) = es.map fun e => (kk e.1, V.int e.2) := by
  unfold kTV
  rw [List.map_map]
  rfl
/-- a stand just copied: what its parts are -/
structure Copy (K : PySem.W.Frag) (ad : Ad) (N : List Addr) (H0 H : Hp) (x dx r t c : Addr) (s : Sd) (er : List ((Int × Int) × Addr)) (et : List ((Int × Int) × Int)) (ec : List (Int × Int)) : Prop where
  same : Same H0 H
  newr : H0 r = none
  newt : H0 t = none
  newc : H0 c = none
  at_ : H x = some (.ins ad.cS dx (fS r t c))
  xN : x ∉ N
  rN : r ∉ N
  tN : t ∉ N
  cN : c ∉ N
  rt : r ≠ t
  rc : r ≠ c
  tc : t ≠ c
  r_ : H r = some (.dT (er.map fun e => (kk e.1, .ref e.2)))
  t_ : H t = some (.dT (et.map fun e => (kk e.1, .int e.2)))
  c_ : H c = some (.dK (kM ec))
theorem Copy.up {ad : Ad} {N : List Addr} {H0 H H' : Hp} {x dx r t c : Addr} {s : Sd} {er : List ((Int × Int) × Addr)} {et : List ((Int × Int) × Int)} {ec : List (Int × Int)} (h : Copy K ad N H0 H x dx r t c s er et ec) (s' : Same H H') : Copy K ad N H0 H' x dx r t c s er et ec :=
  ⟨h.same.trans s', h.newr, h.newt, h.newc, s' _ _ h.at_, h.xN, h.rN, h.tN, h.cN, h.rt, h.rc, h.tc, s' _ _ h.r_, s' _ _ h.t_, s' _ _ h.c_⟩
def sp_Stand_after (ad : Ad) (K : PySem.W.Frag) : Sp := fun vs H Q _ => ∃ (N : List Addr) (p : Addr) (v : V) (th : Th) (s : Sd) (n : Nat), vs = [.ref p, v] ∧ Live N H ∧ StandAt ad K (wo N H) p s n ∧ Dw K N H v th.d ∧ th.ok ∧ n ≤ 900 ∧
  ∀ x H', Same H H' → StandAt ad K (wo N H') x (s.step th) (n + 1) → Q (.ref x) H'
def Th.word : Th → Str
  | .on _ _ _ => "on"
  | .off _ _ _ => "off"
  | .knob _ _ _ => "knob"
  | .voice _ _ => "voice"
  | .mark _ => "mark"
def Th.args : Th → List PyData
  | .on c k f => [.int c, .int k, .int f]
  | .off c k f => [.int c, .int k, .int f]
  | .knob c k f => [.int c, .int k, .int f]
  | .voice c k => [.int c, .int k]
  | .mark z => [.str z]
theorem th_ds (th : Th) : th.ds = .str th.word :: th.args := by cases th <;> rfl
theorem sc_Stand_after : FnScope ["self", "thing", "word", "things", "other", "channel", "key", "force", "here"] ["self", "thing"] (defScope s_Stand_after) := ⟨rfl, rfl, rfl, by decide +kernel, rfl, by decide +kernel, by decide +kernel⟩
theorem ok_Stand_after (T : Tx w K mg a) (k_Stand : C8.Mak P w K mg base 1 "Stand" a.cS (sp_Stand___init__ a K) []) : C8.Met P w K mg base 3 a.cS "after" (sp_Stand_after a K) [] := by
  refine metD T.cl_Stand T.d_Stand_after sc_Stand_after (fun _ _ _ _ _ _ us hl => match us, hl with | [_, _], _ => rfl) (fun vs H Q E h => ?_) (fun f cdv A outer s H vs Q E hr h => ?_)
  · obtain ⟨N, p, v, th, sd, n, rfl, _⟩ := h
    rfl
  · obtain ⟨N, p, v, th, sd, n, rfl, lv, ⟨dp, r, t, c, er, et, ec, hp, hR, hT, hC, zr, zt, zc, zl⟩, hv, ok, hn, q⟩ := h
    refine ⟨_, (pss_cons (ps_asg (pv 1) (kg_star (K := K) rfl (pg_star (i := 1) rfl (pgs_cons (pg_name (i := 2) sc_Stand_after.nd rfl (Or.inl rfl)) (pgs_star (pg_name (i := 3) sc_Stand_after.nd rfl (Or.inl rfl)) pgs_nil)))))
      (pss_cons (ps_set (i := 4) sc_Stand_after.nd rfl (Or.inl rfl) (pe_mk0 k_Stand hr (by decide) rfl))
      (pss_cons (k_sfld (K := K) rfl (ps_fld (pv 4) (pe_callTy (call_dictT hr.units) rfl T.f_dict (by decide +kernel) (pa_cons (k_fld (K := K) rfl (pe_fld (pv 0) rfl)) pa_nil)) rfl))
      (pss_cons (k_sfld (K := K) rfl (ps_fld (pv 4) (pe_callTy (call_dictT hr.units) rfl T.f_dict (by decide +kernel) (pa_cons (k_fld (K := K) rfl (pe_fld (pv 0) rfl)) pa_nil)) rfl))
      (pss_cons (k_sfld (K := K) rfl (ps_fld (pv 4) (pe_callTy call_dictD rfl T.f_dict (by decide +kernel) (pa_cons (k_fld (K := K) rfl (pe_fld (pv 0) rfl)) pa_nil)) rfl))
      (pss_cons (ps_if (pt_cmpR op_eq (pv 2) pe_str (nomark _)) (pss_one (ps_dput (hu_of hr) (k_fld (K := K) rfl (pe_fld (pv 4) rfl)) (pe_tup (pa_cons (pe_ix (kix_list (K := K) rfl) (pv 3) pe_int (fun _ _ => rfl)) (pa_cons (pe_ix (kix_list (K := K) rfl) (pv 3) pe_int (fun _ _ => rfl)) pa_nil))) (pe_ix (kix_list (K := K) rfl) (pv 3) pe_int (fun _ _ => rfl)) rfl)) (pss_one (ps_if (pt_cmpR op_eq (pv 2) pe_str (nomark _)) (pss_one (ps_dput (hu_of hr) (k_fld (K := K) rfl (pe_fld (pv 4) rfl)) (pe_ix (kix_list (K := K) rfl) (pv 3) pe_int (fun _ _ => rfl)) (pe_ix (kix_list (K := K) rfl) (pv 3) pe_int (fun _ _ => rfl)) rfl)) (pss_one (ps_if (pt_cmpR op_ne (pv 2) pe_str (nomark _)) (pss_cons (ps_asg (pv 3) (kg_lst (K := K) rfl (pg_lst (n := 3) rfl (pgs_cons (pg_name (i := 5) sc_Stand_after.nd rfl (Or.inl rfl)) (pgs_cons (pg_name (i := 6) sc_Stand_after.nd rfl (Or.inl rfl)) (pgs_cons (pg_name (i := 7) sc_Stand_after.nd rfl (Or.inl rfl)) pgs_nil))))))
            (pss_cons (ps_set (i := 8) sc_Stand_after.nd rfl (Or.inl rfl) (pe_dget2 (hu_of hr) (k_fld (K := K) rfl (pe_fld (pv 0) rfl)) (pe_tup (pa_cons (pv 5) (pa_cons (pv 6) pa_nil))) (pe_tup pa_nil) ⟨rfl, rfl, rfl, rfl⟩))
            (pss_one (ps_dput (hu_of hr) (k_fld (K := K) rfl (pe_fld (pv 4) rfl)) (pe_tup (pa_cons (pv 5) (pa_cons (pv 6) pa_nil))) (pe_ifExp (pt_cmpR op_eq (pv 2) pe_str (nomark _)) (pe_op (kop_cat (K := K) rfl) (pv 8) (pe_tup (pa_cons (pv 7) pa_nil))) (pe_slice (ksl_tup (K := K) rfl) (pv 8) (po_some pe_int) po_none)) rfl)))) pss_nil)))))
      (pss_one (ps_ret (pv 4))))))))), ?_⟩
    tm_at "ev"
    unfold Th.d at hv
    rw [th_ds] at hv
    refine q_star1 hv (by cases th <;> simp [Th.args]) fun w0 pt hw hpt H1 n1 => ?_
    obtain rfl := dp_str hw
    tm_at "ev"
    intro x dx hx hdx hne
    have lv1 := lv.same n1.same
    refine ⟨N, x, dx, rfl, upd_same, lv1.notin hx, mk_live lv1 hx hdx, fun H2 r0 t0 c0 sb2 a2 m1 m2 m3 m4 m5 m6 m7 m8 m9 m10 m11 m12 => ⟨rfl, ?_⟩⟩
    have s12 : Same H1 H2 := mk_same hx hdx sb2
    have s2 : Same H H2 := n1.same.trans s12
    have xN : x ∉ N := lv1.notin hx
    have hpx : p ≠ x := fun e => by
      have := n1.same _ _ (wo_of hp).2
      rw [e, hx] at this
      cases this
    have hx0 : H x = none := n1.same.free hx
    tm_at "ev"
    -- the three copies
    refine ⟨p, a.cS, dp, _, .ref r, rfl, s2 _ _ (wo_of hp).2, T.cl_Stand, T.n_Stand_ringing, rfl, ?_⟩
    tm_at "ev"
    refine ⟨r, er.map fun e => (e.1, V.ref e.2), rfl, by rw [ring_kTV]; exact s2 _ _ (wo_of hR.at_).2, fun e he => ?_, fun nr hnr => ?_⟩
    · obtain ⟨e0, h0, rfl⟩ := List.mem_map.mp he
      exact hR.rng e0 h0
    rw [ring_kTV]
    tm_at "ev"
    have hnrx : nr ≠ x := fun e => by rw [e, a2] at hnr; cases hnr
    refine ⟨x, a.cS, dx, _, rfl, (upd_ne hnrx.symm).trans a2, T.cl_Stand, T.n_Stand_ringing, (show 3 < 1000 by decide), ?_⟩
    rw [pfS1]
    have sb3 : SameBut x H1 (upd (upd H2 nr (.dT (er.map fun e => (kk e.1, .ref e.2)))) x (.ins a.cS dx (fS nr t0 c0))) := sb_upd (sb_new (sb_same s12) hnr)
    have a3 : upd (upd H2 nr (.dT (er.map fun e => (kk e.1, .ref e.2)))) x (.ins a.cS dx (fS nr t0 c0)) x = some (.ins a.cS dx (fS nr t0 c0)) := upd_same
    have r3 : upd (upd H2 nr (.dT (er.map fun e => (kk e.1, .ref e.2)))) x (.ins a.cS dx (fS nr t0 c0)) nr = some (.dT (er.map fun e => (kk e.1, .ref e.2))) := (upd_ne hnrx).trans upd_same
    generalize upd (upd H2 nr (.dT (er.map fun e => (kk e.1, .ref e.2)))) x (.ins a.cS dx (fS nr t0 c0)) = H3 at sb3 a3 r3 ⊢
    have s13 : Same H1 H3 := sb3.none hx
    have s3 : Same H H3 := n1.same.trans s13
    tm_at "ev"
    refine ⟨p, a.cS, dp, _, .ref t, rfl, s3 _ _ (wo_of hp).2, T.cl_Stand, T.n_Stand_turned, rfl, ?_⟩
    tm_at "ev"
    refine ⟨t, et.map fun e => (e.1, V.int e.2), rfl, by rw [turn_kTV]; exact s3 _ _ (wo_of hT.at_).2, fun e he => ?_, fun nt hnt => ?_⟩
    · obtain ⟨e0, h0, rfl⟩ := List.mem_map.mp he
      exact hT.rng e0 h0
    rw [turn_kTV]
    tm_at "ev"
    have hntx : nt ≠ x := fun e => by rw [e, a3] at hnt; cases hnt
    have hntr : nr ≠ nt := fun e => by rw [← e, r3] at hnt; cases hnt
    refine ⟨x, a.cS, dx, _, rfl, (upd_ne hntx.symm).trans a3, T.cl_Stand, T.n_Stand_turned, (show 3 < 1000 by decide), ?_⟩
    rw [pfS2]
    have sb4 : SameBut x H1 (upd (upd H3 nt (.dT (et.map fun e => (kk e.1, .int e.2)))) x (.ins a.cS dx (fS nr nt c0))) := sb_upd (sb_new sb3 hnt)
    have a4 : upd (upd H3 nt (.dT (et.map fun e => (kk e.1, .int e.2)))) x (.ins a.cS dx (fS nr nt c0)) x = some (.ins a.cS dx (fS nr nt c0)) := upd_same
    have t4 : upd (upd H3 nt (.dT (et.map fun e => (kk e.1, .int e.2)))) x (.ins a.cS dx (fS nr nt c0)) nt = some (.dT (et.map fun e => (kk e.1, .int e.2))) := (upd_ne hntx).trans upd_same
    have r4 : upd (upd H3 nt (.dT (et.map fun e => (kk e.1, .int e.2)))) x (.ins a.cS dx (fS nr nt c0)) nr = some (.dT (er.map fun e => (kk e.1, .ref e.2))) := ((upd_ne hnrx).trans (upd_ne hntr)).trans r3
    have nt0 : H1 nt = none := s13.free hnt
    generalize upd (upd H3 nt (.dT (et.map fun e => (kk e.1, .int e.2)))) x (.ins a.cS dx (fS nr nt c0)) = H4 at sb4 a4 r4 t4 ⊢
    have s14 : Same H1 H4 := sb4.none hx
    have s4 : Same H H4 := n1.same.trans s14
    tm_at "ev"
    refine ⟨p, a.cS, dp, _, .ref c, rfl, s4 _ _ (wo_of hp).2, T.cl_Stand, T.n_Stand_chosen, rfl, ?_⟩
    tm_at "ev"
    refine ⟨c, _, rfl, .inl (s4 _ _ (wo_of hC.at_).2), fun nc hnc => ?_⟩
    tm_at "ev"
    have hncx : nc ≠ x := fun e => by rw [e, a4] at hnc; cases hnc
    have hncr : nr ≠ nc := fun e => by rw [← e, r4] at hnc; cases hnc
    have hnct : nt ≠ nc := fun e => by rw [← e, t4] at hnc; cases hnc
    refine ⟨x, a.cS, dx, _, rfl, (upd_ne hncx.symm).trans a4, T.cl_Stand, T.n_Stand_chosen, (show 3 < 1000 by decide), ?_⟩
    rw [pfS3]
    have nr0 : H1 nr = none := s12.free hnr
    have nc0 : H1 nc = none := s14.free hnc
    have cp : Copy K a N H1 (upd (upd H4 nc (.dK (kM ec))) x (.ins a.cS dx (fS nr nt nc))) x dx nr nt nc sd er et ec :=
      ⟨(sb_upd (sb_new sb4 hnc)).none hx, nr0, nt0, nc0, upd_same, xN, lv1.notin nr0, lv1.notin nt0, lv1.notin nc0, hntr, hncr, hnct, ((upd_ne hnrx).trans (upd_ne hncr)).trans r4, ((upd_ne hntx).trans (upd_ne hnct)).trans t4, (upd_ne hncx).trans upd_same⟩
    generalize upd (upd H4 nc (.dK (kM ec))) x (.ins a.cS dx (fS nr nt nc)) = H5 at cp ⊢
    tm_at "ev"
    have s5 : Same H H5 := n1.same.trans cp.same
    have dz := (n1.dw lv).up cp.same
    have hpt5 : pt ≠ x := fun e => by
      have := n1.at_
      obtain ⟨us, e1, _⟩ := this
      rw [e, hx] at e1
      cases e1
    cases th with
    | knob kc kv kz =>
      refine if_t (decide_eq_true rfl) ?_
      tm_at "ev"
      refine q_ixLi dz (atI_n (n := 2) rfl) ?_
      tm_at "ev"
      refine ⟨x, a.cS, dx, _, .ref nt, rfl, cp.at_, T.cl_Stand, T.n_Stand_turned, rfl, ?_⟩
      tm_at "ev"
      refine q_ixLi dz (atI_n (n := 0) rfl) ?_
      tm_at "ev"
      refine q_ixLi dz (atI_n (n := 1) rfl) ?_
      tm_at "ev"
      refine ⟨sz2, fun b hb => ?_⟩
      have s6 := same_new (o := .tup [V.int kc, V.int kv]) hb
      have cp6 := cp.up s6
      refine ⟨nt, _, rfl, .inr ⟨_, kk (kc, kv), b, cp6.t_, rfl, upd_same, by rw [List.length_map]; exact Nat.lt_of_le_of_lt zt (Nat.lt_of_le_of_lt hn (by decide)), rfl⟩, ?_⟩
      have ep := putK_map kk kk_inj V.int et (kc, kv) kz
      rw [ep]
      tm_at "ev"
      have sb7 : Same H1 (upd (upd H5 b (.tup [V.int kc, V.int kv])) nt (.dT ((putE et (kc, kv) kz).map fun e => (kk e.1, .int e.2)))) := same_mut cp6.same cp.newt
      have s7 := n1.same.trans sb7
      have x7 : nt ≠ x := fun e => by
        have h1 := cp.t_
        rw [e, cp.at_] at h1
        cases h1
      refine q x _ s7 ⟨dx, nr, nt, nc, er, putE et (kc, kv) kz, ec, wo_at xN ((upd_ne x7.symm).trans cp6.at_), ?_, ?_, ?_, Nat.le_succ_of_le zr, Nat.le_trans (putE_len _ _ _) (Nat.succ_le_succ zt), Nat.le_succ_of_le zc, sd_len _ zl⟩
      · exact ⟨wo_at cp.rN ((upd_ne cp.rt).trans cp6.r_), hR.nd, fun e he => sqT_mono (wo_same s7) (hR.val e he), hR.out, hR.rng⟩
      · refine ⟨wo_at cp.tN upd_same, putE_nd hT.nd, fun e he => ?_, fun q' hq' => ?_, fun e he => ?_⟩
        · rcases putE_mem he with rfl | ⟨h1, h2⟩
          · exact if_pos rfl
          · show (if e.1 = (kc, kv) then kz else sd.t e.1) = e.2
            rw [if_neg h2]
            exact hT.val e h1
        · obtain ⟨h1, h2⟩ := putE_out hq'
          show (if q' = (kc, kv) then kz else sd.t q') = 0
          rw [if_neg h2]
          exact hT.out q' h1
        · rcases putE_mem he with rfl | ⟨h1, h2⟩
          · exact ⟨ok.1, ok.2.1⟩
          · exact hT.rng e h1
      · exact ⟨wo_at cp.cN ((upd_ne cp.tc.symm).trans cp6.c_), hC.nd, hC.val, hC.out⟩
    | voice vc vz =>
      refine if_f (vs_ne (x := "voice") (y := "knob") (by decide)) ?_
      tm_at "ev"
      refine if_t (decide_eq_true rfl) ?_
      tm_at "ev"
      refine q_ixLi dz (atI_n (n := 1) rfl) ?_
      tm_at "ev"
      refine ⟨x, a.cS, dx, _, .ref nc, rfl, cp.at_, T.cl_Stand, T.n_Stand_chosen, rfl, ?_⟩
      tm_at "ev"
      refine q_ixLi dz (atI_n (n := 0) rfl) ?_
      refine ⟨nc, _, rfl, .inl ⟨_, .inl vc, cp.c_, rfl, by rw [kM_len]; exact Nat.lt_of_le_of_lt zc (Nat.lt_of_le_of_lt hn (by decide)), rfl⟩, ?_⟩
      have ep := putK_map (Sum.inl : Int → Key) inl_inj V.int ec vc vz
      rw [show kM ec = ec.map fun e => ((Sum.inl e.1 : Key), V.int e.2) from rfl, ep]
      tm_at "ev"
      have sb7 : Same H1 (upd H5 nc (.dK ((putE ec vc vz).map fun e => ((Sum.inl e.1 : Key), V.int e.2)))) := same_mut cp.same cp.newc
      have s7 := n1.same.trans sb7
      have x7 : nc ≠ x := fun e => by
        have h1 := cp.c_
        rw [e, cp.at_] at h1
        cases h1
      refine q x _ s7 ⟨dx, nr, nt, nc, er, et, putE ec vc vz, wo_at xN ((upd_ne x7.symm).trans cp.at_), ?_, ?_, ?_, Nat.le_succ_of_le zr, Nat.le_succ_of_le zt, Nat.le_trans (putE_len _ _ _) (Nat.succ_le_succ zc), sd_len _ zl⟩
      · exact ⟨wo_at cp.rN ((upd_ne cp.rc).trans cp.r_), hR.nd, fun e he => sqT_mono (wo_same s7) (hR.val e he), hR.out, hR.rng⟩
      · exact ⟨wo_at cp.tN ((upd_ne cp.tc).trans cp.t_), hT.nd, hT.val, hT.out, hT.rng⟩
      · refine ⟨wo_at cp.cN upd_same, putE_nd hC.nd, fun e he => ?_, fun q' hq' => ?_⟩
        · rcases putE_mem he with rfl | ⟨h1, h2⟩
          · exact if_pos rfl
          · show (if e.1 = vc then vz else sd.c e.1) = e.2
            rw [if_neg h2]
            exact hC.val e h1
        · obtain ⟨h1, h2⟩ := putE_out hq'
          show (if q' = vc then vz else sd.c q') = 0
          rw [if_neg h2]
          exact hC.out q' h1
    | mark z =>
      refine if_f (vs_ne (x := "mark") (y := "knob") (by decide)) ?_
      tm_at "ev"
      refine if_f (vs_ne (x := "mark") (y := "voice") (by decide)) ?_
      tm_at "ev"
      refine if_f (vs_eq (x := "mark")) ?_
      tm_at "ev"
      refine q x _ s5 ⟨dx, nr, nt, nc, er, et, ec, wo_at xN cp.at_, ?_, ?_, ?_, Nat.le_succ_of_le zr, Nat.le_succ_of_le zt, Nat.le_succ_of_le zc, sd_len _ zl⟩
      · exact ⟨wo_at cp.rN cp.r_, hR.nd, fun e he => sqT_mono (wo_same s5) (hR.val e he), hR.out, hR.rng⟩
      · exact ⟨wo_at cp.tN cp.t_, hT.nd, hT.val, hT.out, hT.rng⟩
      · exact ⟨wo_at cp.cN cp.c_, hC.nd, hC.val, hC.out⟩
    | on oc okk of_ =>
      refine if_f (vs_ne (x := "on") (y := "knob") (by decide)) ?_
      tm_at "ev"
      refine if_f (vs_ne (x := "on") (y := "voice") (by decide)) ?_
      tm_at "ev"
      refine if_t (vs_nn (x := "on") (y := "mark") (by decide)) ?_
      tm_at "ev"
      refine q_unL dz rfl fun us hus => ?_
      obtain ⟨v1, r1, rfl, e1, hus⟩ := dpA_cons hus
      obtain ⟨v2, r2, rfl, e2, hus⟩ := dpA_cons hus
      obtain ⟨v3, r3, rfl, e3, hus⟩ := dpA_cons hus
      obtain rfl := dpA_nil hus
      obtain rfl := dp_int e1
      obtain rfl := dp_int e2
      obtain rfl := dp_int e3
      tm_at "ev"
      refine ⟨p, a.cS, dp, _, .ref r, rfl, s5 _ _ (wo_of hp).2, T.cl_Stand, T.n_Stand_ringing, rfl, ?_⟩
      refine ⟨r, rfl, .inr ⟨_, .inl (s5 _ _ (wo_of hR.at_).2)⟩, ?_⟩
      tm_at "ev"
      refine ⟨sz2, fun b hb => ?_⟩
      have s6 := same_new (o := .tup [V.int oc, V.int okk]) hb
      have cp6 := cp.up s6
      have b6 : upd H5 b (.tup [V.int oc, V.int okk]) b = some (.tup [V.int oc, V.int okk]) := upd_same
      have s56 := s5.trans s6
      generalize upd H5 b (.tup [V.int oc, V.int okk]) = H6 at cp6 b6 s56 ⊢
      tm_at "ev"
      refine ⟨sz0, fun z hz => ?_⟩
      have s7 := same_new (o := .tup []) hz
      have cp7 := cp6.up s7
      have b7 := s7 _ _ b6
      have s57 := s56.trans s7
      have z7 : upd H6 z (.tup []) z = some (.tup []) := upd_same
      generalize upd H6 z (.tup []) = H7 at cp7 b7 s57 z7 ⊢
      have lv7 := lv.same s57
      have zN : z ∉ N := (lv.same s56).notin hz
      have key : ∃ o hv, DGet H7 r (.ref b) o ∧ o.getD (.ref z) = .ref hv ∧ Dw K N H7 (.ref hv) (.tuple ((sd.r (oc, okk)).map .int)) := by
        rcases valV_map kk kk_inj V.ref er (oc, okk) with ⟨e0, h1, h2, h3⟩ | ⟨h1, h3⟩
        · refine ⟨_, e0.2, .inr ⟨_, kk (oc, okk), b, .inl (s57 _ _ (wo_of hR.at_).2), rfl, b7, rfl⟩, by rw [h3]; rfl, ?_⟩
          rw [← h2]
          exact .tup (sqT_mono (wo_same s57) (hR.val e0 h1)) (dpA_ints _)
        · refine ⟨_, z, .inr ⟨_, kk (oc, okk), b, .inl (s57 _ _ (wo_of hR.at_).2), rfl, b7, rfl⟩, by rw [h3]; rfl, ?_⟩
          rw [hR.out _ h1]
          exact .tup (.inl (.inl (wo_at zN z7))) .nil
      obtain ⟨o, hv2, k1, k2, k3⟩ := key
      refine ⟨o, k1, ?_⟩
      rw [k2]
      tm_at "ev"
      refine if_t (decide_eq_true rfl) ?_
      tm_at "ev"
      refine ⟨sz1, fun f1 hf1 => ?_⟩
      have tf := dw_tup (K := K) lv7 (xs := [.int of_]) (ds := [.int of_]) (dpA_one (.int _)) hf1
      tm_at "ev"
      refine q_catT (lv7.same tf.1) (k3.up tf.1) tf.2 (by rw [List.length_map]; have := zl (oc, okk); simp; omega) fun nv0 H8 s8' dv => ?_
      have s8 := tf.1.trans s8'
      have cp8 := cp7.up s8
      have s58 := s57.trans s8
      obtain ⟨nv, rfl, hnv⟩ := dp_itup (l := (sd.r (oc, okk) ++ [of_])) (by rw [List.map_append]; exact dv)
      tm_at "ev"
      refine ⟨x, a.cS, dx, _, .ref nr, rfl, cp8.at_, T.cl_Stand, T.n_Stand_ringing, rfl, ?_⟩
      tm_at "ev"
      refine ⟨sz2, fun b9 hb9 => ?_⟩
      have s9 := same_new (o := .tup [V.int oc, V.int okk]) hb9
      have cp9 := cp8.up s9
      have b99 : upd H8 b9 (.tup [V.int oc, V.int okk]) b9 = some (.tup [V.int oc, V.int okk]) := upd_same
      have s59 := s58.trans s9
      generalize upd H8 b9 (.tup [V.int oc, V.int okk]) = H9 at cp9 b99 s9 s59 ⊢
      refine ⟨nr, _, rfl, .inr ⟨_, kk (oc, okk), b9, cp9.r_, rfl, b99, by rw [List.length_map]; exact Nat.lt_of_le_of_lt zr (Nat.lt_of_le_of_lt hn (by decide)), rfl⟩, ?_⟩
      have ep := putK_map kk kk_inj V.ref er (oc, okk) nv
      rw [ep]
      tm_at "ev"
      have sb7 : Same H1 (upd H9 nr (.dT ((putE er (oc, okk) nv).map fun e => (kk e.1, .ref e.2)))) := same_mut cp9.same cp.newr
      have sX := n1.same.trans sb7
      have x7 : nr ≠ x := fun e => by
        have h1 := cp.r_
        rw [e, cp.at_] at h1
        cases h1
      refine q x _ sX ⟨dx, nr, nt, nc, putE er (oc, okk) nv, et, ec, wo_at xN ((upd_ne x7.symm).trans cp9.at_), ?_, ?_, ?_, Nat.le_trans (putE_len _ _ _) (Nat.succ_le_succ zr), Nat.le_succ_of_le zt, Nat.le_succ_of_le zc, sd_len _ zl⟩
      · refine ⟨wo_at cp.rN upd_same, putE_nd hR.nd, fun e he => ?_, fun q' hq' => ?_, fun e he => ?_⟩
        · rcases putE_mem he with rfl | ⟨h1, h2⟩
          · show SqT K _ nv ((if (oc, okk) = (oc, okk) then (sd.r (oc, okk) ++ [of_]) else sd.r (oc, okk)).map V.int)
            rw [if_pos rfl]
            exact sqT_upd (sqT_mono (wo_same s9) hnv) cp9.r_
          · show SqT K _ e.2 ((if e.1 = (oc, okk) then _ else sd.r e.1).map V.int)
            rw [if_neg h2]
            exact sqT_mono (wo_same sX) (hR.val e h1)
        · obtain ⟨h1, h2⟩ := putE_out hq'
          show (if q' = (oc, okk) then _ else sd.r q') = []
          rw [if_neg h2]
          exact hR.out q' h1
        · rcases putE_mem he with rfl | ⟨h1, h2⟩
          · exact ⟨ok.1, ok.2.1⟩
          · exact hR.rng e h1
      · exact ⟨wo_at cp.tN ((upd_ne cp.rt.symm).trans cp9.t_), hT.nd, hT.val, hT.out, hT.rng⟩
      · exact ⟨wo_at cp.cN ((upd_ne cp.rc.symm).trans cp9.c_), hC.nd, hC.val, hC.out⟩
    | off oc okk of_ =>
      refine if_f (vs_ne (x := "off") (y := "knob") (by decide)) ?_
      tm_at "ev"
      refine if_f (vs_ne (x := "off") (y := "voice") (by decide)) ?_
      tm_at "ev"
      refine if_t (vs_nn (x := "off") (y := "mark") (by decide)) ?_
      tm_at "ev"
      refine q_unL dz rfl fun us hus => ?_
      obtain ⟨v1, r1, rfl, e1, hus⟩ := dpA_cons hus
      obtain ⟨v2, r2, rfl, e2, hus⟩ := dpA_cons hus
      obtain ⟨v3, r3, rfl, e3, hus⟩ := dpA_cons hus
      obtain rfl := dpA_nil hus
      obtain rfl := dp_int e1
      obtain rfl := dp_int e2
      obtain rfl := dp_int e3
      tm_at "ev"
      refine ⟨p, a.cS, dp, _, .ref r, rfl, s5 _ _ (wo_of hp).2, T.cl_Stand, T.n_Stand_ringing, rfl, ?_⟩
      refine ⟨r, rfl, .inr ⟨_, .inl (s5 _ _ (wo_of hR.at_).2)⟩, ?_⟩
      tm_at "ev"
      refine ⟨sz2, fun b hb => ?_⟩
      have s6 := same_new (o := .tup [V.int oc, V.int okk]) hb
      have cp6 := cp.up s6
      have b6 : upd H5 b (.tup [V.int oc, V.int okk]) b = some (.tup [V.int oc, V.int okk]) := upd_same
      have s56 := s5.trans s6
      generalize upd H5 b (.tup [V.int oc, V.int okk]) = H6 at cp6 b6 s56 ⊢
      tm_at "ev"
      refine ⟨sz0, fun z hz => ?_⟩
      have s7 := same_new (o := .tup []) hz
      have cp7 := cp6.up s7
      have b7 := s7 _ _ b6
      have s57 := s56.trans s7
      have z7 : upd H6 z (.tup []) z = some (.tup []) := upd_same
      generalize upd H6 z (.tup []) = H7 at cp7 b7 s57 z7 ⊢
      have lv7 := lv.same s57
      have zN : z ∉ N := (lv.same s56).notin hz
      have key : ∃ o hv, DGet H7 r (.ref b) o ∧ o.getD (.ref z) = .ref hv ∧ Dw K N H7 (.ref hv) (.tuple ((sd.r (oc, okk)).map .int)) := by
        rcases valV_map kk kk_inj V.ref er (oc, okk) with ⟨e0, h1, h2, h3⟩ | ⟨h1, h3⟩
        · refine ⟨_, e0.2, .inr ⟨_, kk (oc, okk), b, .inl (s57 _ _ (wo_of hR.at_).2), rfl, b7, rfl⟩, by rw [h3]; rfl, ?_⟩
          rw [← h2]
          exact .tup (sqT_mono (wo_same s57) (hR.val e0 h1)) (dpA_ints _)
        · refine ⟨_, z, .inr ⟨_, kk (oc, okk), b, .inl (s57 _ _ (wo_of hR.at_).2), rfl, b7, rfl⟩, by rw [h3]; rfl, ?_⟩
          rw [hR.out _ h1]
          exact .tup (.inl (.inl (wo_at zN z7))) .nil
      obtain ⟨o, hv2, k1, k2, k3⟩ := key
      refine ⟨o, k1, ?_⟩
      rw [k2]
      tm_at "ev"
      refine if_f (vs_ne (x := "off") (y := "on") (by decide)) ?_
      tm_at "ev"
      refine q_slT 1 lv7 k3 fun nv0 H8 s8 dv => ?_
      have cp8 := cp7.up s8
      have s58 := s57.trans s8
      obtain ⟨nv, rfl, hnv⟩ := dp_itup (l := ((sd.r (oc, okk)).drop 1)) (by rw [List.map_drop]; exact dv)
      tm_at "ev"
      refine ⟨x, a.cS, dx, _, .ref nr, rfl, cp8.at_, T.cl_Stand, T.n_Stand_ringing, rfl, ?_⟩
      tm_at "ev"
      refine ⟨sz2, fun b9 hb9 => ?_⟩
      have s9 := same_new (o := .tup [V.int oc, V.int okk]) hb9
      have cp9 := cp8.up s9
      have b99 : upd H8 b9 (.tup [V.int oc, V.int okk]) b9 = some (.tup [V.int oc, V.int okk]) := upd_same
      have s59 := s58.trans s9
      generalize upd H8 b9 (.tup [V.int oc, V.int okk]) = H9 at cp9 b99 s9 s59 ⊢
      refine ⟨nr, _, rfl, .inr ⟨_, kk (oc, okk), b9, cp9.r_, rfl, b99, by rw [List.length_map]; exact Nat.lt_of_le_of_lt zr (Nat.lt_of_le_of_lt hn (by decide)), rfl⟩, ?_⟩
      have ep := putK_map kk kk_inj V.ref er (oc, okk) nv
      rw [ep]
      tm_at "ev"
      have sb7 : Same H1 (upd H9 nr (.dT ((putE er (oc, okk) nv).map fun e => (kk e.1, .ref e.2)))) := same_mut cp9.same cp.newr
      have sX := n1.same.trans sb7
      have x7 : nr ≠ x := fun e => by
        have h1 := cp.r_
        rw [e, cp.at_] at h1
        cases h1
      refine q x _ sX ⟨dx, nr, nt, nc, putE er (oc, okk) nv, et, ec, wo_at xN ((upd_ne x7.symm).trans cp9.at_), ?_, ?_, ?_, Nat.le_trans (putE_len _ _ _) (Nat.succ_le_succ zr), Nat.le_succ_of_le zt, Nat.le_succ_of_le zc, sd_len _ zl⟩
      · refine ⟨wo_at cp.rN upd_same, putE_nd hR.nd, fun e he => ?_, fun q' hq' => ?_, fun e he => ?_⟩
        · rcases putE_mem he with rfl | ⟨h1, h2⟩
          · show SqT K _ nv ((if (oc, okk) = (oc, okk) then ((sd.r (oc, okk)).drop 1) else sd.r (oc, okk)).map V.int)
            rw [if_pos rfl]
            exact sqT_upd (sqT_mono (wo_same s9) hnv) cp9.r_
          · show SqT K _ e.2 ((if e.1 = (oc, okk) then _ else sd.r e.1).map V.int)
            rw [if_neg h2]
            exact sqT_mono (wo_same sX) (hR.val e h1)
        · obtain ⟨h1, h2⟩ := putE_out hq'
          show (if q' = (oc, okk) then _ else sd.r q') = []
          rw [if_neg h2]
          exact hR.out q' h1
        · rcases putE_mem he with rfl | ⟨h1, h2⟩
          · exact ⟨ok.1, ok.2.1⟩
          · exact hR.rng e h1
      · exact ⟨wo_at cp.tN ((upd_ne cp.rt.symm).trans cp9.t_), hT.nd, hT.val, hT.out, hT.rng⟩
      · exact ⟨wo_at cp.cN ((upd_ne cp.rc.symm).trans cp9.c_), hC.nd, hC.val, hC.out⟩
end
end Tp
set_option maxHeartbeats 2000000
namespace Tp
open PySem PySem.Spec PyProof.Rows L2
/-! ### a comprehension with two loops, no tests -/
abbrev InB (g1 : TG) (te : TE) (vs1 : List Nat) (D : Addr) (Nx : Hp → Prop) (σ2 : L2.St) (J1 : It) (H4 : Hp) : Prop :=
  ∃ W1 : Nat → Nat → Hp → Prop, (∃ m, W1 0 m H4) ∧ ∀ j k H, W1 j k H → (J1.stop j H ∧ Nx H) ∨ (J1.go j H ∧ ∃ Nx1 : Hp → Prop, (∀ H', Nx1 H' → ∃ k', k' < k ∧ W1 (j + 1) k' H') ∧ ∀ x H', J1.yld j H x H' →
    g1 x (wipe σ2 vs1) H' fun σ3 H5 => wipe σ3 vs1 = wipe σ2 vs1 ∧ tYes σ3 H5 fun b H6 => if b = true then te σ3 H6 fun y H7 => ∃ acc, H7 D = some (.lst acc) ∧ acc.length < sizeLine ∧ Nx1 (upd H7 D (.lst (acc ++ [y]))) else Nx1 H6)
section
variable {K : PySem.W.Frag} {G H H1 : Hp} {a b D : Addr} {xs vals : List V}
theorem inner_loop {g1 : TG} {te : TE} {vs1 : List Nat} {σ2 : L2.St} {Nx : Hp → Prop} (hq : SqT K G b vals) (Pv : Nat → Hp → Prop) (h0 : Pv 0 H) (sm : ∀ j H, Pv j H → Same G H)
    (turn : ∀ j x H, vals[j]? = some x → Pv j H → g1 x (wipe σ2 vs1) H fun σ3 H5 => wipe σ3 vs1 = wipe σ2 vs1 ∧ te σ3 H5 fun y H7 => ∃ acc, H7 D = some (.lst acc) ∧ acc.length < sizeLine ∧ Pv (j + 1) (upd H7 D (.lst (acc ++ [y]))))
    (done : ∀ H, Pv vals.length H → Nx H) : InB g1 te vs1 D Nx σ2 (Itt K b) H := by
  have R := runs_t hq
  refine ⟨fun j k H => k = vals.length - j ∧ j ≤ vals.length ∧ Pv j H, ⟨vals.length, rfl, Nat.zero_le _, h0⟩, ?_⟩
  rintro j k H ⟨rfl, hj, p⟩
  by_cases hlt : j < vals.length
  · refine .inr ⟨R.go j _ H (sm j H p) (List.getElem?_eq_getElem hlt), Pv (j + 1), fun H' p' => ⟨vals.length - (j + 1), by omega, rfl, hlt, p'⟩, fun x H' y => ?_⟩
    obtain ⟨rfl, hx⟩ := R.yld j H x H' (sm j H p) y
    exact turn j x _ hx p
  · have e : j = vals.length := by omega
    subst e
    exact .inl ⟨R.stop _ H (sm _ H p) (Nat.le_refl _), done H p⟩
theorem outer_loop {g g1 : TG} {wi1 : TI} {te : TE} {vs vs1 : List Nat} {σ : L2.St} {Qd : Hp → Prop} (hq : SqL K G a xs) (Pv : Nat → Hp → Prop) (h0 : Pv 0 (upd H1 D (.lst []))) (sm : ∀ j H, Pv j H → Same G H)
    (turn : ∀ i x H, xs[i]? = some x → Pv i H → g x (wipe σ vs) H fun σ2 H2 => wipe σ2 vs = wipe σ vs ∧ wi1 σ2 H2 (InB g1 te vs1 D (Pv (i + 1)) σ2)) (done : ∀ H, Pv xs.length H → Qd H) :
    ∃ W : Nat → Nat → Hp → Prop, (∃ m, W 0 m (upd H1 D (.lst []))) ∧ ∀ i m H, W i m H → ((Itl K a).stop i H ∧ Qd H) ∨ ((Itl K a).go i H ∧ ∃ Nx : Hp → Prop, (∀ H', Nx H' → ∃ m', m' < m ∧ W (i + 1) m' H') ∧ ∀ x H', (Itl K a).yld i H x H' →
      g x (wipe σ vs) H' fun σ2 H2 => wipe σ2 vs = wipe σ vs ∧ tYes σ2 H2 fun b H3 => if b = true then wi1 σ2 H3 (InB g1 te vs1 D Nx σ2) else Nx H3) := by
  have R := runs_l hq
  refine ⟨fun i m H => m = xs.length - i ∧ i ≤ xs.length ∧ Pv i H, ⟨xs.length, rfl, Nat.zero_le _, h0⟩, ?_⟩
  rintro i m H ⟨rfl, hi, p⟩
  by_cases hlt : i < xs.length
  · refine .inr ⟨R.go i _ H (sm i H p) (List.getElem?_eq_getElem hlt), Pv (i + 1), fun H' p' => ⟨xs.length - (i + 1), by omega, rfl, hlt, p'⟩, fun x H' y => ?_⟩
    obtain ⟨rfl, hx⟩ := R.yld i H x H' (sm i H p) y
    exact turn i x _ hx p
  · have e : i = xs.length := by omega
    subst e
    exact .inl ⟨R.stop _ H (sm _ H p) (Nat.le_refl _), done H p⟩
/-- a comprehension over a list whose items R tells of, with a test -/
theorem lc_gen {α : Type} {g : TG} {tt : TT} {te : TE} {vs : List Nat} {σ : L2.St} {Qd : Hp → Prop} (N : List Addr) (es : List α) (R : α → V → Prop) (keep : α → Bool) (out : α → PyData)
    (hx : SqL K H1 a xs) (hp : Paired R es xs) (hD : H1 D = none) (hz : es.length ≤ 100000) (lv : Live N H1)
    (turn : ∀ e ∈ es, ∀ x H, Same H1 H → Live (D :: N) H → R e x → ∀ (Rn : Hp → Prop) (Y : V → Hp → Prop), (keep e = false → ∀ H', Same H H' → Rn H') →
      (keep e = true → ∀ y H', Same H H' → Dw K (D :: N) H' y (out e) → Y y H') → g x (wipe σ vs) H fun σ2 H2 => wipe σ2 vs = wipe σ vs ∧ tt σ2 H2 fun b H3 => if b = true then te σ2 H3 Y else Rn H3)
    (done : ∀ H', NewL K N H1 H' D ((es.filter keep).map out) → Qd H') :
    ∃ W : Nat → Nat → Hp → Prop, (∃ m, W 0 m (upd H1 D (.lst []))) ∧ ∀ i m H, W i m H →
      ((Itl K a).stop i H ∧ Qd H) ∨ ((Itl K a).go i H ∧ ∃ Nx : Hp → Prop, (∀ H', Nx H' → ∃ m', m' < m ∧ W (i + 1) m' H') ∧ ∀ x H', (Itl K a).yld i H x H' → g x (wipe σ vs) H' fun σ2 H2 => wipe σ2 vs = wipe σ vs ∧ tt σ2 H2 fun b H3 =>
        if b = true then te σ2 H3 fun y H4 => ∃ acc, H4 D = some (.lst acc) ∧ acc.length < sizeLine ∧ Nx (upd H4 D (.lst (acc ++ [y]))) else Nx H3) := by
  have ln : es.length = xs.length := Paired.length hp
  refine lc_list (K := K) (a := a) (xs := xs) (fun i H => ∃ ys, Same H1 H ∧ H D = some (.lst ys) ∧ DpAll K (wo (D :: N) H) ys (((es.take i).filter keep).map out)) ⟨[], same_new hD, upd_same, .nil⟩ (fun i H _ ⟨_, s, _⟩ => s.seq hx) ?_ ?_
  · rintro i x H hi ⟨ys, s, hH, hys⟩
    obtain ⟨e, he, hr⟩ := L2.DX.pget hp hi
    have ly : ys.length ≤ i := by
      have q := dpA_len hys
      rw [List.length_map] at q
      have q2 := List.length_filter_le keep (es.take i)
      rw [List.length_take] at q2
      omega
    have li : i < es.length := (List.getElem?_eq_some_iff.mp he).1
    refine turn e (List.mem_of_getElem? he) x H s ((lv.same s).cons hH) hr _ _ (fun hk H' s' => ?_) fun hk y H' s' hy => ?_
    · refine ⟨ys, s.trans s', s' _ _ hH, ?_⟩
      rw [take_up he, List.filter_append, List.filter_cons_of_neg (by rw [hk]; decide), List.filter_nil, List.append_nil]
      exact dpA_mono (wo_same s') hys
    · refine ⟨ys, s' _ _ hH, Nat.lt_of_le_of_lt ly (Nat.lt_of_lt_of_le li (Nat.le_trans hz (by decide))), ys ++ [y], same_mut (s.trans s') hD, upd_same, ?_⟩
      rw [take_up he, List.filter_append, List.filter_cons_of_pos hk, List.filter_nil, List.map_append]
      exact dpA_app (dpA_mono ((wo_same s').trans (wo_mut List.mem_cons_self)) hys) (.cons (dp_mono (wo_mut List.mem_cons_self) hy) .nil)
  · rintro H ⟨ys, s, hH, hys⟩
    refine done H ⟨s, hD, ys, hH, ?_⟩
    rw [List.take_of_length_le (by omega)] at hys
    exact hys
end
theorem ev_lc2 {wi wi1 : TI} {g g1 : TG} {te : TE} {vs vs1 : List Nat} {σ : L2.St} {H : Hp} {Q : VK} (q : wi σ H fun J H1 => ∀ D : Addr, H1 D = none → ∃ W : Nat → Nat → Hp → Prop, (∃ m, W 0 m (upd H1 D (.lst []))) ∧ ∀ i m H, W i m H → (J.stop i H ∧ Q (.ref D) H) ∨ (J.go i H ∧ ∃ Nx : Hp → Prop, (∀ H', Nx H' → ∃ m', m' < m ∧ W (i + 1) m' H') ∧
    ∀ x H', J.yld i H x H' → g x (wipe σ vs) H' fun σ2 H2 => wipe σ2 vs = wipe σ vs ∧ tYes σ2 H2 fun b H3 => if b = true then wi1 σ2 H3 (InB g1 te vs1 D Nx σ2) else Nx H3)) : tLc2 wi g tYes wi1 g1 tYes te vs vs1 σ H Q := q
end Tp
set_option maxHeartbeats 4000000
namespace Tp
open PySem PySem.Spec PyProof.Rows L2
local macro_rules | `(tactic| tm_at "ev") => `(tactic| repeat first
  | with_reducible refine ev_seq ?_ | with_reducible refine ev_asg ?_ | with_reducible refine ev_drop ?_ | with_reducible refine ev_ret ?_ | with_reducible refine ev_ifS ?_ | with_reducible refine ev_next ?_
  | ((with_reducible refine' ev_var ?k1 ?_); (case k1 => exact rfl)) | with_reducible refine ev_c ?_ | with_reducible refine ev_op ?_ | with_reducible refine ev_I0 ?_ | with_reducible refine ev_test ?_ | with_reducible refine ev_B ?_ | with_reducible refine ev_bl ?_
  | ((with_reducible refine ev_eq ?k1 ?_); (case k1 => exact rfl)) | ((with_reducible refine ev_ne ?k1 ?_); (case k1 => exact rfl))
  | ((with_reducible refine' ev_nameL ?k1 ?_); (case k1 => first | (dsimp only [L2.start, wipe, List.map, List.set, List.length, List.replicate, List.append]; exact rfl) | exact rfl)) | with_reducible refine ev_name ?_ | with_reducible refine ev_nil ?_ | with_reducible refine ev_cons ?_ | with_reducible refine ev_call ?_ | with_reducible refine ev_tup ?_ | with_reducible refine ev_lst ?_ | with_reducible refine ev_CB ?_ | with_reducible refine ev_fld ?_
  | with_reducible refine ev_not ?_ | with_reducible refine ev_and ?_ | with_reducible refine ev_or ?_ | with_reducible refine ev_andV ?_ | with_reducible refine ev_orV ?_ | with_reducible refine ev_ifE ?_ | with_reducible refine ev_chain ?_ | with_reducible refine ev_meth ?_ | with_reducible refine ev_un ?_
  | with_reducible refine ev_sl ?_ | with_reducible refine ev_part ?_ | with_reducible refine ev_nopart ?_ | with_reducible refine ev_int ?_ | with_reducible refine ev_for ?_ | with_reducible refine ev_list ?_ | with_reducible refine ev_lc ?_ | with_reducible refine ev_gcons ?_ | with_reducible refine ev_gnil ?_ | with_reducible refine ev_sfld ?_ | with_reducible refine ev_make ?_ | with_reducible refine ev_notV ?_ | with_reducible refine ev_yes ?_ | with_reducible refine ev_dget ?_ | with_reducible refine ev_dput ?_ | with_reducible refine ev_bm ?_ | with_reducible refine ev_bm0 ?_ | with_reducible refine ev_items ?_ | with_reducible refine ev_keys ?_ | with_reducible refine ev_enum ?_ | with_reducible refine ev_tupI ?_ | with_reducible refine ev_par ?_ | with_reducible refine ev_two ?_ | with_reducible refine ev_kget ?_ | with_reducible refine ev_gsub ?_ | with_reducible refine ev_tapeK ?_ | with_reducible refine ev_str ?_ | with_reducible refine ev_txt ?_ | with_reducible refine ev_lc2 ?_ | with_reducible refine ev_dget2 ?_ | with_reducible refine ev_rU ?_ | with_reducible refine ev_ckw ?_ | with_reducible refine ev_dnotin ?_ | with_reducible refine ev_din ?_ | with_reducible refine ev_gfld ?_ | with_reducible refine ev_saug ?_ | with_reducible refine ev_finN ?_)
section
variable {P : Program} {w : World} {K : PySem.W.Frag} {mg : Str → Option Value} {base : Heap} {a : Ad}
/-! ### Stand.sounds -/
def StrictLex (l : Ps) : Prop := l.Pairwise fun x y => x.1 < y.1 ∨ (x.1 = y.1 ∧ x.2 < y.2)
def outS (s : Sd) (q : Int × Int) : List Tri := (s.r q).map fun f => (q.1, q.2, f)
structure IsSounds (s : Sd) (l : List Tri) : Prop where
  ex : ∃ ys : Ps, StrictLex ys ∧ (∀ q ∈ ys, InR q) ∧ (∀ q, s.r q ≠ [] → q ∈ ys) ∧ l = ys.flatMap (outS s)
theorem strict_of {ys : Ps} (s : ys.Pairwise lexLe) (nd : ys.Nodup) : StrictLex ys := by
  refine (s.and nd).imp fun {x y} ⟨h1, h2⟩ => ?_
  have := SrtO.lexB_no.mp h1
  by_cases e : x.1 = y.1
  · right
    refine ⟨e, ?_⟩
    by_cases e2 : x.2 = y.2
    · exact absurd (Prod.ext e e2) h2
    · omega
  · left
    omega
theorem flat_len {s : Sd} {n : Nat} (h : ∀ q, (s.r q).length ≤ n) : ∀ l : Ps, (l.flatMap (outS s)).length ≤ l.length * n
  | [] => Nat.zero_le _
  | q :: l => by
    rw [List.flatMap_cons, List.length_append, List.length_cons, Nat.succ_mul]
    have h1 := flat_len h l
    have h2 : (outS s q).length ≤ n := by
      unfold outS
      rw [List.length_map]
      exact h q
    omega
def sp_Stand_sounds (ad : Ad) (K : PySem.W.Frag) : Sp := fun vs H Q _ => ∃ (N : List Addr) (p : Addr) (s : Sd) (n : Nat), vs = [.ref p] ∧ Live N H ∧ StandAt ad K (wo N H) p s n ∧ n ≤ 900 ∧ ∀ l r H', IsSounds s l → NewL K N H H' r (l.map triD) → Q (.ref r) H'
theorem sc_Stand_sounds : FnScope ["self", "place", "force"] ["self"] (defScope s_Stand_sounds) := ⟨rfl, rfl, rfl, by decide +kernel, rfl, by decide +kernel, by decide +kernel⟩
theorem ok_Stand_sounds (T : Tx w K mg a) : C8.Met P w K mg base 1 a.cS "sounds" (sp_Stand_sounds a K) [] := by
  refine metD T.cl_Stand T.d_Stand_sounds sc_Stand_sounds (fun _ _ _ _ _ _ us hl => match us, hl with | [_], _ => rfl) (fun vs H Q E h => ?_) (fun f cdv A outer s H vs Q E hr h => ?_)
  · obtain ⟨N, p, sd, n, rfl, _⟩ := h
    rfl
  · obtain ⟨N, p, sd, n, rfl, lv, ⟨dp, r, t, c, er, et, ec, hp, hR, hT, hC, zr, zt, zc, zl⟩, hn, q⟩ := h
    refine ⟨_, (pss_one (ps_ret (pe_lc2 (own := [("place", 1), ("force", 2)]) (vs1 := [2]) rfl sc_Stand_sounds.nd (k_list (K := K) rfl (pi_list (pe_callB (call_sortedT rfl) rfl T.f_sorted (by decide +kernel) (pa_cons (k_fld (K := K) rfl (pe_fld (pv 0) rfl)) pa_nil)))) (blkOk_by (own := [("place", 1), ("force", 2)]) (N := ["self", "place", "force"]) (sc := defScope s_Stand_sounds) (by decide +kernel)) (by decide) (fun _ _ _ _ _ => pg_name (i := 1) sc_Stand_sounds.nd rfl (Or.inl rfl)) (fun _ _ _ _ _ => pts_nil) (fun _ _ _ _ _ => k_tup (K := K) rfl (pi_tup (pe_dget (hu_of hr) (k_fld (K := K) rfl (pe_fld (pv 0) rfl)) (pv 1) (fun _ _ => rfl)))) (fun _ _ _ _ _ => pg_name (i := 2) sc_Stand_sounds.nd rfl (Or.inl rfl)) (fun _ _ _ _ _ => pts_nil) (fun _ _ _ _ _ => pe_op (kop_cat (K := K) rfl) (pv 1) (pe_tup (pa_cons (pv 2) pa_nil)))))), ?_⟩
    tm_at "ev"
    have hp' := (wo_of hp).2
    have hr' := (wo_of hR.at_).2
    refine ⟨p, a.cS, dp, _, .ref r, rfl, hp', T.cl_Stand, T.n_Stand_ringing, rfl, ?_⟩
    tm_at "ev"
    refine ⟨r, er.map fun e => (e.1, V.ref e.2), rfl, by rw [ring_kTV]; exact hr', by rw [List.length_map]; omega, fun ys ts l0 hperm hsrt hl0 hts => ?_⟩
    rw [List.map_map] at hperm
    have hperm' : ys.Perm (er.map (·.1)) := hperm
    have nd : ys.Nodup := hperm'.nodup_iff.mpr hR.nd
    have hlen : ys.length ≤ n := by
      have := hperm'.length_eq
      rw [List.length_map] at this
      omega
    have s1 : Same H (upd H l0 (.lst (ts.map V.ref))) := same_new hl0
    have hl1 : upd H l0 (.lst (ts.map V.ref)) l0 = some (.lst (ts.map V.ref)) := upd_same
    have lv1 := lv.same s1
    generalize upd H l0 (.lst (ts.map V.ref)) = H1 at s1 hl1 lv1 ⊢
    refine ⟨l0, rfl, ⟨_, .inl (.inl hl1)⟩, fun D hD => ?_⟩
    have lt := Paired.length hts
    have snd : IsSounds sd (ys.flatMap (outS sd)) := by
      refine ⟨ys, strict_of hsrt nd, fun q' hq => ?_, fun q' hq => ?_, rfl⟩
      · obtain ⟨e, he, rfl⟩ := List.mem_map.mp (hperm'.mem_iff.mp hq)
        exact hR.rng e he
      · by_cases hm : q' ∈ er.map (·.1)
        · exact hperm'.mem_iff.mpr hm
        · exact absurd (hR.out q' hm) hq
    refine outer_loop (K := K) (G := H1) (xs := ts.map V.ref) (.inl (.inl hl1)) (fun i H' => ∃ acc, Same H1 H' ∧ H' D = some (.lst acc) ∧ DpAll K (wo (D :: N) H') acc (((ys.take i).flatMap (outS sd)).map triD)) ⟨[], same_new hD, upd_same, .nil⟩ (fun _ _ h => h.choose_spec.1) ?_ ?_
    · rintro i x H2 hx ⟨acc, s2, hD2, hacc⟩
      rw [List.getElem?_map] at hx
      cases ht : ts[i]? with
      | none =>
        rw [ht] at hx
        cases hx
      | some t0 =>
        rw [ht] at hx
        cases hx
        obtain ⟨qq, hq, hqt⟩ := LiI.paired_get hts ht
        have hqm : qq ∈ er.map (·.1) := hperm'.mem_iff.mp (List.mem_of_getElem? hq)
        have hs2 := s1.trans s2
        tm_at "ev"
        refine ⟨rfl, ?_⟩
        tm_at "ev"
        refine ⟨p, a.cS, dp, _, .ref r, rfl, hs2 _ _ hp', T.cl_Stand, T.n_Stand_ringing, rfl, ?_⟩
        tm_at "ev"
        rcases valV_map kk kk_inj V.ref er qq with ⟨e0, h1, h2, h3⟩ | ⟨h1, _⟩
        · have hval := hR.val e0 h1
          rw [h2] at hval
          refine ⟨r, .ref e0.2, rfl, .inr ⟨_, kk qq, t0, .inl (hs2 _ _ hr'), rfl, hs2 _ _ hqt, h3.symm⟩, ?_⟩
          have hvR := sqT_mono (wo_sub.trans s1) hval
          refine ⟨e0.2, rfl, ⟨_, sqT_mono s2 hvR⟩, ?_⟩
          have hi : i < ys.length := (List.getElem?_eq_some_iff.mp hq).1
          have zacc : acc.length ≤ ys.length * n := by
            rw [dpA_len hacc, List.length_map]
            exact Nat.le_trans (flat_len zl _) (Nat.mul_le_mul_right _ (by rw [List.length_take]; exact Nat.min_le_right _ _))
          refine inner_loop (K := K) (G := H1) hvR (fun j H' => ∃ acc', Same H1 H' ∧ H' D = some (.lst acc') ∧ DpAll K (wo (D :: N) H') acc' (((ys.take i).flatMap (outS sd) ++ ((sd.r qq).take j).map fun f => (qq.1, qq.2, f)).map triD)) ⟨acc, s2, hD2, by rw [List.take_zero, List.map_nil, List.append_nil]; exact hacc⟩ (fun _ _ h => h.choose_spec.1) ?_ ?_
          · rintro j x3 H3 hx3 ⟨acc3, s3, hD3, hacc3⟩
            rw [List.getElem?_map] at hx3
            cases hf : (sd.r qq)[j]? with
            | none =>
              rw [hf] at hx3
              cases hx3
            | some fz =>
              rw [hf] at hx3
              cases hx3
              have lv3 : Live (D :: N) H3 := (lv1.same s3).cons hD3
              tm_at "ev"
              refine ⟨rfl, ?_⟩
              tm_at "ev"
              refine ⟨sz1, fun p2 hp2 => ?_⟩
              have s4 := same_new (o := .tup [V.int fz]) hp2
              refine ⟨t0, p2, [.int qq.1, .int qq.2], [.int fz], rfl, rfl, .inl (.inl (s4 _ _ (s3 _ _ (s1 _ _ hqt)))), .inl (.inl upd_same), (show 3 ≤ 2 ^ 24 by decide), (fun e => by cases e), (fun _ e => by cases e), fun _ _ p3 hp3 => ?_⟩
              have lv4 := lv3.same s4
              have t5 := dw_tup (K := K) lv4 (xs := [.int qq.1, .int qq.2, .int fz]) (ds := [.int qq.1, .int qq.2, .int fz]) (.cons (.int _) (.cons (.int _) (.cons (.int _) .nil))) hp3
              have s35 := s4.trans t5.1
              have zj : j < n := Nat.lt_of_lt_of_le (List.getElem?_eq_some_iff.mp hf).1 (zl qq)
              refine ⟨acc3, s35 _ _ hD3, ?_, acc3 ++ [.ref p3], same_mut (s3.trans s35) hD, upd_same, ?_⟩
              · rw [dpA_len hacc3, List.length_map, List.length_append, List.length_map, List.length_take]
                have h4 := flat_len zl (ys.take i)
                have h5 : (ys.take i).length * n ≤ 900 * 900 := Nat.mul_le_mul (by rw [List.length_take]; omega) hn
                exact Nat.lt_of_lt_of_le (by omega : _ < 1000000) (by decide)
              · have el : ((ys.take i).flatMap (outS sd) ++ ((sd.r qq).take (j + 1)).map fun f => (qq.1, qq.2, f)).map triD = ((ys.take i).flatMap (outS sd) ++ ((sd.r qq).take j).map fun f => (qq.1, qq.2, f)).map triD ++ [triD (qq.1, qq.2, fz)] := by
                  rw [take_up hf]
                  simp only [List.map_append, List.append_assoc, List.map_cons, List.map_nil]
                rw [el]
                exact dpA_app (dpA_mono ((wo_same s35).trans (wo_mut List.mem_cons_self)) hacc3) (.cons (dp_mono (wo_mut List.mem_cons_self) t5.2) .nil)
          · rintro H3 ⟨acc3, s3, hD3, hacc3⟩
            rw [List.length_map, List.take_of_length_le (Nat.le_refl _)] at hacc3
            refine ⟨acc3, s3, hD3, ?_⟩
            rw [take_up hq, List.flatMap_append, List.flatMap_singleton]
            exact hacc3
        · exact absurd hqm h1
    · rintro H2 ⟨acc, s2, hD2, hacc⟩
      rw [List.length_map, lt, List.take_of_length_le (Nat.le_refl _)] at hacc
      exact q _ _ _ snd ((⟨s2, hD, acc, hD2, hacc⟩ : NewL K N H1 H2 D _).back s1)
end
end Tp
set_option maxHeartbeats 4000000
namespace Tp
open PySem PySem.Spec PyProof.Rows L2
local macro_rules | `(tactic| tm_at "ev") => `(tactic| repeat first
  | with_reducible refine ev_seq ?_ | with_reducible refine ev_asg ?_ | with_reducible refine ev_drop ?_ | with_reducible refine ev_ret ?_ | with_reducible refine ev_ifS ?_ | with_reducible refine ev_next ?_
  | ((with_reducible refine' ev_var ?k1 ?_); (case k1 => exact rfl)) | with_reducible refine ev_c ?_ | with_reducible refine ev_op ?_ | with_reducible refine ev_I0 ?_ | with_reducible refine ev_test ?_ | with_reducible refine ev_B ?_ | with_reducible refine ev_bl ?_
  | ((with_reducible refine ev_eq ?k1 ?_); (case k1 => exact rfl)) | ((with_reducible refine ev_ne ?k1 ?_); (case k1 => exact rfl))
  | ((with_reducible refine' ev_nameL ?k1 ?_); (case k1 => first | (dsimp only [L2.start, wipe, List.map, List.set, List.length, List.replicate, List.append]; exact rfl) | exact rfl)) | with_reducible refine ev_name ?_ | with_reducible refine ev_nil ?_ | with_reducible refine ev_cons ?_ | with_reducible refine ev_call ?_ | with_reducible refine ev_tup ?_ | with_reducible refine ev_lst ?_ | with_reducible refine ev_CB ?_ | with_reducible refine ev_fld ?_
  | with_reducible refine ev_not ?_ | with_reducible refine ev_and ?_ | with_reducible refine ev_or ?_ | with_reducible refine ev_andV ?_ | with_reducible refine ev_orV ?_ | with_reducible refine ev_ifE ?_ | with_reducible refine ev_chain ?_ | with_reducible refine ev_meth ?_ | with_reducible refine ev_un ?_
  | with_reducible refine ev_sl ?_ | with_reducible refine ev_part ?_ | with_reducible refine ev_nopart ?_ | with_reducible refine ev_int ?_ | with_reducible refine ev_for ?_ | with_reducible refine ev_list ?_ | with_reducible refine ev_lc ?_ | with_reducible refine ev_gcons ?_ | with_reducible refine ev_gnil ?_ | with_reducible refine ev_sfld ?_ | with_reducible refine ev_make ?_ | with_reducible refine ev_notV ?_ | with_reducible refine ev_yes ?_ | with_reducible refine ev_dget ?_ | with_reducible refine ev_dput ?_ | with_reducible refine ev_bm ?_ | with_reducible refine ev_bm0 ?_ | with_reducible refine ev_items ?_ | with_reducible refine ev_keys ?_ | with_reducible refine ev_enum ?_ | with_reducible refine ev_tupI ?_ | with_reducible refine ev_par ?_ | with_reducible refine ev_two ?_ | with_reducible refine ev_kget ?_ | with_reducible refine ev_gsub ?_ | with_reducible refine ev_tapeK ?_ | with_reducible refine ev_str ?_ | with_reducible refine ev_txt ?_ | with_reducible refine ev_lc2 ?_ | with_reducible refine ev_dget2 ?_ | with_reducible refine ev_rU ?_ | with_reducible refine ev_ckw ?_ | with_reducible refine ev_dnotin ?_ | with_reducible refine ev_din ?_ | with_reducible refine ev_gfld ?_ | with_reducible refine ev_saug ?_ | with_reducible refine ev_finN ?_)
section
variable {P : Program} {w : World} {K : PySem.W.Frag} {mg : Str → Option Value} {base : Heap} {a : Ad}
/-! ### Stand.knobs, Stand.voices -/
structure IsKnobs (s : Sd) (l : List Tri) : Prop where
  ex : ∃ ys : Ps, StrictLex ys ∧ (∀ q ∈ ys, InR q) ∧ (∀ q, s.t q ≠ 0 → q ∈ ys) ∧ l = (ys.filter fun q => decide (0 < s.t q)).map fun q => (q.1, q.2, s.t q)
structure IsVoices (s : Sd) (l : Ps) : Prop where
  ex : ∃ ys : List Int, ys.Pairwise (· < ·) ∧ (∀ c, s.c c ≠ 0 → c ∈ ys) ∧ l = (ys.filter fun c => decide (0 < s.c c)).map fun c => (c, s.c c)
theorem paired_swap {α β : Type} {F : α → β → Prop} : ∀ {l : List α} {m : List β}, Paired F l m → Paired (fun y x => F x y) m l
  | _, _, .nil => .nil
  | _, _, .cons h t => .cons h (paired_swap t)
theorem paired_mapR {α β γ : Type} {F : α → β → Prop} {G : α → γ → Prop} {f : β → γ} (g : ∀ x y, F x y → G x (f y)) : ∀ {l : List α} {m : List β}, Paired F l m → Paired G l (m.map f)
  | _, _, .nil => .nil
  | _, _, .cons h t => .cons (g _ _ h) (paired_mapR g t)
def sp_Stand_knobs (ad : Ad) (K : PySem.W.Frag) : Sp := fun vs H Q _ => ∃ (N : List Addr) (p : Addr) (s : Sd) (n : Nat), vs = [.ref p] ∧ Live N H ∧ StandAt ad K (wo N H) p s n ∧ n ≤ 900 ∧ ∀ l r H', IsKnobs s l → NewL K N H H' r (l.map triD) → Q (.ref r) H'
theorem sc_Stand_knobs : FnScope ["self", "place"] ["self"] (defScope s_Stand_knobs) := ⟨rfl, rfl, rfl, by decide +kernel, rfl, by decide +kernel, by decide +kernel⟩
theorem ok_Stand_knobs (T : Tx w K mg a) : C8.Met P w K mg base 1 a.cS "knobs" (sp_Stand_knobs a K) [] := by
  refine metD T.cl_Stand T.d_Stand_knobs sc_Stand_knobs (fun _ _ _ _ _ _ us hl => match us, hl with | [_], _ => rfl) (fun vs H Q E h => ?_) (fun f cdv A outer s H vs Q E hr h => ?_)
  · obtain ⟨N, p, sd, n, rfl, _⟩ := h
    rfl
  · obtain ⟨N, p, sd, n, rfl, lv, ⟨dp, r, t, c, er, et, ec, hp, hR, hT, hC, zr, zt, zc, zl⟩, hn, q⟩ := h
    refine ⟨_, (pss_one (ps_ret (pe_lc (own := [("place", 1)]) rfl sc_Stand_knobs.nd (k_list (K := K) rfl (pi_list (pe_callB (call_sortedT rfl) rfl T.f_sorted (by decide +kernel) (pa_cons (k_fld (K := K) rfl (pe_fld (pv 0) rfl)) pa_nil)))) (blkOk_by (own := [("place", 1)]) (N := ["self", "place"]) (sc := defScope s_Stand_knobs) (by decide +kernel)) (fun _ _ _ _ _ => pg_name (i := 1) sc_Stand_knobs.nd rfl (Or.inl rfl)) (fun _ _ _ _ _ => pts_one (pt_cmpR op_gt (pe_dget (hu_of hr) (k_fld (K := K) rfl (pe_fld (pv 0) rfl)) (pv 1) (fun _ _ => rfl)) pe_int (nomark _))) (fun _ _ _ _ _ => pe_op (kop_cat (K := K) rfl) (pv 1) (pe_tup (pa_cons (pe_dget (hu_of hr) (k_fld (K := K) rfl (pe_fld (pv 0) rfl)) (pv 1) (fun _ _ => rfl)) pa_nil)))))), ?_⟩
    tm_at "ev"
    have hp' := (wo_of hp).2
    have ht' := (wo_of hT.at_).2
    refine ⟨p, a.cS, dp, _, .ref t, rfl, hp', T.cl_Stand, T.n_Stand_turned, rfl, ?_⟩
    tm_at "ev"
    refine ⟨t, et.map fun e => (e.1, V.int e.2), rfl, by rw [turn_kTV]; exact ht', by rw [List.length_map]; omega, fun ys ts l0 hperm hsrt hl0 hts => ?_⟩
    rw [List.map_map] at hperm
    have hperm' : ys.Perm (et.map (·.1)) := hperm
    have nd : ys.Nodup := hperm'.nodup_iff.mpr hT.nd
    have hlen : ys.length ≤ n := by
      have := hperm'.length_eq
      rw [List.length_map] at this
      omega
    have s1 : Same H (upd H l0 (.lst (ts.map V.ref))) := same_new hl0
    have hl1 : upd H l0 (.lst (ts.map V.ref)) l0 = some (.lst (ts.map V.ref)) := upd_same
    have lv1 := lv.same s1
    generalize upd H l0 (.lst (ts.map V.ref)) = H1 at s1 hl1 lv1 ⊢
    have pr : Paired (fun (e : Int × Int) (x : V) => ∃ t0, x = .ref t0 ∧ H1 t0 = some (.tup [.int e.1, .int e.2])) ys (ts.map V.ref) := paired_mapR (fun x y h => ⟨y, rfl, s1 _ _ h⟩) (paired_swap hts)
    refine ⟨l0, rfl, ⟨_, .inl (.inl hl1)⟩, fun D hD => lc_gen (K := K) N ys _ (fun q => decide (0 < sd.t q)) (fun q => triD (q.1, q.2, sd.t q)) (.inl (.inl hl1)) pr hD (by omega) lv1 ?_ ?_⟩
    · rintro e he x H2 s2 lv2 ⟨t0, rfl, ht0⟩ Rn Y hR' hY
      have hs2 := s1.trans s2
      have hem : e ∈ et.map (·.1) := hperm'.mem_iff.mp he
      obtain ⟨e0, h1, h2, h3⟩ : ∃ e0 ∈ et, e0.1 = e ∧ valV (et.map fun e => (kk e.1, V.int e.2)) (kk e) = some (.int e0.2) := by
        rcases valV_map kk kk_inj V.int et e with h | ⟨h, _⟩
        · exact h
        · exact absurd hem h
      have hv := hT.val e0 h1
      rw [h2] at hv
      tm_at "ev"
      refine ⟨rfl, ?_⟩
      tm_at "ev"
      refine ⟨p, a.cS, dp, _, .ref t, rfl, hs2 _ _ hp', T.cl_Stand, T.n_Stand_turned, rfl, ?_⟩
      tm_at "ev"
      refine ⟨t, .int e0.2, rfl, .inr ⟨_, kk e, t0, .inl (hs2 _ _ ht'), rfl, s2 _ _ ht0, h3.symm⟩, ?_⟩
      rw [← hv]
      tm_at "ev"
      refine if_2 (fun hb => ?_) fun hb => hR' hb _ same_rfl
      tm_at "ev"
      refine ⟨p, a.cS, dp, _, .ref t, rfl, hs2 _ _ hp', T.cl_Stand, T.n_Stand_turned, rfl, ?_⟩
      tm_at "ev"
      refine ⟨t, .int e0.2, rfl, .inr ⟨_, kk e, t0, .inl (hs2 _ _ ht'), rfl, s2 _ _ ht0, h3.symm⟩, ?_⟩
      rw [← hv]
      tm_at "ev"
      refine ⟨sz1, fun p2 hp2 => ?_⟩
      have s4 := same_new (o := .tup [V.int (sd.t e)]) hp2
      refine ⟨t0, p2, [.int e.1, .int e.2], [.int (sd.t e)], rfl, rfl, .inl (.inl (s4 _ _ (s2 _ _ ht0))), .inl (.inl upd_same), (show 3 ≤ 2 ^ 24 by decide), (fun e => by cases e), (fun _ e => by cases e), fun _ _ p3 hp3 => ?_⟩
      have t5 := dw_tup (K := K) (lv2.same s4) (xs := [.int e.1, .int e.2, .int (sd.t e)]) (ds := [.int e.1, .int e.2, .int (sd.t e)]) (.cons (.int _) (.cons (.int _) (.cons (.int _) .nil))) hp3
      exact hY hb _ _ (s4.trans t5.1) t5.2
    · intro H2 n2
      refine q _ D H2 ⟨ys, strict_of hsrt nd, fun q' hq => ?_, fun q' hq => ?_, rfl⟩ ?_
      · obtain ⟨e, he, rfl⟩ := List.mem_map.mp (hperm'.mem_iff.mp hq)
        exact hT.rng e he
      · by_cases hm : q' ∈ et.map (·.1)
        · exact hperm'.mem_iff.mpr hm
        · exact absurd (hT.out q' hm) hq
      · rw [List.map_map]
        exact n2.back s1
def sp_Stand_voices (ad : Ad) (K : PySem.W.Frag) : Sp := fun vs H Q _ => ∃ (N : List Addr) (p : Addr) (s : Sd) (n : Nat), vs = [.ref p] ∧ Live N H ∧ StandAt ad K (wo N H) p s n ∧ n ≤ 60 ∧ ∀ l r H', IsVoices s l → NewL K N H H' r (l.map prD) → Q (.ref r) H'
theorem sc_Stand_voices : FnScope ["self", "channel"] ["self"] (defScope s_Stand_voices) := ⟨rfl, rfl, rfl, by decide +kernel, rfl, by decide +kernel, by decide +kernel⟩
theorem ok_Stand_voices (T : Tx w K mg a) : C8.Met P w K mg base 1 a.cS "voices" (sp_Stand_voices a K) [] := by
  refine metD T.cl_Stand T.d_Stand_voices sc_Stand_voices (fun _ _ _ _ _ _ us hl => match us, hl with | [_], _ => rfl) (fun vs H Q E h => ?_) (fun f cdv A outer s H vs Q E hr h => ?_)
  · obtain ⟨N, p, sd, n, rfl, _⟩ := h
    rfl
  · obtain ⟨N, p, sd, n, rfl, lv, ⟨dp, r, t, c, er, et, ec, hp, hR, hT, hC, zr, zt, zc, zl⟩, hn, q⟩ := h
    refine ⟨_, (pss_one (ps_ret (pe_lc (own := [("channel", 1)]) rfl sc_Stand_voices.nd (k_list (K := K) rfl (pi_list (pe_callB (call_sortedDI rfl) rfl T.f_sorted (by decide +kernel) (pa_cons (k_fld (K := K) rfl (pe_fld (pv 0) rfl)) pa_nil)))) (blkOk_by (own := [("channel", 1)]) (N := ["self", "channel"]) (sc := defScope s_Stand_voices) (by decide +kernel)) (fun _ _ _ _ _ => pg_name (i := 1) sc_Stand_voices.nd rfl (Or.inl rfl)) (fun _ _ _ _ _ => pts_one (pt_cmpR op_gt (pe_dget (hu_of hr) (k_fld (K := K) rfl (pe_fld (pv 0) rfl)) (pv 1) (fun _ _ => rfl)) pe_int (nomark _))) (fun _ _ _ _ _ => pe_tup (pa_cons (pv 1) (pa_cons (pe_dget (hu_of hr) (k_fld (K := K) rfl (pe_fld (pv 0) rfl)) (pv 1) (fun _ _ => rfl)) pa_nil)))))), ?_⟩
    tm_at "ev"
    have hp' := (wo_of hp).2
    have hc' := (wo_of hC.at_).2
    refine ⟨p, a.cS, dp, _, .ref c, rfl, hp', T.cl_Stand, T.n_Stand_chosen, rfl, ?_⟩
    tm_at "ev"
    refine ⟨c, kM ec, ec.map (·.1), rfl, .inl hc', by unfold kM; rw [List.map_map, List.map_map]; rfl, by rw [List.length_map]; omega, fun ys l0 hperm hsrt hl0 => ?_⟩
    have nd : ys.Nodup := hperm.nodup_iff.mpr hC.nd
    have strict : ys.Pairwise (· < ·) := by
      refine (hsrt.and nd).imp fun {x y} ⟨h1, h2⟩ => ?_
      have h1 : x ≤ y := h1
      have h2 : x ≠ y := h2
      omega
    have hlen : ys.length ≤ n := by
      have := hperm.length_eq
      rw [List.length_map] at this
      omega
    have s1 : Same H (upd H l0 (.lst (ys.map V.int))) := same_new hl0
    have hl1 : upd H l0 (.lst (ys.map V.int)) l0 = some (.lst (ys.map V.int)) := upd_same
    have lv1 := lv.same s1
    generalize upd H l0 (.lst (ys.map V.int)) = H1 at s1 hl1 lv1 ⊢
    have pr : Paired (fun (e : Int) (x : V) => x = .int e) ys (ys.map V.int) := by
      have := paired_map (F := fun (e : Int) (x : V) => x = .int e) (f := id) (g := V.int) (l := ys) fun b _ => rfl
      rw [List.map_id] at this
      exact this
    refine ⟨l0, rfl, ⟨_, .inl (.inl hl1)⟩, fun D hD => lc_gen (K := K) N ys _ (fun q => decide (0 < sd.c q)) (fun q => prD (q, sd.c q)) (.inl (.inl hl1)) pr hD (by omega) lv1 ?_ ?_⟩
    · rintro e he x H2 s2 lv2 rfl Rn Y hR' hY
      have hs2 := s1.trans s2
      have hem : e ∈ ec.map (·.1) := hperm.mem_iff.mp he
      obtain ⟨e0, h1, h2, h3⟩ : ∃ e0 ∈ ec, e0.1 = e ∧ valV (ec.map fun e => ((Sum.inl e.1 : Key), V.int e.2)) (Sum.inl e) = some (.int e0.2) := by
        rcases valV_map (Sum.inl : Int → Key) inl_inj V.int ec e with h | ⟨h, _⟩
        · exact h
        · exact absurd hem h
      have hv := hC.val e0 h1
      rw [h2] at hv
      tm_at "ev"
      refine ⟨rfl, ?_⟩
      tm_at "ev"
      refine ⟨p, a.cS, dp, _, .ref c, rfl, hs2 _ _ hp', T.cl_Stand, T.n_Stand_chosen, rfl, ?_⟩
      tm_at "ev"
      refine ⟨c, .int e0.2, rfl, .inl ⟨_, .inl e, .inl (hs2 _ _ hc'), rfl, h3.symm⟩, ?_⟩
      rw [← hv]
      tm_at "ev"
      refine if_2 (fun hb => ?_) fun hb => hR' hb _ same_rfl
      tm_at "ev"
      refine ⟨p, a.cS, dp, _, .ref c, rfl, hs2 _ _ hp', T.cl_Stand, T.n_Stand_chosen, rfl, ?_⟩
      tm_at "ev"
      refine ⟨c, .int e0.2, rfl, .inl ⟨_, .inl e, .inl (hs2 _ _ hc'), rfl, h3.symm⟩, ?_⟩
      rw [← hv]
      tm_at "ev"
      refine ⟨sz2, fun p2 hp2 => ?_⟩
      have t5 := dw_tup (K := K) lv2 (xs := [.int e, .int (sd.c e)]) (ds := [.int e, .int (sd.c e)]) (.cons (.int _) (.cons (.int _) .nil)) hp2
      exact hY hb _ _ t5.1 t5.2
    · intro H2 n2
      refine q _ D H2 ⟨ys, strict, fun q' hq => ?_, rfl⟩ ?_
      · by_cases hm : q' ∈ ec.map (·.1)
        · exact hperm.mem_iff.mpr hm
        · exact absurd (hC.out q' hm) hq
      · rw [List.map_map]
        exact n2.back s1
end
end Tp
set_option maxHeartbeats 2000000
namespace Tp
/-! ### stands, in plain words -/
theorem sorted_ext {α : Type} {R : α → α → Prop} (irr : ∀ x, ¬ R x x) (asym : ∀ x y, R x y → ¬ R y x) : ∀ {l m : List α}, l.Pairwise R → m.Pairwise R → (∀ x, x ∈ l ↔ x ∈ m) → l = m
  | [], [], _, _, _ => rfl
  | [], y :: m, _, _, h => absurd ((h y).mpr List.mem_cons_self) (by simp)
  | x :: l, [], _, _, h => absurd ((h x).mp List.mem_cons_self) (by simp)
  | x :: l, y :: m, hl, hm, h => by
    have hl' := List.pairwise_cons.mp hl
    have hm' := List.pairwise_cons.mp hm
    have e : x = y := by
      rcases List.mem_cons.mp ((h x).mp List.mem_cons_self) with e | h1
      · exact e
      · rcases List.mem_cons.mp ((h y).mpr List.mem_cons_self) with e | h2
        · exact e.symm
        · exact absurd (hl'.1 y h2) (asym _ _ (hm'.1 x h1))
    subst e
    rw [sorted_ext irr asym hl'.2 hm'.2 fun z => ?_]
    constructor
    · intro hz
      rcases List.mem_cons.mp ((h z).mp (List.mem_cons_of_mem _ hz)) with e | h1
      · rw [e] at hz
        exact absurd (hl'.1 _ hz) (irr _)
      · exact h1
    · intro hz
      rcases List.mem_cons.mp ((h z).mpr (List.mem_cons_of_mem _ hz)) with e | h1
      · rw [e] at hz
        exact absurd (hm'.1 _ hz) (irr _)
      · exact h1
theorem strict_irr (x : Int × Int) : ¬ (x.1 < x.1 ∨ (x.1 = x.1 ∧ x.2 < x.2)) := by omega
theorem strict_asym (x y : Int × Int) : (x.1 < y.1 ∨ (x.1 = y.1 ∧ x.2 < y.2)) → ¬ (y.1 < x.1 ∨ (y.1 = x.1 ∧ y.2 < x.2)) := by omega
theorem StrictLex.nd {l : Ps} (h : StrictLex l) : l.Nodup := h.imp fun {x y} h e => by
  rw [e] at h
  exact strict_irr _ h
theorem flat_fil (s : Sd) : ∀ l : Ps, l.flatMap (outS s) = (l.filter fun q => decide (s.r q ≠ [])).flatMap (outS s)
  | [] => rfl
  | q :: l => by
    rw [List.flatMap_cons, flat_fil s l]
    by_cases h : s.r q ≠ []
    · rw [List.filter_cons_of_pos (by simpa using h), List.flatMap_cons]
    · rw [List.filter_cons_of_neg (by simpa using h)]
      have : s.r q = [] := Classical.not_not.mp h
      unfold outS
      rw [this]
      rfl
theorem sounds_uniq {s : Sd} {l m : List Tri} (h : IsSounds s l) (h' : IsSounds s m) : l = m := by
  obtain ⟨ys, a1, a2, a3, rfl⟩ := h.ex
  obtain ⟨zs, b1, b2, b3, rfl⟩ := h'.ex
  rw [flat_fil s ys, flat_fil s zs, sorted_ext strict_irr strict_asym (a1.sublist List.filter_sublist) (b1.sublist List.filter_sublist) fun q => ?_]
  rw [List.mem_filter, List.mem_filter]
  constructor
  · rintro ⟨_, h2⟩
    exact ⟨b3 q (by simpa using h2), h2⟩
  · rintro ⟨_, h2⟩
    exact ⟨a3 q (by simpa using h2), h2⟩
theorem knobs_uniq {s : Sd} {l m : List Tri} (h : IsKnobs s l) (h' : IsKnobs s m) : l = m := by
  obtain ⟨ys, a1, a2, a3, rfl⟩ := h.ex
  obtain ⟨zs, b1, b2, b3, rfl⟩ := h'.ex
  rw [sorted_ext strict_irr strict_asym (a1.sublist List.filter_sublist) (b1.sublist List.filter_sublist) fun q => ?_]
  rw [List.mem_filter, List.mem_filter]
  constructor
  · rintro ⟨_, h2⟩
    exact ⟨b3 q (by have := of_decide_eq_true h2; omega), h2⟩
  · rintro ⟨_, h2⟩
    exact ⟨a3 q (by have := of_decide_eq_true h2; omega), h2⟩
theorem voices_uniq {s : Sd} {l m : Ps} (h : IsVoices s l) (h' : IsVoices s m) : l = m := by
  obtain ⟨ys, a1, a3, rfl⟩ := h.ex
  obtain ⟨zs, b1, b3, rfl⟩ := h'.ex
  rw [sorted_ext (R := fun x y : Int => x < y) (fun x => Int.lt_irrefl x) (fun x y h => by omega) (a1.sublist List.filter_sublist) (b1.sublist List.filter_sublist) fun q => ?_]
  rw [List.mem_filter, List.mem_filter]
  constructor
  · rintro ⟨_, h2⟩
    exact ⟨b3 q (by have := of_decide_eq_true h2; omega), h2⟩
  · rintro ⟨_, h2⟩
    exact ⟨a3 q (by have := of_decide_eq_true h2; omega), h2⟩
/-! ### how many there are -/
def sumR (s : Sd) (l : Ps) : Nat := (l.flatMap (outS s)).length
def cntT (s : Sd) (l : Ps) : Nat := (l.filter fun q => decide (0 < s.t q)).length
def cntC (s : Sd) (l : List Int) : Nat := (l.filter fun q => decide (0 < s.c q)).length
theorem sumR_cons (s : Sd) (q : Int × Int) (l : Ps) : sumR s (q :: l) = (s.r q).length + sumR s l := by
  unfold sumR
  rw [List.flatMap_cons, List.length_append]
  unfold outS
  rw [List.length_map]
theorem sumR_eq {s s' : Sd} : ∀ {l : Ps}, (∀ q ∈ l, s'.r q = s.r q) → sumR s' l = sumR s l
  | [], _ => rfl
  | q :: l, h => by rw [sumR_cons, sumR_cons, h q List.mem_cons_self, sumR_eq fun x hx => h x (List.mem_cons_of_mem _ hx)]
theorem sumR_one {s s' : Sd} {z : Int × Int} (hz : (s'.r z).length ≤ (s.r z).length + 1) (ho : ∀ q, q ≠ z → s'.r q = s.r q) : ∀ {l : Ps}, l.Nodup → sumR s' l ≤ sumR s l + 1
  | [], _ => Nat.zero_le _
  | q :: l, nd => by
    have nd' := List.nodup_cons.mp nd
    rw [sumR_cons, sumR_cons]
    by_cases e : q = z
    · have h2 : sumR s' l = sumR s l := sumR_eq fun x hx => ho x fun e' => nd'.1 (by rw [e, ← e']; exact hx)
      rw [h2, e]
      omega
    · rw [ho q e]
      have := sumR_one hz ho nd'.2
      omega
theorem cnt_one {α : Type} {p p' : α → Bool} {z : α} (ho : ∀ q, q ≠ z → p' q = p q) : ∀ {l : List α}, l.Nodup → (l.filter p').length ≤ (l.filter p).length + 1
  | [], _ => Nat.zero_le _
  | q :: l, nd => by
    have nd' := List.nodup_cons.mp nd
    by_cases e : q = z
    · have h2 : l.filter p' = l.filter p := List.filter_congr fun x hx => ho x fun e' => nd'.1 (by rw [e, ← e']; exact hx)
      rw [List.filter_cons, List.filter_cons, h2]
      split <;> split <;> simp <;> omega
    · have h2 := cnt_one ho nd'.2
      rw [List.filter_cons, List.filter_cons, ho q e]
      split
      · rw [List.length_cons, List.length_cons]
        omega
      · exact h2
def tot (s : Sd) (a b : Ps) (c : List Int) : Nat := sumR s a + cntT s b + cntC s c
theorem tot_step {s : Sd} {a b : Ps} {c : List Int} (na : a.Nodup) (nb : b.Nodup) (nc : c.Nodup) (th : Th) : tot (s.step th) a b c ≤ tot s a b c + 1 := by
  cases th with
  | on ch k f =>
    have h1 : sumR (s.step (.on ch k f)) a ≤ sumR s a + 1 := sumR_one (z := (ch, k)) (by
      show (if (ch, k) = (ch, k) then s.r (ch, k) ++ [f] else s.r (ch, k)).length ≤ _
      rw [if_pos rfl, List.length_append]
      exact Nat.le_refl _) (fun q hq => if_neg hq) na
    have h2 : cntT (s.step (.on ch k f)) b = cntT s b := rfl
    have h3 : cntC (s.step (.on ch k f)) c = cntC s c := rfl
    unfold tot
    omega
  | off ch k f =>
    have h1 : sumR (s.step (.off ch k f)) a ≤ sumR s a + 1 := sumR_one (z := (ch, k)) (by
      show (if (ch, k) = (ch, k) then (s.r (ch, k)).drop 1 else s.r (ch, k)).length ≤ _
      rw [if_pos rfl, List.length_drop]
      omega) (fun q hq => if_neg hq) na
    have h2 : cntT (s.step (.off ch k f)) b = cntT s b := rfl
    have h3 : cntC (s.step (.off ch k f)) c = cntC s c := rfl
    unfold tot
    omega
  | knob ch k f =>
    have h1 : sumR (s.step (.knob ch k f)) a = sumR s a := rfl
    have h2 : cntT (s.step (.knob ch k f)) b ≤ cntT s b + 1 := cnt_one (z := (ch, k)) (fun q hq => by
      show decide (0 < if q = (ch, k) then f else s.t q) = _
      rw [if_neg hq]) nb
    have h3 : cntC (s.step (.knob ch k f)) c = cntC s c := rfl
    unfold tot
    omega
  | voice ch f =>
    have h1 : sumR (s.step (.voice ch f)) a = sumR s a := rfl
    have h2 : cntT (s.step (.voice ch f)) b = cntT s b := rfl
    have h3 : cntC (s.step (.voice ch f)) c ≤ cntC s c + 1 := cnt_one (z := ch) (fun q hq => by
      show decide (0 < if q = ch then f else s.c q) = _
      rw [if_neg hq]) nc
    unfold tot
    omega
  | mark z => exact Nat.le_succ _
theorem tot_run {a b : Ps} {c : List Int} (na : a.Nodup) (nb : b.Nodup) (nc : c.Nodup) : ∀ (l : List Ev) (s : Sd), tot (s.run l) a b c ≤ tot s a b c + l.length
  | [], s => Nat.le_refl _
  | e :: l, s => by
    have h1 := tot_run na nb nc l (s.step e.th)
    have h2 := tot_step (s := s) na nb nc e.th
    show tot ((s.step e.th).run l) a b c ≤ _
    rw [List.length_cons]
    omega
theorem sumR_nil : ∀ l : Ps, sumR Sd.nil l = 0
  | [] => rfl
  | q :: l => by
    rw [sumR_cons, sumR_nil l]
    rfl
theorem lens {l : List Ev} {ls lk : List Tri} {lv : Ps} (h1 : IsSounds (Sd.nil.run l) ls) (h2 : IsKnobs (Sd.nil.run l) lk) (h3 : IsVoices (Sd.nil.run l) lv) : ls.length + lk.length + lv.length ≤ l.length := by
  obtain ⟨ys, a1, a2, a3, rfl⟩ := h1.ex
  obtain ⟨zs, b1, b2, b3, rfl⟩ := h2.ex
  obtain ⟨vs, c1, c3, rfl⟩ := h3.ex
  have h := tot_run (StrictLex.nd a1) (StrictLex.nd b1) (c1.imp fun {x y} h => by omega) l Sd.nil
  have z1 := sumR_nil ys
  have z2 : cntT Sd.nil zs = 0 := by
    unfold cntT
    rw [List.length_eq_zero_iff, List.filter_eq_nil_iff]
    intro q _ h
    exact absurd (of_decide_eq_true h) (by show ¬ (0 : Int) < 0; decide)
  have z3 : cntC Sd.nil vs = 0 := by
    unfold cntC
    rw [List.length_eq_zero_iff, List.filter_eq_nil_iff]
    intro q _ h
    exact absurd (of_decide_eq_true h) (by show ¬ (0 : Int) < 0; decide)
  rw [List.length_map, List.length_map]
  unfold tot sumR cntT cntC at h
  unfold sumR at z1
  unfold cntT at z2
  unfold cntC at z3
  omega
theorem sounds_len {l : List Ev} {ls : List Tri} (h1 : IsSounds (Sd.nil.run l) ls) : ls.length ≤ l.length := by
  obtain ⟨ys, a1, a2, a3, rfl⟩ := h1.ex
  have h := tot_run (b := []) (c := []) (StrictLex.nd a1) .nil .nil l Sd.nil
  have z1 := sumR_nil ys
  unfold tot sumR cntT cntC at h
  unfold sumR at z1
  simp at h z1 ⊢
  omega
theorem voices_len' {l : List Ev} {lv : Ps} (h3 : IsVoices (Sd.nil.run l) lv) : lv.length ≤ l.length := by
  obtain ⟨vs, c1, c3, rfl⟩ := h3.ex
  have h := tot_run (a := []) (b := []) .nil .nil (c1.imp fun {x y} h => by omega) l Sd.nil
  have z3 : cntC Sd.nil vs = 0 := by
    unfold cntC
    rw [List.length_eq_zero_iff, List.filter_eq_nil_iff]
    intro q _ h
    exact absurd (of_decide_eq_true h) (by show ¬ (0 : Int) < 0; decide)
  rw [List.length_map]
  have z1 : sumR (Sd.nil.run l) [] = 0 := rfl
  have z2 : cntT (Sd.nil.run l) [] = 0 := rfl
  have z4 : sumR Sd.nil [] = 0 := rfl
  have z5 : cntT Sd.nil [] = 0 := rfl
  unfold tot at h
  show cntC (Sd.nil.run l) vs ≤ _
  omega
/-! ### the ends and the begun ones give the stand again -/
def endsE (t : Int) (ls : List Tri) : List Ev := ls.map fun q => ⟨t, .off q.1 q.2.1 64⟩
def begE (ls lk : List Tri) (lv : Ps) : List Ev := (lv.map fun q => ⟨0, .voice q.1 q.2⟩) ++ (lk.map fun q => ⟨0, .knob q.1 q.2.1 q.2.2⟩) ++ ls.map fun q => ⟨0, .on q.1 q.2.1 q.2.2⟩
theorem sd_ext {s s' : Sd} (h1 : ∀ q, s.r q = s'.r q) (h2 : ∀ q, s.t q = s'.t q) (h3 : ∀ q, s.c q = s'.c q) : s = s' := by
  obtain ⟨r, t, c⟩ := s
  obtain ⟨r', t', c'⟩ := s'
  have e1 : r = r' := funext h1
  have e2 : t = t' := funext h2
  have e3 : c = c' := funext h3
  rw [e1, e2, e3]
theorem run_app (s : Sd) (l m : List Ev) : s.run (l ++ m) = (s.run l).run m := List.foldl_append
theorem run_shift (s : Sd) (b : Int) (l : List Ev) : s.run (l.map (Ev.shift b)) = s.run l := by
  unfold Sd.run
  rw [List.foldl_map]
  rfl
/-- the forces that stand under a place -/
def under (ls : List Tri) (q : Int × Int) : List Int := (ls.filter fun x => decide ((x.1, x.2.1) = q)).map fun x => x.2.2
theorem run_ends (t : Int) : ∀ (ls : List Tri) (s : Sd), (∀ q, (s.run (endsE t ls)).r q = (s.r q).drop (under ls q).length) ∧ (s.run (endsE t ls)).t = s.t ∧ (s.run (endsE t ls)).c = s.c
  | [], s => ⟨fun q => rfl, rfl, rfl⟩
  | x :: ls, s => by
    obtain ⟨h1, h2, h3⟩ := run_ends t ls (s.step (.off x.1 x.2.1 64))
    refine ⟨fun q => ?_, h2, h3⟩
    show ((s.step (.off x.1 x.2.1 64)).run (endsE t ls)).r q = _
    rw [h1 q]
    show List.drop _ (if q = (x.1, x.2.1) then (s.r q).drop 1 else s.r q) = _
    unfold under
    by_cases e : q = (x.1, x.2.1)
    · rw [if_pos e, List.filter_cons_of_pos (by rw [e]; exact decide_eq_true rfl), List.map_cons, List.length_cons, List.drop_drop]
      congr 1
      omega
    · rw [if_neg e, List.filter_cons_of_neg]
      intro z
      exact e (of_decide_eq_true z).symm
theorem run_ons : ∀ (ls : List Tri) (s : Sd), (∀ q, (s.run (ls.map fun q => (⟨0, .on q.1 q.2.1 q.2.2⟩ : Ev))).r q = s.r q ++ under ls q) ∧ (s.run (ls.map fun q => (⟨0, .on q.1 q.2.1 q.2.2⟩ : Ev))).t = s.t ∧ (s.run (ls.map fun q => (⟨0, .on q.1 q.2.1 q.2.2⟩ : Ev))).c = s.c
  | [], s => ⟨fun q => (List.append_nil _).symm, rfl, rfl⟩
  | x :: ls, s => by
    obtain ⟨h1, h2, h3⟩ := run_ons ls (s.step (.on x.1 x.2.1 x.2.2))
    refine ⟨fun q => ?_, h2, h3⟩
    show ((s.step (.on x.1 x.2.1 x.2.2)).run (ls.map fun q => (⟨0, .on q.1 q.2.1 q.2.2⟩ : Ev))).r q = _
    rw [h1 q]
    show (if q = (x.1, x.2.1) then s.r q ++ [x.2.2] else s.r q) ++ _ = _
    unfold under
    by_cases e : q = (x.1, x.2.1)
    · rw [if_pos e, List.filter_cons_of_pos (by rw [e]; exact decide_eq_true rfl), List.map_cons, List.append_assoc]
      rfl
    · rw [if_neg e, List.filter_cons_of_neg]
      intro z
      exact e (of_decide_eq_true z).symm
theorem run_knobs : ∀ (lk : List Tri) (s : Sd), (∀ x ∈ lk, x.2.2 = s.t (x.1, x.2.1)) → s.run (lk.map fun q => (⟨0, .knob q.1 q.2.1 q.2.2⟩ : Ev)) = s
  | [], s, _ => rfl
  | x :: lk, s, h => by
    have e : s.step (.knob x.1 x.2.1 x.2.2) = s := sd_ext (fun q => rfl) (fun q => by
      show (if q = (x.1, x.2.1) then x.2.2 else s.t q) = s.t q
      by_cases e : q = (x.1, x.2.1)
      · rw [if_pos e, e]
        exact h x List.mem_cons_self
      · rw [if_neg e]) (fun q => rfl)
    show (s.step (.knob x.1 x.2.1 x.2.2)).run _ = s
    rw [e]
    exact run_knobs lk s fun y hy => h y (List.mem_cons_of_mem _ hy)
theorem run_voices : ∀ (lv : Ps) (s : Sd), (∀ x ∈ lv, x.2 = s.c x.1) → s.run (lv.map fun q => (⟨0, .voice q.1 q.2⟩ : Ev)) = s
  | [], s, _ => rfl
  | x :: lv, s, h => by
    have e : s.step (.voice x.1 x.2) = s := sd_ext (fun q => rfl) (fun q => rfl) (fun q => by
      show (if q = x.1 then x.2 else s.c q) = s.c q
      by_cases e : q = x.1
      · rw [if_pos e, e]
        exact h x List.mem_cons_self
      · rw [if_neg e])
    show (s.step (.voice x.1 x.2)).run _ = s
    rw [e]
    exact run_voices lv s fun y hy => h y (List.mem_cons_of_mem _ hy)
theorem under_app (l m : List Tri) (q : Int × Int) : under (l ++ m) q = under l q ++ under m q := by
  unfold under
  rw [List.filter_append, List.map_append]
theorem under_out (s : Sd) (z q : Int × Int) : under (outS s z) q = if z = q then s.r q else [] := by
  unfold under outS
  by_cases e : z = q
  · rw [if_pos e, List.filter_eq_self.mpr (fun x hx => ?_), List.map_map]
    · rw [e]
      exact List.map_id' _
    · obtain ⟨f, _, rfl⟩ := List.mem_map.mp hx
      exact decide_eq_true e
  · rw [if_neg e, List.filter_eq_nil_iff.mpr (fun x hx h => ?_)]
    · rfl
    · obtain ⟨f, _, rfl⟩ := List.mem_map.mp hx
      exact e (of_decide_eq_true h)
theorem under_flat (s : Sd) (q : Int × Int) : ∀ {ys : Ps}, ys.Nodup → under (ys.flatMap (outS s)) q = if q ∈ ys then s.r q else []
  | [], _ => rfl
  | z :: ys, nd => by
    have nd' := List.nodup_cons.mp nd
    rw [List.flatMap_cons, under_app, under_out, under_flat s q nd'.2]
    by_cases e : z = q
    · subst e
      rw [if_pos rfl, if_neg nd'.1, if_pos List.mem_cons_self, List.append_nil]
    · rw [if_neg e, List.nil_append]
      by_cases h : q ∈ ys
      · rw [if_pos h, if_pos (List.mem_cons_of_mem _ h)]
      · rw [if_neg h, if_neg (fun z' => (List.mem_cons.mp z').elim (fun e' => e e'.symm) h)]
theorem under_sounds {s : Sd} {ls : List Tri} (h : IsSounds s ls) (q : Int × Int) : under ls q = s.r q := by
  obtain ⟨ys, a1, a2, a3, rfl⟩ := h.ex
  rw [under_flat s q (StrictLex.nd a1)]
  by_cases e : q ∈ ys
  · rw [if_pos e]
  · rw [if_neg e]
    by_cases h : s.r q = []
    · exact h.symm
    · exact absurd (a3 q h) e
theorem again {s : Sd} {ls lk : List Tri} {lv : Ps} (t b : Int) (h1 : IsSounds s ls) (h2 : IsKnobs s lk) (h3 : IsVoices s lv) : (s.run (endsE t ls)).run ((begE ls lk lv).map (Ev.shift b)) = s := by
  rw [run_shift]
  obtain ⟨e1, e2, e3⟩ := run_ends t ls s
  unfold begE
  rw [run_app, run_app]
  generalize s.run (endsE t ls) = s1 at e1 e2 e3
  rw [run_voices lv s1 fun x hx => ?_, run_knobs lk s1 fun x hx => ?_]
  · obtain ⟨f1, f2, f3⟩ := run_ons ls s1
    refine sd_ext (fun q => ?_) (fun q => ?_) (fun q => ?_)
    · rw [f1 q, e1 q, under_sounds h1 q, List.drop_length, List.nil_append]
    · rw [f2, e2]
    · rw [f3, e3]
  · obtain ⟨ys, _, _, _, rfl⟩ := h2.ex
    obtain ⟨q, _, rfl⟩ := List.mem_map.mp hx
    rw [e2]
  · obtain ⟨ys, _, _, rfl⟩ := h3.ex
    obtain ⟨q, _, rfl⟩ := List.mem_map.mp hx
    rw [e3]
/-! ### what the cut pieces are -/
def cutA (l : List Ev) (t : Int) (ls : List Tri) : List Ev := (l.filter fun e => decide (e.t < t)) ++ endsE t ls
def cutB (l : List Ev) (t : Int) (ls lk : List Tri) (lv : Ps) : List Ev := begE ls lk lv ++ (l.filter fun e => decide (t ≤ e.t)).map (Ev.shift (0 - t))
theorem fil_split {l : List Ev} (up : l.Pairwise fun x y => x.t ≤ y.t) {t u : Int} (h : t ≤ u) : (l.filter fun e => decide (e.t ≤ u)) = (l.filter fun e => decide (e.t < t)) ++ (l.filter fun e => decide (t ≤ e.t)).filter fun e => decide (e.t ≤ u) := by
  induction l with
  | nil => rfl
  | cons e l ih =>
    have up' := List.pairwise_cons.mp up
    have ih := ih up'.2
    by_cases h1 : e.t < t
    · rw [List.filter_cons_of_pos (by simp; omega), List.filter_cons_of_pos (by simpa using h1), List.filter_cons_of_neg (by simp; omega), ih]
      rfl
    · have hn : l.filter (fun e => decide (e.t < t)) = [] := List.filter_eq_nil_iff.mpr fun x hx hz => by
        have := up'.1 x hx
        have := of_decide_eq_true hz
        omega
      rw [List.filter_cons_of_neg (a := e) (p := fun e => decide (e.t < t)) (by simpa using h1), hn, List.nil_append, List.filter_cons_of_pos (a := e) (p := fun e => decide (t ≤ e.t)) (by simp; omega)]
      rw [hn, List.nil_append] at ih
      by_cases h2 : e.t ≤ u
      · rw [List.filter_cons_of_pos (by simpa using h2), List.filter_cons_of_pos (by simpa using h2), ih]
      · rw [List.filter_cons_of_neg (by simpa using h2), List.filter_cons_of_neg (by simpa using h2), ih]
/-- the glued track plays as the elder one -/
theorem glue_run {l : List Ev} (up : l.Pairwise fun x y => x.t ≤ y.t) {t : Int} {ls lk : List Tri} {lv : Ps} (h1 : IsSounds (Sd.nil.run (l.filter fun e => decide (e.t < t))) ls) (h2 : IsKnobs (Sd.nil.run (l.filter fun e => decide (e.t < t))) lk)
    (h3 : IsVoices (Sd.nil.run (l.filter fun e => decide (e.t < t))) lv) (u : Int) :
    Sd.nil.run (((cutA l t ls) ++ (cutB l t ls lk lv).map (Ev.shift t)).filter fun e => decide (e.t ≤ u)) = Sd.nil.run (l.filter fun e => decide (e.t ≤ u)) := by
  have hb : ((l.filter fun e => decide (t ≤ e.t)).map (Ev.shift (0 - t))).map (Ev.shift t) = l.filter fun e => decide (t ≤ e.t) := by
    rw [List.map_map]
    conv => rhs; rw [← List.map_id (l.filter fun e => decide (t ≤ e.t))]
    refine List.map_congr_left fun e _ => ?_
    obtain ⟨et, eth⟩ := e
    show (⟨et + (0 - t) + t, eth⟩ : Ev) = ⟨et, eth⟩
    rw [show et + (0 - t) + t = et by omega]
  have hg0 : ∀ e ∈ (begE ls lk lv).map (Ev.shift t), e.t = t := fun e he => by
    obtain ⟨e0, h0, rfl⟩ := List.mem_map.mp he
    unfold begE at h0
    have z : e0.t = 0 := by
      rcases List.mem_append.mp h0 with h0 | h0
      · rcases List.mem_append.mp h0 with h0 | h0
        · obtain ⟨_, _, rfl⟩ := List.mem_map.mp h0
          rfl
        · obtain ⟨_, _, rfl⟩ := List.mem_map.mp h0
          rfl
      · obtain ⟨_, _, rfl⟩ := List.mem_map.mp h0
        rfl
    show e0.t + t = t
    omega
  have he0 : ∀ e ∈ endsE t ls, e.t = t := fun e he => by
    obtain ⟨_, _, rfl⟩ := List.mem_map.mp he
    rfl
  unfold cutA cutB
  rw [List.map_append, hb, List.filter_append, List.filter_append, List.filter_append]
  by_cases h : t ≤ u
  · rw [fil_split up h]
    have f1 : (l.filter fun e => decide (e.t < t)).filter (fun e => decide (e.t ≤ u)) = l.filter fun e => decide (e.t < t) := List.filter_eq_self.mpr fun e he => by
      have := of_decide_eq_true (List.mem_filter.mp he).2
      exact decide_eq_true (by omega)
    have f2 : (endsE t ls).filter (fun e => decide (e.t ≤ u)) = endsE t ls := List.filter_eq_self.mpr fun e he => decide_eq_true (by rw [he0 e he]; exact h)
    have f3 : ((begE ls lk lv).map (Ev.shift t)).filter (fun e => decide (e.t ≤ u)) = (begE ls lk lv).map (Ev.shift t) := List.filter_eq_self.mpr fun e he => decide_eq_true (by rw [hg0 e he]; exact h)
    rw [f1, f2, f3, run_app, run_app, run_app, run_app, again t t h1 h2 h3]
  · have f1 : (l.filter fun e => decide (e.t < t)).filter (fun e => decide (e.t ≤ u)) = l.filter fun e => decide (e.t ≤ u) := by
      rw [List.filter_filter]
      refine List.filter_congr fun e _ => ?_
      by_cases h5 : e.t ≤ u
      · rw [decide_eq_true h5, decide_eq_true (by omega : e.t < t)]
        rfl
      · rw [decide_eq_false h5]
        rfl
    have f2 : (endsE t ls).filter (fun e => decide (e.t ≤ u)) = [] := List.filter_eq_nil_iff.mpr fun e he hz => by
      have := of_decide_eq_true hz
      rw [he0 e he] at this
      exact h this
    have f3 : ((begE ls lk lv).map (Ev.shift t)).filter (fun e => decide (e.t ≤ u)) = [] := List.filter_eq_nil_iff.mpr fun e he hz => by
      have := of_decide_eq_true hz
      rw [hg0 e he] at this
      exact h this
    have f4 : (l.filter fun e => decide (t ≤ e.t)).filter (fun e => decide (e.t ≤ u)) = [] := List.filter_eq_nil_iff.mpr fun e he hz => by
      have := of_decide_eq_true hz
      have := of_decide_eq_true (List.mem_filter.mp he).2
      omega
    rw [f1, f2, f3, f4, List.append_nil, List.append_nil, List.append_nil]
end Tp
set_option maxHeartbeats 4000000
namespace Tp
open PySem PySem.Spec PyProof.Rows L2
local macro_rules | `(tactic| tm_at "ev") => `(tactic| repeat first
  | with_reducible refine ev_seq ?_ | with_reducible refine ev_asg ?_ | with_reducible refine ev_drop ?_ | with_reducible refine ev_ret ?_ | with_reducible refine ev_ifS ?_ | with_reducible refine ev_next ?_
  | ((with_reducible refine' ev_var ?k1 ?_); (case k1 => exact rfl)) | with_reducible refine ev_c ?_ | with_reducible refine ev_op ?_ | with_reducible refine ev_I0 ?_ | with_reducible refine ev_test ?_ | with_reducible refine ev_B ?_ | with_reducible refine ev_bl ?_
  | ((with_reducible refine ev_eq ?k1 ?_); (case k1 => exact rfl)) | ((with_reducible refine ev_ne ?k1 ?_); (case k1 => exact rfl))
  | ((with_reducible refine' ev_nameL ?k1 ?_); (case k1 => first | (dsimp only [L2.start, wipe, List.map, List.set, List.length, List.replicate, List.append]; exact rfl) | exact rfl)) | with_reducible refine ev_name ?_ | with_reducible refine ev_nil ?_ | with_reducible refine ev_cons ?_ | with_reducible refine ev_call ?_ | with_reducible refine ev_tup ?_ | with_reducible refine ev_lst ?_ | with_reducible refine ev_CB ?_ | with_reducible refine ev_fld ?_
  | with_reducible refine ev_not ?_ | with_reducible refine ev_and ?_ | with_reducible refine ev_or ?_ | with_reducible refine ev_andV ?_ | with_reducible refine ev_orV ?_ | with_reducible refine ev_ifE ?_ | with_reducible refine ev_chain ?_ | with_reducible refine ev_meth ?_ | with_reducible refine ev_un ?_
  | with_reducible refine ev_sl ?_ | with_reducible refine ev_part ?_ | with_reducible refine ev_nopart ?_ | with_reducible refine ev_int ?_ | with_reducible refine ev_for ?_ | with_reducible refine ev_list ?_ | with_reducible refine ev_lc ?_ | with_reducible refine ev_gcons ?_ | with_reducible refine ev_gnil ?_ | with_reducible refine ev_sfld ?_ | with_reducible refine ev_make ?_ | with_reducible refine ev_notV ?_ | with_reducible refine ev_yes ?_ | with_reducible refine ev_dget ?_ | with_reducible refine ev_dput ?_ | with_reducible refine ev_bm ?_ | with_reducible refine ev_bm0 ?_ | with_reducible refine ev_items ?_ | with_reducible refine ev_keys ?_ | with_reducible refine ev_enum ?_ | with_reducible refine ev_tupI ?_ | with_reducible refine ev_par ?_ | with_reducible refine ev_two ?_ | with_reducible refine ev_kget ?_ | with_reducible refine ev_gsub ?_ | with_reducible refine ev_tapeK ?_ | with_reducible refine ev_str ?_ | with_reducible refine ev_txt ?_ | with_reducible refine ev_lc2 ?_ | with_reducible refine ev_dget2 ?_ | with_reducible refine ev_rU ?_ | with_reducible refine ev_ckw ?_ | with_reducible refine ev_dnotin ?_ | with_reducible refine ev_din ?_ | with_reducible refine ev_gfld ?_ | with_reducible refine ev_saug ?_ | with_reducible refine ev_finN ?_)
section
variable {P : Program} {w : World} {K : PySem.W.Frag} {mg : Str → Option Value} {base : Heap} {a : Ad}
/-! ### Stand.parts, Stand.__eq__, stand_behind -/
def partsD (l1 l2 : List Tri) (l3 : Ps) : PyData := .list [.list (l1.map triD), .list (l2.map triD), .list (l3.map prD)]
def sp_Stand_parts (ad : Ad) (K : PySem.W.Frag) : Sp := fun vs H Q _ => ∃ (N : List Addr) (p : Addr) (s : Sd) (n : Nat), vs = [.ref p] ∧ Live N H ∧ StandAt ad K (wo N H) p s n ∧ n ≤ 60 ∧ ∀ l1 l2 l3 r H', IsSounds s l1 → IsKnobs s l2 → IsVoices s l3 → Same H H' → Dw K N H' (.ref r) (partsD l1 l2 l3) → Q (.ref r) H'
theorem sc_Stand_parts : FnScope ["self"] ["self"] (defScope s_Stand_parts) := ⟨rfl, rfl, rfl, by decide +kernel, rfl, by decide +kernel, by decide +kernel⟩
theorem ok_Stand_parts (T : Tx w K mg a) (m_Stand_sounds : C8.Met P w K mg base 1 a.cS "sounds" (sp_Stand_sounds a K) []) (m_Stand_knobs : C8.Met P w K mg base 1 a.cS "knobs" (sp_Stand_knobs a K) [])
    (m_Stand_voices : C8.Met P w K mg base 1 a.cS "voices" (sp_Stand_voices a K) []) : C8.Met P w K mg base 2 a.cS "parts" (sp_Stand_parts a K) [] := by
  refine metD T.cl_Stand T.d_Stand_parts sc_Stand_parts (fun _ _ _ _ _ _ us hl => match us, hl with | [_], _ => rfl) (fun vs H Q E h => ?_) (fun f cdv A outer s H vs Q E hr h => ?_)
  · obtain ⟨N, p, sd, n, rfl, _⟩ := h
    rfl
  · obtain ⟨N, p, sd, n, rfl, lv, hs, hn, q⟩ := h
    have hs' := hs
    obtain ⟨dp, r, t, c, er, et, ec, hp, _⟩ := hs'
    refine ⟨_, (pss_one (ps_ret (pe_lst (pa_cons (C8.pe_mt0 m_Stand_sounds hr (by decide) (pv 0)) (pa_cons (C8.pe_mt0 m_Stand_knobs hr (by decide) (pv 0)) (pa_cons (C8.pe_mt0 m_Stand_voices hr (by decide) (pv 0)) pa_nil)))))), ?_⟩
    tm_at "ev"
    refine ⟨p, dp, _, rfl, (wo_of hp).2, rfl, ?_⟩
    tm_at "ev"
    refine ⟨N, p, sd, n, rfl, lv, hs, by omega, fun l1 r1 H1 i1 n1 => ?_⟩
    have lv1 := lv.same n1.same
    tm_at "ev"
    refine ⟨p, dp, _, rfl, n1.same _ _ (wo_of hp).2, rfl, ?_⟩
    tm_at "ev"
    refine ⟨N, p, sd, n, rfl, lv1, hs.mono (wo_same n1.same), by omega, fun l2 r2 H2 i2 n2 => ?_⟩
    have lv2 := lv1.same n2.same
    tm_at "ev"
    have s12 := n1.same.trans n2.same
    refine ⟨p, dp, _, rfl, s12 _ _ (wo_of hp).2, rfl, ?_⟩
    tm_at "ev"
    refine ⟨N, p, sd, n, rfl, lv2, hs.mono (wo_same s12), by omega, fun l3 r3 H3 i3 n3 => ?_⟩
    have lv3 := lv2.same n3.same
    tm_at "ev"
    refine ⟨sz3, fun p4 hp4 => ?_⟩
    have d1 := (n1.dw lv).up (n2.same.trans n3.same)
    have d2 := (n2.dw lv1).up n3.same
    have d3 := n3.dw lv2
    have n4 := newL_lst (K := K) (N := N) (xs := [.ref r1, .ref r2, .ref r3]) (.cons d1 (.cons d2 (.cons d3 .nil))) hp4
    exact q l1 l2 l3 p4 _ i1 i2 i3 ((s12.trans n3.same).trans n4.same) (n4.dw lv3)
def sp_Stand___eq__ (ad : Ad) (K : PySem.W.Frag) : Sp := fun vs H Q _ => ∃ (N : List Addr) (p o : Addr) (s : Sd) (n : Nat), vs = [.ref p, .ref o] ∧ Live N H ∧ StandAt ad K (wo N H) p s n ∧ StandAt ad K (wo N H) o s n ∧ n ≤ 60 ∧ ∀ H', Same H H' → Q (.bl true) H'
theorem sh_parts (l1 l2 : List Tri) (l3 : Ps) : Sh 4 (partsD l1 l2 l3) := .lst fun d hd => by
  simp only [List.mem_cons, List.not_mem_nil, or_false] at hd
  rcases hd with rfl | rfl | rfl
  · exact sh_map fun q _ => sh_tri q
  · exact sh_map fun q _ => sh_tri q
  · exact sh_map fun q _ => sh_pr q
theorem sc_Stand___eq__ : FnScope ["self", "other"] ["self", "other"] (defScope s_Stand___eq__) := ⟨rfl, rfl, rfl, by decide +kernel, rfl, by decide +kernel, by decide +kernel⟩
theorem ok_Stand___eq__ (T : Tx w K mg a) (m_Stand_parts : C8.Met P w K mg base 2 a.cS "parts" (sp_Stand_parts a K) []) : C8.Met P w K mg base 3 a.cS "__eq__" (sp_Stand___eq__ a K) [] := by
  refine metD T.cl_Stand T.d_Stand___eq__ sc_Stand___eq__ (fun _ _ _ _ _ _ us hl => match us, hl with | [_, _], _ => rfl) (fun vs H Q E h => ?_) (fun f cdv A outer s H vs Q E hr h => ?_)
  · obtain ⟨N, p, o, sd, n, rfl, _⟩ := h
    rfl
  · obtain ⟨N, p, o, sd, n, rfl, lv, hs, ho, hn, q⟩ := h
    have hs' := hs
    have ho' := ho
    obtain ⟨dp, _, _, _, _, _, _, hp, _⟩ := hs'
    obtain ⟨dq, _, _, _, _, _, _, hq, _⟩ := ho'
    refine ⟨_, (pss_one (ps_ret (pe_and (pe_callB (C8.call_isC T.is_Stand) rfl T.f_isinstance (by decide +kernel) (pa_cons (pv 1) (pa_cons (pe_glob (v := .ref a.cS) rfl T.m_Stand rfl) pa_nil))) (pe_one (pe_cmpR (kop_eq (K := K) rfl hr.units) (C8.pe_mt0 m_Stand_parts hr (by decide) (pv 0)) (C8.pe_mt0 m_Stand_parts hr (by decide) (pv 1)) (nomark _)))))), ?_⟩
    tm_at "ev"
    refine ⟨o, dq, _, rfl, (wo_of hq).2, ?_⟩
    tm_at "ev"
    refine iteT ?_
    tm_at "ev"
    refine ⟨p, dp, _, rfl, (wo_of hp).2, rfl, ?_⟩
    tm_at "ev"
    refine ⟨N, p, sd, n, rfl, lv, hs, hn, fun l1 l2 l3 r1 H1 i1 i2 i3 s1 d1 => ?_⟩
    tm_at "ev"
    refine ⟨o, dq, _, rfl, s1 _ _ (wo_of hq).2, rfl, ?_⟩
    tm_at "ev"
    refine ⟨N, o, sd, n, rfl, lv.same s1, ho.mono (wo_same s1), hn, fun l1' l2' l3' r2 H2 j1 j2 j3 s2 d2 => ?_⟩
    obtain rfl := sounds_uniq i1 j1
    obtain rfl := knobs_uniq i2 j2
    obtain rfl := voices_uniq i3 j3
    exact q_eqD (d1.up s2).real d2.real (sh_parts _ _ _) (q _ (s1.trans s2))
def sp_stand_behind (ad : Ad) (K : PySem.W.Frag) : Sp := fun vs H Q _ => ∃ (N : List Addr) (p : Addr) (v : V) (s : Sd) (n : Nat) (l : List Ev), vs = [.ref p, v] ∧ Live N H ∧ StandAt ad K (wo N H) p s n ∧ Dw K N H v (trD l) ∧ (∀ e ∈ l, e.ok) ∧ n + l.length ≤ 900 ∧
  ∀ x H', Same H H' → StandAt ad K (wo N H') x (s.run l) (n + l.length) → Q (.ref x) H'
theorem sc_stand_behind : FnScope ["stand", "track", "found", "event"] ["stand", "track"] (defScope s_stand_behind) := ⟨rfl, rfl, rfl, by decide +kernel, rfl, by decide +kernel, by decide +kernel⟩
theorem ok_stand_behind (T : Tx w K mg a) (m_Stand_after : C8.Met P w K mg base 3 a.cS "after" (sp_Stand_after a K) []) : C8.Cal P w K mg base 4 "stand_behind" (sp_stand_behind a K) [] := by
  refine calD T.d_stand_behind sc_stand_behind (fun _ _ _ _ _ _ us hl => match us, hl with | [_, _], _ => rfl) (fun vs H Q E h => ?_) (fun f cdv A outer s H vs Q E hr h => ?_)
  · obtain ⟨N, p, v, sd, n, l, rfl, _⟩ := h
    rfl
  · obtain ⟨N, p, v, sd, n, l, rfl, lv, hs, hd, ok, hn, q⟩ := h
    obtain ⟨pl, xs, rfl, hx, dx⟩ := dp_lst hd
    refine ⟨_, (pss_cons (ps_set (i := 2) sc_stand_behind.nd rfl (Or.inl rfl) (pv 0))
      (pss_cons (ps_for PassesOwn.never rfl (k_list (K := K) rfl (pi_list (pv 1))) (pg_name (i := 3) sc_stand_behind.nd rfl (Or.inl rfl))
        (pss_one (ps_set (i := 2) sc_stand_behind.nd rfl (Or.inl rfl) (C8.pe_mt m_Stand_after hr (by decide) (pv 2) (pa_cons (pe_slice (ksl_tup (K := K) rfl) (pv 3) (po_some pe_int) po_none) pa_nil)))))
      (pss_one (ps_ret (pv 2))))), ?_⟩
    tm_at "ev"
    refine ⟨pl, rfl, ⟨_, sqL_mono wo_sub hx⟩, for_data (N := N) hx dx (fun i σ' H' => (∃ y z, σ' = [some (.ref p), some (.ref pl), some (.ref y), z] ∧ StandAt a K (wo N H') y (sd.run (l.take i)) (n + i)) ∧ Same H H') ⟨⟨p, none, rfl, hs⟩, same_rfl⟩ (fun _ _ _ h => wo_same h.2) ?_ ?_⟩
    · rintro k d x σ' H' hk ⟨⟨y, z, rfl, hy⟩, s1⟩ hd'
      obtain ⟨e, he, hm, rfl⟩ := mem_d hk
      have lv1 := lv.same s1
      have hy' := hy
      obtain ⟨dy, _, _, _, _, _, _, hyp, _⟩ := hy'
      tm_at "ev"
      refine ⟨y, dy, _, rfl, (wo_of hyp).2, rfl, ?_⟩
      tm_at "ev"
      refine q_slT 1 lv1 hd' fun v2 H2 s2 d2 => ?_
      have hkl : k < l.length := (List.getElem?_eq_some_iff.mp he).1
      tm_at "ev"
      refine ⟨N, y, v2, e.th, sd.run (l.take k), n + k, rfl, lv1.same s2, hy.mono (wo_same s2), d2, (ok e hm).2, by omega, fun x3 H3 s3 h3 => ?_⟩
      tm_at "ev"
      refine ⟨⟨x3, _, rfl, ?_⟩, (s1.trans s2).trans s3⟩
      rw [take_up he, run_app]
      exact h3
    · rintro σ' H' ⟨⟨y, z, rfl, hy⟩, s1⟩
      rw [List.length_map, List.take_of_length_le (Nat.le_refl _)] at hy
      tm_at "ev"
      exact q y H' s1 hy
end
end Tp
set_option maxHeartbeats 4000000
namespace Tp
open PySem PySem.Spec PyProof.Rows L2
local macro_rules | `(tactic| tm_at "ev") => `(tactic| repeat first
  | with_reducible refine ev_seq ?_ | with_reducible refine ev_asg ?_ | with_reducible refine ev_drop ?_ | with_reducible refine ev_ret ?_ | with_reducible refine ev_ifS ?_ | with_reducible refine ev_next ?_
  | ((with_reducible refine' ev_var ?k1 ?_); (case k1 => exact rfl)) | with_reducible refine ev_c ?_ | with_reducible refine ev_op ?_ | with_reducible refine ev_I0 ?_ | with_reducible refine ev_test ?_ | with_reducible refine ev_B ?_ | with_reducible refine ev_bl ?_
  | ((with_reducible refine ev_eq ?k1 ?_); (case k1 => exact rfl)) | ((with_reducible refine ev_ne ?k1 ?_); (case k1 => exact rfl))
  | ((with_reducible refine' ev_nameL ?k1 ?_); (case k1 => first | (dsimp only [L2.start, wipe, List.map, List.set, List.length, List.replicate, List.append]; exact rfl) | exact rfl)) | with_reducible refine ev_name ?_ | with_reducible refine ev_nil ?_ | with_reducible refine ev_cons ?_ | with_reducible refine ev_call ?_ | with_reducible refine ev_tup ?_ | with_reducible refine ev_lst ?_ | with_reducible refine ev_CB ?_ | with_reducible refine ev_fld ?_
  | with_reducible refine ev_not ?_ | with_reducible refine ev_and ?_ | with_reducible refine ev_or ?_ | with_reducible refine ev_andV ?_ | with_reducible refine ev_orV ?_ | with_reducible refine ev_ifE ?_ | with_reducible refine ev_chain ?_ | with_reducible refine ev_meth ?_ | with_reducible refine ev_un ?_
  | with_reducible refine ev_sl ?_ | with_reducible refine ev_part ?_ | with_reducible refine ev_nopart ?_ | with_reducible refine ev_int ?_ | with_reducible refine ev_for ?_ | with_reducible refine ev_list ?_ | with_reducible refine ev_lc ?_ | with_reducible refine ev_gcons ?_ | with_reducible refine ev_gnil ?_ | with_reducible refine ev_sfld ?_ | with_reducible refine ev_make ?_ | with_reducible refine ev_notV ?_ | with_reducible refine ev_yes ?_ | with_reducible refine ev_dget ?_ | with_reducible refine ev_dput ?_ | with_reducible refine ev_bm ?_ | with_reducible refine ev_bm0 ?_ | with_reducible refine ev_items ?_ | with_reducible refine ev_keys ?_ | with_reducible refine ev_enum ?_ | with_reducible refine ev_tupI ?_ | with_reducible refine ev_par ?_ | with_reducible refine ev_two ?_ | with_reducible refine ev_kget ?_ | with_reducible refine ev_gsub ?_ | with_reducible refine ev_tapeK ?_ | with_reducible refine ev_str ?_ | with_reducible refine ev_txt ?_ | with_reducible refine ev_lc2 ?_ | with_reducible refine ev_dget2 ?_ | with_reducible refine ev_rU ?_ | with_reducible refine ev_ckw ?_ | with_reducible refine ev_dnotin ?_ | with_reducible refine ev_din ?_ | with_reducible refine ev_gfld ?_ | with_reducible refine ev_saug ?_ | with_reducible refine ev_finN ?_)
section
variable {P : Program} {w : World} {K : PySem.W.Frag} {mg : Str → Option Value} {base : Heap} {a : Ad}
/-! ### cut -/
theorem stand_nil {ad : Ad} {N : List Addr} {H : Hp} {x dx r t c : Addr} (hx : H x = some (.ins ad.cS dx (fS r t c))) (xN : x ∉ N) (rN : r ∉ N) (tN : t ∉ N) (cN : c ∉ N) (hr : H r = some (.dT [])) (ht : H t = some (.dT [])) (hc : H c = some (.dK [])) : StandAt ad K (wo N H) x Sd.nil 0 :=
  ⟨dx, r, t, c, [], [], [], wo_at xN hx, ⟨wo_at rN hr, .nil, (fun _ h => nomatch h), fun _ _ => rfl, fun _ h => nomatch h⟩, ⟨wo_at tN ht, .nil, (fun _ h => nomatch h), fun _ _ => rfl, fun _ h => nomatch h⟩,
    ⟨wo_at cN hc, .nil, (fun _ h => nomatch h), fun _ _ => rfl⟩, Nat.le_refl _, Nat.le_refl _, Nat.le_refl _, fun _ => Nat.le_refl _⟩
def sp_cut (K : PySem.W.Frag) : Sp := fun vs H Q _ => ∃ (N : List Addr) (v : V) (t : Int) (l : List Ev), vs = [v, .int t] ∧ Live N H ∧ Dw K N H v (trD l) ∧ (∀ e ∈ l, e.ok) ∧ l.length ≤ 60 ∧ (0 ≤ t ∧ t ≤ 999999) ∧
  ∀ ls lk lv r H', IsSounds (Sd.nil.run (l.filter fun e => decide (e.t < t))) ls → IsKnobs (Sd.nil.run (l.filter fun e => decide (e.t < t))) lk → IsVoices (Sd.nil.run (l.filter fun e => decide (e.t < t))) lv →
    Same H H' → Dw K N H' (.ref r) (.tuple [trD (cutA l t ls), trD (cutB l t ls lk lv)]) → Q (.ref r) H'
theorem sc_cut : FnScope ["track", "tick", "ahead", "stand", "ends", "begun", "behind", "event", "channel", "key", "force", "row"] ["track", "tick"] (defScope s_cut) := ⟨rfl, rfl, rfl, by decide +kernel, rfl, by decide +kernel, by decide +kernel⟩
theorem ok_cut (T : Tx w K mg a) (c_need_tick : C8.Cal P w K mg base 1 "need_tick" sp_need_tick []) (k_Stand : C8.Mak P w K mg base 1 "Stand" a.cS (sp_Stand___init__ a K) [])
    (c_stand_behind : C8.Cal P w K mg base 4 "stand_behind" (sp_stand_behind a K) []) (m_Stand_sounds : C8.Met P w K mg base 1 a.cS "sounds" (sp_Stand_sounds a K) [])
    (m_Stand_knobs : C8.Met P w K mg base 1 a.cS "knobs" (sp_Stand_knobs a K) []) (m_Stand_voices : C8.Met P w K mg base 1 a.cS "voices" (sp_Stand_voices a K) [])
    (c_later : C8.Cal P w K mg base 2 "later" (sp_later K) []) (c_need_room_events : C8.Cal P w K mg base 1 "need_room_events" (sp_need_room_events K) []) : C8.Cal P w K mg base 5 "cut" (sp_cut K) [] := by
  refine calD T.d_cut sc_cut (fun _ _ _ _ _ _ us hl => match us, hl with | [_, _], _ => rfl) (fun vs H Q E h => ?_) (fun f cdv A outer s H vs Q E hr h => ?_)
  · obtain ⟨N, v, t, l, rfl, _⟩ := h
    rfl
  · obtain ⟨N, v, t, l, rfl, lv, hd, ok, hz, ht, q⟩ := h
    refine ⟨_, (pss_cons (ps_expr (C8.pe_c c_need_tick hr (by decide) rfl (pa_cons (pv 1) pa_nil)))
      (pss_cons (ps_setLc (i := 2) (own := [("event", 7)]) rfl sc_cut.nd rfl rfl (sw_true rfl rfl rfl (by decide +kernel)) (k_list (K := K) rfl (pi_list (pv 0))) (blkOk_by (own := [("event", 7)]) (N := ["track", "tick", "ahead", "stand", "ends", "begun", "behind", "event", "channel", "key", "force", "row"]) (sc := defScope s_cut) (by decide +kernel)) (fun _ _ _ _ _ => pg_name (i := 7) sc_cut.nd rfl (Or.inl rfl)) (fun _ _ _ _ _ => pts_one (pt_cmpR op_lt (pe_ix (kix_tup (K := K) rfl) (pv 7) pe_int (fun _ _ => rfl)) (pv 1) (nomark _))) (fun _ _ _ _ _ => pv 7))
      (pss_cons (ps_set (i := 3) sc_cut.nd rfl (Or.inl rfl) (C8.pe_c c_stand_behind hr (by decide) rfl (pa_cons (pe_mk0 k_Stand hr (by decide) rfl) (pa_cons (pv 2) pa_nil))))
      (pss_cons (ps_setLc (i := 4) (own := [("channel", 8), ("key", 9), ("force", 10)]) rfl sc_cut.nd rfl rfl (sw_true rfl rfl rfl (by decide +kernel)) (k_list (K := K) rfl (pi_list (C8.pe_mt0 m_Stand_sounds hr (by decide) (pv 3)))) (blkOk_by (own := [("channel", 8), ("key", 9), ("force", 10)]) (N := ["track", "tick", "ahead", "stand", "ends", "begun", "behind", "event", "channel", "key", "force", "row"]) (sc := defScope s_cut) (by decide +kernel)) (fun _ _ _ _ _ => kg_tup (K := K) rfl (pg_tup (n := 3) rfl (pgs_cons (pg_name (i := 8) sc_cut.nd rfl (Or.inl rfl)) (pgs_cons (pg_name (i := 9) sc_cut.nd rfl (Or.inl rfl)) (pgs_cons (pg_name (i := 10) sc_cut.nd rfl (Or.inl rfl)) pgs_nil))))) (fun _ _ _ _ _ => pts_nil) (fun _ _ _ _ _ => pe_tup (pa_cons (pv 1) (pa_cons pe_str (pa_cons (pv 8) (pa_cons (pv 9) (pa_cons (C8.pe_gc rfl T.g_SOFT) pa_nil)))))))
      (pss_cons (ps_set (i := 5) sc_cut.nd rfl (Or.inl rfl) (pe_op op_cat (pe_lc (own := [("row", 11)]) rfl sc_cut.nd (k_list (K := K) rfl (pi_list (C8.pe_mt0 m_Stand_voices hr (by decide) (pv 3)))) (blkOk_by (own := [("row", 11)]) (N := ["track", "tick", "ahead", "stand", "ends", "begun", "behind", "event", "channel", "key", "force", "row"]) (sc := defScope s_cut) (by decide +kernel)) (fun _ _ _ _ _ => pg_name (i := 11) sc_cut.nd rfl (Or.inl rfl)) (fun _ _ _ _ _ => pts_nil) (fun _ _ _ _ _ => pe_op (kop_cat (K := K) rfl) (pe_tup (pa_cons pe_int (pa_cons pe_str pa_nil))) (pv 11))) (pe_lc (own := [("row", 11)]) rfl sc_cut.nd (k_list (K := K) rfl (pi_list (C8.pe_mt0 m_Stand_knobs hr (by decide) (pv 3)))) (blkOk_by (own := [("row", 11)]) (N := ["track", "tick", "ahead", "stand", "ends", "begun", "behind", "event", "channel", "key", "force", "row"]) (sc := defScope s_cut) (by decide +kernel)) (fun _ _ _ _ _ => pg_name (i := 11) sc_cut.nd rfl (Or.inl rfl)) (fun _ _ _ _ _ => pts_nil) (fun _ _ _ _ _ => pe_op (kop_cat (K := K) rfl) (pe_tup (pa_cons pe_int (pa_cons pe_str pa_nil))) (pv 11)))))
      (pss_cons (ps_expr (k_bm (K := K) rfl (pe_bm PySem.F.plainAttrs_list PySem.F.slot_list_extend PySem.F.type_list_extend mt_extend (pv 5) (pa_cons (pe_lc (own := [("row", 11)]) rfl sc_cut.nd (k_list (K := K) rfl (pi_list (C8.pe_mt0 m_Stand_sounds hr (by decide) (pv 3)))) (blkOk_by (own := [("row", 11)]) (N := ["track", "tick", "ahead", "stand", "ends", "begun", "behind", "event", "channel", "key", "force", "row"]) (sc := defScope s_cut) (by decide +kernel)) (fun _ _ _ _ _ => pg_name (i := 11) sc_cut.nd rfl (Or.inl rfl)) (fun _ _ _ _ _ => pts_nil) (fun _ _ _ _ _ => pe_op (kop_cat (K := K) rfl) (pe_tup (pa_cons pe_int (pa_cons pe_str pa_nil))) (pv 11))) pa_nil))))
      (pss_cons (ps_set (i := 6) sc_cut.nd rfl (Or.inl rfl) (C8.pe_c c_later hr (by decide) rfl (pa_cons (pe_lc (own := [("event", 7)]) rfl sc_cut.nd (k_list (K := K) rfl (pi_list (pv 0))) (blkOk_by (own := [("event", 7)]) (N := ["track", "tick", "ahead", "stand", "ends", "begun", "behind", "event", "channel", "key", "force", "row"]) (sc := defScope s_cut) (by decide +kernel)) (fun _ _ _ _ _ => pg_name (i := 7) sc_cut.nd rfl (Or.inl rfl)) (fun _ _ _ _ _ => pts_one (pt_cmpR op_ge (pe_ix (kix_tup (K := K) rfl) (pv 7) pe_int (fun _ _ => rfl)) (pv 1) (nomark _))) (fun _ _ _ _ _ => pv 7)) (pa_cons (pe_op op_sub pe_int (pv 1)) pa_nil))))
      (pss_cons (ps_expr (C8.pe_c c_need_room_events hr (by decide) rfl (pa_cons (pe_op op_cat (pv 2) (pv 4)) pa_nil)))
      (pss_cons (ps_expr (C8.pe_c c_need_room_events hr (by decide) rfl (pa_cons (pe_op op_cat (pv 5) (pv 6)) pa_nil)))
      (pss_one (ps_ret (pe_tup (pa_cons (pe_op op_cat (pv 2) (pv 4)) (pa_cons (pe_op op_cat (pv 5) (pv 6)) pa_nil)))))))))))))), ?_⟩
    tm_at "ev"
    refine ⟨t, rfl, ht.1, ht.2, ?_⟩
    tm_at "ev"
    obtain ⟨pl, xs, rfl, hx, dx⟩ := dp_lst hd
    refine ⟨pl, rfl, ⟨_, sqL_mono wo_sub hx⟩, fun D1 hD1 => lc_data (K := K) N l Ev.d (fun e => decide (e.t < t)) Ev.d (sqL_mono wo_sub hx) dx hD1 (by omega) lv ?_ ?_⟩
    · intro e he x H2 s2 lv2 hdx R Y hR hY
      tm_at "ev"
      refine ⟨rfl, ?_⟩
      tm_at "ev"
      refine q_ixTi hdx (atI_n (n := 0) rfl) ?_
      tm_at "ev"
      refine if_2 (fun hb => ?_) fun hb => hR hb _ same_rfl
      tm_at "ev"
      exact hY hb _ _ same_rfl hdx
    intro H1 n1
    generalize hah : (l.filter fun e => decide (e.t < t)) = ah at n1 q
    have okA : ∀ e ∈ ah, e.ok := fun e he => ok e (List.mem_filter.mp (hah ▸ he)).1
    have zA : ah.length ≤ l.length := by rw [← hah]; exact List.length_filter_le _ _
    tm_at "ev"
    intro x dx0 hxn hdx0 hne
    have lv1 := lv.same n1.same
    refine ⟨N, x, dx0, rfl, upd_same, lv1.notin hxn, mk_live lv1 hxn hdx0, fun H2 r0 t0 c0 sb2 a2 m1 m2 m3 m4 m5 m6 m7 m8 m9 m10 m11 m12 => ⟨rfl, ?_⟩⟩
    have s12 : Same H1 H2 := mk_same hxn hdx0 sb2
    have st2 : StandAt a K (wo N H2) x Sd.nil 0 := stand_nil a2 (lv1.notin hxn) m1 m2 m3 m10 m11 m12
    have lv2 := lv1.same s12
    tm_at "ev"
    have dA := n1.dw lv
    refine ⟨N, x, .ref D1, Sd.nil, 0, ah, rfl, lv2, st2, dA.up s12, okA, by omega, fun y H3 s23 st3 => ?_⟩
    have lv3 := lv2.same s23
    have st3' := st3
    obtain ⟨dy, _, _, _, _, _, _, hy, _⟩ := st3'
    have hy3 := (wo_of hy).2
    rw [Nat.zero_add] at st3
    tm_at "ev"
    refine ⟨y, dy, _, rfl, hy3, rfl, ?_⟩
    tm_at "ev"
    refine ⟨N, y, _, _, rfl, lv3, st3, by omega, fun ls r4 H4 i4 n4 => ?_⟩
    have lv4 := lv3.same n4.same
    obtain ⟨r4', xs4, e4, hx4, dx4⟩ := dp_lst (n4.dw lv3)
    cases e4
    have zS := sounds_len i4
    refine ⟨r4, rfl, ⟨_, sqL_mono wo_sub hx4⟩, fun D5 hD5 => lc_map N ls triD (fun q => Ev.d ⟨t, .off q.1 q.2.1 64⟩) (sqL_mono wo_sub hx4) dx4 hD5 (by omega) lv4 ?_ ?_⟩
    · intro e he x H5 s5 lv5 hdx Y hY
      tm_at "ev"
      refine q_unT hdx rfl fun us hus => ?_
      obtain ⟨v1, r1, rfl, e1, hus⟩ := dpA_cons hus
      obtain ⟨v2, r2, rfl, e2, hus⟩ := dpA_cons hus
      obtain ⟨v3, r3, rfl, e3, hus⟩ := dpA_cons hus
      obtain rfl := dpA_nil hus
      obtain rfl := dp_int e1
      obtain rfl := dp_int e2
      obtain rfl := dp_int e3
      tm_at "ev"
      refine ⟨rfl, ?_⟩
      tm_at "ev"
      refine ⟨sz5, fun p2 hp2 => ?_⟩
      have t5 := dw_tup (K := K) lv5 (xs := [.int t, .str "off", .int e.1, .int e.2.1, .int 64]) (ds := [.int t, .str "off", .int e.1, .int e.2.1, .int 64]) (.cons (.int _) (.cons (.str _) (.cons (.int _) (.cons (.int _) (.cons (.int _) .nil))))) hp2
      exact hY _ _ t5.1 t5.2
    intro H5 n5
    have s35 := n4.same.trans n5.same
    have lv5 := lv4.same n5.same
    tm_at "ev"
    refine ⟨y, dy, _, rfl, s35 _ _ hy3, rfl, ?_⟩
    tm_at "ev"
    refine ⟨N, y, _, _, rfl, lv5, st3.mono (wo_same s35), by omega, fun lvc r6 H6 i6 n6 => ?_⟩
    have lv6 := lv5.same n6.same
    obtain ⟨r6', xs6, e6, hx6, dx6⟩ := dp_lst (n6.dw lv5)
    cases e6
    have zV : lvc.length ≤ 100000 := Nat.le_trans (voices_len' i6) (by omega)
    refine ⟨r6, rfl, ⟨_, sqL_mono wo_sub hx6⟩, fun D7 hD7 => lc_map N lvc prD (fun q => Ev.d ⟨0, .voice q.1 q.2⟩) (sqL_mono wo_sub hx6) dx6 hD7 zV lv6 ?_ ?_⟩
    · intro e he x H7 s7 lv7 hdx Y hY
      tm_at "ev"
      refine ⟨rfl, ?_⟩
      tm_at "ev"
      refine ⟨sz2, fun p2 hp2 => ?_⟩
      have t5 := dw_tup (K := K) lv7 (xs := [.int 0, .str "voice"]) (ds := [.int 0, .str "voice"]) (.cons (.int _) (.cons (.str _) .nil)) hp2
      tm_at "ev"
      exact q_catT (lv7.same t5.1) t5.2 (Dw.up hdx t5.1) (by simp) fun v8 H8 s8 d8 => hY _ _ (t5.1.trans s8) d8
    intro H7 n7
    have s57 := n6.same.trans n7.same
    have s37 := s35.trans s57
    have lv7 := lv6.same n7.same
    tm_at "ev"
    refine ⟨y, dy, _, rfl, s37 _ _ hy3, rfl, ?_⟩
    tm_at "ev"
    refine ⟨N, y, _, _, rfl, lv7, st3.mono (wo_same s37), by omega, fun lk r8 H8 i8 n8 => ?_⟩
    have lv8 := lv7.same n8.same
    obtain ⟨r8', xs8, e8, hx8, dx8⟩ := dp_lst (n8.dw lv7)
    cases e8
    have zL := lens i4 i8 i6
    refine ⟨r8, rfl, ⟨_, sqL_mono wo_sub hx8⟩, fun D9 hD9 => lc_map N lk triD (fun q => Ev.d ⟨0, .knob q.1 q.2.1 q.2.2⟩) (sqL_mono wo_sub hx8) dx8 hD9 (by omega) lv8 ?_ ?_⟩
    · intro e he x H9 s9 lv9 hdx Y hY
      tm_at "ev"
      refine ⟨rfl, ?_⟩
      tm_at "ev"
      refine ⟨sz2, fun p2 hp2 => ?_⟩
      have t5 := dw_tup (K := K) lv9 (xs := [.int 0, .str "knob"]) (ds := [.int 0, .str "knob"]) (.cons (.int _) (.cons (.str _) .nil)) hp2
      tm_at "ev"
      exact q_catT (lv9.same t5.1) t5.2 (Dw.up hdx t5.1) (by simp) fun v10 H10 s10 d10 => hY _ _ (t5.1.trans s10) d10
    intro H9 n9
    have s79 := n8.same.trans n9.same
    have lv9 := lv8.same n9.same
    tm_at "ev"
    obtain ⟨us7, hus7, dus7⟩ := n7.at_
    obtain ⟨us9, hus9, dus9⟩ := n9.at_
    refine q_cat (N := N) (s79 _ _ hus7) hus9 (dpA_mono (wo_drop.trans (wo_same s79)) dus7) (dpA_mono wo_drop dus9) (by rw [List.length_map, List.length_map]; omega) fun B H10 n10 => ?_
    tm_at "ev"
    obtain ⟨usB, husB, dusB⟩ := n10.at_
    have lv10 := lv9.same n10.same
    have lvB : Live (B :: N) H10 := lv10.cons husB
    have s310 := (s37.trans s79).trans n10.same
    refine ⟨tyL husB, ?_⟩
    tm_at "ev"
    refine ⟨y, dy, _, rfl, s310 _ _ hy3, rfl, ?_⟩
    tm_at "ev"
    have up9 : Same (wo N H9) (wo (B :: N) H10) := wo_more n10.new n10.same
    have st10 : StandAt a K (wo (B :: N) H10) y (Sd.nil.run ah) ah.length := st3.mono ((wo_same (s37.trans s79)).trans up9)
    refine ⟨B :: N, y, _, _, rfl, lvB, st10, by omega, fun ls' r11 H11 i11 n11 => ?_⟩
    obtain rfl := sounds_uniq i4 i11
    have lv11 := lvB.same n11.same
    obtain ⟨r11', xs11, e11, hx11, dx11⟩ := dp_lst (n11.dw lvB)
    cases e11
    refine ⟨r11, rfl, ⟨_, sqL_mono wo_sub hx11⟩, fun D12 hD12 => lc_map (B :: N) ls triD (fun q => Ev.d ⟨0, .on q.1 q.2.1 q.2.2⟩) (sqL_mono wo_sub hx11) dx11 hD12 (by omega) lv11 ?_ ?_⟩
    · intro e he x H12 s12 lv12 hdx Y hY
      tm_at "ev"
      refine ⟨rfl, ?_⟩
      tm_at "ev"
      refine ⟨sz2, fun p2 hp2 => ?_⟩
      have t5 := dw_tup (K := K) lv12 (xs := [.int 0, .str "on"]) (ds := [.int 0, .str "on"]) (.cons (.int _) (.cons (.str _) .nil)) hp2
      tm_at "ev"
      exact q_catT (lv12.same t5.1) t5.2 (Dw.up hdx t5.1) (by simp) fun v13 H13 s13 d13 => hY _ _ (t5.1.trans s13) d13
    intro H12 n12
    have lv12 := lv11.same n12.same
    have s1012 := n11.same.trans n12.same
    obtain ⟨us12, hus12, dus12⟩ := n12.at_
    have husB12 := s1012 _ _ husB
    have lB := dpA_len dusB
    have l12 := dpA_len dus12
    simp only [List.length_append, List.length_map] at lB l12
    tm_at "ev"
    refine ⟨B, D12, usB, us12, rfl, rfl, husB12, hus12, Nat.le_trans (by omega : _ ≤ 16000) (by decide), ?_⟩
    tm_at "ev"
    have wm := wo_mut (N := B :: N) (H := H12) (o := .lst (usB ++ us12)) (p := B) List.mem_cons_self
    have dB13 : DpAll K (wo (B :: N) (upd H12 B (.lst (usB ++ us12)))) (usB ++ us12) ((begE ls lk lvc).map Ev.d) := by
      have := dpA_app (dpA_mono ((wo_same s1012).trans wm) dusB) (dpA_mono (wo_drop.trans wm) dus12)
      unfold begE
      rw [List.map_append, List.map_append, List.map_map, List.map_map, List.map_map]
      exact this
    have dA13 : Dw K (B :: N) (upd H12 B (.lst (usB ++ us12))) (.ref D1) (trD ah) := dp_mono ((((wo_same ((s12.trans s23).trans (s37.trans s79))).trans up9).trans (wo_same s1012)).trans wm) dA
    have dE13 : Dw K (B :: N) (upd H12 B (.lst (usB ++ us12))) (.ref D5) (trD (endsE t ls)) := by
      have := dp_mono ((((wo_same (s57.trans s79)).trans up9).trans (wo_same s1012)).trans wm) (n5.dw lv4)
      unfold trD endsE
      rw [List.map_map]
      exact this
    have sb13 : SameBut B H12 (upd H12 B (.lst (usB ++ us12))) := sb_upd (sb_same same_rfl)
    have s13 : Same H (upd H12 B (.lst (usB ++ us12))) := same_mut ((n1.same.trans ((s12.trans s23).trans (s310.trans s1012)))) ((n1.same.trans ((s12.trans s23).trans ((s37.trans s79)))).free n10.new)
    have lv13 : Live (B :: N) (upd H12 B (.lst (usB ++ us12))) := lv_but lv12 sb13 upd_same
    have hB13 : upd H12 B (.lst (usB ++ us12)) B = some (.lst (usB ++ us12)) := upd_same
    have dl13 : Dw K N (upd H12 B (.lst (usB ++ us12))) (.ref pl) (trD l) := hd.up s13
    obtain ⟨usA, husA, dusA⟩ := n1.at_
    obtain ⟨usE, husE, dusE⟩ := n5.at_
    have nBD1 : D1 ≠ B := fun e => by
      have h1 := (s12.trans s23).trans (s37.trans s79) _ _ husA
      rw [e, n10.new] at h1
      cases h1
    have nBD5 : D5 ≠ B := fun e => by
      have h1 := (s57.trans s79) _ _ husE
      rw [e, n10.new] at h1
      cases h1
    have husA13 : upd H12 B (.lst (usB ++ us12)) D1 = some (.lst usA) := (upd_ne nBD1).trans ((((s12.trans s23).trans s310).trans s1012) _ _ husA)
    have husE13 : upd H12 B (.lst (usB ++ us12)) D5 = some (.lst usE) := (upd_ne nBD5).trans ((((s57.trans s79).trans n10.same).trans s1012) _ _ husE)
    have dusA13 : DwA K (B :: N) (upd H12 B (.lst (usB ++ us12))) usA (ah.map Ev.d) := dpA_mono (wo_drop.trans ((((wo_same ((s12.trans s23).trans (s37.trans s79))).trans up9).trans (wo_same s1012)).trans wm)) dusA
    have dusE13 : DwA K (B :: N) (upd H12 B (.lst (usB ++ us12))) usE ((endsE t ls).map Ev.d) := by
      have := dpA_mono (wo_drop.trans ((((wo_same (s57.trans s79)).trans up9).trans (wo_same s1012)).trans wm)) dusE
      unfold endsE
      rw [List.map_map]
      exact this
    generalize upd H12 B (.lst (usB ++ us12)) = H13 at dB13 husA13 husE13 dusA13 dusE13 s13 lv13 hB13 dl13 ⊢
    obtain ⟨pl', xs13, e13, hx13, dx13⟩ := dp_lst dl13
    cases e13
    refine ⟨pl, rfl, ⟨_, sqL_mono wo_sub hx13⟩, fun D14 hD14 => lc_data (K := K) N l Ev.d (fun e => decide (t ≤ e.t)) Ev.d (sqL_mono wo_sub hx13) dx13 hD14 (by omega) (lv.same s13) ?_ ?_⟩
    · intro e he x H14 s14 lv14 hdx R Y hR hY
      tm_at "ev"
      refine ⟨rfl, ?_⟩
      tm_at "ev"
      refine q_ixTi hdx (atI_n (n := 0) rfl) ?_
      tm_at "ev"
      refine if_2 (fun hb => ?_) fun hb => hR hb _ same_rfl
      tm_at "ev"
      exact hY hb _ _ same_rfl hdx
    intro H14 n14
    have lv14 : Live N H14 := (lv.same s13).same n14.same
    generalize hbe : (l.filter fun e => decide (t ≤ e.t)) = be at n14
    have zB : be.length ≤ l.length := by rw [← hbe]; exact List.length_filter_le _ _
    tm_at "ev"
    refine ⟨N, .ref D14, 0 - t, be, rfl, lv14, n14.dw (lv.same s13), by omega, fun e he => ?_, fun r15 H15 n15 => ?_⟩
    · have hm : e ∈ l.filter (fun e => decide (t ≤ e.t)) := hbe ▸ he
      have h1 := (ok e (List.mem_filter.mp hm).1).1
      have h2 := of_decide_eq_true (List.mem_filter.mp hm).2
      omega
    have s1315 := n14.same.trans n15.same
    have lv15 := lv14.same n15.same
    obtain ⟨us15, hus15, dus15⟩ := n15.at_
    have zE : (endsE t ls).length = ls.length := List.length_map _
    have zG : (begE ls lk lvc).length = lvc.length + lk.length + ls.length := by
      unfold begE
      rw [List.length_append, List.length_append, List.length_map, List.length_map, List.length_map]
    have dusA15 : DwA K N H15 usA (ah.map Ev.d) := dpA_mono (wo_drop.trans (wo_same s1315)) dusA13
    have dusE15 : DwA K N H15 usE ((endsE t ls).map Ev.d) := dpA_mono (wo_drop.trans (wo_same s1315)) dusE13
    have dB15 : DwA K N H15 (usB ++ us12) ((begE ls lk lvc).map Ev.d) := dpA_mono (wo_drop.trans (wo_same s1315)) dB13
    have d15 : DwA K N H15 us15 ((be.map (Ev.shift (0 - t))).map Ev.d) := dpA_mono wo_drop dus15
    tm_at "ev"
    refine q_cat (N := N) (s1315 _ _ husA13) (s1315 _ _ husE13) dusA15 dusE15 (by rw [List.length_map, List.length_map, zE]; omega) fun r16 H16 n16 => ?_
    tm_at "ev"
    refine ⟨N, _, _, rfl, n16.dw lv15, by rw [List.length_append, List.length_map, List.length_map, zE]; omega, ?_⟩
    tm_at "ev"
    refine q_cat (N := N) (n16.same _ _ (s1315 _ _ hB13)) (n16.same _ _ hus15) (DwA.same dB15 n16.same) (DwA.same d15 n16.same) (by rw [List.length_map, List.length_map, List.length_map, zG]; omega) fun r17 H17 n17 => ?_
    tm_at "ev"
    have lv17 := (lv15.same n16.same).same n17.same
    refine ⟨N, _, _, rfl, n17.dw (lv15.same n16.same), by rw [List.length_append, List.length_map, List.length_map, List.length_map, zG]; omega, ?_⟩
    tm_at "ev"
    have s1517 := n16.same.trans n17.same
    have s1317 := s1315.trans s1517
    refine q_cat (N := N) (s1317 _ _ husA13) (s1317 _ _ husE13) (DwA.same dusA15 s1517) (DwA.same dusE15 s1517) (by rw [List.length_map, List.length_map, zE]; omega) fun r18 H18 n18 => ?_
    tm_at "ev"
    have s1518 := s1517.trans n18.same
    refine q_cat (N := N) (n18.same _ _ (s1317 _ _ hB13)) (n18.same _ _ (s1517 _ _ hus15)) (DwA.same dB15 s1518) (DwA.same d15 s1518) (by rw [List.length_map, List.length_map, List.length_map, zG]; omega) fun r19 H19 n19 => ?_
    tm_at "ev"
    have lv18 := lv17.same n18.same
    have lv19 := lv18.same n19.same
    refine ⟨sz2, fun p20 hp20 => ?_⟩
    have t20 := dw_tup (K := K) lv19 (xs := [.ref r18, .ref r19]) (.cons ((n18.dw lv17).up n19.same) (.cons (n19.dw lv18) .nil)) hp20
    subst hah
    subst hbe
    refine q ls lk lvc p20 _ i4 i8 i6 ((s13.trans (s1315.trans (s1518.trans n19.same))).trans t20.1) ?_
    have t2 := t20.2
    unfold trD cutA cutB
    rw [List.map_append, List.map_append]
    exact t2
/-! ### glued -/
def sp_glued (K : PySem.W.Frag) : Sp := fun vs H Q _ => ∃ (N : List Addr) (v w' : V) (t : Int) (l m : List Ev), vs = [v, w', .int t] ∧ Live N H ∧ Dw K N H v (trD l) ∧ Dw K N H w' (trD m) ∧ (0 ≤ t ∧ t ≤ 999999) ∧ (∀ e ∈ l, e.t ≤ t) ∧ (∀ e ∈ m, 0 ≤ e.t + t ∧ e.t + t ≤ 999999) ∧
  l.length + m.length ≤ 200 ∧ ∀ r H', NewL K N H H' r ((l ++ m.map (Ev.shift t)).map Ev.d) → Q (.ref r) H'
theorem sc_glued : FnScope ["track", "other", "tick", "found"] ["track", "other", "tick"] (defScope s_glued) := ⟨rfl, rfl, rfl, by decide +kernel, rfl, by decide +kernel, by decide +kernel⟩
theorem ok_glued (T : Tx w K mg a) (c_need_tick : C8.Cal P w K mg base 1 "need_tick" sp_need_tick []) (c_later : C8.Cal P w K mg base 2 "later" (sp_later K) [])
    (c_need_room_events : C8.Cal P w K mg base 1 "need_room_events" (sp_need_room_events K) []) : C8.Cal P w K mg base 3 "glued" (sp_glued K) [] := by
  refine calD T.d_glued sc_glued (fun _ _ _ _ _ _ us hl => match us, hl with | [_, _, _], _ => rfl) (fun vs H Q E h => ?_) (fun f cdv A outer s H vs Q E hr h => ?_)
  · obtain ⟨N, v, w', t, l, m, rfl, _⟩ := h
    rfl
  · obtain ⟨N, v, w', t, l, m, rfl, lv, hd, hm, ht, hl, hmt, hz, q⟩ := h
    refine ⟨_, (pss_cons (ps_expr (C8.pe_c c_need_tick hr (by decide) rfl (pa_cons (pv 2) pa_nil)))
      (pss_cons (ps_if (PW.pt (pw_and (pt_cmpR op_gt (pe_callB (kcall_len (K := K) rfl) rfl T.f_len (by decide +kernel) (pa_cons (pv 0) pa_nil)) pe_int (nomark _)) (pw_and1 (pt_cmpR op_gt (pe_ix (kix_tup (K := K) rfl) (pe_ix (kix_list (K := K) rfl) (pv 0) (pe_un un_neg pe_int) (fun _ _ => rfl)) pe_int (fun _ _ => rfl)) (pv 2) (nomark _))))) pss_never pss_nil)
      (pss_cons (ps_set (i := 3) sc_glued.nd rfl (Or.inl rfl) (pe_op op_cat (pe_callTy (kcall_list (K := K) rfl) rfl T.f_list (by decide +kernel) (pa_cons (pv 0) pa_nil)) (C8.pe_c c_later hr (by decide) rfl (pa_cons (pv 1) (pa_cons (pv 2) pa_nil)))))
      (pss_cons (ps_expr (C8.pe_c c_need_room_events hr (by decide) rfl (pa_cons (pv 3) pa_nil)))
      (pss_one (ps_ret (pv 3))))))), ?_⟩
    tm_at "ev"
    refine ⟨t, rfl, ht.1, ht.2, ?_⟩
    tm_at "ev"
    refine q_len hd ?_
    rw [List.length_map]
    tm_at "ev"
    refine if_dd (fun hi => ?ca) fun hi => ?cb
    case' ca =>
      tm_at "ev"
      obtain ⟨e, he⟩ : ∃ e, l.getLast? = some e := by
        cases hl' : l.getLast? with
        | some e => exact ⟨e, rfl⟩
        | none =>
          rw [List.getLast?_eq_none_iff] at hl'
          rw [hl'] at hi
          exact absurd hi (by simp)
      refine q_ixL hd (atI_last (by rw [List.getLast?_map, he]; rfl)) fun v0 hv0 => ?_
      tm_at "ev"
      refine q_ixTi hv0 (atI_n (n := 0) rfl) ?_
      tm_at "ev"
      refine if_nd (by have := hl e (List.mem_of_getLast? he); omega) ?_
    case' cb => refine iteF ?_
    all_goals
      tm_at "ev"
      refine q_list hd fun r1 H1 n1 => ?_
      tm_at "ev"
      have lv1 := lv.same n1.same
      refine ⟨N, w', t, m, rfl, lv1, hm.up n1.same, by omega, hmt, fun r2 H2 n2 => ?_⟩
      tm_at "ev"
      obtain ⟨us1, hus1, dus1⟩ := n1.at_
      obtain ⟨us2, hus2, dus2⟩ := n2.at_
      refine q_cat (N := N) (n2.same _ _ hus1) hus2 (dpA_mono (wo_drop.trans (wo_same n2.same)) dus1) (dpA_mono wo_drop dus2) (by rw [List.length_map, List.length_map, List.length_map]; omega) fun r3 H3 n3 => ?_
      have lv2 := lv1.same n2.same
      tm_at "ev"
      refine ⟨N, _, _, rfl, n3.dw lv2, by rw [List.length_append, List.length_map, List.length_map, List.length_map]; omega, ?_⟩
      tm_at "ev"
      rw [← List.map_append] at n3
      exact q _ _ (n3.back (n1.same.trans n2.same))
end
end Tp
set_option maxHeartbeats 2000000
namespace Tp
open PySem PySem.Spec PyProof.Rows L2
section
variable {K : PySem.W.Frag} {H H1 : Hp} {D a : Addr} {N : List Addr}
/-- a comprehension over a text's signs -/
theorem lc_its {z : Str} {g : TG} {te : TE} {vs : List Nat} {σ : L2.St} {Qd : Hp → Prop} (N : List Addr) (out : Nat → PyData) (hD : H1 D = none) (hz : z.cps.toList.length ≤ 100000) (lv : Live N H1)
    (turn : ∀ c ∈ z.cps.toList, ∀ H, Same H1 H → Live (D :: N) H → ∀ Y : V → Hp → Prop, (∀ y H', Same H H' → Dw K (D :: N) H' y (out c) → Y y H') → g (.str ⟨#[c]⟩) (wipe σ vs) H fun σ2 H2 => wipe σ2 vs = wipe σ vs ∧ te σ2 H2 Y)
    (done : ∀ H', NewL K N H1 H' D (z.cps.toList.map out) → Qd H') :
    ∃ W : Nat → Nat → Hp → Prop, (∃ m, W 0 m (upd H1 D (.lst []))) ∧ ∀ i m H, W i m H →
      ((Its z).stop i H ∧ Qd H) ∨ ((Its z).go i H ∧ ∃ Nx : Hp → Prop, (∀ H', Nx H' → ∃ m', m' < m ∧ W (i + 1) m' H') ∧ ∀ x H', (Its z).yld i H x H' → g x (wipe σ vs) H' fun σ2 H2 => wipe σ2 vs = wipe σ vs ∧ tYes σ2 H2 fun b H3 =>
        if b = true then te σ2 H3 fun y H4 => ∃ acc, H4 D = some (.lst acc) ∧ acc.length < sizeLine ∧ Nx (upd H4 D (.lst (acc ++ [y]))) else Nx H3) := by
  have lz : z.cps.toList.length = z.cps.size := Array.length_toList
  let Pv : Nat → Hp → Prop := fun i H => ∃ ys, Same H1 H ∧ H D = some (.lst ys) ∧ DpAll K (wo (D :: N) H) ys ((z.cps.toList.take i).map out)
  refine ⟨fun i m H => m = z.cps.size - i ∧ i ≤ z.cps.size ∧ Pv i H, ⟨z.cps.size, rfl, Nat.zero_le _, [], same_new hD, upd_same, .nil⟩, ?_⟩
  rintro i m H ⟨rfl, hi, ys, s, hH, hys⟩
  by_cases hlt : i < z.cps.size
  · refine .inr ⟨hlt, Pv (i + 1), fun H2 p' => ⟨z.cps.size - (i + 1), by omega, rfl, hlt, p'⟩, fun x H2 y => ?_⟩
    obtain ⟨rfl, c, hc, rfl⟩ := y
    have he : z.cps.toList[i]? = some c := by rw [Array.getElem?_toList]; exact hc
    have ly : ys.length = i := by
      rw [dpA_len hys, List.length_map, List.length_take]
      omega
    refine turn c (List.mem_of_getElem? he) _ s ((lv.same s).cons hH) _ fun y H3 s3 hy => ?_
    refine ⟨ys, s3 _ _ hH, by rw [ly]; exact Nat.lt_of_lt_of_le (by omega : i < 100000) (by decide), ys ++ [y], same_mut (s.trans s3) hD, upd_same, ?_⟩
    rw [take_up he, List.map_append]
    exact dpA_app (dpA_mono ((wo_same s3).trans (wo_mut List.mem_cons_self)) hys) (.cons (dp_mono (wo_mut List.mem_cons_self) hy) .nil)
  · refine .inl ⟨by show z.cps.size ≤ i; omega, done H ⟨s, hD, ys, hH, ?_⟩⟩
    rw [List.take_of_length_le (by omega)] at hys
    exact hys
theorem dpA_bools {G : Hp} : ∀ {bs : List Bool} {xs : List V}, DpAll K G xs (bs.map PyData.bool) → xs = bs.map V.bl
  | [], _, .nil => rfl
  | b :: bs, _, .cons h t => by
    cases h
    rw [dpA_bools t]
    rfl
/-- all(xs), all of them true -/
theorem q_all {α : Type} {l : List α} {H : Hp} {Q : VK} (n : NewL K N H1 H D (l.map fun _ => PyData.bool true)) (q : Q (.bl true) H) : rAll K [.ref D] H Q := by
  obtain ⟨xs, h1, h2⟩ := n.at_
  have h3 : l.map (fun _ => PyData.bool true) = (l.map fun _ => true).map PyData.bool := by
    rw [List.map_map]
    rfl
  rw [h3] at h2
  have e := dpA_bools h2
  rw [e] at h1
  refine ⟨D, l.map fun _ => true, rfl, .inl (.inl h1), ?_⟩
  have : (l.map fun _ => true).all id = true := by
    rw [List.all_eq_true]
    intro x hx
    obtain ⟨_, _, rfl⟩ := List.mem_map.mp hx
    rfl
  rw [this]
  exact q
end
theorem kcall_isi {X : Cx} {K : PySem.W.Frag} (h : X.K = K) : CallR X (.builtin "isinstance") (rIsi K) := h ▸ call_isi
theorem q_isInt {K : PySem.W.Frag} {H : Hp} {i : Int} {Q : VK} (q : Q (.bl true) H) : rIsi K [.int i, .ty "int"] H Q := ⟨.int i, .ty "int", .type "int", .type "int", true, rfl, .ty _, .base (.int i), kit_ty rfl, q⟩
theorem q_isStr {K : PySem.W.Frag} {H : Hp} {z : Str} {Q : VK} (q : Q (.bl true) H) : rIsi K [.str z, .ty "str"] H Q := ⟨.str z, .ty "str", .type "str", .type "str", true, rfl, .ty _, .base (.str z), kit_ty rfl, q⟩
theorem ev_str {te : TE} {σ : L2.St} {H : Hp} {R : It → Hp → Prop} (q : te σ H fun v H1 => ∃ x, v = .str x ∧ R (Its x) H1) : iStr te σ H R := q
theorem ev_txt {R : Str → Prop} {z : Str} (q : R z) : ∃ x, V.str z = .str x ∧ R x := ⟨z, rfl, q⟩
theorem ev_gsub {to ti : TE} {t : TSet} {σ : L2.St} {H : Hp} {v : V} {R : L2.St → Hp → Prop} (q : to σ H fun o H1 => ti σ H1 fun i H2 => t o i v H2 fun H3 => R σ H3) : gSub to ti t v σ H R := q
end Tp
set_option maxHeartbeats 4000000
namespace Tp
open PySem PySem.Spec PyProof.Rows L2
local macro_rules | `(tactic| tm_at "ev") => `(tactic| repeat first
  | with_reducible refine ev_seq ?_ | with_reducible refine ev_asg ?_ | with_reducible refine ev_drop ?_ | with_reducible refine ev_ret ?_ | with_reducible refine ev_ifS ?_ | with_reducible refine ev_next ?_
  | ((with_reducible refine' ev_var ?k1 ?_); (case k1 => exact rfl)) | with_reducible refine ev_c ?_ | with_reducible refine ev_op ?_ | with_reducible refine ev_I0 ?_ | with_reducible refine ev_test ?_ | with_reducible refine ev_B ?_ | with_reducible refine ev_bl ?_
  | ((with_reducible refine ev_eq ?k1 ?_); (case k1 => exact rfl)) | ((with_reducible refine ev_ne ?k1 ?_); (case k1 => exact rfl))
  | ((with_reducible refine' ev_nameL ?k1 ?_); (case k1 => first | (dsimp only [L2.start, wipe, List.map, List.set, List.length, List.replicate, List.append]; exact rfl) | exact rfl)) | with_reducible refine ev_name ?_ | with_reducible refine ev_nil ?_ | with_reducible refine ev_cons ?_ | with_reducible refine ev_call ?_ | with_reducible refine ev_tup ?_ | with_reducible refine ev_lst ?_ | with_reducible refine ev_CB ?_ | with_reducible refine ev_fld ?_
  | with_reducible refine ev_not ?_ | with_reducible refine ev_and ?_ | with_reducible refine ev_or ?_ | with_reducible refine ev_andV ?_ | with_reducible refine ev_orV ?_ | with_reducible refine ev_ifE ?_ | with_reducible refine ev_chain ?_ | with_reducible refine ev_meth ?_ | with_reducible refine ev_un ?_
  | with_reducible refine ev_sl ?_ | with_reducible refine ev_part ?_ | with_reducible refine ev_nopart ?_ | with_reducible refine ev_int ?_ | with_reducible refine ev_for ?_ | with_reducible refine ev_list ?_ | with_reducible refine ev_lc ?_ | with_reducible refine ev_gcons ?_ | with_reducible refine ev_gnil ?_ | with_reducible refine ev_sfld ?_ | with_reducible refine ev_make ?_ | with_reducible refine ev_notV ?_ | with_reducible refine ev_yes ?_ | with_reducible refine ev_dget ?_ | with_reducible refine ev_dput ?_ | with_reducible refine ev_bm ?_ | with_reducible refine ev_bm0 ?_ | with_reducible refine ev_items ?_ | with_reducible refine ev_keys ?_ | with_reducible refine ev_enum ?_ | with_reducible refine ev_tupI ?_ | with_reducible refine ev_par ?_ | with_reducible refine ev_two ?_ | with_reducible refine ev_kget ?_ | with_reducible refine ev_gsub ?_ | with_reducible refine ev_tapeK ?_ | with_reducible refine ev_str ?_ | with_reducible refine ev_txt ?_ | with_reducible refine ev_lc2 ?_ | with_reducible refine ev_dget2 ?_ | with_reducible refine ev_rU ?_ | with_reducible refine ev_ckw ?_ | with_reducible refine ev_dnotin ?_ | with_reducible refine ev_din ?_ | with_reducible refine ev_gfld ?_ | with_reducible refine ev_saug ?_ | with_reducible refine ev_finN ?_)
section
variable {P : Program} {w : World} {K : PySem.W.Frag} {mg : Str → Option Value} {base : Heap} {a : Ad}
/-! ### is_between, is_text -/
def sp_is_between (K : PySem.W.Frag) : Sp := fun vs H Q _ => ∃ (N : List Addr) (i lo hi : Int) (v : V), vs = [.int i, v] ∧ Dw K N H v (.tuple [.int lo, .int hi]) ∧ lo ≤ i ∧ i ≤ hi ∧ Q (.bl true) H
theorem sc_is_between : FnScope ["thing", "bounds", "low", "high"] ["thing", "bounds"] (defScope s_is_between) := ⟨rfl, rfl, rfl, by decide +kernel, rfl, by decide +kernel, by decide +kernel⟩
theorem ok_is_between (T : Tx w K mg a) : C8.Cal P w K mg base 1 "is_between" (sp_is_between K) [] := by
  refine calD T.d_is_between sc_is_between (fun _ _ _ _ _ _ us hl => match us, hl with | [_, _], _ => rfl) (fun vs H Q E h => ?_) (fun f cdv A outer s H vs Q E hr h => ?_)
  · obtain ⟨N, i, lo, hi, v, rfl, _⟩ := h
    rfl
  · obtain ⟨N, i, lo, hi, v, rfl, hd, h1, h2, q⟩ := h
    refine ⟨_, (pss_cons (ps_asg (pv 1) (kg_tup (K := K) rfl (pg_tup (n := 2) rfl (pgs_cons (pg_name (i := 2) sc_is_between.nd rfl (Or.inl rfl)) (pgs_cons (pg_name (i := 3) sc_is_between.nd rfl (Or.inl rfl)) pgs_nil)))))
      (pss_one (ps_ret (pe_and (pe_callB (kcall_isi (K := K) rfl) rfl T.f_isinstance (by decide +kernel) (pa_cons (pv 0) (pa_cons (pe_bltn (v := .ty "int") rfl T.f_int (by decide +kernel) rfl) pa_nil))) (pe_one (pe_chain op_le op_le (pv 2) (pv 0) (pv 3))))))), ?_⟩
    tm_at "ev"
    refine q_unT hd rfl fun us hus => ?_
    obtain ⟨v1, r1, rfl, e1, hus⟩ := dpA_cons hus
    obtain ⟨v2, r2, rfl, e2, hus⟩ := dpA_cons hus
    obtain rfl := dpA_nil hus
    obtain rfl := dp_int e1
    obtain rfl := dp_int e2
    tm_at "ev"
    refine q_isInt ?_
    tm_at "ev"
    refine iteT ?_
    tm_at "ev"
    refine if_d h1 ?_
    tm_at "ev"
    rw [decide_eq_true h2]
    exact q
def sp_is_text (K : PySem.W.Frag) : Sp := fun vs H Q _ => ∃ (N : List Addr) (z : Str), vs = [.str z] ∧ Live N H ∧ z.length ≤ 12 ∧ (∀ c ∈ z.cps.toList, c ∈ signs.cps.toList) ∧ ∀ H', Same H H' → Q (.bl true) H'
theorem sc_is_text : FnScope ["thing", "sign"] ["thing"] (defScope s_is_text) := ⟨rfl, rfl, rfl, by decide +kernel, rfl, by decide +kernel, by decide +kernel⟩
theorem ok_is_text (T : Tx w K mg a) : C8.Cal P w K mg base 1 "is_text" (sp_is_text K) [] := by
  refine calD T.d_is_text sc_is_text (fun _ _ _ _ _ _ us hl => match us, hl with | [_], _ => rfl) (fun vs H Q E h => ?_) (fun f cdv A outer s H vs Q E hr h => ?_)
  · obtain ⟨N, z, rfl, _⟩ := h
    rfl
  · obtain ⟨N, z, rfl, lv, h1, h2, q⟩ := h
    refine ⟨_, (pss_one (ps_ret (pe_and (pe_callB (kcall_isi (K := K) rfl) rfl T.f_isinstance (by decide +kernel) (pa_cons (pv 0) (pa_cons (pe_bltn (v := .ty "str") rfl T.f_str (by decide +kernel) rfl) pa_nil))) (pe_and (pe_cmpR op_le (pe_callB call_len_str rfl T.f_len (by decide +kernel) (pa_cons (pv 0) pa_nil)) (C8.pe_gc rfl T.g_MOST_SIGNS_events) (nomark _)) (pe_one (pe_callB (kcr_all (K := K) rfl rfl) rfl T.f_all (by decide +kernel) (pa_cons (pe_lc (own := [("sign", 1)]) rfl sc_is_text.nd (pi_str (pv 0)) (blkOk_by (own := [("sign", 1)]) (N := ["thing", "sign"]) (sc := defScope s_is_text) (by decide +kernel)) (fun _ _ _ _ _ => pg_name (i := 1) sc_is_text.nd rfl (Or.inl rfl)) (fun _ _ _ _ _ => pts_nil) (fun _ _ _ _ _ => pe_cmpR op_in_sign (pv 1) (C8.pe_gc rfl T.g_SIGNS) rfl)) pa_nil))))))), ?_⟩
    have lz : z.cps.toList.length ≤ 100000 := by
      have : z.cps.toList.length = z.length := Array.length_toList
      omega
    tm_at "ev"
    refine q_isStr ?_
    tm_at "ev"
    refine iteT ?_
    tm_at "ev"
    refine ⟨z, rfl, Nat.le_trans h1 (by decide), ?_⟩
    tm_at "ev"
    refine if_d (by omega) ?_
    tm_at "ev"
    intro D hD
    refine lc_its (K := K) N (fun _ => .bool true) hD lz lv ?_ ?_
    · intro c hc H2 s2 lv2 Y hY
      tm_at "ev"
      refine ⟨rfl, ?_⟩
      tm_at "ev"
      refine ⟨c, _, rfl, rfl, ?_⟩
      have hc' : c ∈ (("abcdefghijklmnopqrstuvwxyz0123456789 " : Str)).cps.toList := h2 c hc
      rw [decide_eq_true hc']
      exact hY _ _ same_rfl (.bl true)
    · intro H2 n2
      tm_at "ev"
      exact q_all n2 (q _ n2.same)
/-! ### the book -/
def kB (es : List (Str × Addr)) : List (Key × V) := es.map fun e => (Sum.inr e.1, V.ref e.2)
theorem inr_inj (a b : Str) (h : (Sum.inr a : Key) = Sum.inr b) : a = b := Sum.inr.inj h
def letters : Str := "abcdefghijklmnopqrstuvwxyz"
structure NameOk (z : Str) : Prop where
  lo : 1 ≤ z.length
  hi : z.length ≤ 8
  ch : ∀ c ∈ z.cps.toList, c ∈ letters.cps.toList
theorem ok_one : NameOk "one" := ⟨by decide, by decide, by decide⟩
theorem ok_two : NameOk "two" := ⟨by decide, by decide, by decide⟩
def sp_need_new : Sp := fun vs H Q _ => ∃ (N : List Addr) (b : Addr) (z : Str) (es : List (Str × Addr)), vs = [.ref b, .str z] ∧ Live N H ∧ H b = some (.dK (kB es)) ∧ z ∉ es.map (·.1) ∧ NameOk z ∧ ∀ H', Same H H' → Q .non H'
theorem sc_need_new : FnScope ["book", "name", "sign"] ["book", "name"] (defScope s_need_new) := ⟨rfl, rfl, rfl, by decide +kernel, rfl, by decide +kernel, by decide +kernel⟩
theorem ok_need_new (T : Tx w K mg a) : C8.Cal P w K mg base 1 "need_new" sp_need_new [] := by
  refine calD T.d_need_new sc_need_new (fun _ _ _ _ _ _ us hl => match us, hl with | [_, _], _ => rfl) (fun vs H Q E h => ?_) (fun f cdv A outer s H vs Q E hr h => ?_)
  · obtain ⟨N, b, z, es, rfl, _⟩ := h
    rfl
  · obtain ⟨N, b, z, es, rfl, lv, hb, hz, ok, q⟩ := h
    refine ⟨_, (pss_cons (ps_if (PW.pt (pw_or (pt_not (pt_chain op_le op_le pe_int (pe_callB call_len_str rfl T.f_len (by decide +kernel) (pa_cons (pv 1) pa_nil)) (C8.pe_gc rfl T.g_MOST_SIGNS_deeds))) (pw_or1 (pt_not (pt_val (pe_callB (kcr_all (K := K) rfl rfl) rfl T.f_all (by decide +kernel) (pa_cons (pe_lc (own := [("sign", 2)]) rfl sc_need_new.nd (pi_str (pv 1)) (blkOk_by (own := [("sign", 2)]) (N := ["book", "name", "sign"]) (sc := defScope s_need_new) (by decide +kernel)) (fun _ _ _ _ _ => pg_name (i := 2) sc_need_new.nd rfl (Or.inl rfl)) (fun _ _ _ _ _ => pts_nil) (fun _ _ _ _ _ => pe_cmpR op_in_sign (pv 2) (C8.pe_gc rfl T.g_LETTERS) rfl)) pa_nil))))))) pss_never pss_nil)
      (pss_one (ps_if (pt_cmp (pc_din (hu_of hr) (pv 1) (pv 0))) pss_never pss_nil))), ?_⟩
    have h1 := ok.lo
    have h2 := ok.hi
    have lz : z.cps.toList.length ≤ 100000 := by
      have : z.cps.toList.length = z.length := Array.length_toList
      omega
    tm_at "ev"
    refine ⟨z, rfl, Nat.le_trans h2 (by decide), ?_⟩
    tm_at "ev"
    refine if_d (by omega) ?_
    tm_at "ev"
    refine if_n (decide_eq_true (by omega)) ?_
    tm_at "ev"
    intro D hD
    refine lc_its (K := K) N (fun _ => .bool true) hD lz lv ?_ ?_
    · intro c hc H2 s2 lv2 Y hY
      tm_at "ev"
      refine ⟨rfl, ?_⟩
      tm_at "ev"
      refine ⟨c, _, rfl, rfl, ?_⟩
      have hc' : c ∈ (("abcdefghijklmnopqrstuvwxyz" : Str)).cps.toList := ok.ch c hc
      rw [decide_eq_true hc']
      exact hY _ _ same_rfl (.bl true)
    · intro H2 n2
      tm_at "ev"
      refine q_all n2 ?_
      tm_at "ev"
      refine if_n rfl ?_
      tm_at "ev"
      have hv : valV (kB es) (.inr z) = none := by
        rcases valV_map (Sum.inr : Str → Key) inr_inj V.ref es z with ⟨e, he, e1, _⟩ | ⟨_, h⟩
        · exact absurd (List.mem_map.mpr ⟨e, he, e1⟩) hz
        · exact h
      refine ⟨b, none, rfl, .inl ⟨_, .inr z, .inl (n2.same _ _ hb), rfl, hv.symm⟩, ?_⟩
      tm_at "ev"
      refine iteF ?_
      tm_at "ev"
      exact q _ n2.same
def sp_need_room_deeds : Sp := fun vs H Q _ => ∃ (b : Addr) (es : List (Str × Addr)), vs = [.ref b] ∧ H b = some (.dK (kB es)) ∧ es.length < 6 ∧ Q .non H
theorem sc_need_room_deeds : FnScope ["book"] ["book"] (defScope s_need_room_deeds) := ⟨rfl, rfl, rfl, by decide +kernel, rfl, by decide +kernel, by decide +kernel⟩
theorem ok_need_room_deeds (T : Tx w K mg a) : C8.Cal P w K mg base 1 "need_room_deeds" sp_need_room_deeds [] := by
  refine calD T.d_need_room_deeds sc_need_room_deeds (fun _ _ _ _ _ _ us hl => match us, hl with | [_], _ => rfl) (fun vs H Q E h => ?_) (fun f cdv A outer s H vs Q E hr h => ?_)
  · obtain ⟨b, es, rfl, _⟩ := h
    rfl
  · obtain ⟨b, es, rfl, hb, hz, q⟩ := h
    refine ⟨_, (pss_one (ps_if (pt_cmpR op_ge (pe_callB call_lenD rfl T.f_len (by decide +kernel) (pa_cons (pv 0) pa_nil)) (C8.pe_gc rfl T.g_MOST_TAPES) (nomark _)) pss_never pss_nil)), ?_⟩
    tm_at "ev"
    refine ⟨b, _, rfl, hb, ?_⟩
    rw [show (kB es).length = es.length from List.length_map _]
    tm_at "ev"
    refine if_nd (by omega) ?_
    tm_at "ev"
    exact q
def sp_tape_of : Sp := fun vs H Q _ => ∃ (b t : Addr) (z : Str) (es : List (Str × Addr)), vs = [.ref b, .str z] ∧ H b = some (.dK (kB es)) ∧ valV (kB es) (.inr z) = some (.ref t) ∧ Q (.ref t) H
theorem sc_tape_of : FnScope ["book", "name"] ["book", "name"] (defScope s_tape_of) := ⟨rfl, rfl, rfl, by decide +kernel, rfl, by decide +kernel, by decide +kernel⟩
theorem ok_tape_of (T : Tx w K mg a) : C8.Cal P w K mg base 1 "tape_of" sp_tape_of [] := by
  refine calD T.d_tape_of sc_tape_of (fun _ _ _ _ _ _ us hl => match us, hl with | [_, _], _ => rfl) (fun vs H Q E h => ?_) (fun f cdv A outer s H vs Q E hr h => ?_)
  · obtain ⟨b, t, z, es, rfl, _⟩ := h
    rfl
  · obtain ⟨b, t, z, es, rfl, hb, hv, q⟩ := h
    refine ⟨_, (pss_cons (ps_if (pt_cmp (pc_dnotin (hu_of hr) (pv 1) (pv 0))) pss_never pss_nil)
      (pss_one (ps_ret (pe_dget (hu_of hr) (pv 0) (pv 1) (fun _ _ => rfl))))), ?_⟩
    tm_at "ev"
    refine ⟨b, _, rfl, .inl ⟨_, .inr z, .inl hb, rfl, hv.symm⟩, ?_⟩
    tm_at "ev"
    refine if_f rfl ?_
    tm_at "ev"
    exact ⟨b, _, rfl, .inl ⟨_, .inr z, .inl hb, rfl, hv.symm⟩, q⟩
def sp_track_of (ad : Ad) (K : PySem.W.Frag) : Sp := fun vs H Q _ => ∃ (N : List Addr) (x : Addr) (t : Tp0) (k : Nat) (l : List Ev), vs = [.ref x, .int k] ∧ Live N H ∧ TapeAt ad K (wo N H) x t ∧ t.trs.length ≤ 6 ∧ t.trs[k]? = some l ∧ ∀ v H', Same H H' → Dw K N H' v (trD l) → Q v H'
theorem sc_track_of : FnScope ["tape", "number", "rows"] ["tape", "number"] (defScope s_track_of) := ⟨rfl, rfl, rfl, by decide +kernel, rfl, by decide +kernel, by decide +kernel⟩
theorem ok_track_of (T : Tx w K mg a) (m_Tape_tracks : C8.Met P w K mg base 1 a.cT "tracks" (sp_Tape_tracks a K) []) : C8.Cal P w K mg base 2 "track_of" (sp_track_of a K) [] := by
  refine calD T.d_track_of sc_track_of (fun _ _ _ _ _ _ us hl => match us, hl with | [_, _], _ => rfl) (fun vs H Q E h => ?_) (fun f cdv A outer s H vs Q E hr h => ?_)
  · obtain ⟨N, x, t, k, l, rfl, _⟩ := h
    rfl
  · obtain ⟨N, x, t, k, l, rfl, lv, hx, hz, hk, q⟩ := h
    have hx' := hx
    obtain ⟨dx, m, r, h1, _⟩ := hx'
    have hkl := (List.getElem?_eq_some_iff.mp hk).1
    refine ⟨_, (pss_cons (ps_set (i := 2) sc_track_of.nd rfl (Or.inl rfl) (C8.pe_mt0 m_Tape_tracks hr (by decide) (pv 0)))
      (pss_cons (ps_if (pt_not (pt_chain op_le op_lt pe_int (pv 1) (pe_callB (kcall_len (K := K) rfl) rfl T.f_len (by decide +kernel) (pa_cons (pv 2) pa_nil)))) pss_never pss_nil)
      (pss_one (ps_ret (pe_ix (kix_list (K := K) rfl) (pv 2) (pv 1) (fun _ _ => rfl)))))), ?_⟩
    tm_at "ev"
    refine ⟨x, dx, _, rfl, (wo_of h1).2, rfl, ?_⟩
    tm_at "ev"
    refine ⟨N, x, t, rfl, lv, hx, hz, fun r2 H2 n2 => ?_⟩
    have dr := n2.dw lv
    tm_at "ev"
    refine if_d (by omega) ?_
    tm_at "ev"
    refine q_len dr ?_
    rw [List.length_map]
    tm_at "ev"
    refine if_n (decide_eq_true (by omega)) ?_
    tm_at "ev"
    exact q_ixL dr (atI_n (by rw [List.getElem?_map, hk]; rfl)) fun v hv => q v H2 n2.same hv
end
end Tp
set_option maxHeartbeats 4000000
namespace Tp
open PySem PySem.Spec PyProof.Rows L2
local macro_rules | `(tactic| tm_at "ev") => `(tactic| repeat first
  | with_reducible refine ev_seq ?_ | with_reducible refine ev_asg ?_ | with_reducible refine ev_drop ?_ | with_reducible refine ev_ret ?_ | with_reducible refine ev_ifS ?_ | with_reducible refine ev_next ?_
  | ((with_reducible refine' ev_var ?k1 ?_); (case k1 => exact rfl)) | with_reducible refine ev_c ?_ | with_reducible refine ev_op ?_ | with_reducible refine ev_I0 ?_ | with_reducible refine ev_test ?_ | with_reducible refine ev_B ?_ | with_reducible refine ev_bl ?_
  | ((with_reducible refine ev_eq ?k1 ?_); (case k1 => exact rfl)) | ((with_reducible refine ev_ne ?k1 ?_); (case k1 => exact rfl))
  | ((with_reducible refine' ev_nameL ?k1 ?_); (case k1 => first | (dsimp only [L2.start, wipe, List.map, List.set, List.length, List.replicate, List.append]; exact rfl) | exact rfl)) | with_reducible refine ev_name ?_ | with_reducible refine ev_nil ?_ | with_reducible refine ev_cons ?_ | with_reducible refine ev_call ?_ | with_reducible refine ev_tup ?_ | with_reducible refine ev_lst ?_ | with_reducible refine ev_CB ?_ | with_reducible refine ev_fld ?_
  | with_reducible refine ev_not ?_ | with_reducible refine ev_and ?_ | with_reducible refine ev_or ?_ | with_reducible refine ev_andV ?_ | with_reducible refine ev_orV ?_ | with_reducible refine ev_ifE ?_ | with_reducible refine ev_chain ?_ | with_reducible refine ev_meth ?_ | with_reducible refine ev_un ?_
  | with_reducible refine ev_sl ?_ | with_reducible refine ev_part ?_ | with_reducible refine ev_nopart ?_ | with_reducible refine ev_int ?_ | with_reducible refine ev_for ?_ | with_reducible refine ev_list ?_ | with_reducible refine ev_lc ?_ | with_reducible refine ev_gcons ?_ | with_reducible refine ev_gnil ?_ | with_reducible refine ev_sfld ?_ | with_reducible refine ev_make ?_ | with_reducible refine ev_notV ?_ | with_reducible refine ev_yes ?_ | with_reducible refine ev_dget ?_ | with_reducible refine ev_dput ?_ | with_reducible refine ev_bm ?_ | with_reducible refine ev_bm0 ?_ | with_reducible refine ev_items ?_ | with_reducible refine ev_keys ?_ | with_reducible refine ev_enum ?_ | with_reducible refine ev_tupI ?_ | with_reducible refine ev_par ?_ | with_reducible refine ev_two ?_ | with_reducible refine ev_kget ?_ | with_reducible refine ev_gsub ?_ | with_reducible refine ev_tapeK ?_ | with_reducible refine ev_str ?_ | with_reducible refine ev_txt ?_ | with_reducible refine ev_lc2 ?_ | with_reducible refine ev_dget2 ?_ | with_reducible refine ev_rU ?_ | with_reducible refine ev_ckw ?_ | with_reducible refine ev_dnotin ?_ | with_reducible refine ev_din ?_ | with_reducible refine ev_gfld ?_ | with_reducible refine ev_saug ?_ | with_reducible refine ev_finN ?_)
section
variable {P : Program} {w : World} {K : PySem.W.Frag} {mg : Str → Option Value} {base : Heap} {a : Ad}
/-! ### with_track -/
theorem enc_ok {trs : List (List Ev)} : (trs.map fun l => ((true, l) : Bool × List Ev)).map encT = trs.map trD := by
  rw [List.map_map]
  rfl
theorem enc_snd {trs : List (List Ev)} : (trs.map fun l => ((true, l) : Bool × List Ev)).map (·.2) = trs := by
  rw [List.map_map]
  exact List.map_id' trs
/-- Tape(b, rows, paces=ps), rows and ps lists -/
theorem tape_made {N : List Addr} {H : Hp} {b : Int} {v z0 : V} {kvs : Ps} {trs : List (List Ev)} {Q : Addr → Hp → Prop} {E : XK} (lv : Live N H) (hb : BeatOk b) (hv : Dw K N H v (trsD trs)) (hz : Dw K N H z0 (psD kvs)) (ok : PsOk kvs) (tr : ∀ l ∈ trs, TrOk l) (l1 : 1 ≤ trs.length) (l2 : trs.length ≤ 6)
    (q : ∀ x H', Same H H' → H x = none → TapeAt a K (wo N H') x ⟨b, kvs, trs⟩ → Q x H') {x dx : Addr} (hx : H x = none) (hdx : H dx = none) (hne : dx ≠ x) :
    sp_Tape___init__ a K [.ref x, .int b, v, z0] (upd (upd H dx (.own x)) x (.ins a.cT dx [])) (fun v H2 => v = .non ∧ Q x H2) E := by
  refine ⟨N, x, dx, b, v, z0, kvs, trs.map fun l => (true, l), rfl, upd_same, lv.notin hx, mk_live lv hx hdx, hb, ?_, ?_, ok, fun q hq => ?_, by rw [List.length_map]; exact l1, by rw [List.length_map]; exact l2, fun H' sb ht => ⟨rfl, ?_⟩⟩
  · rw [enc_ok]
    exact (DwS.lst hv).mk (mk_wo hx hdx)
  · exact (DwS.lst hz).mk (mk_wo hx hdx)
  · obtain ⟨l, hl, rfl⟩ := List.mem_map.mp hq
    exact ⟨tr l hl, fun h => by cases h⟩
  · rw [enc_snd] at ht
    exact q x H' (mk_same hx hdx sb) hx ht
/-- the same, what follows as one word -/
theorem tape_made2 {N : List Addr} {H : Hp} {b : Int} {v z0 : V} {kvs : Ps} {trs : List (List Ev)} {Qc : VK} {E : XK} {x dx : Addr} (lv : Live N H) (hb : BeatOk b) (hv : Dw K N H v (trsD trs)) (hz : Dw K N H z0 (psD kvs)) (ok : PsOk kvs) (tr : ∀ l ∈ trs, TrOk l) (l1 : 1 ≤ trs.length) (l2 : trs.length ≤ 6)
    (hx : H x = none) (hdx : H dx = none) (hne : dx ≠ x) (q : ∀ H', Same H H' → TapeAt a K (wo N H') x ⟨b, kvs, trs⟩ → Qc .non H') :
    sp_Tape___init__ a K [.ref x, .int b, v, z0] (upd (upd H dx (.own x)) x (.ins a.cT dx [])) Qc E := by
  refine ⟨N, x, dx, b, v, z0, kvs, trs.map fun l => (true, l), rfl, upd_same, lv.notin hx, mk_live lv hx hdx, hb, ?_, ?_, ok, fun q hq => ?_, by rw [List.length_map]; exact l1, by rw [List.length_map]; exact l2, fun H' sb ht => ?_⟩
  · rw [enc_ok]
    exact (DwS.lst hv).mk (mk_wo hx hdx)
  · exact (DwS.lst hz).mk (mk_wo hx hdx)
  · obtain ⟨l, hl, rfl⟩ := List.mem_map.mp hq
    exact ⟨tr l hl, fun h => by cases h⟩
  · rw [enc_snd] at ht
    exact q H' (mk_same hx hdx sb) ht
def sp_with_track (ad : Ad) (K : PySem.W.Frag) : Sp := fun vs H Q _ => ∃ (N : List Addr) (x : Addr) (v : V) (t : Tp0) (k : Nat) (l : List Ev), vs = [.ref x, .int k, v] ∧ Live N H ∧ TapeAt ad K (wo N H) x t ∧ TpOk t ∧ k < t.trs.length ∧ Dw K N H v (trD l) ∧ TrOk l ∧
  ∀ y H', Same H H' → TapeAt ad K (wo N H') y ⟨t.b, t.ps, t.trs.set k l⟩ → Q (.ref y) H'
theorem sc_with_track : FnScope ["tape", "number", "track", "rows"] ["tape", "number", "track"] (defScope s_with_track) := ⟨rfl, rfl, rfl, by decide +kernel, rfl, by decide +kernel, by decide +kernel⟩
theorem ok_with_track (T : Tx w K mg a) (m_Tape_tracks : C8.Met P w K mg base 1 a.cT "tracks" (sp_Tape_tracks a K) []) (m_Tape_beat : C8.Met P w K mg base 2 a.cT "beat" (sp_Tape_beat a K) [])
    (m_Tape_paces : C8.Met P w K mg base 2 a.cT "paces" (sp_Tape_paces a K) []) (t_Tape : TapeMk P w K mg base 4 a) : C8.Cal P w K mg base 6 "with_track" (sp_with_track a K) [] := by
  refine calD T.d_with_track sc_with_track (fun _ _ _ _ _ _ us hl => match us, hl with | [_, _, _], _ => rfl) (fun vs H Q E h => ?_) (fun f cdv A outer s H vs Q E hr h => ?_)
  · obtain ⟨N, x, v, t, k, l, rfl, _⟩ := h
    rfl
  · obtain ⟨N, x, v, t, k, l, rfl, lv, hx, ok, hk, hv, okl, q⟩ := h
    have hx' := hx
    obtain ⟨dx, m, r, h1, _⟩ := hx'
    refine ⟨_, (pss_cons (ps_set (i := 3) sc_with_track.nd rfl (Or.inl rfl) (C8.pe_mt0 m_Tape_tracks hr (by decide) (pv 0)))
      (pss_cons (ps_asg (pv 2) (pg_sub (pv 3) (pv 1) set_list))
      (pss_one (ps_ret (pe_tapeK (K := K) t_Tape hr (by decide) rfl rfl T.m_Tape (pa_cons (C8.pe_mt0 m_Tape_beat hr (by decide) (pv 0)) (pa_cons (pv 3) pa_nil)) (pk_cons (C8.pe_mt0 m_Tape_paces hr (by decide) (pv 0)) pk_nil)))))), ?_⟩
    tm_at "ev"
    refine ⟨x, dx, _, rfl, (wo_of h1).2, rfl, ?_⟩
    tm_at "ev"
    refine ⟨N, x, t, rfl, lv, hx, ok.len.2, fun r2 H2 n2 => ?_⟩
    obtain ⟨us, hus, dus⟩ := n2.at_
    have lz := dpA_len dus
    rw [List.length_map] at lz
    tm_at "ev"
    have hixn : ixN us.length (k : Int) = some k := by
      unfold ixN
      rw [if_pos (by omega), if_pos (by omega)]
      rfl
    refine ⟨r2, us, k, k, rfl, rfl, hus, hixn, ?_⟩
    have up2 : Same (wo N H) (wo (r2 :: N) H2) := wo_more n2.new n2.same
    have wm := wo_mut (N := r2 :: N) (H := H2) (o := .lst (us.set k v)) (p := r2) List.mem_cons_self
    have up3 : Same (wo N H) (wo N (upd H2 r2 (.lst (us.set k v)))) := (up2.trans wm).trans wo_drop
    have dr : Dw K N (upd H2 r2 (.lst (us.set k v))) (.ref r2) (trsD (t.trs.set k l)) := by
      unfold trsD
      rw [List.map_set]
      exact .lst (.inl (.inl (wo_at (lv.notin n2.new) upd_same))) (dpA_set k (dpA_mono (wm.trans wo_drop) dus) (dp_mono up3 hv))
    have s3 : Same H (upd H2 r2 (.lst (us.set k v))) := same_mut n2.same n2.new
    have hx3 := hx.mono up3
    have lv3 := lv.same s3
    generalize upd H2 r2 (.lst (us.set k v)) = H3 at dr s3 hx3 lv3 ⊢
    tm_at "ev"
    refine ⟨x, dx, _, rfl, s3 _ _ (wo_of h1).2, rfl, ?_⟩
    tm_at "ev"
    refine ⟨x, t, rfl, hx3.mono wo_sub, ?_⟩
    tm_at "ev"
    refine ⟨x, dx, _, rfl, s3 _ _ (wo_of h1).2, rfl, ?_⟩
    tm_at "ev"
    refine ⟨N, x, t, rfl, lv3, hx3, ok.ps, fun r4 H4 n4 => ?_⟩
    tm_at "ev"
    refine ⟨rfl, rfl, fun y dy hy hdy hne => ?_⟩
    have ls : (t.trs.set k l).length = t.trs.length := List.length_set
    exact tape_made (lv3.same n4.same) ok.b (dr.up n4.same) (n4.dw lv3) ok.ps (fun l' hl' => (List.mem_or_eq_of_mem_set hl').elim (ok.trs l') fun e => e ▸ okl) (by rw [ls]; exact ok.len.1) (by rw [ls]; exact ok.len.2)
      (fun y' H5 s5 _ h5 => q y' H5 ((s3.trans n4.same).trans s5) h5) hy hdy hne
/-! ### do_new, do_add, do_put, do_pace -/
def sp_do_new (ad : Ad) (K : PySem.W.Frag) : Sp := fun vs H Q _ => ∃ (N : List Addr) (b : Addr) (z : Str) (v : V) (bt : Int) (es : List (Str × Addr)), vs = [.ref b, .str z, v] ∧ Live N H ∧ H b = some (.dK (kB es)) ∧ z ∉ es.map (·.1) ∧ NameOk z ∧ es.length < 6 ∧ Dw K N H v (.list [.int bt]) ∧ BeatOk bt ∧
  ∀ x H', Same H H' → TapeAt ad K (wo N H') x ⟨bt, [], [[]]⟩ → Q (.ref x) H'
theorem sc_do_new : FnScope ["book", "name", "things", "tape"] ["book", "name", "things"] (defScope s_do_new) := ⟨rfl, rfl, rfl, by decide +kernel, rfl, by decide +kernel, by decide +kernel⟩
theorem none_same {H : Hp} : Same (fun _ => none) H := fun _ _ h => nomatch h
theorem ok_do_new (T : Tx w K mg a) (c_need_new : C8.Cal P w K mg base 1 "need_new" sp_need_new []) (c_need_room_deeds : C8.Cal P w K mg base 1 "need_room_deeds" sp_need_room_deeds [])
    (k_Tape : C8.Mak P w K mg base 4 "Tape" a.cT (sp_Tape___init__ a K) [.ref a.eT, .ref a.eP]) : C8.Cal P w K mg base 6 "do_new" (sp_do_new a K) [] := by
  refine calD T.d_do_new sc_do_new (fun _ _ _ _ _ _ us hl => match us, hl with | [_, _, _], _ => rfl) (fun vs H Q E h => ?_) (fun f cdv A outer s H vs Q E hr h => ?_)
  · obtain ⟨N, b, z, v, bt, es, rfl, _⟩ := h
    rfl
  · obtain ⟨N, b, z, v, bt, es, rfl, lv, hb, hz, okz, hl, hv, okb, q⟩ := h
    refine ⟨_, (pss_cons (ps_expr (C8.pe_c c_need_new hr (by decide) rfl (pa_cons (pv 0) (pa_cons (pv 1) pa_nil))))
      (pss_cons (ps_set (i := 3) sc_do_new.nd rfl (Or.inl rfl) (C8.pe_mk k_Tape hr (by decide) rfl (pa_cons (pe_ix (kix_list (K := K) rfl) (pv 2) pe_int (fun _ _ => rfl)) pa_nil)))
      (pss_cons (ps_expr (C8.pe_c c_need_room_deeds hr (by decide) rfl (pa_cons (pv 0) pa_nil)))
      (pss_one (ps_ret (pv 3)))))), ?_⟩
    tm_at "ev"
    refine ⟨N, b, z, es, rfl, lv, hb, hz, okz, fun H1 s1 => ?_⟩
    have lv1 := lv.same s1
    tm_at "ev"
    refine q_ixLi (hv.up s1) (atI_n (n := 0) rfl) ?_
    tm_at "ev"
    intro x dx hx hdx hne
    refine ⟨N, x, dx, bt, .ref a.eT, .ref a.eP, [], [(false, [])], rfl, upd_same, lv1.notin hx, mk_live lv1 hx hdx, okb, ?_, ?_, ⟨(fun _ h => nomatch h), .nil, Nat.zero_le _⟩, fun q hq => ?_, by decide, by decide, fun H' sb ht => ⟨rfl, ?_⟩⟩
    · exact DwS.tup (dp_mono none_same T.x_eT)
    · exact DwS.tup (dp_mono none_same T.x_eP)
    · rw [List.mem_singleton] at hq
      subst hq
      exact ⟨⟨(fun _ h => nomatch h), .nil, Nat.zero_le _⟩, fun _ => rfl⟩
    · have s2 := mk_same hx hdx sb
      tm_at "ev"
      refine ⟨b, es, rfl, s2 _ _ (s1 _ _ hb), hl, ?_⟩
      tm_at "ev"
      exact q x H' (s1.trans s2) ht
def sp_do_add (ad : Ad) (K : PySem.W.Frag) : Sp := fun vs H Q _ => ∃ (N : List Addr) (b x : Addr) (z : Str) (v : V) (t : Tp0) (es : List (Str × Addr)), vs = [.ref b, .str z, v] ∧ Live N H ∧ H b = some (.dK (kB es)) ∧ valV (kB es) (.inr z) = some (.ref x) ∧ TapeAt ad K (wo N H) x t ∧ TpOk t ∧ t.trs.length < 6 ∧
  ∀ y H', Same H H' → TapeAt ad K (wo N H') y ⟨t.b, t.ps, t.trs ++ [[]]⟩ → Q (.ref y) H'
theorem sc_do_add : FnScope ["book", "name", "things", "tape"] ["book", "name", "things"] (defScope s_do_add) := ⟨rfl, rfl, rfl, by decide +kernel, rfl, by decide +kernel, by decide +kernel⟩
theorem ok_do_add (T : Tx w K mg a) (c_tape_of : C8.Cal P w K mg base 1 "tape_of" sp_tape_of []) (m_Tape_tracks : C8.Met P w K mg base 1 a.cT "tracks" (sp_Tape_tracks a K) []) (m_Tape_beat : C8.Met P w K mg base 2 a.cT "beat" (sp_Tape_beat a K) [])
    (m_Tape_paces : C8.Met P w K mg base 2 a.cT "paces" (sp_Tape_paces a K) []) (t_Tape : TapeMk P w K mg base 4 a) : C8.Cal P w K mg base 6 "do_add" (sp_do_add a K) [] := by
  refine calD T.d_do_add sc_do_add (fun _ _ _ _ _ _ us hl => match us, hl with | [_, _, _], _ => rfl) (fun vs H Q E h => ?_) (fun f cdv A outer s H vs Q E hr h => ?_)
  · obtain ⟨N, b, x, z, v, t, es, rfl, _⟩ := h
    rfl
  · obtain ⟨N, b, x, z, v, t, es, rfl, lv, hb, hv, hx, ok, hl, q⟩ := h
    have hx' := hx
    obtain ⟨dx, m, r, h1, _⟩ := hx'
    have hx0 := (wo_of h1).2
    refine ⟨_, (pss_cons (ps_set (i := 3) sc_do_add.nd rfl (Or.inl rfl) (C8.pe_c c_tape_of hr (by decide) rfl (pa_cons (pv 0) (pa_cons (pv 1) pa_nil))))
      (pss_one (ps_ret (pe_tapeK (K := K) t_Tape hr (by decide) rfl rfl T.m_Tape (pa_cons (C8.pe_mt0 m_Tape_beat hr (by decide) (pv 3)) (pa_cons (pe_op op_cat (C8.pe_mt0 m_Tape_tracks hr (by decide) (pv 3)) (pe_lst (pa_cons (pe_lst pa_nil) pa_nil))) pa_nil)) (pk_cons (C8.pe_mt0 m_Tape_paces hr (by decide) (pv 3)) pk_nil))))), ?_⟩
    tm_at "ev"
    refine ⟨b, x, z, es, rfl, hb, hv, ?_⟩
    tm_at "ev"
    refine ⟨x, dx, _, rfl, hx0, rfl, ?_⟩
    tm_at "ev"
    refine ⟨x, t, rfl, hx.mono wo_sub, ?_⟩
    tm_at "ev"
    refine ⟨x, dx, _, rfl, hx0, rfl, ?_⟩
    tm_at "ev"
    refine ⟨N, x, t, rfl, lv, hx, ok.len.2, fun r2 H2 n2 => ?_⟩
    have lv2 := lv.same n2.same
    tm_at "ev"
    refine ⟨sz0, fun p3 hp3 => ?_⟩
    have n3 := newL_lst (K := K) (N := N) (xs := []) (ds := []) .nil hp3
    have lv3 := lv2.same n3.same
    tm_at "ev"
    refine ⟨sz1, fun p4 hp4 => ?_⟩
    have n4 := newL_lst (K := K) (N := N) (xs := [.ref p3]) (dpA_one (n3.dw lv2)) hp4
    have lv4 := lv3.same n4.same
    obtain ⟨us2, hus2, dus2⟩ := n2.at_
    obtain ⟨us4, hus4, dus4⟩ := n4.at_
    have s24 := n3.same.trans n4.same
    refine q_cat (N := N) (s24 _ _ hus2) hus4 (dpA_mono (wo_drop.trans (wo_same s24)) dus2) (dpA_mono wo_drop dus4) (by rw [List.length_map]; simp; omega) fun r5 H5 n5 => ?_
    have lv5 := lv4.same n5.same
    have s5 := (n2.same.trans s24).trans n5.same
    tm_at "ev"
    refine ⟨x, dx, _, rfl, s5 _ _ hx0, rfl, ?_⟩
    tm_at "ev"
    refine ⟨N, x, t, rfl, lv5, hx.mono (wo_same s5), ok.ps, fun r6 H6 n6 => ?_⟩
    tm_at "ev"
    refine ⟨rfl, rfl, fun y dy hy hdy hne => ?_⟩
    have dr : Dw K N H5 (.ref r5) (trsD (t.trs ++ [[]])) := by
      have := n5.dw lv4
      unfold trsD
      rw [List.map_append]
      exact this
    exact tape_made (lv5.same n6.same) ok.b (dr.up n6.same) (n6.dw lv5) ok.ps (fun l' hl' => by
        rcases List.mem_append.mp hl' with h | h
        · exact ok.trs l' h
        · rw [List.mem_singleton] at h
          subst h
          exact ⟨(fun _ h => nomatch h), .nil, Nat.zero_le _⟩) (by rw [List.length_append]; simp) (by rw [List.length_append]; simp; omega)
      (fun y' H7 s7 _ h7 => q y' H7 ((s5.trans n6.same).trans s7) h7) hy hdy hne
def sp_do_put (ad : Ad) (K : PySem.W.Frag) : Sp := fun vs H Q _ => ∃ (N : List Addr) (b x : Addr) (z : Str) (v : V) (t : Tp0) (k : Nat) (l : List Ev) (e : Ev) (es : List (Str × Addr)), vs = [.ref b, .str z, v] ∧ Live N H ∧ H b = some (.dK (kB es)) ∧ valV (kB es) (.inr z) = some (.ref x) ∧ TapeAt ad K (wo N H) x t ∧ TpOk t ∧
  Dw K N H v (.list [.int k, e.d]) ∧ t.trs[k]? = some l ∧ e.ok ∧ (∀ y ∈ l, y.t ≤ e.t) ∧ l.length < 200 ∧ ∀ y H', Same H H' → TapeAt ad K (wo N H') y ⟨t.b, t.ps, t.trs.set k (l ++ [e])⟩ → Q (.ref y) H'
theorem sc_do_put : FnScope ["book", "name", "things", "tape", "number", "event"] ["book", "name", "things"] (defScope s_do_put) := ⟨rfl, rfl, rfl, by decide +kernel, rfl, by decide +kernel, by decide +kernel⟩
theorem ok_do_put (T : Tx w K mg a) (c_tape_of : C8.Cal P w K mg base 1 "tape_of" sp_tape_of []) (c_track_of : C8.Cal P w K mg base 2 "track_of" (sp_track_of a K) [])
    (c_put_in : C8.Cal P w K mg base 3 "put_in" (sp_put_in K) []) (c_with_track : C8.Cal P w K mg base 6 "with_track" (sp_with_track a K) []) : C8.Cal P w K mg base 7 "do_put" (sp_do_put a K) [] := by
  refine calD T.d_do_put sc_do_put (fun _ _ _ _ _ _ us hl => match us, hl with | [_, _, _], _ => rfl) (fun vs H Q E h => ?_) (fun f cdv A outer s H vs Q E hr h => ?_)
  · obtain ⟨N, b, x, z, v, t, k, l, e, es, rfl, _⟩ := h
    rfl
  · obtain ⟨N, b, x, z, v, t, k, l, e, es, rfl, lv, hb, hvz, hx, ok, hv, hk, oke, hle, hz, q⟩ := h
    have hkl := (List.getElem?_eq_some_iff.mp hk).1
    refine ⟨_, (pss_cons (ps_set (i := 3) sc_do_put.nd rfl (Or.inl rfl) (C8.pe_c c_tape_of hr (by decide) rfl (pa_cons (pv 0) (pa_cons (pv 1) pa_nil))))
      (pss_cons (ps_asg (pv 2) (kg_lst (K := K) rfl (pg_lst (n := 2) rfl (pgs_cons (pg_name (i := 4) sc_do_put.nd rfl (Or.inl rfl)) (pgs_cons (pg_name (i := 5) sc_do_put.nd rfl (Or.inl rfl)) pgs_nil)))))
      (pss_one (ps_ret (C8.pe_c c_with_track hr (by decide) rfl (pa_cons (pv 3) (pa_cons (pv 4) (pa_cons (C8.pe_c c_put_in hr (by decide) rfl (pa_cons (C8.pe_c c_track_of hr (by decide) rfl (pa_cons (pv 3) (pa_cons (pv 4) pa_nil))) (pa_cons (pv 5) pa_nil))) pa_nil)))))))), ?_⟩
    tm_at "ev"
    refine ⟨b, x, z, es, rfl, hb, hvz, ?_⟩
    tm_at "ev"
    refine q_unL hv rfl fun us hus => ?_
    obtain ⟨v1, r1, rfl, e1, hus⟩ := dpA_cons hus
    obtain ⟨v2, r2, rfl, e2, hus⟩ := dpA_cons hus
    obtain rfl := dpA_nil hus
    obtain rfl := dp_int e1
    tm_at "ev"
    refine ⟨N, x, t, k, l, rfl, lv, hx, ok.len.2, hk, fun v3 H3 s3 d3 => ?_⟩
    have lv3 := lv.same s3
    tm_at "ev"
    refine ⟨N, v3, v2, l, e, rfl, lv3, d3, Dw.up e2 s3, oke, hz, hle, fun r4 H4 n4 => ?_⟩
    tm_at "ev"
    have lv4 := lv3.same n4.same
    have okl := ok.trs l (List.mem_of_getElem? hk)
    refine ⟨N, x, .ref r4, t, k, l ++ [e], rfl, lv4, hx.mono (wo_same (s3.trans n4.same)), ok, hkl, n4.dw lv3, ⟨fun y hy => ?_, ?_, by rw [List.length_append]; simp; omega⟩, fun y H5 s5 h5 => ?_⟩
    · rcases List.mem_append.mp hy with h | h
      · exact okl.ok y h
      · rw [List.mem_singleton] at h
        exact h ▸ oke
    · refine List.pairwise_append.mpr ⟨okl.up, by simp, fun y hy y' hy' => ?_⟩
      rw [List.mem_singleton] at hy'
      exact hy' ▸ hle y hy
    · exact q y H5 ((s3.trans n4.same).trans s5) h5
end
end Tp
set_option maxHeartbeats 2000000
namespace Tp
/-! ### the pieces are tracks -/
structure SdOk (s : Sd) : Prop where
  r : ∀ q, ∀ f ∈ s.r q, 1 ≤ f ∧ f ≤ 127
  rq : ∀ q, s.r q ≠ [] → InR q
  t : ∀ q, 0 ≤ s.t q ∧ s.t q ≤ 127
  tq : ∀ q, s.t q ≠ 0 → InR q
  c : ∀ q, 0 ≤ s.c q ∧ s.c q ≤ 127
  cq : ∀ q, s.c q ≠ 0 → 0 ≤ q ∧ q ≤ 15
theorem sdok_nil : SdOk Sd.nil := ⟨(fun _ _ h => nomatch h), fun _ h => absurd rfl h, (fun _ => by show (0 : Int) ≤ 0 ∧ (0 : Int) ≤ 127; decide), fun _ h => absurd rfl h, (fun _ => by show (0 : Int) ≤ 0 ∧ (0 : Int) ≤ 127; decide), fun _ h => absurd rfl h⟩
theorem sdok_step {s : Sd} (h : SdOk s) {th : Th} (ok : th.ok) : SdOk (s.step th) := by
  cases th with
  | on c k f =>
    refine ⟨fun q g hg => ?_, fun q hq => ?_, h.t, h.tq, h.c, h.cq⟩
    · have hg : g ∈ (if q = (c, k) then s.r q ++ [f] else s.r q) := hg
      by_cases e : q = (c, k)
      · rw [if_pos e] at hg
        rcases List.mem_append.mp hg with hg | hg
        · exact h.r q g hg
        · rw [List.mem_singleton] at hg
          exact hg ▸ ok.2.2
      · rw [if_neg e] at hg
        exact h.r q g hg
    · have hq : (if q = (c, k) then s.r q ++ [f] else s.r q) ≠ [] := hq
      by_cases e : q = (c, k)
      · rw [e]
        exact ⟨ok.1, ok.2.1⟩
      · rw [if_neg e] at hq
        exact h.rq q hq
  | off c k f =>
    refine ⟨fun q g hg => ?_, fun q hq => ?_, h.t, h.tq, h.c, h.cq⟩
    · have hg : g ∈ (if q = (c, k) then (s.r q).drop 1 else s.r q) := hg
      by_cases e : q = (c, k)
      · rw [if_pos e] at hg
        exact h.r q g (List.mem_of_mem_drop hg)
      · rw [if_neg e] at hg
        exact h.r q g hg
    · have hq : (if q = (c, k) then (s.r q).drop 1 else s.r q) ≠ [] := hq
      by_cases e : q = (c, k)
      · rw [e]
        exact ⟨ok.1, ok.2.1⟩
      · rw [if_neg e] at hq
        exact h.rq q hq
  | knob c k f =>
    refine ⟨h.r, h.rq, fun q => ?_, fun q hq => ?_, h.c, h.cq⟩
    · show 0 ≤ (if q = (c, k) then f else s.t q) ∧ (if q = (c, k) then f else s.t q) ≤ 127
      by_cases e : q = (c, k)
      · rw [if_pos e]
        exact ok.2.2
      · rw [if_neg e]
        exact h.t q
    · have hq : (if q = (c, k) then f else s.t q) ≠ 0 := hq
      by_cases e : q = (c, k)
      · rw [e]
        exact ⟨ok.1, ok.2.1⟩
      · rw [if_neg e] at hq
        exact h.tq q hq
  | voice c f =>
    refine ⟨h.r, h.rq, h.t, h.tq, fun q => ?_, fun q hq => ?_⟩
    · show 0 ≤ (if q = c then f else s.c q) ∧ (if q = c then f else s.c q) ≤ 127
      by_cases e : q = c
      · rw [if_pos e]
        exact ok.2
      · rw [if_neg e]
        exact h.c q
    · have hq : (if q = c then f else s.c q) ≠ 0 := hq
      by_cases e : q = c
      · rw [e]
        exact ok.1
      · rw [if_neg e] at hq
        exact h.cq q hq
  | mark z => exact h
theorem sdok_run : ∀ {l : List Ev} {s : Sd}, SdOk s → (∀ e ∈ l, e.ok) → SdOk (s.run l)
  | [], _, h, _ => h
  | e :: l, s, h, ok => sdok_run (l := l) (s := s.step e.th) (sdok_step h (ok e List.mem_cons_self).2) fun x hx => ok x (List.mem_cons_of_mem _ hx)
theorem sounds_mem {s : Sd} (h : SdOk s) {ls : List Tri} (hs : IsSounds s ls) : ∀ x ∈ ls, InR (x.1, x.2.1) ∧ 1 ≤ x.2.2 ∧ x.2.2 ≤ 127 := by
  obtain ⟨ys, _, a2, _, rfl⟩ := hs.ex
  intro x hx
  obtain ⟨q, hq, hx⟩ := List.mem_flatMap.mp hx
  obtain ⟨f, hf, rfl⟩ := List.mem_map.mp hx
  exact ⟨a2 q hq, h.r q f hf⟩
theorem knobs_mem {s : Sd} (h : SdOk s) {ls : List Tri} (hs : IsKnobs s ls) : ∀ x ∈ ls, InR (x.1, x.2.1) ∧ 0 ≤ x.2.2 ∧ x.2.2 ≤ 127 := by
  obtain ⟨ys, _, a2, _, rfl⟩ := hs.ex
  intro x hx
  obtain ⟨q, hq, rfl⟩ := List.mem_map.mp hx
  exact ⟨a2 q (List.mem_filter.mp hq).1, h.t q⟩
theorem voices_mem {s : Sd} (h : SdOk s) {ls : Ps} (hs : IsVoices s ls) : ∀ x ∈ ls, (0 ≤ x.1 ∧ x.1 ≤ 15) ∧ 0 ≤ x.2 ∧ x.2 ≤ 127 := by
  obtain ⟨ys, _, _, rfl⟩ := hs.ex
  intro x hx
  obtain ⟨q, hq, rfl⟩ := List.mem_map.mp hx
  have h2 := of_decide_eq_true (List.mem_filter.mp hq).2
  exact ⟨h.cq q (by omega), h.c q⟩
theorem begE_mem {ls lk : List Tri} {lv : Ps} {e : Ev} (h : e ∈ begE ls lk lv) : (∃ x ∈ lv, e = ⟨0, .voice x.1 x.2⟩) ∨ (∃ x ∈ lk, e = ⟨0, .knob x.1 x.2.1 x.2.2⟩) ∨ ∃ x ∈ ls, e = ⟨0, .on x.1 x.2.1 x.2.2⟩ := by
  unfold begE at h
  rcases List.mem_append.mp h with h | h
  · rcases List.mem_append.mp h with h | h
    · obtain ⟨x, hx, rfl⟩ := List.mem_map.mp h
      exact .inl ⟨x, hx, rfl⟩
    · obtain ⟨x, hx, rfl⟩ := List.mem_map.mp h
      exact .inr (.inl ⟨x, hx, rfl⟩)
  · obtain ⟨x, hx, rfl⟩ := List.mem_map.mp h
    exact .inr (.inr ⟨x, hx, rfl⟩)
theorem begE_len (ls lk : List Tri) (lv : Ps) : (begE ls lk lv).length = lv.length + lk.length + ls.length := by
  unfold begE
  rw [List.length_append, List.length_append, List.length_map, List.length_map, List.length_map]
theorem cutA_ok {l : List Ev} (ok : TrOk l) (hl : l.length ≤ 60) {t : Int} (ht : 0 ≤ t ∧ t ≤ 999999) {ls : List Tri} (h1 : IsSounds (Sd.nil.run (l.filter fun e => decide (e.t < t))) ls) : TrOk (cutA l t ls) := by
  have okA : ∀ e ∈ l.filter (fun e => decide (e.t < t)), e.ok := fun e he => ok.ok e (List.mem_filter.mp he).1
  have sd := sdok_run sdok_nil okA
  refine ⟨fun e he => ?_, ?_, ?_⟩
  · rcases List.mem_append.mp he with he | he
    · exact okA e he
    · obtain ⟨x, hx, rfl⟩ := List.mem_map.mp he
      have := (sounds_mem sd h1 x hx).1
      exact ⟨ht, this.1, this.2, by decide, by decide⟩
  · refine List.pairwise_append.mpr ⟨ok.up.sublist List.filter_sublist, ?_, fun x hx y hy => ?_⟩
    · unfold endsE
      rw [List.pairwise_map]
      exact List.pairwise_of_forall fun _ _ => Int.le_refl _
    · obtain ⟨z, _, rfl⟩ := List.mem_map.mp hy
      have := of_decide_eq_true (List.mem_filter.mp hx).2
      show x.t ≤ t
      omega
  · have z1 := sounds_len h1
    have z2 := List.length_filter_le (fun e : Ev => decide (e.t < t)) l
    unfold cutA endsE
    rw [List.length_append, List.length_map]
    omega
theorem cutB_ok {l : List Ev} (ok : TrOk l) (hl : l.length ≤ 60) {t : Int} (ht : 0 ≤ t ∧ t ≤ 999999) {ls lk : List Tri} {lv : Ps} (h1 : IsSounds (Sd.nil.run (l.filter fun e => decide (e.t < t))) ls) (h2 : IsKnobs (Sd.nil.run (l.filter fun e => decide (e.t < t))) lk)
    (h3 : IsVoices (Sd.nil.run (l.filter fun e => decide (e.t < t))) lv) : TrOk (cutB l t ls lk lv) := by
  have okA : ∀ e ∈ l.filter (fun e => decide (e.t < t)), e.ok := fun e he => ok.ok e (List.mem_filter.mp he).1
  have sd := sdok_run sdok_nil okA
  have z0 : ∀ e ∈ begE ls lk lv, e.t = 0 := fun e he => by
    rcases begE_mem he with ⟨x, _, rfl⟩ | ⟨x, _, rfl⟩ | ⟨x, _, rfl⟩ <;> rfl
  refine ⟨fun e he => ?_, ?_, ?_⟩
  · rcases List.mem_append.mp he with he | he
    · rcases begE_mem he with ⟨x, hx, rfl⟩ | ⟨x, hx, rfl⟩ | ⟨x, hx, rfl⟩
      · exact ⟨by show (0 : Int) ≤ 0 ∧ (0 : Int) ≤ 999999; decide, voices_mem sd h3 x hx⟩
      · have := knobs_mem sd h2 x hx
        exact ⟨by show (0 : Int) ≤ 0 ∧ (0 : Int) ≤ 999999; decide, this.1.1, this.1.2, this.2⟩
      · have := sounds_mem sd h1 x hx
        exact ⟨by show (0 : Int) ≤ 0 ∧ (0 : Int) ≤ 999999; decide, this.1.1, this.1.2, this.2⟩
    · obtain ⟨x, hx, rfl⟩ := List.mem_map.mp he
      have o := ok.ok x (List.mem_filter.mp hx).1
      have := of_decide_eq_true (List.mem_filter.mp hx).2
      have := o.1
      refine ⟨?_, o.2⟩
      show 0 ≤ x.t + (0 - t) ∧ x.t + (0 - t) ≤ 999999
      omega
  · refine List.pairwise_append.mpr ⟨?_, ?_, fun x hx y hy => ?_⟩
    · have hp : (begE ls lk lv).Pairwise fun _ _ => True := List.pairwise_of_forall fun _ _ => trivial
      refine hp.imp_of_mem fun {x y} hx hy _ => ?_
      rw [z0 x hx, z0 y hy]
      exact Int.le_refl _
    · rw [List.pairwise_map]
      refine (ok.up.sublist List.filter_sublist).imp fun {x y} h => ?_
      show x.t + (0 - t) ≤ y.t + (0 - t)
      omega
    · obtain ⟨z, hz, rfl⟩ := List.mem_map.mp hy
      have := of_decide_eq_true (List.mem_filter.mp hz).2
      rw [z0 x hx]
      show 0 ≤ z.t + (0 - t)
      omega
  · have z1 := lens h1 h2 h3
    have z2 := List.length_filter_le (fun e : Ev => decide (e.t < t)) l
    have z3 := List.length_filter_le (fun e : Ev => decide (t ≤ e.t)) l
    unfold cutB
    rw [List.length_append, List.length_map, begE_len]
    omega
/-! ### the paces of the pieces -/
def cutPs1 (ps : Ps) (tk : Int) : Ps := ps.filter fun q => decide (q.1 < tk)
def cutPs2 (ps : Ps) (tk : Int) : Ps := (0, paceAt ps tk) :: (ps.filter fun q => decide (tk < q.1)).map fun q => (q.1 - tk, q.2)
theorem paceAt_ok {ps : Ps} (ok : PsOk ps) (t : Int) : 1 ≤ paceAt ps t ∧ paceAt ps t ≤ 16777215 := by
  unfold paceAt
  cases h : (ps.filter fun q => decide (q.1 ≤ t)).getLast? with
  | none => decide
  | some q => exact (ok.ok q (List.mem_filter.mp (List.mem_of_getLast? h)).1).2
theorem cutPs1_ok {ps : Ps} (ok : PsOk ps) (t : Int) : PsOk (cutPs1 ps t) := ⟨fun q hq => ok.ok q (List.mem_filter.mp hq).1, ok.up.sublist List.filter_sublist, Nat.le_trans (List.length_filter_le _ _) ok.len⟩
theorem cutPs2_ok {ps : Ps} (ok : PsOk ps) (hl : ps.length < 20) {t : Int} (ht : 0 ≤ t ∧ t ≤ 999999) : PsOk (cutPs2 ps t) := by
  refine ⟨fun q hq => ?_, ?_, ?_⟩
  · rcases List.mem_cons.mp hq with rfl | hq
    · exact ⟨by show (0 : Int) ≤ 0 ∧ (0 : Int) ≤ 999999; decide, paceAt_ok ok t⟩
    · obtain ⟨x, hx, rfl⟩ := List.mem_map.mp hq
      have h1 := ok.ok x (List.mem_filter.mp hx).1
      have h2 := of_decide_eq_true (List.mem_filter.mp hx).2
      refine ⟨?_, h1.2⟩
      show 0 ≤ x.1 - t ∧ x.1 - t ≤ 999999
      have := h1.1
      omega
  · refine List.pairwise_cons.mpr ⟨fun q hq => ?_, ?_⟩
    · obtain ⟨x, hx, rfl⟩ := List.mem_map.mp hq
      have h2 := of_decide_eq_true (List.mem_filter.mp hx).2
      show 0 < x.1 - t
      omega
    · rw [List.pairwise_map]
      refine (ok.up.sublist List.filter_sublist).imp fun {x y} h => ?_
      show x.1 - t < y.1 - t
      omega
  · have := List.length_filter_le (fun q : Int × Int => decide (t < q.1)) ps
    unfold cutPs2
    rw [List.length_cons, List.length_map]
    omega
/-! ### the pieces by one track -/
noncomputable def sndOf (s : Sd) : List Tri := by classical exact if h : ∃ l, IsSounds s l then h.choose else []
noncomputable def knbOf (s : Sd) : List Tri := by classical exact if h : ∃ l, IsKnobs s l then h.choose else []
noncomputable def vocOf (s : Sd) : Ps := by classical exact if h : ∃ l, IsVoices s l then h.choose else []
theorem sndOf_eq {s : Sd} {l : List Tri} (h : IsSounds s l) : sndOf s = l := by
  unfold sndOf
  rw [dif_pos ⟨l, h⟩]
  exact sounds_uniq (Exists.choose_spec ⟨l, h⟩) h
theorem knbOf_eq {s : Sd} {l : List Tri} (h : IsKnobs s l) : knbOf s = l := by
  unfold knbOf
  rw [dif_pos ⟨l, h⟩]
  exact knobs_uniq (Exists.choose_spec ⟨l, h⟩) h
theorem vocOf_eq {s : Sd} {l : Ps} (h : IsVoices s l) : vocOf s = l := by
  unfold vocOf
  rw [dif_pos ⟨l, h⟩]
  exact voices_uniq (Exists.choose_spec ⟨l, h⟩) h
def sdAt (l : List Ev) (t : Int) : Sd := Sd.nil.run (l.filter fun e => decide (e.t < t))
noncomputable def pcA (l : List Ev) (t : Int) : List Ev := cutA l t (sndOf (sdAt l t))
noncomputable def pcB (l : List Ev) (t : Int) : List Ev := cutB l t (sndOf (sdAt l t)) (knbOf (sdAt l t)) (vocOf (sdAt l t))
structure Cuts (l : List Ev) (t : Int) : Prop where
  s : IsSounds (sdAt l t) (sndOf (sdAt l t))
  k : IsKnobs (sdAt l t) (knbOf (sdAt l t))
  v : IsVoices (sdAt l t) (vocOf (sdAt l t))
theorem cuts_of {l : List Ev} {t : Int} {ls lk : List Tri} {lv : Ps} (h1 : IsSounds (sdAt l t) ls) (h2 : IsKnobs (sdAt l t) lk) (h3 : IsVoices (sdAt l t) lv) : Cuts l t ∧ cutA l t ls = pcA l t ∧ cutB l t ls lk lv = pcB l t := by
  have e1 := sndOf_eq h1
  have e2 := knbOf_eq h2
  have e3 := vocOf_eq h3
  refine ⟨⟨by rw [e1]; exact h1, by rw [e2]; exact h2, by rw [e3]; exact h3⟩, ?_, ?_⟩
  · unfold pcA
    rw [e1]
  · unfold pcB
    rw [e1, e2, e3]
theorem pieces_run {l : List Ev} {t : Int} (ok : TrOk l) (c : Cuts l t) (u : Int) : Sd.nil.run ((pcA l t ++ (pcB l t).map (Ev.shift t)).filter fun e => decide (e.t ≤ u)) = Sd.nil.run (l.filter fun e => decide (e.t ≤ u)) := glue_run ok.up c.s c.k c.v u
theorem pieces_len {l : List Ev} {t : Int} (c : Cuts l t) : (pcA l t).length ≤ 2 * l.length ∧ (pcB l t).length ≤ 2 * l.length := by
  have z1 := sounds_len c.s
  have z0 := lens c.s c.k c.v
  have z2 := List.length_filter_le (fun e : Ev => decide (e.t < t)) l
  have z3 := List.length_filter_le (fun e : Ev => decide (t ≤ e.t)) l
  unfold pcA pcB cutA cutB endsE
  rw [List.length_append, List.length_append, List.length_map, List.length_map, begE_len]
  omega
end Tp
set_option maxHeartbeats 2000000
namespace Tp
open PySem PySem.Spec PyProof.Rows L2
/-- a comprehension over data without a test; of each item P is found -/
theorem lc_mapP {K : PySem.W.Frag} {H1 : Hp} {D a : Addr} {α : Type} {xs : List V} {g : TG} {te : TE} {vs : List Nat} {σ : L2.St} {Qd : Hp → Prop} (N : List Addr) (es : List α) (enc : α → PyData) (out : α → PyData) (P : α → Prop)
    (hx : SqL K H1 a xs) (hd : DpAll K (wo N H1) xs (es.map enc)) (hD : H1 D = none) (hz : es.length ≤ 100000) (lv : Live N H1)
    (turn : ∀ e ∈ es, ∀ x H, Same H1 H → Live (D :: N) H → Dw K (D :: N) H x (enc e) → ∀ Y : V → Hp → Prop, (P e → ∀ y H', Same H H' → Dw K (D :: N) H' y (out e) → Y y H') → g x (wipe σ vs) H fun σ2 H2 => wipe σ2 vs = wipe σ vs ∧ te σ2 H2 Y)
    (done : (∀ e ∈ es, P e) → ∀ H', NewL K N H1 H' D (es.map out) → Qd H') :
    ∃ W : Nat → Nat → Hp → Prop, (∃ m, W 0 m (upd H1 D (.lst []))) ∧ ∀ i m H, W i m H →
      ((Itl K a).stop i H ∧ Qd H) ∨ ((Itl K a).go i H ∧ ∃ Nx : Hp → Prop, (∀ H', Nx H' → ∃ m', m' < m ∧ W (i + 1) m' H') ∧ ∀ x H', (Itl K a).yld i H x H' → g x (wipe σ vs) H' fun σ2 H2 => wipe σ2 vs = wipe σ vs ∧ tYes σ2 H2 fun b H3 =>
        if b = true then te σ2 H3 fun y H4 => ∃ acc, H4 D = some (.lst acc) ∧ acc.length < sizeLine ∧ Nx (upd H4 D (.lst (acc ++ [y]))) else Nx H3) := by
  have ln : xs.length = es.length := by rw [dpA_len hd, List.length_map]
  refine lc_list (K := K) (a := a) (xs := xs) (fun i H => ∃ ys, Same H1 H ∧ H D = some (.lst ys) ∧ DpAll K (wo (D :: N) H) ys ((es.take i).map out) ∧ ∀ e ∈ es.take i, P e) ⟨[], same_new hD, upd_same, .nil, (fun _ h => by simp at h)⟩ (fun i H _ ⟨_, s, _⟩ => s.seq hx) ?_ ?_
  · rintro i x H hi ⟨ys, s, hH, hys, hP⟩
    obtain ⟨d, hd1, hd2⟩ := dpA_at hd hi
    rw [List.getElem?_map] at hd1
    cases he : es[i]? with
    | none =>
      rw [he] at hd1
      cases hd1
    | some e =>
      rw [he] at hd1
      have ed : enc e = d := Option.some.inj hd1
      have li : i < es.length := (List.getElem?_eq_some_iff.mp he).1
      have ly : ys.length = i := by
        rw [dpA_len hys, List.length_map, List.length_take]
        omega
      have dx : Dw K (D :: N) H x (enc e) := by
        rw [ed]
        exact dp_mono (wo_more hD s) hd2
      refine (turn e (List.mem_of_getElem? he) x H s ((lv.same s).cons hH) dx (fun y H4 => ∃ acc, H4 D = some (.lst acc) ∧ acc.length < sizeLine ∧ ∃ ys, Same H1 (upd H4 D (.lst (acc ++ [y]))) ∧ upd H4 D (.lst (acc ++ [y])) D = some (.lst ys) ∧
        DpAll K (wo (D :: N) (upd H4 D (.lst (acc ++ [y])))) ys ((es.take (i + 1)).map out) ∧ ∀ e ∈ es.take (i + 1), P e) fun hp y H' s' hy => ?_)
      refine ⟨ys, s' _ _ hH, by rw [ly]; exact Nat.lt_of_lt_of_le (by omega : i < 100000) (by decide), ys ++ [y], same_mut (s.trans s') hD, upd_same, ?_, ?_⟩
      · rw [take_up he, List.map_append]
        exact dpA_app (dpA_mono ((wo_same s').trans (wo_mut List.mem_cons_self)) hys) (.cons (dp_mono (wo_mut List.mem_cons_self) hy) .nil)
      · rw [take_up he]
        intro z hz'
        rcases List.mem_append.mp hz' with h | h
        · exact hP z h
        · rw [List.mem_singleton] at h
          exact h ▸ hp
  · rintro H ⟨ys, s, hH, hys, hP⟩
    rw [List.take_of_length_le (by omega)] at hys hP
    exact done hP H ⟨s, hD, ys, hH, hys⟩
end Tp
set_option maxHeartbeats 2000000
namespace Tp
open PySem PySem.Spec PyProof.Rows L2 C8
/-! ### d.get(k, x), d written at the top -/
def tKGet (K : PySem.W.Frag) (d : Addr) (td ty tx : TE) : TE := fun σ H Q => td σ H fun x H1 => x = .ref d ∧ ty σ H1 fun y H2 => tx σ H2 fun _ H3 => ∃ (k : Str) (u : Value) (v : V), y = .str k ∧ PySem.W.nsIn K d k = some (some u) ∧ RelV v u ∧ Q v H3
section
variable {X : Cx}
theorem pe_kget2 {K : PySem.W.Frag} {w : World} {o e f : Expr} {apos cpos : Pos} {td ty tx : TE} {d : Addr} (hK : X.K = K) (hw : X.w = w) (D : ∃ es n, KDict K w d es n) (ho : PE X o td) (he : PE X e ty) (hf : PE X f tx) (m : M2 X o "get" apos e f cpos) : PE X (.Call (.Attribute o "get" apos) [e, f] [] cpos) (tKGet K d td ty tx) := by
  subst hK
  subst hw
  obtain ⟨es, n, D⟩ := D
  refine ⟨fun pins s σ H Q I h => ?_⟩
  refine wpAny_Call_method m.base m.few m.line PySem.F.plainAttrs_dict PySem.F.slot_dict_get PySem.F.type_dict_get (thn (ho.run pins s σ H _ I h) fun u s1 ⟨x, H1, I1, rx, ex, q1⟩ => ?_)
  subst ex
  obtain rfl : u = Value.ref d := rx
  have hm := PySem.W.mapOf_K (prog := X.prog) (w := X.w) I1.kIn D.at_ D.lit
  refine ⟨hm.typeIs, hm.noDict, ?_⟩
  rw [m.trees]
  refine Calls.callWith_builtin rfl (Calls.evalArgs_plain (Calls.spliced_cons (thn (he.run pins s1 σ H1 _ I1 q1) fun iv s2 ⟨y, H2, I2, ry, q2⟩ =>
    Calls.spliced_cons (thn (hf.run pins s2 σ H2 _ I2 q2) fun fv s3 ⟨z, H3, I3, rz, k, u, v, ey, hn, rv, q3⟩ => Calls.spliced_nil ?_))))
  subst ey
  obtain ⟨t, rfl⟩ := ry
  have hm3 := PySem.W.mapOf_K (prog := X.prog) (w := X.w) I3.kIn D.at_ D.lit
  refine call_meetsIn PySem.F.slot_dict_get hm3.typeIs PySem.F.entry_dict_get (PySem.F.args_dict_get_3 _ _ _) (meets_dict_get_default (strKind X.prog X.w) d (strKind_is X.prog X.w k t) D.low fv) ⟨_, hm3, ?_⟩
  rw [PySem.W.find_K D.at_ hn]
  exact ⟨v, H3, I3.tok _, rv, q3⟩
/-! ### a local name that holds one of four defs, called -/
def tCallV4 (mg : Str → Option Value) (i : Nat) (y1 y2 y3 y4 : Str) (sp1 sp2 sp3 sp4 : Sp) (t : TA) : TE := fun σ H Q =>
  (∃ f, mg y1 = some (.ref f) ∧ σ[i]? = some (some (.ref f)) ∧ t σ H fun vs H1 => sp1 vs H1 Q C8.E0) ∨ (∃ f, mg y2 = some (.ref f) ∧ σ[i]? = some (some (.ref f)) ∧ t σ H fun vs H1 => sp2 vs H1 Q C8.E0) ∨
  (∃ f, mg y3 = some (.ref f) ∧ σ[i]? = some (some (.ref f)) ∧ t σ H fun vs H1 => sp3 vs H1 Q C8.E0) ∨ ∃ f, mg y4 = some (.ref f) ∧ σ[i]? = some (some (.ref f)) ∧ t σ H fun vs H1 => sp4 vs H1 Q C8.E0
theorem pe_cv4 {mg : Str → Option Value} {i j k1 k2 k3 k4 : Nat} {x y1 y2 y3 y4 : Str} {sp1 sp2 sp3 sp4 : Sp} {p pos : Pos} {e : Expr} {es : List Expr} {t : TA} (hmg : X.mg = mg) (c1 : Cal X.prog X.w X.K X.mg X.base k1 y1 sp1 []) (c2 : Cal X.prog X.w X.K X.mg X.base k2 y2 sp2 []) (c3 : Cal X.prog X.w X.K X.mg X.base k3 y3 sp3 [])
    (c4 : Cal X.prog X.w X.K X.mg X.base k4 y4 sp4 []) (hr : Room j X.A) (hk1 : k1 ≤ j) (hk2 : k2 ≤ j) (hk3 : k3 ≤ j) (hk4 : k4 ≤ j) (hN : X.N[i]? = some x) (hv : Vis X.env.scope x) (ha : PA X (e :: es) t)
    (hd : (x == ("__debug__" : Str)) = false := by decide) (hcd : (x == ("__classdict__" : Str)) = false := by decide)
    (he : starEach (e :: es) X.env = (false, eval e X.env) :: starEach es X.env := by rfl) (hpl : (backTo pos (starEach es X.env)).any (·.1) = false := by rfl) :
    PE X (.Call (.Name x p) (e :: es) [] pos) (tCallV4 mg i y1 y2 y3 y4 sp1 sp2 sp3 sp4 t) := by
  subst hmg
  refine ⟨fun pins s σ H Q I h => ?_⟩
  have go : ∀ {k : Nat} {f : Addr} {y : Str} {sp : Sp}, Cal X.prog X.w X.K X.mg X.base k y sp [] → k ≤ j → X.mg y = some (.ref f) → σ[i]? = some (some (.ref f)) → (t σ H fun vs H1 => sp vs H1 Q C8.E0) → wpAny (model X.prog X.w) X.A (eval (.Call (.Name x p) (e :: es) [] pos) X.env) (EP X pins σ Q) X.xe s := fun {k f y sp} c hk hm hs ht => by
    obtain ⟨f', fd, ps, ds, F, hm', kp, b, dv⟩ := c.ex
    rw [hm] at hm'
    cases hm'
    cases dv
    refine wpAny_Call_Name_kw (thn ((pe_var (pos := p) hN hv hd hcd).run pins s σ H (fun v H1 => v = .ref f ∧ H1 = H) I ⟨.ref f, hs, rfl, rfl⟩) fun u s1 ⟨v, H1, I1, r1, q1⟩ => ?_)
    obtain ⟨rfl, rfl⟩ := q1
    cases r1
    refine PySem.W.callWith_K (h₀ := X.base) I.ok.mod.kin kp (thn (ha.run pos pins s1 σ _ _ I1 ht) fun us s2 ⟨vs, H2, I2, r, q⟩ => ⟨I2.kIn, ?_⟩) he hpl
    exact run_fn F (hr.mono hk) b .nil C8.pass0 I2 r (by rw [List.append_nil]; exact q)
  rcases h with ⟨f, h0, h1, h2⟩ | ⟨f, h0, h1, h2⟩ | ⟨f, h0, h1, h2⟩ | ⟨f, h0, h1, h2⟩
  · exact go c1 hk1 h0 h1 h2
  · exact go c2 hk2 h0 h1 h2
  · exact go c3 hk3 h0 h1 h2
  · exact go c4 hk4 h0 h1 h2
end
end Tp
namespace Tp
open PySem PySem.Spec PyProof.Rows L2
theorem ev_nameL {n : Nat} {v : V} {σ σ' : L2.St} {H : Hp} {R : L2.St → Hp → Prop} (e : σ.set n (some v) = σ') (q : R σ' H) : gName n v σ H R := by
  subst e
  exact q
end Tp
set_option maxHeartbeats 4000000
namespace Tp
open PySem PySem.Spec PyProof.Rows L2
local macro_rules | `(tactic| tm_at "ev") => `(tactic| repeat first
  | with_reducible refine ev_seq ?_ | with_reducible refine ev_asg ?_ | with_reducible refine ev_drop ?_ | with_reducible refine ev_ret ?_ | with_reducible refine ev_ifS ?_ | with_reducible refine ev_next ?_
  | ((with_reducible refine' ev_var ?k1 ?_); (case k1 => exact rfl)) | with_reducible refine ev_c ?_ | with_reducible refine ev_op ?_ | with_reducible refine ev_I0 ?_ | with_reducible refine ev_test ?_ | with_reducible refine ev_B ?_ | with_reducible refine ev_bl ?_
  | ((with_reducible refine ev_eq ?k1 ?_); (case k1 => exact rfl)) | ((with_reducible refine ev_ne ?k1 ?_); (case k1 => exact rfl))
  | ((with_reducible refine' ev_nameL ?k1 ?_); (case k1 => first | (dsimp only [L2.start, wipe, List.map, List.set, List.length, List.replicate, List.append]; exact rfl) | exact rfl)) | with_reducible refine ev_name ?_ | with_reducible refine ev_nil ?_ | with_reducible refine ev_cons ?_ | with_reducible refine ev_call ?_ | with_reducible refine ev_tup ?_ | with_reducible refine ev_lst ?_ | with_reducible refine ev_CB ?_ | with_reducible refine ev_fld ?_
  | with_reducible refine ev_not ?_ | with_reducible refine ev_and ?_ | with_reducible refine ev_or ?_ | with_reducible refine ev_andV ?_ | with_reducible refine ev_orV ?_ | with_reducible refine ev_ifE ?_ | with_reducible refine ev_chain ?_ | with_reducible refine ev_meth ?_ | with_reducible refine ev_un ?_
  | with_reducible refine ev_sl ?_ | with_reducible refine ev_part ?_ | with_reducible refine ev_nopart ?_ | with_reducible refine ev_int ?_ | with_reducible refine ev_for ?_ | with_reducible refine ev_list ?_ | with_reducible refine ev_lc ?_ | with_reducible refine ev_gcons ?_ | with_reducible refine ev_gnil ?_ | with_reducible refine ev_sfld ?_ | with_reducible refine ev_make ?_ | with_reducible refine ev_notV ?_ | with_reducible refine ev_yes ?_ | with_reducible refine ev_dget ?_ | with_reducible refine ev_dput ?_ | with_reducible refine ev_bm ?_ | with_reducible refine ev_bm0 ?_ | with_reducible refine ev_items ?_ | with_reducible refine ev_keys ?_ | with_reducible refine ev_enum ?_ | with_reducible refine ev_tupI ?_ | with_reducible refine ev_par ?_ | with_reducible refine ev_two ?_ | with_reducible refine ev_kget ?_ | with_reducible refine ev_gsub ?_ | with_reducible refine ev_tapeK ?_ | with_reducible refine ev_str ?_ | with_reducible refine ev_txt ?_ | with_reducible refine ev_lc2 ?_ | with_reducible refine ev_dget2 ?_ | with_reducible refine ev_rU ?_ | with_reducible refine ev_ckw ?_ | with_reducible refine ev_dnotin ?_ | with_reducible refine ev_din ?_ | with_reducible refine ev_gfld ?_ | with_reducible refine ev_saug ?_ | with_reducible refine ev_finN ?_)
section
variable {P : Program} {w : World} {K : PySem.W.Frag} {mg : Str → Option Value} {base : Heap} {a : Ad}
/-! ### do_pace -/
def sp_do_pace (ad : Ad) (K : PySem.W.Frag) : Sp := fun vs H Q _ => ∃ (N : List Addr) (b x : Addr) (z : Str) (v : V) (t : Tp0) (tk pc : Int) (es : List (Str × Addr)), vs = [.ref b, .str z, v] ∧ Live N H ∧ H b = some (.dK (kB es)) ∧ valV (kB es) (.inr z) = some (.ref x) ∧ TapeAt ad K (wo N H) x t ∧ TpOk t ∧
  Dw K N H v (.list [.int tk, .int pc]) ∧ (0 ≤ tk ∧ tk ≤ 999999) ∧ (1 ≤ pc ∧ pc ≤ 16777215) ∧ t.ps.length < 20 ∧ ∀ y ps H', Srt ps → ps.Perm (putE t.ps tk pc) → Same H H' → TapeAt ad K (wo N H') y ⟨t.b, ps, t.trs⟩ → Q (.ref y) H'
theorem kM_put (l : Ps) (t p : Int) : putK (kM l) (.inl t) (.int p) = kM (putE l t p) := putK_map (Sum.inl : Int → Key) inl_inj V.int l t p
theorem sc_do_pace : FnScope ["book", "name", "things", "tape", "paced"] ["book", "name", "things"] (defScope s_do_pace) := ⟨rfl, rfl, rfl, by decide +kernel, rfl, by decide +kernel, by decide +kernel⟩
theorem ok_do_pace (T : Tx w K mg a) (c_tape_of : C8.Cal P w K mg base 1 "tape_of" sp_tape_of []) (m_Tape_paced : C8.Met P w K mg base 5 a.cT "paced" (sp_Tape_paced a K) []) (m_Map_put : C8.Met P w K mg base 2 a.cM "put" (sp_Map_put a) [])
    (m_Tape_tracks : C8.Met P w K mg base 1 a.cT "tracks" (sp_Tape_tracks a K) []) (m_Tape_beat : C8.Met P w K mg base 2 a.cT "beat" (sp_Tape_beat a K) [])
    (m_Map_paces : C8.Met P w K mg base 1 a.cM "paces" (sp_Map_paces a K) []) (t_Tape : TapeMk P w K mg base 4 a) : C8.Cal P w K mg base 6 "do_pace" (sp_do_pace a K) [] := by
  refine calD T.d_do_pace sc_do_pace (fun _ _ _ _ _ _ us hl => match us, hl with | [_, _, _], _ => rfl) (fun vs H Q E h => ?_) (fun f cdv A outer s H vs Q E hr h => ?_)
  · obtain ⟨N, b, x, z, v, t, tk, pc, es, rfl, _⟩ := h
    rfl
  · obtain ⟨N, b, x, z, v, t, tk, pc, es, rfl, lv, hb, hvz, hx, ok, hv, htk, hpc, hl, q⟩ := h
    have hx' := hx
    obtain ⟨dx, m, r, h1, _⟩ := hx'
    have hx0 := (wo_of h1).2
    refine ⟨_, (pss_cons (ps_set (i := 3) sc_do_pace.nd rfl (Or.inl rfl) (C8.pe_c c_tape_of hr (by decide) rfl (pa_cons (pv 0) (pa_cons (pv 1) pa_nil))))
      (pss_cons (ps_set (i := 4) sc_do_pace.nd rfl (Or.inl rfl) (C8.pe_mt0 m_Tape_paced hr (by decide) (pv 3)))
      (pss_cons (ps_expr (C8.pe_mt m_Map_put hr (by decide) (pv 4) (pa_cons (pe_ix (kix_list (K := K) rfl) (pv 2) pe_int (fun _ _ => rfl)) (pa_cons (pe_ix (kix_list (K := K) rfl) (pv 2) pe_int (fun _ _ => rfl)) pa_nil))))
      (pss_one (ps_ret (pe_tapeK (K := K) t_Tape hr (by decide) rfl rfl T.m_Tape (pa_cons (C8.pe_mt0 m_Tape_beat hr (by decide) (pv 3)) (pa_cons (C8.pe_mt0 m_Tape_tracks hr (by decide) (pv 3)) pa_nil)) (pk_cons (C8.pe_mt0 m_Map_paces hr (by decide) (pv 4)) pk_nil))))))), ?_⟩
    tm_at "ev"
    refine ⟨b, x, z, es, rfl, hb, hvz, ?_⟩
    tm_at "ev"
    refine ⟨x, dx, _, rfl, hx0, rfl, ?_⟩
    tm_at "ev"
    refine ⟨N, x, t, rfl, lv, hx, ok.ps, ok.b, fun y d H1 s1 hy hd my => ?_⟩
    have lv1 := lv.same s1
    have my' := my
    obtain ⟨⟨dy, my1⟩, my2⟩ := my'
    have hyd : y ≠ d := fun e => by
      have h3 := (wo_of my1).2
      rw [e, (wo_of my2).2] at h3
      cases h3
    tm_at "ev"
    refine ⟨y, dy, _, rfl, (wo_of my1).2, rfl, ?_⟩
    tm_at "ev"
    refine q_ixLi (hv.up s1) (atI_n (n := 0) rfl) ?_
    tm_at "ev"
    refine q_ixLi (hv.up s1) (atI_n (n := 1) rfl) ?_
    tm_at "ev"
    refine ⟨y, d, t.b, tk, pc, t.ps, rfl, ⟨⟨dy, (wo_of my1).2⟩, (wo_of my2).2⟩, htk, hpc, hl, ?_⟩
    rw [kM_put]
    tm_at "ev"
    have s2 : Same H (upd H1 d (.dK (kM (putE t.ps tk pc)))) := same_mut s1 hd
    have up1 : Same (wo N H) (wo (d :: N) H1) := wo_more hd s1
    have up2 : Same (wo N H) (wo N (upd H1 d (.dK (kM (putE t.ps tk pc))))) := (up1.trans (wo_mut List.mem_cons_self)).trans wo_drop
    have hx2 := hx.mono up2
    have lv2 := lv.same s2
    have my2' : MapAt a (wo N (upd H1 d (.dK (kM (putE t.ps tk pc))))) y t.b (putE t.ps tk pc) := ⟨d, ⟨dy, wo_at (wo_of my1).1 ((upd_ne hyd).trans (wo_of my1).2)⟩, wo_at (wo_of my2).1 upd_same⟩
    have hy2 : upd H1 d (.dK (kM (putE t.ps tk pc))) y = some (.ins a.cM dy (fM t.b d)) := (upd_ne hyd).trans (wo_of my1).2
    generalize upd H1 d (.dK (kM (putE t.ps tk pc))) = H2 at s2 hx2 lv2 my2' hy2 ⊢
    refine ⟨x, dx, _, rfl, s2 _ _ hx0, rfl, ?_⟩
    tm_at "ev"
    refine ⟨x, t, rfl, hx2.mono wo_sub, ?_⟩
    tm_at "ev"
    refine ⟨x, dx, _, rfl, s2 _ _ hx0, rfl, ?_⟩
    tm_at "ev"
    refine ⟨N, x, t, rfl, lv2, hx2, ok.len.2, fun r3 H3 n3 => ?_⟩
    have lv3 := lv2.same n3.same
    tm_at "ev"
    refine ⟨y, dy, _, rfl, n3.same _ _ hy2, rfl, ?_⟩
    tm_at "ev"
    have lp := putE_len t.ps tk pc
    refine ⟨N, y, t.b, putE t.ps tk pc, rfl, lv3, my2'.mono (wo_same n3.same), putE_nd ok.ps.nd, by have := ok.ps.len; omega, fun ps r4 H4 srt perm n4 => ?_⟩
    tm_at "ev"
    have okp : PsOk ps := ⟨fun q hq => by
      rcases putE_mem (perm.mem_iff.mp hq) with rfl | ⟨h, _⟩
      · exact ⟨htk, hpc⟩
      · exact ok.ps.ok q h, srt, by rw [perm.length_eq]; omega⟩
    refine ⟨rfl, rfl, fun y2 dy2 hy2 hdy2 hne => ?_⟩
    exact tape_made (lv3.same n4.same) ok.b ((n3.dw lv2).up n4.same) (n4.dw lv3) okp ok.trs ok.len.1 ok.len.2 (fun y' H5 s5 _ h5 => q y' ps H5 srt perm (((s2.trans n3.same).trans n4.same).trans s5) h5) hy2 hdy2 hne
/-! ### do_cut -/
def sp_do_cut (ad : Ad) (K : PySem.W.Frag) : Sp := fun vs H Q _ => ∃ (N : List Addr) (b x : Addr) (z z2 : Str) (v : V) (t : Tp0) (tk : Int) (es : List (Str × Addr)), vs = [.ref b, .str z, v] ∧ Live N H ∧ H b = some (.dK (kB es)) ∧ valV (kB es) (.inr z) = some (.ref x) ∧ TapeAt ad K (wo N H) x t ∧ TpOk t ∧
  Dw K N H v (.list [.int tk, .str z2]) ∧ (0 ≤ tk ∧ tk ≤ 999999) ∧ z2 ∉ es.map (·.1) ∧ NameOk z2 ∧ es.length < 6 ∧ (∀ l ∈ t.trs, l.length ≤ 60) ∧ t.ps.length < 20 ∧
  ∀ y1 y2 p H', (∀ l ∈ t.trs, Cuts l tk) → Same H H' → TapeAt ad K (wo N H') y1 ⟨t.b, cutPs1 t.ps tk, t.trs.map fun l => pcA l tk⟩ → TapeAt ad K (wo N H') y2 ⟨t.b, cutPs2 t.ps tk, t.trs.map fun l => pcB l tk⟩ → p ∉ N → H' p = some (.tup [.ref y1, .ref y2]) → Q (.ref p) H'
theorem sc_do_cut : FnScope ["book", "name", "things", "tape", "tick", "other", "pairs", "begun", "behind", "ahead", "one", "track", "at", "pace", "first", "second"] ["book", "name", "things"] (defScope s_do_cut) := ⟨rfl, rfl, rfl, by decide +kernel, rfl, by decide +kernel, by decide +kernel⟩
theorem ok_do_cut (T : Tx w K mg a) (c_tape_of : C8.Cal P w K mg base 1 "tape_of" sp_tape_of []) (c_need_tick : C8.Cal P w K mg base 1 "need_tick" sp_need_tick []) (c_need_new : C8.Cal P w K mg base 1 "need_new" sp_need_new [])
    (c_need_room_deeds : C8.Cal P w K mg base 1 "need_room_deeds" sp_need_room_deeds []) (c_cut : C8.Cal P w K mg base 5 "cut" (sp_cut K) [])
    (m_Tape_paced : C8.Met P w K mg base 5 a.cT "paced" (sp_Tape_paced a K) []) (m_Map_pace_at : C8.Met P w K mg base 2 a.cM "pace_at" (sp_Map_pace_at a K) [])
    (m_Tape_tracks : C8.Met P w K mg base 1 a.cT "tracks" (sp_Tape_tracks a K) []) (m_Tape_beat : C8.Met P w K mg base 2 a.cT "beat" (sp_Tape_beat a K) [])
    (m_Tape_paces : C8.Met P w K mg base 2 a.cT "paces" (sp_Tape_paces a K) []) (t_Tape : TapeMk P w K mg base 4 a) : C8.Cal P w K mg base 6 "do_cut" (sp_do_cut a K) [] := by
  refine calD T.d_do_cut sc_do_cut (fun _ _ _ _ _ _ us hl => match us, hl with | [_, _, _], _ => rfl) (fun vs H Q E h => ?_) (fun f cdv A outer s H vs Q E hr h => ?_)
  · obtain ⟨N, b, x, z, z2, v, t, tk, es, rfl, _⟩ := h
    rfl
  · obtain ⟨N, b, x, z, z2, v, t, tk, es, rfl, lv, hb, hvz, hx, ok, hv, htk, hz2, okz, hl, hl60, hps, q⟩ := h
    have hx' := hx
    obtain ⟨dx, m, r, h1, _⟩ := hx'
    have hx0 := (wo_of h1).2
    refine ⟨_, (pss_cons (ps_set (i := 3) sc_do_cut.nd rfl (Or.inl rfl) (C8.pe_c c_tape_of hr (by decide) rfl (pa_cons (pv 0) (pa_cons (pv 1) pa_nil))))
      (pss_cons (ps_asg (pv 2) (kg_lst (K := K) rfl (pg_lst (n := 2) rfl (pgs_cons (pg_name (i := 4) sc_do_cut.nd rfl (Or.inr rfl)) (pgs_cons (pg_name (i := 5) sc_do_cut.nd rfl (Or.inl rfl)) pgs_nil)))))
      (pss_cons (ps_expr (C8.pe_c c_need_tick hr (by decide) rfl (pa_cons (pv 4) pa_nil)))
      (pss_cons (ps_expr (C8.pe_c c_need_new hr (by decide) rfl (pa_cons (pv 0) (pa_cons (pv 5) pa_nil))))
      (pss_cons (ps_expr (C8.pe_c c_need_room_deeds hr (by decide) rfl (pa_cons (pv 0) pa_nil)))
      (pss_cons (ps_setLc (i := 6) (own := [("track", 11)]) rfl sc_do_cut.nd rfl rfl (sw_true rfl rfl rfl (by decide +kernel)) (k_list (K := K) rfl (pi_list (C8.pe_mt0 m_Tape_tracks hr (by decide) (pv 3)))) (blkOk_by (own := [("track", 11)]) (N := ["book", "name", "things", "tape", "tick", "other", "pairs", "begun", "behind", "ahead", "one", "track", "at", "pace", "first", "second"]) (sc := defScope s_do_cut) (by decide +kernel)) (fun _ _ _ _ _ => pg_name (i := 11) sc_do_cut.nd rfl (Or.inl rfl)) (fun _ _ _ _ _ => pts_nil) (fun _ _ _ _ _ => C8.pe_c c_cut hr (by decide) rfl (pa_cons (pv 11) (pa_cons (pv 4) pa_nil))))
      (pss_cons (ps_set (i := 7) sc_do_cut.nd rfl (Or.inl rfl) (pe_lst (pa_cons (pe_tup (pa_cons pe_int (pa_cons (C8.pe_mt m_Map_pace_at hr (by decide) (C8.pe_mt0 m_Tape_paced hr (by decide) (pv 3)) (pa_cons (pv 4) pa_nil)) pa_nil))) pa_nil)))
      (pss_cons (ps_set (i := 8) sc_do_cut.nd rfl (Or.inl rfl) (pe_op op_cat (pv 7) (pe_lc (own := [("at", 12), ("pace", 13)]) rfl sc_do_cut.nd (k_list (K := K) rfl (pi_list (C8.pe_mt0 m_Tape_paces hr (by decide) (pv 3)))) (blkOk_by (own := [("at", 12), ("pace", 13)]) (N := ["book", "name", "things", "tape", "tick", "other", "pairs", "begun", "behind", "ahead", "one", "track", "at", "pace", "first", "second"]) (sc := defScope s_do_cut) (by decide +kernel)) (fun _ _ _ _ _ => kg_tup (K := K) rfl (pg_tup (n := 2) rfl (pgs_cons (pg_name (i := 12) sc_do_cut.nd rfl (Or.inl rfl)) (pgs_cons (pg_name (i := 13) sc_do_cut.nd rfl (Or.inl rfl)) pgs_nil)))) (fun _ _ _ _ _ => pts_one (pt_cmpR op_gt (pv 12) (pv 4) (nomark _))) (fun _ _ _ _ _ => pe_tup (pa_cons (pe_op op_sub (pv 12) (pv 4)) (pa_cons (pv 13) pa_nil))))))
      (pss_cons (ps_setLc (i := 9) (own := [("at", 12), ("pace", 13)]) rfl sc_do_cut.nd rfl rfl (sw_true rfl rfl rfl (by decide +kernel)) (k_list (K := K) rfl (pi_list (C8.pe_mt0 m_Tape_paces hr (by decide) (pv 3)))) (blkOk_by (own := [("at", 12), ("pace", 13)]) (N := ["book", "name", "things", "tape", "tick", "other", "pairs", "begun", "behind", "ahead", "one", "track", "at", "pace", "first", "second"]) (sc := defScope s_do_cut) (by decide +kernel)) (fun _ _ _ _ _ => kg_tup (K := K) rfl (pg_tup (n := 2) rfl (pgs_cons (pg_name (i := 12) sc_do_cut.nd rfl (Or.inl rfl)) (pgs_cons (pg_name (i := 13) sc_do_cut.nd rfl (Or.inl rfl)) pgs_nil)))) (fun _ _ _ _ _ => pts_one (pt_cmpR op_lt (pv 12) (pv 4) (nomark _))) (fun _ _ _ _ _ => pe_tup (pa_cons (pv 12) (pa_cons (pv 13) pa_nil))))
      (pss_cons (ps_set (i := 10) sc_do_cut.nd rfl (Or.inl rfl) (pe_tapeK (K := K) t_Tape hr (by decide) rfl rfl T.m_Tape (pa_cons (C8.pe_mt0 m_Tape_beat hr (by decide) (pv 3)) (pa_cons (pe_lc (own := [("first", 14), ("second", 15)]) rfl sc_do_cut.nd (k_list (K := K) rfl (pi_list (pv 6))) (blkOk_by (own := [("first", 14), ("second", 15)]) (N := ["book", "name", "things", "tape", "tick", "other", "pairs", "begun", "behind", "ahead", "one", "track", "at", "pace", "first", "second"]) (sc := defScope s_do_cut) (by decide +kernel)) (fun _ _ _ _ _ => kg_tup (K := K) rfl (pg_tup (n := 2) rfl (pgs_cons (pg_name (i := 14) sc_do_cut.nd rfl (Or.inl rfl)) (pgs_cons (pg_name (i := 15) sc_do_cut.nd rfl (Or.inl rfl)) pgs_nil)))) (fun _ _ _ _ _ => pts_nil) (fun _ _ _ _ _ => pv 14)) pa_nil)) (pk_cons (pv 9) pk_nil)))
      (pss_one (ps_ret (pe_tup (pa_cons (pv 10) (pa_cons (pe_tapeK (K := K) t_Tape hr (by decide) rfl rfl T.m_Tape (pa_cons (C8.pe_mt0 m_Tape_beat hr (by decide) (pv 3)) (pa_cons (pe_lc (own := [("first", 14), ("second", 15)]) rfl sc_do_cut.nd (k_list (K := K) rfl (pi_list (pv 6))) (blkOk_by (own := [("first", 14), ("second", 15)]) (N := ["book", "name", "things", "tape", "tick", "other", "pairs", "begun", "behind", "ahead", "one", "track", "at", "pace", "first", "second"]) (sc := defScope s_do_cut) (by decide +kernel)) (fun _ _ _ _ _ => kg_tup (K := K) rfl (pg_tup (n := 2) rfl (pgs_cons (pg_name (i := 14) sc_do_cut.nd rfl (Or.inl rfl)) (pgs_cons (pg_name (i := 15) sc_do_cut.nd rfl (Or.inl rfl)) pgs_nil)))) (fun _ _ _ _ _ => pts_nil) (fun _ _ _ _ _ => pv 15)) pa_nil)) (pk_cons (pv 8) pk_nil)) pa_nil))))))))))))))), ?_⟩
    tm_at "ev"
    refine ⟨b, x, z, es, rfl, hb, hvz, ?_⟩
    tm_at "ev"
    refine q_unL hv rfl fun us hus => ?_
    obtain ⟨v1, r1, rfl, e1, hus⟩ := dpA_cons hus
    obtain ⟨v2, r2, rfl, e2, hus⟩ := dpA_cons hus
    obtain rfl := dpA_nil hus
    obtain rfl := dp_int e1
    obtain rfl := dp_str e2
    tm_at "ev"
    refine ⟨tk, rfl, htk.1, htk.2, ?_⟩
    tm_at "ev"
    refine ⟨N, b, z2, es, rfl, lv, hb, hz2, okz, fun H1 s1 => ?_⟩
    have lv1 := lv.same s1
    tm_at "ev"
    refine ⟨b, es, rfl, s1 _ _ hb, hl, ?_⟩
    tm_at "ev"
    refine ⟨x, dx, _, rfl, s1 _ _ hx0, rfl, ?_⟩
    tm_at "ev"
    refine ⟨N, x, t, rfl, lv1, hx.mono (wo_same s1), ok.len.2, fun r2 H2 n2 => ?_⟩
    have lv2 := lv1.same n2.same
    obtain ⟨r2', xs2, e0, hx2, dx2⟩ := dp_lst (n2.dw lv1)
    cases e0
    have zt := ok.len.2
    have zps := ok.ps.len
    refine ⟨r2, rfl, ⟨_, sqL_mono wo_sub hx2⟩, fun D3 hD3 => lc_mapP (K := K) N t.trs trD (fun l => .tuple [trD (pcA l tk), trD (pcB l tk)]) (fun l => Cuts l tk) (sqL_mono wo_sub hx2) dx2 hD3 (by omega) lv2 ?_ ?_⟩
    · intro l hlm y H3 s3 lv3 hdy Y hY
      tm_at "ev"
      refine ⟨rfl, ?_⟩
      tm_at "ev"
      refine ⟨D3 :: N, y, tk, l, rfl, lv3, hdy, (ok.trs l hlm).ok, hl60 l hlm, htk, fun ls lk lv4 r4 H4 i1 i2 i3 s4 d4 => ?_⟩
      obtain ⟨c1, c2, c3⟩ := cuts_of i1 i2 i3
      rw [c2, c3] at d4
      exact hY c1 _ _ s4 d4
    intro hcuts H3 n3
    have lv3 := lv2.same n3.same
    have s03 := s1.trans (n2.same.trans n3.same)
    tm_at "ev"
    refine ⟨x, dx, _, rfl, s03 _ _ hx0, rfl, ?_⟩
    tm_at "ev"
    refine ⟨N, x, t, rfl, lv3, hx.mono (wo_same s03), ok.ps, ok.b, fun y4 d4 H4 s4 hy4 hd4 my4 => ?_⟩
    have lv4 := lv3.same s4
    have my4' := my4
    obtain ⟨⟨dy4, my1⟩, my2⟩ := my4'
    tm_at "ev"
    refine ⟨y4, dy4, _, rfl, (wo_of my1).2, rfl, ?_⟩
    tm_at "ev"
    refine ⟨N, y4, t.b, tk, t.ps, rfl, lv4, ⟨d4, my4⟩, ok.ps.up, Nat.le_trans ok.ps.len (by decide), htk, fun H5 s5 => ?_⟩
    have lv5 := lv4.same s5
    tm_at "ev"
    refine ⟨sz2, fun p6 hp6 => ?_⟩
    have t6 := dw_tup (K := K) lv5 (xs := [.int 0, .int (paceAt t.ps tk)]) (ds := [.int 0, .int (paceAt t.ps tk)]) (.cons (.int _) (.cons (.int _) .nil)) hp6
    have lv6 := lv5.same t6.1
    tm_at "ev"
    refine ⟨sz1, fun B7 hB7 => ?_⟩
    have n7 := newL_lst (K := K) (N := N) (xs := [.ref p6]) (dpA_one t6.2) hB7
    have lv7 := lv6.same n7.same
    have s07 := s03.trans (s4.trans (s5.trans (t6.1.trans n7.same)))
    tm_at "ev"
    refine ⟨x, dx, _, rfl, s07 _ _ hx0, rfl, ?_⟩
    tm_at "ev"
    refine ⟨N, x, t, rfl, lv7, hx.mono (wo_same s07), ok.ps, fun r8 H8 n8 => ?_⟩
    have lv8 := lv7.same n8.same
    obtain ⟨r8', xs8, e8, hx8, dx8⟩ := dp_lst (n8.dw lv7)
    cases e8
    refine ⟨r8, rfl, ⟨_, sqL_mono wo_sub hx8⟩, fun D9 hD9 => lc_data (K := K) N t.ps prD (fun q => decide (tk < q.1)) (fun q => prD (q.1 - tk, q.2)) (sqL_mono wo_sub hx8) dx8 hD9 (by omega) lv8 ?_ ?_⟩
    · intro e he y H9 s9 lv9 hdy R Y hR hY
      tm_at "ev"
      refine q_unT hdy rfl fun us hus => ?_
      obtain ⟨v1, r1, rfl, e1, hus⟩ := dpA_cons hus
      obtain ⟨v2, r2', rfl, e2, hus⟩ := dpA_cons hus
      obtain rfl := dpA_nil hus
      obtain rfl := dp_int e1
      obtain rfl := dp_int e2
      tm_at "ev"
      refine ⟨rfl, ?_⟩
      tm_at "ev"
      refine if_2 (fun hb => ?_) fun hb => hR hb _ same_rfl
      tm_at "ev"
      refine ⟨sz2, fun p2 hp2 => ?_⟩
      have t5 := dw_tup (K := K) lv9 (xs := [.int (e.1 - tk), .int e.2]) (.cons (.int _) (.cons (.int _) .nil)) hp2
      exact hY hb _ _ t5.1 t5.2
    intro H9 n9
    have lv9 := lv8.same n9.same
    obtain ⟨us7, hus7, dus7⟩ := n7.at_
    obtain ⟨us9, hus9, dus9⟩ := n9.at_
    have s79 := n8.same.trans n9.same
    tm_at "ev"
    refine q_cat (N := N) (s79 _ _ hus7) hus9 (dpA_mono (wo_drop.trans (wo_same s79)) dus7) (dpA_mono wo_drop dus9) (by
      rw [List.length_map]
      have := List.length_filter_le (fun q : Int × Int => decide (tk < q.1)) t.ps
      simp
      omega) fun r10 H10 n10 => ?_
    have lv10 := lv9.same n10.same
    have d10 : Dw K N H10 (.ref r10) (psD (cutPs2 t.ps tk)) := by
      have := n10.dw lv9
      unfold psD cutPs2
      rw [List.map_cons, List.map_map]
      exact this
    have s010 := s07.trans (s79.trans n10.same)
    tm_at "ev"
    refine ⟨x, dx, _, rfl, s010 _ _ hx0, rfl, ?_⟩
    tm_at "ev"
    refine ⟨N, x, t, rfl, lv10, hx.mono (wo_same s010), ok.ps, fun r11 H11 n11 => ?_⟩
    have lv11 := lv10.same n11.same
    obtain ⟨r11', xs11, e11, hx11, dx11⟩ := dp_lst (n11.dw lv10)
    cases e11
    refine ⟨r11, rfl, ⟨_, sqL_mono wo_sub hx11⟩, fun D12 hD12 => lc_data (K := K) N t.ps prD (fun q => decide (q.1 < tk)) prD (sqL_mono wo_sub hx11) dx11 hD12 (by omega) lv11 ?_ ?_⟩
    · intro e he y H12 s12 lv12 hdy R Y hR hY
      tm_at "ev"
      refine q_unT hdy rfl fun us hus => ?_
      obtain ⟨v1, r1, rfl, e1, hus⟩ := dpA_cons hus
      obtain ⟨v2, r2', rfl, e2, hus⟩ := dpA_cons hus
      obtain rfl := dpA_nil hus
      obtain rfl := dp_int e1
      obtain rfl := dp_int e2
      tm_at "ev"
      refine ⟨rfl, ?_⟩
      tm_at "ev"
      refine if_2 (fun hb => ?_) fun hb => hR hb _ same_rfl
      tm_at "ev"
      refine ⟨sz2, fun p2 hp2 => ?_⟩
      have t5 := dw_tup (K := K) lv12 (xs := [.int e.1, .int e.2]) (.cons (.int _) (.cons (.int _) .nil)) hp2
      exact hY hb _ _ t5.1 t5.2
    intro H12 n12
    have lv12 := lv11.same n12.same
    have d12 : Dw K N H12 (.ref D12) (psD (cutPs1 t.ps tk)) := n12.dw lv11
    have s012 := s010.trans (n11.same.trans n12.same)
    have dP : Dw K N H3 (.ref D3) (.list (t.trs.map fun l => .tuple [trD (pcA l tk), trD (pcB l tk)])) := n3.dw lv2
    have s312 : Same H3 H12 := (s4.trans (s5.trans (t6.1.trans n7.same))).trans (s79.trans (n10.same.trans (n11.same.trans n12.same)))
    tm_at "ev"
    refine ⟨x, dx, _, rfl, s012 _ _ hx0, rfl, ?_⟩
    tm_at "ev"
    refine ⟨x, t, rfl, (hx.mono (wo_same s012)).mono wo_sub, ?_⟩
    tm_at "ev"
    obtain ⟨D3', xs13, e13, hx13, dx13⟩ := dp_lst (dP.up s312)
    cases e13
    refine ⟨D3, rfl, ⟨_, sqL_mono wo_sub hx13⟩, fun D14 hD14 => lc_map N t.trs (fun l => .tuple [trD (pcA l tk), trD (pcB l tk)]) (fun l => trD (pcA l tk)) (sqL_mono wo_sub hx13) dx13 hD14 (by omega) lv12 ?_ ?_⟩
    · intro l hlm y H13 s13 lv13 hdy Y hY
      tm_at "ev"
      refine q_unT hdy rfl fun us hus => ?_
      obtain ⟨v1, r1, rfl, e1, hus⟩ := dpA_cons hus
      obtain ⟨v2, r2', rfl, e2, hus⟩ := dpA_cons hus
      obtain rfl := dpA_nil hus
      tm_at "ev"
      refine ⟨rfl, ?_⟩
      tm_at "ev"
      exact hY _ _ same_rfl e1
    intro H14 n14
    have lv14 := lv12.same n14.same
    have dA : Dw K N H14 (.ref D14) (trsD (t.trs.map fun l => pcA l tk)) := by
      have := n14.dw lv12
      unfold trsD
      rw [List.map_map]
      exact this
    tm_at "ev"
    refine ⟨rfl, rfl, fun y1 dy1 hy1 hdy1 hne1 => ?_⟩
    have okA : ∀ l ∈ t.trs.map (fun l => pcA l tk), TrOk l := fun l' hl' => by
      obtain ⟨l, hlm, rfl⟩ := List.mem_map.mp hl'
      exact cutA_ok (ok.trs l hlm) (hl60 l hlm) htk (hcuts l hlm).s
    have okB : ∀ l ∈ t.trs.map (fun l => pcB l tk), TrOk l := fun l' hl' => by
      obtain ⟨l, hlm, rfl⟩ := List.mem_map.mp hl'
      exact cutB_ok (ok.trs l hlm) (hl60 l hlm) htk (hcuts l hlm).s (hcuts l hlm).k (hcuts l hlm).v
    refine tape_made2 lv14 ok.b dA (d12.up n14.same) (cutPs1_ok ok.ps tk) okA (by rw [List.length_map]; exact ok.len.1) (by rw [List.length_map]; exact ok.len.2) hy1 hdy1 hne1 (fun H15 s15 h15 => ⟨rfl, ?_⟩)
    have lv15 := lv14.same s15
    have s015 := s012.trans (n14.same.trans s15)
    tm_at "ev"
    refine ⟨x, dx, _, rfl, s015 _ _ hx0, rfl, ?_⟩
    tm_at "ev"
    refine ⟨x, t, rfl, (hx.mono (wo_same s015)).mono wo_sub, ?_⟩
    tm_at "ev"
    obtain ⟨D3'', xs16, e16, hx16, dx16⟩ := dp_lst (dP.up (s312.trans (n14.same.trans s15)))
    cases e16
    refine ⟨D3, rfl, ⟨_, sqL_mono wo_sub hx16⟩, fun D17 hD17 => lc_map N t.trs (fun l => .tuple [trD (pcA l tk), trD (pcB l tk)]) (fun l => trD (pcB l tk)) (sqL_mono wo_sub hx16) dx16 hD17 (by omega) lv15 ?_ ?_⟩
    · intro l hlm y H16 s16 lv16 hdy Y hY
      tm_at "ev"
      refine q_unT hdy rfl fun us hus => ?_
      obtain ⟨v1, r1, rfl, e1, hus⟩ := dpA_cons hus
      obtain ⟨v2, r2', rfl, e2, hus⟩ := dpA_cons hus
      obtain rfl := dpA_nil hus
      tm_at "ev"
      refine ⟨rfl, ?_⟩
      tm_at "ev"
      exact hY _ _ same_rfl e2
    intro H17 n17
    have lv17 := lv15.same n17.same
    have dB : Dw K N H17 (.ref D17) (trsD (t.trs.map fun l => pcB l tk)) := by
      have := n17.dw lv15
      unfold trsD
      rw [List.map_map]
      exact this
    tm_at "ev"
    refine ⟨rfl, rfl, fun y2 dy2 hy2 hdy2 hne2 => ?_⟩
    refine tape_made2 lv17 ok.b dB (d10.up (n11.same.trans (n12.same.trans (n14.same.trans (s15.trans n17.same))))) (cutPs2_ok ok.ps hps htk) okB (by rw [List.length_map]; exact ok.len.1) (by rw [List.length_map]; exact ok.len.2) hy2 hdy2 hne2 (fun H18 s18 h18 => ⟨rfl, ?_⟩)
    have lv18 := lv17.same s18
    tm_at "ev"
    refine ⟨sz2, fun p19 hp19 => ?_⟩
    have s19 := same_new (o := .tup [V.ref y1, V.ref y2]) hp19
    exact q y1 y2 p19 _ hcuts ((s015.trans (n17.same.trans s18)).trans s19) (h15.mono (wo_same ((n17.same.trans s18).trans s19))) (h18.mono (wo_same s19)) (lv18.notin hp19) upd_same
end
end Tp
set_option maxHeartbeats 4000000
namespace Tp
open PySem PySem.Spec PyProof.Rows L2
local macro_rules | `(tactic| tm_at "ev") => `(tactic| repeat first
  | with_reducible refine ev_seq ?_ | with_reducible refine ev_asg ?_ | with_reducible refine ev_drop ?_ | with_reducible refine ev_ret ?_ | with_reducible refine ev_ifS ?_ | with_reducible refine ev_next ?_
  | ((with_reducible refine' ev_var ?k1 ?_); (case k1 => exact rfl)) | with_reducible refine ev_c ?_ | with_reducible refine ev_op ?_ | with_reducible refine ev_I0 ?_ | with_reducible refine ev_test ?_ | with_reducible refine ev_B ?_ | with_reducible refine ev_bl ?_
  | ((with_reducible refine ev_eq ?k1 ?_); (case k1 => exact rfl)) | ((with_reducible refine ev_ne ?k1 ?_); (case k1 => exact rfl))
  | ((with_reducible refine' ev_nameL ?k1 ?_); (case k1 => first | (dsimp only [L2.start, wipe, List.map, List.set, List.length, List.replicate, List.append]; exact rfl) | exact rfl)) | with_reducible refine ev_name ?_ | with_reducible refine ev_nil ?_ | with_reducible refine ev_cons ?_ | with_reducible refine ev_call ?_ | with_reducible refine ev_tup ?_ | with_reducible refine ev_lst ?_ | with_reducible refine ev_CB ?_ | with_reducible refine ev_fld ?_
  | with_reducible refine ev_not ?_ | with_reducible refine ev_and ?_ | with_reducible refine ev_or ?_ | with_reducible refine ev_andV ?_ | with_reducible refine ev_orV ?_ | with_reducible refine ev_ifE ?_ | with_reducible refine ev_chain ?_ | with_reducible refine ev_meth ?_ | with_reducible refine ev_un ?_
  | with_reducible refine ev_sl ?_ | with_reducible refine ev_part ?_ | with_reducible refine ev_nopart ?_ | with_reducible refine ev_int ?_ | with_reducible refine ev_for ?_ | with_reducible refine ev_list ?_ | with_reducible refine ev_lc ?_ | with_reducible refine ev_gcons ?_ | with_reducible refine ev_gnil ?_ | with_reducible refine ev_sfld ?_ | with_reducible refine ev_make ?_ | with_reducible refine ev_notV ?_ | with_reducible refine ev_yes ?_ | with_reducible refine ev_dget ?_ | with_reducible refine ev_dput ?_ | with_reducible refine ev_bm ?_ | with_reducible refine ev_bm0 ?_ | with_reducible refine ev_items ?_ | with_reducible refine ev_keys ?_ | with_reducible refine ev_enum ?_ | with_reducible refine ev_tupI ?_ | with_reducible refine ev_par ?_ | with_reducible refine ev_two ?_ | with_reducible refine ev_kget ?_ | with_reducible refine ev_gsub ?_ | with_reducible refine ev_tapeK ?_ | with_reducible refine ev_str ?_ | with_reducible refine ev_txt ?_ | with_reducible refine ev_lc2 ?_ | with_reducible refine ev_dget2 ?_ | with_reducible refine ev_rU ?_ | with_reducible refine ev_ckw ?_ | with_reducible refine ev_dnotin ?_ | with_reducible refine ev_din ?_ | with_reducible refine ev_gfld ?_ | with_reducible refine ev_saug ?_ | with_reducible refine ev_finN ?_)
section
variable {P : Program} {w : World} {K : PySem.W.Frag} {mg : Str → Option Value} {base : Heap} {a : Ad}
theorem kix_kdict {X : Cx} {K : PySem.W.Frag} {w : World} (hK : X.K = K) (hw : X.w = w) : IxR X (rIxD K w) := by
  subst hK
  subst hw
  exact ix_kdict
theorem ev_kget {d : Addr} {td ty tx : TE} {σ : L2.St} {H : Hp} {Q : VK} (q : td σ H fun x H1 => x = .ref d ∧ ty σ H1 fun y H2 => tx σ H2 fun _ H3 => ∃ (k : Str) (u : Value) (v : V), y = .str k ∧ PySem.W.nsIn K d k = some (some u) ∧ RelV v u ∧ Q v H3) : tKGet K d td ty tx σ H Q := q
theorem kB_put (es : List (Str × Addr)) (z : Str) (y : Addr) : putK (kB es) (.inr z) (.ref y) = kB (putE es z y) := putK_map (Sum.inr : Str → Key) inr_inj V.ref es z y
theorem q_star2 {N : List Addr} {H : Hp} {v : V} {e e2 : PyData} {ds : List PyData} {t : TGs} {σ : L2.St} {R : L2.St → Hp → Prop} (h : Dw K N H v (.tuple (e :: e2 :: ds))) (z : ds.length ≤ 16000) (q : ∀ x y p, Dw K N H x e → Dw K N H y e2 → H p = none → ∀ H', NewL K N H H' p ds → t [x, y, .ref p] σ H' R) : gStar K 2 t v σ H R := by
  obtain ⟨a0, xs, rfl, h1, h2⟩ := dp_tup h
  obtain ⟨x, vs, rfl, h3, h4⟩ := dpA_cons h2
  obtain ⟨y, us, rfl, h5, h6⟩ := dpA_cons h4
  have l := dpA_len h6
  refine ⟨a0, _, rfl, .inl (sqT_mono wo_sub h1), by rw [List.length_cons, List.length_cons]; omega, by rw [List.length_cons, List.length_cons]; omega, fun p n => ?_⟩
  exact q x y p h3 h5 n _ (newL_lst h6 n)
/-! ### after -/
def AfNew (ad : Ad) (K : PySem.W.Frag) (N : List Addr) (H : Hp) (Q : VK) (v : V) (es : List (Str × Addr)) : Prop := ∃ (z : Str) (bt : Int), Dw K N H v (.tuple [.str "new", .str z, .int bt]) ∧ z ∉ es.map (·.1) ∧ NameOk z ∧ BeatOk bt ∧
  ∀ b2 y H', Same H H' → H b2 = none → H' b2 = some (.dK (kB (putE es z y))) → TapeAt ad K (wo N H') y ⟨bt, [], [[]]⟩ → Q (.ref b2) H'
def AfAdd (ad : Ad) (K : PySem.W.Frag) (N : List Addr) (H : Hp) (Q : VK) (v : V) (es : List (Str × Addr)) : Prop := ∃ (z : Str) (x : Addr) (t : Tp0), Dw K N H v (.tuple [.str "add", .str z]) ∧ valV (kB es) (.inr z) = some (.ref x) ∧ TapeAt ad K (wo N H) x t ∧ TpOk t ∧ t.trs.length < 6 ∧
  ∀ b2 y H', Same H H' → H b2 = none → H' b2 = some (.dK (kB (putE es z y))) → TapeAt ad K (wo N H') y ⟨t.b, t.ps, t.trs ++ [[]]⟩ → Q (.ref b2) H'
def AfPut (ad : Ad) (K : PySem.W.Frag) (N : List Addr) (H : Hp) (Q : VK) (v : V) (es : List (Str × Addr)) : Prop := ∃ (z : Str) (x : Addr) (t : Tp0) (k : Nat) (l : List Ev) (e : Ev), Dw K N H v (.tuple [.str "put", .str z, .int k, e.d]) ∧ valV (kB es) (.inr z) = some (.ref x) ∧ TapeAt ad K (wo N H) x t ∧ TpOk t ∧
  t.trs[k]? = some l ∧ e.ok ∧ (∀ y ∈ l, y.t ≤ e.t) ∧ l.length < 200 ∧ ∀ b2 y H', Same H H' → H b2 = none → H' b2 = some (.dK (kB (putE es z y))) → TapeAt ad K (wo N H') y ⟨t.b, t.ps, t.trs.set k (l ++ [e])⟩ → Q (.ref b2) H'
def AfPace (ad : Ad) (K : PySem.W.Frag) (N : List Addr) (H : Hp) (Q : VK) (v : V) (es : List (Str × Addr)) : Prop := ∃ (z : Str) (x : Addr) (t : Tp0) (tk pc : Int), Dw K N H v (.tuple [.str "pace", .str z, .int tk, .int pc]) ∧ valV (kB es) (.inr z) = some (.ref x) ∧ TapeAt ad K (wo N H) x t ∧ TpOk t ∧
  (0 ≤ tk ∧ tk ≤ 999999) ∧ (1 ≤ pc ∧ pc ≤ 16777215) ∧ t.ps.length < 20 ∧ ∀ b2 y ps H', Srt ps → ps.Perm (putE t.ps tk pc) → Same H H' → H b2 = none → H' b2 = some (.dK (kB (putE es z y))) → TapeAt ad K (wo N H') y ⟨t.b, ps, t.trs⟩ → Q (.ref b2) H'
def AfCut (ad : Ad) (K : PySem.W.Frag) (N : List Addr) (H : Hp) (Q : VK) (v : V) (es : List (Str × Addr)) : Prop := ∃ (z z2 : Str) (x : Addr) (t : Tp0) (tk : Int), Dw K N H v (.tuple [.str "cut", .str z, .int tk, .str z2]) ∧ valV (kB es) (.inr z) = some (.ref x) ∧ TapeAt ad K (wo N H) x t ∧ TpOk t ∧
  (0 ≤ tk ∧ tk ≤ 999999) ∧ z2 ∉ es.map (·.1) ∧ NameOk z2 ∧ (∀ l ∈ t.trs, l.length ≤ 60) ∧ t.ps.length < 20 ∧ ∀ b2 y1 y2 H', (∀ l ∈ t.trs, Cuts l tk) → Same H H' → H b2 = none → H' b2 = some (.dK (kB (putE (putE es z y1) z2 y2))) →
  TapeAt ad K (wo N H') y1 ⟨t.b, cutPs1 t.ps tk, t.trs.map fun l => pcA l tk⟩ → TapeAt ad K (wo N H') y2 ⟨t.b, cutPs2 t.ps tk, t.trs.map fun l => pcB l tk⟩ → Q (.ref b2) H'
def sp_after (ad : Ad) (K : PySem.W.Frag) : Sp := fun vs H Q _ => ∃ (N : List Addr) (b : Addr) (v : V) (es : List (Str × Addr)), vs = [.ref b, v] ∧ Live N H ∧ H b = some (.dK (kB es)) ∧ es.length < 6 ∧
  (AfNew ad K N H Q v es ∨ AfAdd ad K N H Q v es ∨ AfPut ad K N H Q v es ∨ AfPace ad K N H Q v es ∨ AfCut ad K N H Q v es)
theorem sc_after : FnScope ["book", "deed", "word", "name", "things", "later_book", "act"] ["book", "deed"] (defScope s_after) := ⟨rfl, rfl, rfl, by decide +kernel, rfl, by decide +kernel, by decide +kernel⟩
theorem ok_after (T : Tx w K mg a) (c_do_new : C8.Cal P w K mg base 6 "do_new" (sp_do_new a K) []) (c_do_add : C8.Cal P w K mg base 6 "do_add" (sp_do_add a K) []) (c_do_put : C8.Cal P w K mg base 7 "do_put" (sp_do_put a K) [])
    (c_do_pace : C8.Cal P w K mg base 6 "do_pace" (sp_do_pace a K) []) (c_do_cut : C8.Cal P w K mg base 6 "do_cut" (sp_do_cut a K) []) (c_tape_of : C8.Cal P w K mg base 1 "tape_of" sp_tape_of []) : C8.Cal P w K mg base 8 "after" (sp_after a K) [] := by
  refine calD T.d_after sc_after (fun _ _ _ _ _ _ us hl => match us, hl with | [_, _], _ => rfl) (fun vs H Q E h => ?_) (fun f cdv A outer s H vs Q E hr h => ?_)
  · obtain ⟨N, b, v, es, rfl, _⟩ := h
    rfl
  · obtain ⟨N, b, v, es, rfl, lv, hb, hl, h⟩ := h
    refine ⟨_, (pss_cons (ps_if (PW.pt (pw_or (pt_cmpR op_eq (pe_callB (kcall_len (K := K) rfl) rfl T.f_len (by decide +kernel) (pa_cons (pv 1) pa_nil)) pe_int (nomark _)) (pw_or1 (pt_cmpR op_ne (pe_kget2 (K := K) (w := w) rfl rfl T.x_S (C8.pe_gc rfl T.g_SIZES) (pe_ix (kix_tup (K := K) rfl) (pv 1) pe_int (fun _ _ => rfl)) (pe_int) ⟨rfl, rfl, rfl, rfl⟩) (pe_callB (kcall_len (K := K) rfl) rfl T.f_len (by decide +kernel) (pa_cons (pv 1) pa_nil)) (nomark _))))) pss_never pss_nil)
      (pss_cons (ps_asg (pv 1) (kg_star (K := K) rfl (pg_star (i := 2) rfl (pgs_cons (pg_name (i := 2) sc_after.nd rfl (Or.inl rfl)) (pgs_cons (pg_name (i := 3) sc_after.nd rfl (Or.inl rfl)) (pgs_star (pg_name (i := 4) sc_after.nd rfl (Or.inl rfl)) pgs_nil))))))
      (pss_cons (ps_set (i := 5) sc_after.nd rfl (Or.inl rfl) (pe_callTy call_dictD rfl T.f_dict (by decide +kernel) (pa_cons (pv 0) pa_nil)))
      (pss_cons (ps_if (pt_cmpR op_eq (pv 2) pe_str (nomark _)) pss_never (pss_one (ps_if (pt_cmpR op_eq (pv 2) pe_str (nomark _)) (pss_one (ps_asg (C8.pe_c c_do_cut hr (by decide) rfl (pa_cons (pv 0) (pa_cons (pv 3) (pa_cons (pv 4) pa_nil)))) (kg_tup (K := K) rfl (pg_tup (n := 2) rfl (pgs_cons (pg_sub (pv 5) (pv 3) (set_dict (hu_of hr))) (pgs_cons (pg_sub (pv 5) (pe_ix (kix_list (K := K) rfl) (pv 4) pe_int (fun _ _ => rfl)) (set_dict (hu_of hr))) pgs_nil)))))) (pss_cons (ps_set (i := 6) sc_after.nd rfl (Or.inl rfl) (pe_ix (kix_kdict (K := K) (w := w) rfl rfl) (C8.pe_gc rfl T.g_DEEDS) (pv 2) (fun _ _ => rfl)))
          (pss_one (ps_dput (hu_of hr) (pv 5) (pv 3) (pe_cv4 (mg := mg) (i := 6) rfl c_do_new c_do_add c_do_put c_do_pace hr (by decide) (by decide) (by decide) (by decide) rfl (.inl rfl) (pa_cons (pv 0) (pa_cons (pv 3) (pa_cons (pv 4) pa_nil)))) rfl))))))
      (pss_one (ps_ret (pv 5))))))), ?_⟩
    have hkb : (kB es).length = es.length := List.length_map _
    rcases h with h | h | h | h | h
    · obtain ⟨z, bt, hd, hz, okz, okb, q⟩ := h
      tm_at "ev"
      refine q_lenT hd ?_
      tm_at "ev"
      refine if_f rfl ?_
      tm_at "ev"
      refine ⟨rfl, ?_⟩
      tm_at "ev"
      refine q_ixTs hd (atI_n (n := 0) rfl) ?_
      tm_at "ev"
      obtain ⟨u, hu1, hu2⟩ := T.x_S_new
      refine ⟨"new", u, .int 3, rfl, hu1, hu2, ?_⟩
      tm_at "ev"
      refine q_lenT hd ?_
      tm_at "ev"
      refine if_f rfl ?_
      tm_at "ev"
      refine q_star2 hd (by simp) fun w0 z0 pt hw hz0 hpt H1 n1 => ?_
      obtain rfl := dp_str hw
      obtain rfl := dp_str hz0
      tm_at "ev"
      have lv1 := lv.same n1.same
      refine ⟨b, kB es, rfl, .inl (n1.same _ _ hb), fun b2 hb2 => ?_⟩
      have s2 := same_new (o := .dK (kB es)) hb2
      have hb22 : upd H1 b2 (.dK (kB es)) b2 = some (.dK (kB es)) := upd_same
      have n2 : H b2 = none := n1.same.free hb2
      have lv2 := lv1.same s2
      have s02 := n1.same.trans s2
      have wb : Same (wo N H1) (wo (b2 :: N) (upd H1 b2 (.dK (kB es)))) := wo_newM hb2
      have lvB : Live (b2 :: N) (upd H1 b2 (.dK (kB es))) := lv2.cons hb22
      generalize upd H1 b2 (.dK (kB es)) = H2 at s2 hb22 lv2 s02 wb lvB ⊢
      have dz := dp_mono wb (n1.dw lv)
      have wB : Same (wo N H) (wo (b2 :: N) H2) := (wo_same n1.same).trans wb
      tm_at "ev"
      refine if_f (vs_ne (x := "new") (y := "drop") (by decide)) ?_
      tm_at "ev"
      refine if_f (vs_ne (x := "new") (y := "cut") (by decide)) ?_
      tm_at "ev"
      obtain ⟨fa, hf1, hf2⟩ := T.x_D_new
      obtain ⟨esD, nD, kD⟩ := T.x_D
      refine ⟨a.aD, "new", .ref fa, rfl, rfl, ⟨esD, nD, _, kD.at_, kD.lit, hf2, rfl⟩, ?_⟩
      tm_at "ev"
      refine .inl ⟨fa, hf1, rfl, ?_⟩
      tm_at "ev"
      refine ⟨b2 :: N, b, z, .ref pt, bt, es, rfl, lvB, s02 _ _ hb, hz, okz, hl, dz, okb, fun y H3 s3 h3 => ?_⟩
      tm_at "ev"
      have hb3 := s3 _ _ hb22
      refine ⟨b2, _, rfl, .inl ⟨_, .inr z, hb3, rfl, by rw [hkb]; exact Nat.lt_of_lt_of_le hl (by decide), rfl⟩, ?_⟩
      rw [kB_put]
      tm_at "ev"
      exact q b2 y _ (same_mut (s02.trans s3) n2) n2 upd_same (h3.mono ((wo_mut List.mem_cons_self).trans wo_drop))
    · obtain ⟨z, x, t, hd, hv, hx, okt, hl6, q⟩ := h
      tm_at "ev"
      refine q_lenT hd ?_
      tm_at "ev"
      refine if_f rfl ?_
      tm_at "ev"
      refine ⟨rfl, ?_⟩
      tm_at "ev"
      refine q_ixTs hd (atI_n (n := 0) rfl) ?_
      tm_at "ev"
      obtain ⟨u, hu1, hu2⟩ := T.x_S_add
      refine ⟨"add", u, .int 2, rfl, hu1, hu2, ?_⟩
      tm_at "ev"
      refine q_lenT hd ?_
      tm_at "ev"
      refine if_f rfl ?_
      tm_at "ev"
      refine q_star2 hd (by simp) fun w0 z0 pt hw hz0 hpt H1 n1 => ?_
      obtain rfl := dp_str hw
      obtain rfl := dp_str hz0
      tm_at "ev"
      have lv1 := lv.same n1.same
      refine ⟨b, kB es, rfl, .inl (n1.same _ _ hb), fun b2 hb2 => ?_⟩
      have s2 := same_new (o := .dK (kB es)) hb2
      have hb22 : upd H1 b2 (.dK (kB es)) b2 = some (.dK (kB es)) := upd_same
      have n2 : H b2 = none := n1.same.free hb2
      have lv2 := lv1.same s2
      have s02 := n1.same.trans s2
      have wb : Same (wo N H1) (wo (b2 :: N) (upd H1 b2 (.dK (kB es)))) := wo_newM hb2
      have lvB : Live (b2 :: N) (upd H1 b2 (.dK (kB es))) := lv2.cons hb22
      generalize upd H1 b2 (.dK (kB es)) = H2 at s2 hb22 lv2 s02 wb lvB ⊢
      have dz := dp_mono wb (n1.dw lv)
      have wB : Same (wo N H) (wo (b2 :: N) H2) := (wo_same n1.same).trans wb
      tm_at "ev"
      refine if_f (vs_ne (x := "add") (y := "drop") (by decide)) ?_
      tm_at "ev"
      refine if_f (vs_ne (x := "add") (y := "cut") (by decide)) ?_
      tm_at "ev"
      obtain ⟨fa, hf1, hf2⟩ := T.x_D_add
      obtain ⟨esD, nD, kD⟩ := T.x_D
      refine ⟨a.aD, "add", .ref fa, rfl, rfl, ⟨esD, nD, _, kD.at_, kD.lit, hf2, rfl⟩, ?_⟩
      tm_at "ev"
      refine .inr (.inl ⟨fa, hf1, rfl, ?_⟩)
      tm_at "ev"
      refine ⟨b2 :: N, b, x, z, .ref pt, t, es, rfl, lvB, s02 _ _ hb, hv, hx.mono wB, okt, hl6, fun y H3 s3 h3 => ?_⟩
      tm_at "ev"
      have hb3 := s3 _ _ hb22
      refine ⟨b2, _, rfl, .inl ⟨_, .inr z, hb3, rfl, by rw [hkb]; exact Nat.lt_of_lt_of_le hl (by decide), rfl⟩, ?_⟩
      rw [kB_put]
      tm_at "ev"
      exact q b2 y _ (same_mut (s02.trans s3) n2) n2 upd_same (h3.mono ((wo_mut List.mem_cons_self).trans wo_drop))
    · obtain ⟨z, x, t, k, l, e, hd, hv, hx, okt, hk, oke, hle, hl200, q⟩ := h
      tm_at "ev"
      refine q_lenT hd ?_
      tm_at "ev"
      refine if_f rfl ?_
      tm_at "ev"
      refine ⟨rfl, ?_⟩
      tm_at "ev"
      refine q_ixTs hd (atI_n (n := 0) rfl) ?_
      tm_at "ev"
      obtain ⟨u, hu1, hu2⟩ := T.x_S_put
      refine ⟨"put", u, .int 4, rfl, hu1, hu2, ?_⟩
      tm_at "ev"
      refine q_lenT hd ?_
      tm_at "ev"
      refine if_f rfl ?_
      tm_at "ev"
      refine q_star2 hd (by simp) fun w0 z0 pt hw hz0 hpt H1 n1 => ?_
      obtain rfl := dp_str hw
      obtain rfl := dp_str hz0
      tm_at "ev"
      have lv1 := lv.same n1.same
      refine ⟨b, kB es, rfl, .inl (n1.same _ _ hb), fun b2 hb2 => ?_⟩
      have s2 := same_new (o := .dK (kB es)) hb2
      have hb22 : upd H1 b2 (.dK (kB es)) b2 = some (.dK (kB es)) := upd_same
      have n2 : H b2 = none := n1.same.free hb2
      have lv2 := lv1.same s2
      have s02 := n1.same.trans s2
      have wb : Same (wo N H1) (wo (b2 :: N) (upd H1 b2 (.dK (kB es)))) := wo_newM hb2
      have lvB : Live (b2 :: N) (upd H1 b2 (.dK (kB es))) := lv2.cons hb22
      generalize upd H1 b2 (.dK (kB es)) = H2 at s2 hb22 lv2 s02 wb lvB ⊢
      have dz := dp_mono wb (n1.dw lv)
      have wB : Same (wo N H) (wo (b2 :: N) H2) := (wo_same n1.same).trans wb
      tm_at "ev"
      refine if_f (vs_ne (x := "put") (y := "drop") (by decide)) ?_
      tm_at "ev"
      refine if_f (vs_ne (x := "put") (y := "cut") (by decide)) ?_
      tm_at "ev"
      obtain ⟨fa, hf1, hf2⟩ := T.x_D_put
      obtain ⟨esD, nD, kD⟩ := T.x_D
      refine ⟨a.aD, "put", .ref fa, rfl, rfl, ⟨esD, nD, _, kD.at_, kD.lit, hf2, rfl⟩, ?_⟩
      tm_at "ev"
      refine .inr (.inr (.inl ⟨fa, hf1, rfl, ?_⟩))
      tm_at "ev"
      refine ⟨b2 :: N, b, x, z, .ref pt, t, k, l, e, es, rfl, lvB, s02 _ _ hb, hv, hx.mono wB, okt, dz, hk, oke, hle, hl200, fun y H3 s3 h3 => ?_⟩
      tm_at "ev"
      have hb3 := s3 _ _ hb22
      refine ⟨b2, _, rfl, .inl ⟨_, .inr z, hb3, rfl, by rw [hkb]; exact Nat.lt_of_lt_of_le hl (by decide), rfl⟩, ?_⟩
      rw [kB_put]
      tm_at "ev"
      exact q b2 y _ (same_mut (s02.trans s3) n2) n2 upd_same (h3.mono ((wo_mut List.mem_cons_self).trans wo_drop))
    · obtain ⟨z, x, t, tk, pc, hd, hv, hx, okt, htk, hpc, hl20, q⟩ := h
      tm_at "ev"
      refine q_lenT hd ?_
      tm_at "ev"
      refine if_f rfl ?_
      tm_at "ev"
      refine ⟨rfl, ?_⟩
      tm_at "ev"
      refine q_ixTs hd (atI_n (n := 0) rfl) ?_
      tm_at "ev"
      obtain ⟨u, hu1, hu2⟩ := T.x_S_pace
      refine ⟨"pace", u, .int 4, rfl, hu1, hu2, ?_⟩
      tm_at "ev"
      refine q_lenT hd ?_
      tm_at "ev"
      refine if_f rfl ?_
      tm_at "ev"
      refine q_star2 hd (by simp) fun w0 z0 pt hw hz0 hpt H1 n1 => ?_
      obtain rfl := dp_str hw
      obtain rfl := dp_str hz0
      tm_at "ev"
      have lv1 := lv.same n1.same
      refine ⟨b, kB es, rfl, .inl (n1.same _ _ hb), fun b2 hb2 => ?_⟩
      have s2 := same_new (o := .dK (kB es)) hb2
      have hb22 : upd H1 b2 (.dK (kB es)) b2 = some (.dK (kB es)) := upd_same
      have n2 : H b2 = none := n1.same.free hb2
      have lv2 := lv1.same s2
      have s02 := n1.same.trans s2
      have wb : Same (wo N H1) (wo (b2 :: N) (upd H1 b2 (.dK (kB es)))) := wo_newM hb2
      have lvB : Live (b2 :: N) (upd H1 b2 (.dK (kB es))) := lv2.cons hb22
      generalize upd H1 b2 (.dK (kB es)) = H2 at s2 hb22 lv2 s02 wb lvB ⊢
      have dz := dp_mono wb (n1.dw lv)
      have wB : Same (wo N H) (wo (b2 :: N) H2) := (wo_same n1.same).trans wb
      tm_at "ev"
      refine if_f (vs_ne (x := "pace") (y := "drop") (by decide)) ?_
      tm_at "ev"
      refine if_f (vs_ne (x := "pace") (y := "cut") (by decide)) ?_
      tm_at "ev"
      obtain ⟨fa, hf1, hf2⟩ := T.x_D_pace
      obtain ⟨esD, nD, kD⟩ := T.x_D
      refine ⟨a.aD, "pace", .ref fa, rfl, rfl, ⟨esD, nD, _, kD.at_, kD.lit, hf2, rfl⟩, ?_⟩
      tm_at "ev"
      refine .inr (.inr (.inr ⟨fa, hf1, rfl, ?_⟩))
      tm_at "ev"
      refine ⟨b2 :: N, b, x, z, .ref pt, t, tk, pc, es, rfl, lvB, s02 _ _ hb, hv, hx.mono wB, okt, dz, htk, hpc, hl20, fun y ps H3 srt perm s3 h3 => ?_⟩
      tm_at "ev"
      have hb3 := s3 _ _ hb22
      refine ⟨b2, _, rfl, .inl ⟨_, .inr z, hb3, rfl, by rw [hkb]; exact Nat.lt_of_lt_of_le hl (by decide), rfl⟩, ?_⟩
      rw [kB_put]
      tm_at "ev"
      exact q b2 y ps _ srt perm (same_mut (s02.trans s3) n2) n2 upd_same (h3.mono ((wo_mut List.mem_cons_self).trans wo_drop))
    · obtain ⟨z, z2, x, t, tk, hd, hv, hx, okt, htk, hz2, okz2, hl60, hl20, q⟩ := h
      tm_at "ev"
      refine q_lenT hd ?_
      tm_at "ev"
      refine if_f rfl ?_
      tm_at "ev"
      refine ⟨rfl, ?_⟩
      tm_at "ev"
      refine q_ixTs hd (atI_n (n := 0) rfl) ?_
      tm_at "ev"
      obtain ⟨u, hu1, hu2⟩ := T.x_S_cut
      refine ⟨"cut", u, .int 4, rfl, hu1, hu2, ?_⟩
      tm_at "ev"
      refine q_lenT hd ?_
      tm_at "ev"
      refine if_f rfl ?_
      tm_at "ev"
      refine q_star2 hd (by simp) fun w0 z0 pt hw hz0 hpt H1 n1 => ?_
      obtain rfl := dp_str hw
      obtain rfl := dp_str hz0
      tm_at "ev"
      have lv1 := lv.same n1.same
      refine ⟨b, kB es, rfl, .inl (n1.same _ _ hb), fun b2 hb2 => ?_⟩
      have s2 := same_new (o := .dK (kB es)) hb2
      have hb22 : upd H1 b2 (.dK (kB es)) b2 = some (.dK (kB es)) := upd_same
      have n2 : H b2 = none := n1.same.free hb2
      have lv2 := lv1.same s2
      have s02 := n1.same.trans s2
      have wb : Same (wo N H1) (wo (b2 :: N) (upd H1 b2 (.dK (kB es)))) := wo_newM hb2
      have lvB : Live (b2 :: N) (upd H1 b2 (.dK (kB es))) := lv2.cons hb22
      generalize upd H1 b2 (.dK (kB es)) = H2 at s2 hb22 lv2 s02 wb lvB ⊢
      have dz := dp_mono wb (n1.dw lv)
      have wB : Same (wo N H) (wo (b2 :: N) H2) := (wo_same n1.same).trans wb
      tm_at "ev"
      refine if_f (vs_ne (x := "cut") (y := "drop") (by decide)) ?_
      tm_at "ev"
      refine if_t (decide_eq_true rfl) ?_
      tm_at "ev"
      refine ⟨b2 :: N, b, x, z, z2, .ref pt, t, tk, es, rfl, lvB, s02 _ _ hb, hv, hx.mono wB, okt, dz, htk, hz2, okz2, hl, hl60, hl20, fun y1 y2 p H3 hcuts s3 h31 h32 pN hp => ?_⟩
      tm_at "ev"
      refine ⟨p, [.ref y1, .ref y2], rfl, .inl (.inl hp), rfl, ?_⟩
      tm_at "ev"
      have hb3 := s3 _ _ hb22
      refine ⟨b2, _, rfl, .inl ⟨_, .inr z, hb3, rfl, by rw [hkb]; exact Nat.lt_of_lt_of_le hl (by decide), rfl⟩, ?_⟩
      rw [kB_put]
      tm_at "ev"
      have np : pt ≠ b2 := fun e => by
        obtain ⟨us, hus, _⟩ := n1.at_
        rw [e, hb2] at hus
        cases hus
      have h4 := same_mut (o := .dK (kB (putE es z y1))) (s02.trans s3) n2
      have dz4 : Dw K N (upd H3 b2 (.dK (kB (putE es z y1)))) (.ref pt) (.list [.int tk, .str z2]) := dp_mono ((((wb.trans (wo_same s3))).trans (wo_mut List.mem_cons_self)).trans wo_drop) (n1.dw lv)
      refine q_ixL dz4 (atI_n (n := 1) rfl) fun v2 hv2 => ?_
      obtain rfl := dp_str hv2
      have lp := putE_len es z y1
      refine ⟨b2, _, rfl, .inl ⟨_, .inr z2, upd_same, rfl, by rw [show (kB (putE es z y1)).length = (putE es z y1).length from List.length_map _]; exact Nat.lt_of_lt_of_le (by omega : _ < 100) (by decide), rfl⟩, ?_⟩
      rw [kB_put]
      tm_at "ev"
      exact q b2 y1 y2 _ hcuts (same_mut h4 n2) n2 upd_same (h31.mono (((wo_mut List.mem_cons_self).trans (wo_mut List.mem_cons_self)).trans wo_drop)) (h32.mono (((wo_mut List.mem_cons_self).trans (wo_mut List.mem_cons_self)).trans wo_drop))
end
end Tp
set_option maxHeartbeats 2000000
namespace Tp
open PySem PySem.Spec PyProof.Rows L2 C8
/-! ### x != y by an own == -/
section
variable {prog : Program} {w : World} {A : Around} {E : Value → Shared → Prop} {s : Shared} {K : PySem.W.Frag} {x C f : Addr} {ox : Obj} {od : Option Obj} {b : Value}
theorem bound_blt {M : Model} {name : Str} {id T : String} {args : List Value} {Q : Option Value → Shared → Prop} (Kin : K.In s.heap) (I : PySem.W.InstAt s.heap x ox C od) (hs : PySem.W.findIn K (.ref C) name = some (some (.builtin id))) (S : Slot T name id)
    (h : wpAny M A (call (.builtin id) (.ref x :: args)) (fun v => Q (some v)) E s) : wpAny M A (callSpecialIfBound? (.ref x) name args) Q E s := by
  simp only [callSpecialIfBound?, bindSpecialIfBound?]
  refine wpAny_holding (wpAny_bind (wpAny_bind (wpAny_bind (I.type.here ((PySem.W.looks_findIn Kin hs).here ?_)))))
  simp only [S.bind]
  have last : wpAny M A (call (.builtin id) ([.ref x] ++ args) >>= fun v => pure (some v)) Q E s := wpAny_bind (wpAny_mono h (fun v s' z => wpAny_pure z) fun _ _ z => z)
  refine wpAny_bind (wpAny_askSetting (wpAny_ite ?_))
  split
  · exact wpAny_bind (wpAny_pure (wpAny_pure last))
  · exact wpAny_tryCatch (wpAny_bind (wpAny_pure (wpAny_pure last)))
theorem ne_own {Q : Value → Shared → Prop} (hu : A.units + 1 < cLine) (Kin : K.In s.heap) (I : PySem.W.InstAt s.heap x ox C od) (hb : PySem.W.Looks (model prog w) s.heap (typeOf b) (.ref C)) (hp : PySem.W.plainOver K C = true)
    (hn : PySem.W.findIn K (.ref C) "__ne__" = some (some (.builtin "object.__ne__"))) (hs : PySem.W.findIn K (.ref C) "__eq__" = some (some (.ref f))) (hf : PySem.W.isFn K (.ref f) = true)
    (h : wpAny (model prog w) A.in1 (call (.ref f) [.ref x, b]) (fun v s' => ∃ k, v = .bool k ∧ Q (.bool (!k)) s') E s) : wpAny (model prog w) A (richCompare .NotEq (.ref x) b) Q E s := by
  obtain ⟨cd, hc, ho⟩ := PySem.W.any_some hp
  have ne : cd.mro.isEmpty = false := by
    cases q : cd.mro with
    | nil =>
      rw [q] at ho
      cases ho
    | cons _ _ => rfl
  have sub : PySem.W.Looks (model prog w) s.heap (isInstance (.ref x) (.type "object")) true :=
    I.type.andThen (PySem.W.looks_mroIn Kin (by unfold PySem.W.mroIn; rw [hc, Option.bind_some, if_neg (by rw [ne]; decide), PySem.W.only_has ho]))
  have one : wpAny (model prog w) A (tryCompare (.ref x) "__ne__" b) (fun r s' => ∃ v, r = some v ∧ Q v s') E s := by
    simp only [tryCompare]
    refine wpAny_bind (bound_blt Kin I hn PySem.F.cmp_object.ne (wpAny_call (codeAny_call_builtin PySem.F.cmp_object.ne.plain PySem.F.cmpEntry_ne (@PySem.W.check_slot (model prog w) _ _ s "object.__ne__" "object" "__ne__" (.ref x) [b] [] _ PySem.F.cmpKind_ne PySem.F.cmpSplit_ne sub (PySem.F.cmpArgs_ne _ _) ?_))))
    unfold Builtin.«object.__ne__»
    repeat (first
      | with_reducible refine wpAny_cRoomFor hu ?_
      | (refine wpAny_bind (m := callSpecialIfBound? (.ref x) (Str.ofString "__eq__") [b]) (PySem.W.ifBound_K Kin I hs hf (wpAny_mono h (fun r s' hr => by
          obtain ⟨k, rfl, hq⟩ := hr
          repeat (first | exact ⟨_, rfl, hq⟩ | exact wpAny_pure ⟨_, rfl, hq⟩ | exact wpAny_pure (wpAny_pure ⟨_, rfl, hq⟩) | (refine wpAny_bind (m := truthy (.bool _)) (wpAny_truthy_bool ?_)) | wp_step)) fun _ _ z => z)))
      | wp_step)
  unfold richCompare
  simp only [oneThing_ref]
  refine wpAny_holding (wpAny_bind (wpAny_cRoomFor (Nat.lt_of_succ_lt hu) ?_))
  rw [cmpInfo_NotEq]
  dsimp only
  refine wpAny_bind (I.type.here (wpAny_bind (hb.here ?_)))
  rw [show (Value.ref C != Value.ref C) = false by simp]
  simp only [Bool.false_eq_true, if_false]
  refine wpAny_bind (wpAny_pure ?_)
  simp only [Bool.false_eq_true, if_false]
  refine wpAny_bind (wpAny_mono one (fun r s' z => ?_) fun _ _ z => z)
  obtain ⟨v, rfl, hq⟩ := z
  first | exact wpAny_pure hq | exact wpAny_pure (wpAny_pure hq)
end
section
variable {X : Cx} {k j : Nat} {C : Addr} {sp : Sp} {K : PySem.W.Frag}
/-- what the own == is asked -/
def rOwn (n : Bool) (C : Addr) (sp : Sp) : R2 := fun x y H Q => ∃ p q dx dy fs gs, x = .ref p ∧ y = .ref q ∧ H p = some (.ins C dx fs) ∧ H q = some (.ins C dy gs) ∧ sp [.ref p, .ref q] H (fun v H' => ∃ z, v = .bl z ∧ Q (.bl (n ^^ z)) H') C8.E0
theorem own_call {f p q : Addr} {fd : FuncData} {ps : List Str} {pins : List (Addr × Obj)} {σ : L2.St} {H : Hp} {s : Shared} {A : Around} {Q : VK} (F : FnOk X.prog X.w X.K X.mg X.base C8.CX0 k f fd ps sp) (hb : Binds X.K fd ps []) (hr : Room k A) (hfr : A.frames = X.A.frames) (I : Inv X pins σ H s)
    (h : sp [.ref p, .ref q] H Q C8.E0) : wpAny (model X.prog X.w) A (call (.ref f) [.ref p, .ref q]) (EP X pins σ Q) X.xe s := by
  have e0 : Env0 X.prog X.w X.K X.mg X.base A X.stack s H := by
    have e := I.env0
    exact ⟨by rw [hfr]; exact e.frames, e.mod, e.bs, e.bsz, e.funs, e.frf, e.hok, e.bare⟩
  have hl := F.len _ _ _ _ h
  have r2 : Vals [V.ref p, V.ref q] [Value.ref p, Value.ref q] := .cons rfl (.cons rfl .nil)
  refine wpAny_call (codeAny_mono (F.run A X.stack s H ⟨[.ref p, .ref q], []⟩ [.ref p, .ref q] [.ref p, .ref q] _ C8.E0 hr e0 (by
    have := hb s [.ref p, .ref q] I.kIn (by simpa using hl)
    simpa using this) r2 h) fun r s' hq => ?_)
  cases r with
  | error e => exact hq.elim
  | ok fl =>
    cases fl with
    | ret u => exact I.after hq
    | next => exact hq.elim
    | brk => exact hq.elim
    | cont => exact hq.elim
theorem op_neOwn (hK : X.K = K) (c : Met X.prog X.w X.K X.mg X.base k C "__eq__" sp []) (hr : Room j X.A) (hk : k + 1 ≤ j) (hn : PySem.W.findIn K (.ref C) "__ne__" = some (some (.builtin "object.__ne__"))) : OpR X (compareOp .NotEq) (rOwn true C sp) := by
  subst hK
  intro pins s σ H x y v u Q I rx ry hq
  obtain ⟨p, q, dx, dy, fs, gs, rfl, rfl, hp, hq', hsp⟩ := hq
  cases rx
  cases ry
  obtain ⟨f, fd, ps, ds, hc, hm, F, b, d⟩ := c.ex
  cases d
  obtain ⟨mA, J, _⟩ := ins_get I.hok hp
  obtain ⟨mB, J', _⟩ := ins_get I.hok hq'
  obtain ⟨od, J, _⟩ := J.look
  obtain ⟨od', J', _⟩ := J'.look
  show wpAny (model X.prog X.w) X.A (richCompare .NotEq (.ref p) (.ref q)) (EP X pins σ Q) X.xe s
  refine ne_own (hu_of hr) I.kIn J J'.type hc.po hn hm.1 hm.2 ?_
  refine wpAny_mono (own_call F b (hr.mono hk).in1 rfl I hsp) (fun v s' z => ?_) fun _ _ z => z
  obtain ⟨z, H', I', rz, k, ez, q⟩ := z
  subst ez
  cases rz
  exact ⟨k, rfl, .bl _, H', I', rfl, by rw [Bool.true_xor] at q; exact q⟩
theorem op_eqOwn (hK : X.K = K) (c : Met X.prog X.w X.K X.mg X.base k C "__eq__" sp []) (hr : Room j X.A) (hk : k ≤ j) : OpR X (compareOp .Eq) (rOwn false C sp) := by
  subst hK
  intro pins s σ H x y v u Q I rx ry hq
  obtain ⟨p, q, dx, dy, fs, gs, rfl, rfl, hp, hq', hsp⟩ := hq
  cases rx
  cases ry
  obtain ⟨f, fd, ps, ds, hc, hm, F, b, d⟩ := c.ex
  cases d
  obtain ⟨mA, J, _⟩ := ins_get I.hok hp
  obtain ⟨mB, J', _⟩ := ins_get I.hok hq'
  obtain ⟨od, J, _⟩ := J.look
  obtain ⟨od', J', _⟩ := J'.look
  obtain ⟨m, hF⟩ := I.fr
  show wpAny (model X.prog X.w) X.A (richCompare .Eq (.ref p) (.ref q)) (EP X pins σ Q) X.xe s
  refine PySem.W.cmp_K (op := .Eq) (tb := .ref C) hr.units0 hF I.ok.mod.kin J J'.type (by simp [PySem.W.notFirst]) hm.1 hm.2 ?_
  refine wpAny_mono (own_call F b (hr.mono hk) rfl I hsp) (fun v s' z => ?_) fun _ _ z => z
  obtain ⟨z, H', I', rz, k, ez, q⟩ := z
  subst ez
  cases rz
  exact ⟨.bl _, H', I', rfl, by rw [Bool.false_xor] at q; exact q⟩
theorem ev_own {n : Bool} {p q dx dy : Addr} {fs gs : List (Str × V)} {H : Hp} {Q : VK} (h1 : H p = some (.ins C dx fs)) (h2 : H q = some (.ins C dy gs)) (h : sp [.ref p, .ref q] H (fun v H' => ∃ z, v = .bl z ∧ Q (.bl (n ^^ z)) H') C8.E0) : rOwn n C sp (.ref p) (.ref q) H Q :=
  ⟨p, q, dx, dy, fs, gs, rfl, rfl, h1, h2, h⟩
/-! ### a field as a target among others -/
def gFld (K : PySem.W.Frag) (to : TE) (f : Str) : TG := fun v σ H Q => to σ H fun x H1 => ∃ a C dx fs, x = .ref a ∧ H1 a = some (.ins C dx fs) ∧ Cls K C ∧ NoAttr K C f ∧ fs.length < 1000 ∧ Q σ (upd H1 a (.ins C dx (putF f v fs)))
theorem pg_fld {o : Expr} {f : Str} {pos : Pos} {to : TE} (hK : X.K = K) (ho : PE X o to) : PG X (.Attribute o f pos) (gFld K to f) := by
  subst hK
  refine ⟨fun pins s σ H v u Q I r h => ?_⟩
  rw [assign_Attribute]
  refine wpAny_bind (wpAny_holding (thn (ho.run pins s σ H _ I h) fun ov s1 ⟨x, H1, I1, r1, a, C, dx, fs, ex, ea, c, n, l, q⟩ => ?_))
  subst ex
  obtain rfl : ov = Value.ref a := r1
  first
    | (refine wpAny_bind (wpAny_standAt (wpAny_bind (wpAny_holding (setattr_ok I1 ea c n l r fun s2 I2 => ?_))))
       exact wpAny_release ⟨σ, _, I2, q⟩)
    | (refine wpAny_bind (wpAny_holding (setattr_ok I1 ea c n l r fun s2 I2 => ?_))
       exact wpAny_release ⟨σ, _, I2, q⟩)
theorem ev_gfld {to : TE} {f : Str} {v : V} {σ : L2.St} {H : Hp} {Q : L2.St → Hp → Prop} (q : to σ H fun x H1 => ∃ a C dx fs, x = .ref a ∧ H1 a = some (.ins C dx fs) ∧ Cls K C ∧ NoAttr K C f ∧ fs.length < 1000 ∧ Q σ (upd H1 a (.ins C dx (putF f v fs)))) : gFld K to f v σ H Q := q
/-! ### two lists of unlike lengths are not == -/
def rEqLen (K : PySem.W.Frag) : R2 := fun x y H Q => ∃ p q xs ys, x = .ref p ∧ y = .ref q ∧ SqL K H p xs ∧ SqL K H q ys ∧ xs.length ≠ ys.length ∧ Q (.bl false) H
theorem rc_len {prog : Program} {w : World} {A : Around} {E : Value → Shared → Prop} {s : Shared} {l b : Addr} {items items2 : Array Value} {n n2 : Nat} {sl sl2 : Array (Option Value)} {Q : Value → Shared → Prop} (hu : A.units < cLine) (hl1 : s.heap.get? l = some { cls := .type "list", data := .seq items n, slots := sl })
    (hb1 : s.heap.get? b = some { cls := .type "list", data := .seq items2 n2, slots := sl2 }) (hne : items.size ≠ items2.size) (hQ : Q (.bool false) s) : wpAny (model prog w) A (richCompare .Eq (.ref l) (.ref b)) Q E s := by
  refine wpAny_richCompare_same_room (op := .Eq) ⟨_, hl1, rfl⟩ ⟨_, hb1, rfl⟩ F.slot_list_eq (GQ.call_here F.slot_list_eq ⟨_, hl1, rfl⟩ F.entry_list_eq (F.args_list_eq_2 _ _) ?_) hu
  have hR : (wants (fun v s' => v ≠ .notImplemented ∧ Q v s') E) (.ok (.ret (.bool false))) s := ⟨(fun x => nomatch x), hQ⟩
  obtain ⟨hp, g, d, tk, os⟩ := s
  have f3 := AutoSeq1.sub_list_list
  have hne' : (items.size != items2.size) = true := by simp [hne]
  open AutoSeq1 MeetsSeq MeetsSeq2 MeetsSeq3 SeqRoads2 in
  wp_walk using AutoSeq1.wpAny_loadPart' hl1, AutoSeq1.wpAny_loadPart' hb1
  all_goals exact hR
theorem op_eqLen (hK : X.K = K) (hu : X.A.units + 1 < cLine) : OpR X (compareOp .Eq) (rEqLen K) := by
  subst hK
  intro pins s σ H x y v u Q I rx ry hq
  obtain ⟨p, q, xs, ys, rfl, rfl, hp, hq', hne, hQ⟩ := hq
  cases rx
  cases ry
  obtain ⟨its, r, p1, _⟩ := I.list hp
  obtain ⟨its2, r2, p2, _⟩ := I.list hq'
  obtain ⟨⟨c1, d1, t1, sl1⟩, n, e1, f1, g1, h1⟩ := p1
  obtain ⟨⟨c2, d2, t2, sl2⟩, n2, e2, f2, g2, h2⟩ := p2
  dsimp only at f1 g1 h1 f2 g2 h2
  subst f1 g1 h1 f2 g2 h2
  exact rc_len (Nat.lt_of_succ_lt hu) e1 e2 (by rw [List.size_toArray, List.size_toArray, ← r.length, ← r2.length]; exact hne) ⟨.bl false, H, I, rfl, hQ⟩
theorem ev_saug {K : PySem.W.Frag} {ta tv : TE} {rd : V → V → Hp → VK → Prop} {f : Str} {D : Ends} {σ : L2.St} {H : Hp} (q : ta σ H fun x H1 => ∃ p C dx fs v, x = .ref p ∧ H1 p = some (.ins C dx fs) ∧ Cls K C ∧ NoAttr K C f ∧ fs.lookup f = some v ∧
    tv σ H1 fun y H2 => rd v y H2 fun z H3 => ∃ dx' fs', H3 p = some (.ins C dx' fs') ∧ fs'.length < 1000 ∧ D.nx σ (upd H3 p (.ins C dx' (putF f z fs')))) : sFldAug K ta tv rd f D σ H := q
theorem ev_finN {tb tf : TS} {D : Ends} {σ : L2.St} {H : Hp} (q : tb { nx := fun σ1 H1 => tf D σ1 H1, rt := fun _ _ => False } σ H) : tFinN tb tf D σ H := q
end
end Tp
set_option maxHeartbeats 4000000
namespace Tp
open PySem PySem.Spec PyProof.Rows L2
local macro_rules | `(tactic| tm_at "ev") => `(tactic| repeat first
  | with_reducible refine ev_seq ?_ | with_reducible refine ev_asg ?_ | with_reducible refine ev_drop ?_ | with_reducible refine ev_ret ?_ | with_reducible refine ev_ifS ?_ | with_reducible refine ev_next ?_
  | ((with_reducible refine' ev_var ?k1 ?_); (case k1 => exact rfl)) | with_reducible refine ev_c ?_ | with_reducible refine ev_op ?_ | with_reducible refine ev_I0 ?_ | with_reducible refine ev_test ?_ | with_reducible refine ev_B ?_ | with_reducible refine ev_bl ?_
  | ((with_reducible refine ev_eq ?k1 ?_); (case k1 => exact rfl)) | ((with_reducible refine ev_ne ?k1 ?_); (case k1 => exact rfl))
  | ((with_reducible refine' ev_nameL ?k1 ?_); (case k1 => first | (dsimp only [L2.start, wipe, List.map, List.set, List.length, List.replicate, List.append]; exact rfl) | exact rfl)) | with_reducible refine ev_name ?_ | with_reducible refine ev_nil ?_ | with_reducible refine ev_cons ?_ | with_reducible refine ev_call ?_ | with_reducible refine ev_tup ?_ | with_reducible refine ev_lst ?_ | with_reducible refine ev_CB ?_ | with_reducible refine ev_fld ?_
  | with_reducible refine ev_not ?_ | with_reducible refine ev_and ?_ | with_reducible refine ev_or ?_ | with_reducible refine ev_andV ?_ | with_reducible refine ev_orV ?_ | with_reducible refine ev_ifE ?_ | with_reducible refine ev_chain ?_ | with_reducible refine ev_meth ?_ | with_reducible refine ev_un ?_
  | with_reducible refine ev_sl ?_ | with_reducible refine ev_part ?_ | with_reducible refine ev_nopart ?_ | with_reducible refine ev_int ?_ | with_reducible refine ev_for ?_ | with_reducible refine ev_list ?_ | with_reducible refine ev_lc ?_ | with_reducible refine ev_gcons ?_ | with_reducible refine ev_gnil ?_ | with_reducible refine ev_sfld ?_ | with_reducible refine ev_make ?_ | with_reducible refine ev_notV ?_ | with_reducible refine ev_yes ?_ | with_reducible refine ev_dget ?_ | with_reducible refine ev_dput ?_ | with_reducible refine ev_bm ?_ | with_reducible refine ev_bm0 ?_ | with_reducible refine ev_items ?_ | with_reducible refine ev_keys ?_ | with_reducible refine ev_enum ?_ | with_reducible refine ev_tupI ?_ | with_reducible refine ev_par ?_ | with_reducible refine ev_two ?_ | with_reducible refine ev_kget ?_ | with_reducible refine ev_gsub ?_ | with_reducible refine ev_tapeK ?_ | with_reducible refine ev_str ?_ | with_reducible refine ev_txt ?_ | with_reducible refine ev_lc2 ?_ | with_reducible refine ev_dget2 ?_ | with_reducible refine ev_rU ?_ | with_reducible refine ev_ckw ?_ | with_reducible refine ev_dnotin ?_ | with_reducible refine ev_din ?_ | with_reducible refine ev_gfld ?_ | with_reducible refine ev_saug ?_ | with_reducible refine ev_finN ?_)
section
variable {P : Program} {w : World} {K : PySem.W.Frag} {mg : Str → Option Value} {base : Heap} {a : Ad}
/-! ### the deck -/
def fD (bk el pa ah : Addr) (u : Int) : List (Str × V) := [("book", .ref bk), ("elder", .ref el), ("past", .ref pa), ("ahead", .ref ah), ("under", .int u)]
theorem putF_here {f : Str} {v x : V} {r : List (Str × V)} : putF f v ((f, x) :: r) = (f, v) :: r := by
  show (if f = f then _ else _) = _
  rw [if_pos rfl]
theorem putF_next {f g : Str} {v x : V} {r : List (Str × V)} (h : g ≠ f) : putF f v ((g, x) :: r) = (g, x) :: putF f v r := by
  show (if g = f then _ else _) = _
  rw [if_neg h]
theorem putF_nil {f : Str} {v : V} : putF f v [] = [(f, v)] := rfl
theorem pfD_b {b b' e p h : Addr} {u : Int} : putF ("book" : Str) (.ref b') (fD b e p h u) = fD b' e p h u := putF_here
theorem pfD_e {b e e' p h : Addr} {u : Int} : putF ("elder" : Str) (.ref e') (fD b e p h u) = fD b e' p h u := by
  unfold fD
  rw [putF_next (by decide), putF_here]
theorem pfD_h {b e p h h' : Addr} {u : Int} : putF ("ahead" : Str) (.ref h') (fD b e p h u) = fD b e p h' u := by
  unfold fD
  rw [putF_next (by decide), putF_next (by decide), putF_next (by decide), putF_here]
theorem pfD_u {b e p h : Addr} {u u' : Int} : putF ("under" : Str) (.int u') (fD b e p h u) = fD b e p h u' := by
  unfold fD
  rw [putF_next (by decide), putF_next (by decide), putF_next (by decide), putF_next (by decide), putF_here]
def sp_Deck___init__ (ad : Ad) : Sp := fun vs H Q _ => ∃ (x dx : Addr), vs = [.ref x] ∧ H x = some (.ins ad.cD dx []) ∧
  ∀ b e p h H', SameBut x H H' → H b = none → H p = none → H h = none → b ≠ x → p ≠ x → h ≠ x → H' x = some (.ins ad.cD dx (fD b e p h 0)) → H' b = some (.dK []) → H' p = some (.lst []) → H' h = some (.lst []) → Q .non H'
theorem sc_Deck___init__ : FnScope ["self"] ["self"] (defScope s_Deck___init__) := ⟨rfl, rfl, rfl, by decide +kernel, rfl, by decide +kernel, by decide +kernel⟩
theorem ok_Deck___init__ (T : Tx w K mg a) : C8.Mak P w K mg base 1 "Deck" a.cD (sp_Deck___init__ a) [] := by
  refine iniD T.d_Deck___init__ T.m_Deck sc_Deck___init__ (fun _ _ _ _ _ _ us hl => match us, hl with | [_], _ => rfl) (fun vs H Q E h => ?_) (fun f cdv A outer s H vs Q E hr h => ?_)
  · obtain ⟨x, dx, rfl, _⟩ := h
    rfl
  · obtain ⟨x, dx, rfl, hx, q⟩ := h
    refine ⟨_, (pss_cons (k_sfld (K := K) rfl (ps_fld (pv 0) pe_dnewK rfl))
      (pss_cons (k_sfld (K := K) rfl (ps_fld (pv 0) pe_dnewK rfl))
      (pss_cons (k_sfld (K := K) rfl (ps_fld (pv 0) (pe_lst pa_nil) rfl))
      (pss_cons (k_sfld (K := K) rfl (ps_fld (pv 0) (pe_lst pa_nil) rfl))
      (pss_one (k_sfld (K := K) rfl (ps_fld (pv 0) pe_int rfl))))))), ?_⟩
    tm_at "ev"
    intro b hb
    tm_at "ev"
    have bx : b ≠ x := fun z => by rw [z, hx] at hb; cases hb
    refine ⟨x, a.cD, dx, _, rfl, (upd_ne bx.symm).trans hx, T.cl_Deck, T.n_Deck_book, (show 0 < 1000 by decide), ?_⟩
    rw [putF_nil]
    have sb1 : SameBut x H (upd (upd H b (.dK [])) x (.ins a.cD dx [("book", .ref b)])) := sb_upd (sb_same (same_new hb))
    have h1x : upd (upd H b (.dK [])) x (.ins a.cD dx [("book", .ref b)]) x = some (.ins a.cD dx [("book", .ref b)]) := upd_same
    have h1b : upd (upd H b (.dK [])) x (.ins a.cD dx [("book", .ref b)]) b = some (.dK []) := (upd_ne bx).trans upd_same
    generalize upd (upd H b (.dK [])) x (.ins a.cD dx [("book", .ref b)]) = H1 at sb1 h1x h1b ⊢
    tm_at "ev"
    intro e he
    tm_at "ev"
    have ex : e ≠ x := fun z => by rw [z, h1x] at he; cases he
    refine ⟨x, a.cD, dx, _, rfl, (upd_ne ex.symm).trans h1x, T.cl_Deck, T.n_Deck_elder, (show 1 < 1000 by decide), ?_⟩
    rw [putF_next (by decide), putF_nil]
    have be : b ≠ e := fun z => by rw [← z, h1b] at he; cases he
    have sb2 : SameBut x H (upd (upd H1 e (.dK [])) x (.ins a.cD dx [("book", .ref b), ("elder", .ref e)])) := sb_upd (sb_new sb1 he)
    have h2x : upd (upd H1 e (.dK [])) x (.ins a.cD dx [("book", .ref b), ("elder", .ref e)]) x = some (.ins a.cD dx [("book", .ref b), ("elder", .ref e)]) := upd_same
    have h2b : upd (upd H1 e (.dK [])) x (.ins a.cD dx [("book", .ref b), ("elder", .ref e)]) b = some (.dK []) := ((upd_ne bx).trans (upd_ne be)).trans h1b
    generalize upd (upd H1 e (.dK [])) x (.ins a.cD dx [("book", .ref b), ("elder", .ref e)]) = H2 at sb2 h2x h2b ⊢
    tm_at "ev"
    refine ⟨sz0, fun p hp => ?_⟩
    tm_at "ev"
    have px : p ≠ x := fun z => by rw [z, h2x] at hp; cases hp
    have bp : b ≠ p := fun z => by rw [← z, h2b] at hp; cases hp
    have hp0 : H p = none := none_sb sb2 px hp
    refine ⟨x, a.cD, dx, _, rfl, (upd_ne px.symm).trans h2x, T.cl_Deck, T.n_Deck_past, (show 2 < 1000 by decide), ?_⟩
    rw [putF_next (by decide), putF_next (by decide), putF_nil]
    have sb3 : SameBut x H (upd (upd H2 p (.lst [])) x (.ins a.cD dx [("book", .ref b), ("elder", .ref e), ("past", .ref p)])) := sb_upd (sb_new sb2 hp)
    have h3x : upd (upd H2 p (.lst [])) x (.ins a.cD dx [("book", .ref b), ("elder", .ref e), ("past", .ref p)]) x = some (.ins a.cD dx [("book", .ref b), ("elder", .ref e), ("past", .ref p)]) := upd_same
    have h3b : upd (upd H2 p (.lst [])) x (.ins a.cD dx [("book", .ref b), ("elder", .ref e), ("past", .ref p)]) b = some (.dK []) := ((upd_ne bx).trans (upd_ne bp)).trans h2b
    have h3p : upd (upd H2 p (.lst [])) x (.ins a.cD dx [("book", .ref b), ("elder", .ref e), ("past", .ref p)]) p = some (.lst []) := (upd_ne px).trans upd_same
    generalize upd (upd H2 p (.lst [])) x (.ins a.cD dx [("book", .ref b), ("elder", .ref e), ("past", .ref p)]) = H3 at sb3 h3x h3b h3p ⊢
    tm_at "ev"
    refine ⟨sz0, fun h hh => ?_⟩
    tm_at "ev"
    have hx' : h ≠ x := fun z => by rw [z, h3x] at hh; cases hh
    have bh : b ≠ h := fun z => by rw [← z, h3b] at hh; cases hh
    have ph : p ≠ h := fun z => by rw [← z, h3p] at hh; cases hh
    have hh0 : H h = none := none_sb sb3 hx' hh
    refine ⟨x, a.cD, dx, _, rfl, (upd_ne hx'.symm).trans h3x, T.cl_Deck, T.n_Deck_ahead, (show 3 < 1000 by decide), ?_⟩
    rw [putF_next (by decide), putF_next (by decide), putF_next (by decide), putF_nil]
    have sb4 : SameBut x H (upd (upd H3 h (.lst [])) x (.ins a.cD dx [("book", .ref b), ("elder", .ref e), ("past", .ref p), ("ahead", .ref h)])) := sb_upd (sb_new sb3 hh)
    have h4x : upd (upd H3 h (.lst [])) x (.ins a.cD dx [("book", .ref b), ("elder", .ref e), ("past", .ref p), ("ahead", .ref h)]) x = some (.ins a.cD dx [("book", .ref b), ("elder", .ref e), ("past", .ref p), ("ahead", .ref h)]) := upd_same
    have h4b : upd (upd H3 h (.lst [])) x (.ins a.cD dx [("book", .ref b), ("elder", .ref e), ("past", .ref p), ("ahead", .ref h)]) b = some (.dK []) := ((upd_ne bx).trans (upd_ne bh)).trans h3b
    have h4p : upd (upd H3 h (.lst [])) x (.ins a.cD dx [("book", .ref b), ("elder", .ref e), ("past", .ref p), ("ahead", .ref h)]) p = some (.lst []) := ((upd_ne px).trans (upd_ne ph)).trans h3p
    have h4h : upd (upd H3 h (.lst [])) x (.ins a.cD dx [("book", .ref b), ("elder", .ref e), ("past", .ref p), ("ahead", .ref h)]) h = some (.lst []) := (upd_ne hx').trans upd_same
    generalize upd (upd H3 h (.lst [])) x (.ins a.cD dx [("book", .ref b), ("elder", .ref e), ("past", .ref p), ("ahead", .ref h)]) = H4 at sb4 h4x h4b h4p h4h ⊢
    tm_at "ev"
    refine ⟨x, a.cD, dx, _, rfl, h4x, T.cl_Deck, T.n_Deck_under, (show 4 < 1000 by decide), ?_⟩
    rw [putF_next (by decide), putF_next (by decide), putF_next (by decide), putF_next (by decide), putF_nil]
    exact q b e p h _ (sb_upd sb4) hb hp0 hh0 bx px hx' upd_same ((upd_ne bx).trans h4b) ((upd_ne px).trans h4p) ((upd_ne hx').trans h4h)
/-! ### Deck.tape, Deck.names -/
def sp_Deck_tape (ad : Ad) : Sp := fun vs H Q _ => ∃ (p dx bk el pa ah t : Addr) (u : Int) (z : Str) (es : List (Str × Addr)), vs = [.ref p, .str z] ∧ H p = some (.ins ad.cD dx (fD bk el pa ah u)) ∧ H bk = some (.dK (kB es)) ∧ valV (kB es) (.inr z) = some (.ref t) ∧ Q (.ref t) H
theorem sc_Deck_tape : FnScope ["self", "name"] ["self", "name"] (defScope s_Deck_tape) := ⟨rfl, rfl, rfl, by decide +kernel, rfl, by decide +kernel, by decide +kernel⟩
theorem ok_Deck_tape (T : Tx w K mg a) (c_tape_of : C8.Cal P w K mg base 1 "tape_of" sp_tape_of []) : C8.Met P w K mg base 2 a.cD "tape" (sp_Deck_tape a) [] := by
  refine metD T.cl_Deck T.d_Deck_tape sc_Deck_tape (fun _ _ _ _ _ _ us hl => match us, hl with | [_, _], _ => rfl) (fun vs H Q E h => ?_) (fun f cdv A outer s H vs Q E hr h => ?_)
  · obtain ⟨p, dx, bk, el, pa, ah, t, u, z, es, rfl, _⟩ := h
    rfl
  · obtain ⟨p, dx, bk, el, pa, ah, t, u, z, es, rfl, hp, hb, hv, q⟩ := h
    refine ⟨_, (pss_one (ps_ret (C8.pe_c c_tape_of hr (by decide) rfl (pa_cons (k_fld (K := K) rfl (pe_fld (pv 0) rfl)) (pa_cons (pv 1) pa_nil))))), ?_⟩
    tm_at "ev"
    refine ⟨p, a.cD, dx, _, _, rfl, hp, T.cl_Deck, T.n_Deck_book, rfl, ?_⟩
    tm_at "ev"
    exact ⟨bk, t, z, es, rfl, hb, hv, q⟩
def sp_Deck_names (ad : Ad) (K : PySem.W.Frag) : Sp := fun vs H Q _ => ∃ (N : List Addr) (p dx bk el pa ah t : Addr) (u : Int) (z : Str), vs = [.ref p] ∧ H p = some (.ins ad.cD dx (fD bk el pa ah u)) ∧ H bk = some (.dK (kB [(z, t)])) ∧ ∀ r H', NewL K N H H' r [.str z] → Q (.ref r) H'
theorem sc_Deck_names : FnScope ["self"] ["self"] (defScope s_Deck_names) := ⟨rfl, rfl, rfl, by decide +kernel, rfl, by decide +kernel, by decide +kernel⟩
theorem ok_Deck_names (T : Tx w K mg a) : C8.Met P w K mg base 1 a.cD "names" (sp_Deck_names a K) [] := by
  refine metD T.cl_Deck T.d_Deck_names sc_Deck_names (fun _ _ _ _ _ _ us hl => match us, hl with | [_], _ => rfl) (fun vs H Q E h => ?_) (fun f cdv A outer s H vs Q E hr h => ?_)
  · obtain ⟨N, p, dx, bk, el, pa, ah, t, u, z, rfl, _⟩ := h
    rfl
  · obtain ⟨N, p, dx, bk, el, pa, ah, t, u, z, rfl, hp, hb, q⟩ := h
    refine ⟨_, (pss_one (ps_ret (pe_callB (call_sortedD rfl) rfl T.f_sorted (by decide +kernel) (pa_cons (k_fld (K := K) rfl (pe_fld (pv 0) rfl)) pa_nil)))), ?_⟩
    tm_at "ev"
    refine ⟨p, a.cD, dx, _, _, rfl, hp, T.cl_Deck, T.n_Deck_book, rfl, ?_⟩
    tm_at "ev"
    refine ⟨bk, _, [z], rfl, .inl hb, rfl, (show 1 < 64 by decide), fun ys r perm srt hr0 => ?_⟩
    have e : ys = [z] := List.perm_singleton.mp perm
    subst e
    exact q r _ (newL_lst (K := K) (N := N) (xs := [.str z]) (.cons (.str _) .nil) hr0)
end
end Tp
set_option maxHeartbeats 4000000
namespace Tp
open PySem PySem.Spec PyProof.Rows L2
local macro_rules | `(tactic| tm_at "ev") => `(tactic| repeat first
  | with_reducible refine ev_seq ?_ | with_reducible refine ev_asg ?_ | with_reducible refine ev_drop ?_ | with_reducible refine ev_ret ?_ | with_reducible refine ev_ifS ?_ | with_reducible refine ev_next ?_
  | ((with_reducible refine' ev_var ?k1 ?_); (case k1 => exact rfl)) | with_reducible refine ev_c ?_ | with_reducible refine ev_op ?_ | with_reducible refine ev_I0 ?_ | with_reducible refine ev_test ?_ | with_reducible refine ev_B ?_ | with_reducible refine ev_bl ?_
  | ((with_reducible refine ev_eq ?k1 ?_); (case k1 => exact rfl)) | ((with_reducible refine ev_ne ?k1 ?_); (case k1 => exact rfl))
  | ((with_reducible refine' ev_nameL ?k1 ?_); (case k1 => first | (dsimp only [L2.start, wipe, List.map, List.set, List.length, List.replicate, List.append]; exact rfl) | exact rfl)) | with_reducible refine ev_name ?_ | with_reducible refine ev_nil ?_ | with_reducible refine ev_cons ?_ | with_reducible refine ev_call ?_ | with_reducible refine ev_tup ?_ | with_reducible refine ev_lst ?_ | with_reducible refine ev_CB ?_ | with_reducible refine ev_fld ?_
  | with_reducible refine ev_not ?_ | with_reducible refine ev_and ?_ | with_reducible refine ev_or ?_ | with_reducible refine ev_andV ?_ | with_reducible refine ev_orV ?_ | with_reducible refine ev_ifE ?_ | with_reducible refine ev_chain ?_ | with_reducible refine ev_meth ?_ | with_reducible refine ev_un ?_
  | with_reducible refine ev_sl ?_ | with_reducible refine ev_part ?_ | with_reducible refine ev_nopart ?_ | with_reducible refine ev_int ?_ | with_reducible refine ev_for ?_ | with_reducible refine ev_list ?_ | with_reducible refine ev_lc ?_ | with_reducible refine ev_gcons ?_ | with_reducible refine ev_gnil ?_ | with_reducible refine ev_sfld ?_ | with_reducible refine ev_make ?_ | with_reducible refine ev_notV ?_ | with_reducible refine ev_yes ?_ | with_reducible refine ev_dget ?_ | with_reducible refine ev_dput ?_ | with_reducible refine ev_bm ?_ | with_reducible refine ev_bm0 ?_ | with_reducible refine ev_items ?_ | with_reducible refine ev_keys ?_ | with_reducible refine ev_enum ?_ | with_reducible refine ev_tupI ?_ | with_reducible refine ev_par ?_ | with_reducible refine ev_two ?_ | with_reducible refine ev_kget ?_ | with_reducible refine ev_gsub ?_ | with_reducible refine ev_tapeK ?_ | with_reducible refine ev_str ?_ | with_reducible refine ev_txt ?_ | with_reducible refine ev_lc2 ?_ | with_reducible refine ev_dget2 ?_ | with_reducible refine ev_rU ?_ | with_reducible refine ev_ckw ?_ | with_reducible refine ev_dnotin ?_ | with_reducible refine ev_din ?_ | with_reducible refine ev_gfld ?_ | with_reducible refine ev_saug ?_ | with_reducible refine ev_finN ?_ | with_reducible refine ev_zs ?_ | with_reducible refine ev_rng1 ?_)
section
variable {P : Program} {w : World} {K : PySem.W.Frag} {mg : Str → Option Value} {base : Heap} {a : Ad}
/-! ### Deck.do_all -/
/-- what holds behind i deeds, the book at b -/
abbrev JD : Type := List Addr → Nat → Addr → Hp → Prop
def JD.stable (J : JD) : Prop := ∀ M M' i b H1 H2, Same (wo M H1) (wo M' H2) → J M i b H1 → J M' i b H2
structure AfterAll (ad : Ad) (N : List Addr) (H : Hp) (p pa bk : Addr) (ps : List V) (J : JD) (n : Nat) (N' : List Addr) (H' : Hp) : Prop where
  sub : ∀ x ∈ N, x ∈ N'
  same : Same (wo N H) (wo N' H')
  live : Live N' H'
  far : ∀ x o, x ≠ p → x ≠ pa → H x = some o → H' x = some o
  at_ : ∃ dx b el ah ps', H' p = some (.ins ad.cD dx (fD b el pa ah 0)) ∧ H' pa = some (.lst ps') ∧ H' ah = some (.lst []) ∧ ah ∈ N' ∧ J N' n b H' ∧ ps'.length ≤ ps.length + 1 ∧
    (0 < n → ∃ t D ys, ps' = ps ++ [.ref t] ∧ wo N' H' t = some (.tup [.ref D, .ref bk]) ∧ wo N' H' D = some (.lst ys) ∧ ys.length = n)
def sp_Deck_do_all (ad : Ad) (K : PySem.W.Frag) : Sp := fun vs H Q _ => ∃ (N : List Addr) (p dx bk el pa ah al : Addr) (ps xs : List V) (J : JD), vs = [.ref p, .ref al] ∧ Live N H ∧ p ∈ N ∧ pa ∈ N ∧ ah ∈ N ∧ H p = some (.ins ad.cD dx (fD bk el pa ah 0)) ∧ H pa = some (.lst ps) ∧ H ah = some (.lst []) ∧
  ps.length ≤ 1000 ∧ SqL K (wo N H) al xs ∧ xs.length ≤ 1000 ∧ J N 0 bk H ∧ J.stable ∧
  (∀ i x b H1 (Qv : VK), xs[i]? = some x → Same (wo N H) (wo N H1) → Live N H1 → J N i b H1 → (∀ b2 H2, Same H1 H2 → J N (i + 1) b2 H2 → Qv (.ref b2) H2) → sp_after ad K [.ref b, x] H1 Qv C8.E0) ∧
  ∀ N' H', AfterAll ad N H p pa bk ps J xs.length N' H' → Q .non H'
theorem sc_Deck_do_all : FnScope ["self", "deeds", "begun", "done", "deed"] ["self", "deeds"] (defScope s_Deck_do_all) := ⟨rfl, rfl, rfl, by decide +kernel, rfl, by decide +kernel, by decide +kernel⟩
theorem ok_Deck_do_all (T : Tx w K mg a) (c_after : C8.Cal P w K mg base 8 "after" (sp_after a K) []) : C8.Met P w K mg base 9 a.cD "do_all" (sp_Deck_do_all a K) [] := by
  refine metD T.cl_Deck T.d_Deck_do_all sc_Deck_do_all (fun _ _ _ _ _ _ us hl => match us, hl with | [_, _], _ => rfl) (fun vs H Q E h => ?_) (fun f cdv A outer s H vs Q E hr h => ?_)
  · obtain ⟨N, p, dx, bk, el, pa, ah, al, ps, xs, J, rfl, _⟩ := h
    rfl
  · obtain ⟨N, p, dx, bk, el, pa, ah, al, ps, xs, J, rfl, lv, pN, paN, ahN, hp, hpa, hah, hz, hx, hxz, hJ, st, turn, q⟩ := h
    refine ⟨_, (pss_cons (ps_set (i := 2) sc_Deck_do_all.nd rfl (Or.inl rfl) (k_fld (K := K) rfl (pe_fld (pv 0) rfl)))
      (pss_cons (ps_set (i := 3) sc_Deck_do_all.nd rfl (Or.inl rfl) pe_non)
      (pss_cons (k_saug (K := K) rfl (ps_fldaug (pv 0) pe_int in_add))
      (pss_cons (ps_finN (pss_cons (ps_for PassesOwn.never rfl (k_list (K := K) rfl (pi_list (pv 1))) (pg_name (i := 4) sc_Deck_do_all.nd rfl (Or.inl rfl))
          (pss_one (k_sfld (K := K) rfl (ps_fld (pv 0) (C8.pe_c c_after hr (by decide) rfl (pa_cons (k_fld (K := K) rfl (pe_fld (pv 0) rfl)) (pa_cons (pv 4) pa_nil))) rfl))))
        (pss_one (ps_set (i := 3) sc_Deck_do_all.nd rfl (Or.inl rfl) pe_bl)))
        (pss_cons (k_saug (K := K) rfl (ps_fldaug (pv 0) pe_int in_sub))
        (pss_one (ps_if (pt_cmpR op_isN (pv 3) pe_non (nomark _)) (pss_one (k_sfld (K := K) rfl (ps_fld (pv 0) (pv 2) rfl))) pss_nil))))
      (pss_one (ps_if (pt_cmpR op_gt (pe_callB (kcall_len (K := K) rfl) rfl T.f_len (by decide +kernel) (pa_cons (pv 1) pa_nil)) pe_int (nomark _)) (pss_cons (ps_expr (k_bm (K := K) rfl (pe_bm PySem.F.plainAttrs_list PySem.F.slot_list_append PySem.F.type_list_append mt_append (k_fld (K := K) rfl (pe_fld (pv 0) rfl)) (pa_cons (pe_tup (pa_cons (pe_callTy (kcall_list (K := K) rfl) rfl T.f_list (by decide +kernel) (pa_cons (pv 1) pa_nil)) (pa_cons (pv 2) pa_nil))) pa_nil))))
        (pss_cons (k_sfld (K := K) rfl (ps_fld (pv 0) (pe_lst pa_nil) rfl))
        (pss_one (k_sfld (K := K) rfl (ps_fld (pv 0) (pv 2) rfl))))) pss_nil)))))), ?_⟩
    have pap : pa ≠ p := fun z => by rw [z, hp] at hpa; cases hpa
    have ahp : ah ≠ p := fun z => by rw [z, hp] at hah; cases hah
    tm_at "ev"
    refine ⟨p, a.cD, dx, _, _, rfl, hp, T.cl_Deck, T.n_Deck_book, rfl, ?_⟩
    tm_at "ev"
    refine ⟨p, a.cD, dx, _, .int 0, rfl, hp, T.cl_Deck, T.n_Deck_under, rfl, ?_⟩
    tm_at "ev"
    refine ⟨0, 1, rfl, rfl, dx, _, hp, (show 5 < 1000 by decide), ?_⟩
    rw [pfD_u]
    have w1 : Same (wo N H) (wo N (upd H p (.ins a.cD dx (fD bk el pa ah (0 + 1))))) := wo_mut pN
    have h1p : upd H p (.ins a.cD dx (fD bk el pa ah (0 + 1))) p = some (.ins a.cD dx (fD bk el pa ah (0 + 1))) := upd_same
    have h1pa : upd H p (.ins a.cD dx (fD bk el pa ah (0 + 1))) pa = some (.lst ps) := (upd_ne pap).trans hpa
    have h1ah : upd H p (.ins a.cD dx (fD bk el pa ah (0 + 1))) ah = some (.lst []) := (upd_ne ahp).trans hah
    have lv1 : Live N (upd H p (.ins a.cD dx (fD bk el pa ah (0 + 1)))) := live_upd lv
    have fr1 : ∀ x o, x ≠ p → x ≠ pa → H x = some o → upd H p (.ins a.cD dx (fD bk el pa ah (0 + 1))) x = some o := fun x o n1 _ h => (upd_ne n1).trans h
    generalize upd H p (.ins a.cD dx (fD bk el pa ah (0 + 1))) = H1 at w1 h1p h1pa h1ah lv1 fr1 ⊢
    have J1 := st _ _ _ _ _ _ w1 hJ
    tm_at "ev"
    refine ⟨al, rfl, ⟨xs, sqL_mono (w1.trans wo_sub) hx⟩, ?_⟩
    refine for_list (K := K) (xs := xs) (fun i σ H' => ∃ (b : Addr) (o : Option V), σ = [some (.ref p), some (.ref al), some (.ref bk), some .non, o] ∧ H' p = some (.ins a.cD dx (fD b el pa ah (0 + 1))) ∧ H' pa = some (.lst ps) ∧ H' ah = some (.lst []) ∧ J N i b H' ∧ Same (wo N H) (wo N H') ∧ Live N H' ∧ ∀ x o, x ≠ p → x ≠ pa → H x = some o → H' x = some o)
      ⟨bk, none, rfl, h1p, h1pa, h1ah, J1, w1, lv1, fr1⟩ (fun i σ H' _ hh => ?_) (fun i x σ H' hi hh => ?_) (fun σ H' hh => ?_)
    · obtain ⟨b, o, _, _, _, _, _, s2, _⟩ := hh
      exact sqL_mono (s2.trans wo_sub) hx
    · obtain ⟨b, o, rfl, h2p, h2pa, h2ah, J2, s2, lv2, fr2⟩ := hh
      tm_at "ev"
      refine ⟨p, a.cD, dx, _, _, rfl, h2p, T.cl_Deck, T.n_Deck_book, rfl, ?_⟩
      tm_at "ev"
      refine turn i x b H' _ hi s2 lv2 J2 fun b2 H3 s3 J3 => ?_
      tm_at "ev"
      refine ⟨p, a.cD, dx, _, rfl, s3 _ _ h2p, T.cl_Deck, T.n_Deck_book, (show 5 < 1000 by decide), ?_⟩
      rw [pfD_b]
      have w3 : Same (wo N H3) (wo N (upd H3 p (.ins a.cD dx (fD b2 el pa ah (0 + 1))))) := wo_mut pN
      exact ⟨b2, _, rfl, upd_same, (upd_ne pap).trans (s3 _ _ h2pa), (upd_ne ahp).trans (s3 _ _ h2ah), st _ _ _ _ _ _ w3 J3, (s2.trans (wo_same s3)).trans w3, live_upd (lv2.same s3), fun x o n1 n2 h => (upd_ne n1).trans (s3 _ _ (fr2 x o n1 n2 h))⟩
    · obtain ⟨b, o, rfl, h2p, h2pa, h2ah, J2, s2, lv2, fr2⟩ := hh
      tm_at "ev"
      refine ⟨p, a.cD, dx, _, .int (0 + 1), rfl, h2p, T.cl_Deck, T.n_Deck_under, rfl, ?_⟩
      tm_at "ev"
      refine ⟨0 + 1, 1, rfl, rfl, dx, _, h2p, (show 5 < 1000 by decide), ?_⟩
      rw [pfD_u]
      have w3 : Same (wo N H') (wo N (upd H' p (.ins a.cD dx (fD b el pa ah (0 + 1 - 1))))) := wo_mut pN
      have h3p : upd H' p (.ins a.cD dx (fD b el pa ah (0 + 1 - 1))) p = some (.ins a.cD dx (fD b el pa ah 0)) := upd_same
      have h3pa : upd H' p (.ins a.cD dx (fD b el pa ah (0 + 1 - 1))) pa = some (.lst ps) := (upd_ne pap).trans h2pa
      have h3ah : upd H' p (.ins a.cD dx (fD b el pa ah (0 + 1 - 1))) ah = some (.lst []) := (upd_ne ahp).trans h2ah
      have lv3 : Live N (upd H' p (.ins a.cD dx (fD b el pa ah (0 + 1 - 1)))) := live_upd lv2
      have fr3 : ∀ x o, x ≠ p → x ≠ pa → H x = some o → upd H' p (.ins a.cD dx (fD b el pa ah (0 + 1 - 1))) x = some o := fun x o n1 n2 h => (upd_ne n1).trans (fr2 x o n1 n2 h)
      generalize upd H' p (.ins a.cD dx (fD b el pa ah (0 + 1 - 1))) = H3 at w3 h3p h3pa h3ah lv3 fr3 ⊢
      have J3 := st _ _ _ _ _ _ w3 J2
      have s3 := s2.trans w3
      tm_at "ev"
      refine ⟨rfl, ?_⟩
      tm_at "ev"
      refine if_f (decide_eq_false (by intro z; cases z)) ?_
      tm_at "ev"
      have hx3 : SqL K H3 al xs := sqL_mono (s3.trans wo_sub) hx
      refine ⟨al, xs, rfl, .inl hx3, ?_⟩
      tm_at "ev"
      refine if_dd (fun hpos => ?_) fun hnp => ?_
      · tm_at "ev"
        refine ⟨p, a.cD, dx, _, _, rfl, h3p, T.cl_Deck, T.n_Deck_past, rfl, ?_⟩
        tm_at "ev"
        refine ⟨tyL h3pa, ?_⟩
        tm_at "ev"
        refine ⟨al, xs, rfl, .inl hx3, fun D hD => ?_⟩
        tm_at "ev"
        refine ⟨sz2, fun t ht => ?_⟩
        tm_at "ev"
        have s4 := same_new (o := .lst xs) hD
        have s5 := same_new (o := .tup [V.ref D, V.ref bk]) ht
        have s45 := s4.trans s5
        have tD : D ≠ t := fun z => by rw [← z, upd_same] at ht; cases ht
        have h5D : upd (upd H3 D (.lst xs)) t (.tup [V.ref D, V.ref bk]) D = some (.lst xs) := (upd_ne tD).trans upd_same
        have h5t : upd (upd H3 D (.lst xs)) t (.tup [V.ref D, V.ref bk]) t = some (.tup [V.ref D, V.ref bk]) := upd_same
        have DN : D ∉ N := lv3.notin hD
        have tN : t ∉ N := (lv3.same s4).notin ht
        have lv5 := lv3.same s45
        generalize upd (upd H3 D (.lst xs)) t (.tup [V.ref D, V.ref bk]) = H5 at s45 h5D h5t lv5 ⊢
        refine ⟨pa, ps, .ref t, rfl, rfl, s45 _ _ h3pa, Nat.lt_of_le_of_lt hz (by decide), ?_⟩
        have w6 : Same (wo N H5) (wo N (upd H5 pa (.lst (ps ++ [.ref t])))) := wo_mut paN
        have h6p : upd H5 pa (.lst (ps ++ [.ref t])) p = some (.ins a.cD dx (fD b el pa ah 0)) := (upd_ne pap.symm).trans (s45 _ _ h3p)
        have h6pa : upd H5 pa (.lst (ps ++ [.ref t])) pa = some (.lst (ps ++ [.ref t])) := upd_same
        have h6D : upd H5 pa (.lst (ps ++ [.ref t])) D = some (.lst xs) := (upd_ne fun (z : D = pa) => DN (by rw [z]; exact paN)).trans h5D
        have h6t : upd H5 pa (.lst (ps ++ [.ref t])) t = some (.tup [V.ref D, V.ref bk]) := (upd_ne fun (z : t = pa) => tN (by rw [z]; exact paN)).trans h5t
        have lv6 : Live N (upd H5 pa (.lst (ps ++ [.ref t]))) := live_upd lv5
        have fr6 : ∀ x o, x ≠ p → x ≠ pa → H x = some o → upd H5 pa (.lst (ps ++ [.ref t])) x = some o := fun x o n1 n2 h => (upd_ne n2).trans (s45 _ _ (fr3 x o n1 n2 h))
        generalize upd H5 pa (.lst (ps ++ [.ref t])) = H6 at w6 h6p h6pa h6D h6t lv6 fr6 ⊢
        tm_at "ev"
        refine ⟨sz0, fun ah2 hah2 => ?_⟩
        tm_at "ev"
        have apne : ah2 ≠ p := fun z => by rw [z, h6p] at hah2; cases hah2
        have apa : ah2 ≠ pa := fun z => by rw [z, h6pa] at hah2; cases hah2
        refine ⟨p, a.cD, dx, _, rfl, (upd_ne apne.symm).trans h6p, T.cl_Deck, T.n_Deck_ahead, (show 5 < 1000 by decide), ?_⟩
        rw [pfD_h]
        have s7 := same_new (o := .lst []) hah2
        have w7 : Same (wo N H6) (wo (ah2 :: N) (upd H6 ah2 (.lst []))) := wo_newM hah2
        have lv7 : Live (ah2 :: N) (upd H6 ah2 (.lst [])) := (lv6.same s7).cons upd_same
        have h7a : upd H6 ah2 (.lst []) ah2 = some (.lst []) := upd_same
        have h7pa := s7 _ _ h6pa
        have fr7 := s7
        have h7D := s7 _ _ h6D
        have h7t := s7 _ _ h6t
        have aD : D ≠ ah2 := fun z => by rw [← z, h6D] at hah2; cases hah2
        have at' : t ≠ ah2 := fun z => by rw [← z, h6t] at hah2; cases hah2
        generalize upd H6 ah2 (.lst []) = H7 at s7 fr7 w7 lv7 h7a h7pa h7D h7t ⊢
        tm_at "ev"
        refine ⟨p, a.cD, dx, _, rfl, upd_same, T.cl_Deck, T.n_Deck_elder, (show 5 < 1000 by decide), ?_⟩
        rw [pfD_e]
        have pN2 : p ∈ ah2 :: N := List.mem_cons_of_mem _ pN
        have w8 : Same (wo (ah2 :: N) H7) (wo (ah2 :: N) (upd (upd H7 p (.ins a.cD dx (fD b el pa ah2 0))) p (.ins a.cD dx (fD b bk pa ah2 0)))) := (wo_mut pN2).trans (wo_mut pN2)
        have far : ∀ y : Addr, y ≠ p → upd (upd H7 p (.ins a.cD dx (fD b el pa ah2 0))) p (.ins a.cD dx (fD b bk pa ah2 0)) y = H7 y := fun y hy => (upd_ne hy).trans (upd_ne hy)
        have h8p : upd (upd H7 p (.ins a.cD dx (fD b el pa ah2 0))) p (.ins a.cD dx (fD b bk pa ah2 0)) p = some (.ins a.cD dx (fD b bk pa ah2 0)) := upd_same
        have lv8 : Live (ah2 :: N) (upd (upd H7 p (.ins a.cD dx (fD b el pa ah2 0))) p (.ins a.cD dx (fD b bk pa ah2 0))) := live_upd (live_upd lv7)
        have allS : Same (wo N H) (wo (ah2 :: N) (upd (upd H7 p (.ins a.cD dx (fD b el pa ah2 0))) p (.ins a.cD dx (fD b bk pa ah2 0)))) := (((s3.trans (wo_same s45)).trans w6).trans w7).trans w8
        have allJ := st _ _ _ _ _ _ ((((wo_same s45).trans w6).trans w7).trans w8) J3
        generalize upd (upd H7 p (.ins a.cD dx (fD b el pa ah2 0))) p (.ins a.cD dx (fD b bk pa ah2 0)) = H8 at w8 far h8p lv8 allS allJ ⊢
        have Dp' : D ≠ p := fun z => DN (by rw [z]; exact pN)
        have tp' : t ≠ p := fun z => tN (by rw [z]; exact pN)
        have nin : ∀ y, y ∉ N → y ≠ ah2 → y ∉ ah2 :: N := fun y h1 h2 h3 => (List.mem_cons.mp h3).elim h2 h1
        exact q (ah2 :: N) H8 ⟨fun x hx => List.mem_cons_of_mem _ hx, allS, lv8, fun x o n1 n2 h => (far x n1).trans (fr7 x o (fr6 x o n1 n2 h)), dx, b, bk, ah2, _, h8p, (far _ pap).trans h7pa, (far _ apne).trans h7a, List.mem_cons_self, allJ, by rw [List.length_append]; exact Nat.le_refl _, fun _ => ⟨t, D, xs, rfl, wo_at (nin t tN at') ((far _ tp').trans h7t), wo_at (nin D DN aD) ((far _ Dp').trans h7D), rfl⟩⟩
      · tm_at "ev"
        have e0 : xs.length = 0 := by omega
        exact q N H3 ⟨fun x hx => hx, s3, lv3, fr3, dx, b, el, ah, ps, h3p, h3pa, h3ah, ahN, J3, by omega, fun hn => absurd hn (by omega)⟩
/-! ### Deck.do -/
def sp_Deck_do (ad : Ad) (K : PySem.W.Frag) : Sp := fun vs H Q _ => ∃ (N : List Addr) (p dx bk el pa ah : Addr) (ps : List V) (x : V) (J : JD), vs = [.ref p, x] ∧ Live N H ∧ p ∈ N ∧ pa ∈ N ∧ ah ∈ N ∧ H p = some (.ins ad.cD dx (fD bk el pa ah 0)) ∧ H pa = some (.lst ps) ∧ H ah = some (.lst []) ∧
  ps.length ≤ 1000 ∧ J N 0 bk H ∧ J.stable ∧
  (∀ b H1 (Qv : VK), Same (wo N H) (wo N H1) → Live N H1 → J N 0 b H1 → (∀ b2 H2, Same H1 H2 → J N 1 b2 H2 → Qv (.ref b2) H2) → sp_after ad K [.ref b, x] H1 Qv C8.E0) ∧
  ∀ N' H', AfterAll ad N H p pa bk ps J 1 N' H' → Q .non H'
theorem sc_Deck_do : FnScope ["self", "deed"] ["self", "deed"] (defScope s_Deck_do) := ⟨rfl, rfl, rfl, by decide +kernel, rfl, by decide +kernel, by decide +kernel⟩
theorem ok_Deck_do (T : Tx w K mg a) (m_Deck_do_all : C8.Met P w K mg base 9 a.cD "do_all" (sp_Deck_do_all a K) []) : C8.Met P w K mg base 10 a.cD "do" (sp_Deck_do a K) [] := by
  refine metD T.cl_Deck T.d_Deck_do sc_Deck_do (fun _ _ _ _ _ _ us hl => match us, hl with | [_, _], _ => rfl) (fun vs H Q E h => ?_) (fun f cdv A outer s H vs Q E hr h => ?_)
  · obtain ⟨N, p, dx, bk, el, pa, ah, ps, x, J, rfl, _⟩ := h
    rfl
  · obtain ⟨N, p, dx, bk, el, pa, ah, ps, x, J, rfl, lv, pN, paN, ahN, hp, hpa, hah, hz, hJ, st, turn, q⟩ := h
    refine ⟨_, (pss_one (ps_expr (C8.pe_mt m_Deck_do_all hr (by decide) (pv 0) (pa_cons (pe_lst (pa_cons (pv 1) pa_nil)) pa_nil)))), ?_⟩
    tm_at "ev"
    refine ⟨p, dx, _, rfl, hp, rfl, ?_⟩
    tm_at "ev"
    refine ⟨sz1, fun al hal => ?_⟩
    tm_at "ev"
    have s1 := same_new (o := .lst [x]) hal
    refine ⟨N, p, dx, bk, el, pa, ah, al, ps, [x], J, rfl, lv.same s1, pN, paN, ahN, s1 _ _ hp, s1 _ _ hpa, s1 _ _ hah, hz, .inl (.inl (wo_at (lv.notin hal) upd_same)), (show 1 ≤ 1000 by decide), st _ _ _ _ _ _ (wo_same s1) hJ, st, ?_, ?_⟩
    · intro i y b H1 Qv hi s2 lv2 hj hq
      cases i with
      | zero =>
        cases hi
        exact turn b H1 Qv ((wo_same s1).trans s2) lv2 hj hq
      | succ i => cases hi
    · intro N' H' r
      exact q N' H' ⟨r.sub, (wo_same s1).trans r.same, r.live, fun x o n1 n2 h => r.far x o n1 n2 (s1 _ _ h), r.at_⟩
/-! ### Deck.undo -/
def sp_Deck_undo (ad : Ad) (K : PySem.W.Frag) : Sp := fun vs H Q _ => ∃ (N : List Addr) (p dx bk el pa ah t D b0 : Addr) (ps ys : List V), vs = [.ref p] ∧ Live N H ∧ p ∈ N ∧ pa ∈ N ∧ ah ∈ N ∧ H p = some (.ins ad.cD dx (fD bk el pa ah 0)) ∧ H pa = some (.lst (ps ++ [.ref t])) ∧ H ah = some (.lst []) ∧
  wo N H t = some (.tup [.ref D, .ref b0]) ∧ wo N H D = some (.lst ys) ∧ ∀ r H' e', Same (wo N H) (wo N H') → Live N H' → H' p = some (.ins ad.cD dx (fD b0 e' pa ah 0)) → Q (.ref r) H'
theorem sc_Deck_undo : FnScope ["self", "deeds", "begun"] ["self"] (defScope s_Deck_undo) := ⟨rfl, rfl, rfl, by decide +kernel, rfl, by decide +kernel, by decide +kernel⟩
theorem ok_Deck_undo (T : Tx w K mg a) : C8.Met P w K mg base 1 a.cD "undo" (sp_Deck_undo a K) [] := by
  refine metD T.cl_Deck T.d_Deck_undo sc_Deck_undo (fun _ _ _ _ _ _ us hl => match us, hl with | [_], _ => rfl) (fun vs H Q E h => ?_) (fun f cdv A outer s H vs Q E hr h => ?_)
  · obtain ⟨N, p, dx, bk, el, pa, ah, t, D, b0, ps, ys, rfl, _⟩ := h
    rfl
  · obtain ⟨N, p, dx, bk, el, pa, ah, t, D, b0, ps, ys, rfl, lv, pN, paN, ahN, hp, hpa, hah, ht, hD, q⟩ := h
    have pap : pa ≠ p := fun z => by rw [z, hp] at hpa; cases hpa
    have ahp : ah ≠ p := fun z => by rw [z, hp] at hah; cases hah
    have aap : ah ≠ pa := fun z => by
      rw [z, hpa] at hah
      injection hah with e
      injection e with e
      simp at e
    refine ⟨_, (pss_cons (ps_if (pt_cmpR (op_eqLen (K := K) rfl (hu_of hr)) (k_fld (K := K) rfl (pe_fld (pv 0) rfl)) (pe_lst pa_nil) (nomark _)) pss_never pss_nil)
      (pss_cons (ps_asg (k_bm0 (K := K) rfl (pe_bm0 PySem.F.plainAttrs_list PySem.F.slot_list_pop PySem.F.type_list_pop mt_pop (k_fld (K := K) rfl (pe_fld (pv 0) rfl)))) (kg_tup (K := K) rfl (pg_tup (n := 2) rfl (pgs_cons (pg_name (i := 1) sc_Deck_undo.nd rfl (Or.inl rfl)) (pgs_cons (pg_name (i := 2) sc_Deck_undo.nd rfl (Or.inl rfl)) pgs_nil)))))
      (pss_cons (ps_expr (k_bm (K := K) rfl (pe_bm PySem.F.plainAttrs_list PySem.F.slot_list_append PySem.F.type_list_append mt_append (k_fld (K := K) rfl (pe_fld (pv 0) rfl)) (pa_cons (pe_tup (pa_cons (pv 1) (pa_cons (k_fld (K := K) rfl (pe_fld (pv 0) rfl)) pa_nil))) pa_nil))))
      (pss_cons (ps_asg (pe_tup (pa_cons (k_fld (K := K) rfl (pe_fld (pv 0) rfl)) (pa_cons (pv 2) pa_nil))) (kg_tup (K := K) rfl (pg_tup (n := 2) rfl (pgs_cons (pg_fld (K := K) rfl (pv 0)) (pgs_cons (pg_fld (K := K) rfl (pv 0)) pgs_nil)))))
      (pss_one (ps_ret (pe_callTy (kcall_list (K := K) rfl) rfl T.f_list (by decide +kernel) (pa_cons (pv 1) pa_nil)))))))), ?_⟩
    tm_at "ev"
    refine ⟨p, a.cD, dx, _, _, rfl, hp, T.cl_Deck, T.n_Deck_past, rfl, ?_⟩
    tm_at "ev"
    refine ⟨sz0, fun e0 he0 => ?_⟩
    have s0 := same_new (o := .lst []) he0
    have h0e : upd H e0 (.lst []) e0 = some (.lst []) := upd_same
    have lv0 := lv.same s0
    have w0 : Same (wo N H) (wo N (upd H e0 (.lst []))) := wo_same s0
    have g_p := s0 _ _ hp
    have g_pa := s0 _ _ hpa
    have g_ah := s0 _ _ hah
    generalize upd H e0 (.lst []) = H0 at s0 h0e lv0 w0 g_p g_pa g_ah ⊢
    refine ⟨pa, e0, _, [], rfl, rfl, .inl (.inl g_pa), .inl (.inl h0e), by simp, ?_⟩
    tm_at "ev"
    refine if_f rfl ?_
    tm_at "ev"
    refine ⟨p, a.cD, dx, _, _, rfl, g_p, T.cl_Deck, T.n_Deck_past, rfl, ?_⟩
    tm_at "ev"
    refine ⟨tyL g_pa, pa, _, .ref t, rfl, rfl, g_pa, by simp, ?_⟩
    rw [List.dropLast_concat]
    have w1 : Same (wo N H0) (wo N (upd H0 pa (.lst ps))) := wo_mut paN
    have k_p : upd H0 pa (.lst ps) p = some (.ins a.cD dx (fD bk el pa ah 0)) := (upd_ne pap.symm).trans g_p
    have k_ah : upd H0 pa (.lst ps) ah = some (.lst []) := (upd_ne aap).trans g_ah
    have lv1 : Live N (upd H0 pa (.lst ps)) := live_upd lv0
    generalize upd H0 pa (.lst ps) = H1 at w1 k_p k_ah lv1 ⊢
    have w01 := w0.trans w1
    tm_at "ev"
    refine ⟨t, _, rfl, .inl (.inl (wo_of (w01 _ _ ht)).2), rfl, ?_⟩
    tm_at "ev"
    refine ⟨p, a.cD, dx, _, _, rfl, k_p, T.cl_Deck, T.n_Deck_ahead, rfl, ?_⟩
    tm_at "ev"
    refine ⟨tyL k_ah, ?_⟩
    tm_at "ev"
    refine ⟨p, a.cD, dx, _, _, rfl, k_p, T.cl_Deck, T.n_Deck_book, rfl, ?_⟩
    tm_at "ev"
    refine ⟨sz2, fun t2 ht2 => ?_⟩
    tm_at "ev"
    have s2 := same_new (o := .tup [V.ref D, V.ref bk]) ht2
    refine ⟨ah, [], .ref t2, rfl, rfl, s2 _ _ k_ah, (show 0 < sizeLine by decide), ?_⟩
    have w2 : Same (wo N H1) (wo N (upd (upd H1 t2 (.tup [V.ref D, V.ref bk])) ah (.lst ([] ++ [.ref t2])))) := (wo_same s2).trans (wo_mut ahN)
    have l_p : upd (upd H1 t2 (.tup [V.ref D, V.ref bk])) ah (.lst ([] ++ [.ref t2])) p = some (.ins a.cD dx (fD bk el pa ah 0)) := (upd_ne ahp.symm).trans (s2 _ _ k_p)
    have lv2 : Live N (upd (upd H1 t2 (.tup [V.ref D, V.ref bk])) ah (.lst ([] ++ [.ref t2]))) := live_upd (lv1.same s2)
    generalize upd (upd H1 t2 (.tup [V.ref D, V.ref bk])) ah (.lst ([] ++ [.ref t2])) = H2 at w2 l_p lv2 ⊢
    have w02 := w01.trans w2
    tm_at "ev"
    refine ⟨p, a.cD, dx, _, _, rfl, l_p, T.cl_Deck, T.n_Deck_book, rfl, ?_⟩
    tm_at "ev"
    refine ⟨sz2, fun t3 ht3 => ?_⟩
    have s3 := same_new (o := .tup [V.ref bk, V.ref b0]) ht3
    have h3t : upd H2 t3 (.tup [V.ref bk, V.ref b0]) t3 = some (.tup [V.ref bk, V.ref b0]) := upd_same
    have m_p := s3 _ _ l_p
    have w3 := w02.trans (wo_same s3)
    have lv3 := lv2.same s3
    generalize upd H2 t3 (.tup [V.ref bk, V.ref b0]) = H3 at h3t m_p w3 lv3 ⊢
    refine ⟨t3, _, rfl, .inl (.inl h3t), rfl, ?_⟩
    tm_at "ev"
    refine ⟨p, a.cD, dx, _, rfl, m_p, T.cl_Deck, T.n_Deck_elder, (show 5 < 1000 by decide), ?_⟩
    rw [pfD_e]
    tm_at "ev"
    refine ⟨p, a.cD, dx, _, rfl, upd_same, T.cl_Deck, T.n_Deck_book, (show 5 < 1000 by decide), ?_⟩
    rw [pfD_b]
    have w4 : Same (wo N H3) (wo N (upd (upd H3 p (.ins a.cD dx (fD bk bk pa ah 0))) p (.ins a.cD dx (fD b0 bk pa ah 0)))) := (wo_mut pN).trans (wo_mut pN)
    have n_p : upd (upd H3 p (.ins a.cD dx (fD bk bk pa ah 0))) p (.ins a.cD dx (fD b0 bk pa ah 0)) p = some (.ins a.cD dx (fD b0 bk pa ah 0)) := upd_same
    have lv4 : Live N (upd (upd H3 p (.ins a.cD dx (fD bk bk pa ah 0))) p (.ins a.cD dx (fD b0 bk pa ah 0))) := live_upd (live_upd lv3)
    generalize upd (upd H3 p (.ins a.cD dx (fD bk bk pa ah 0))) p (.ins a.cD dx (fD b0 bk pa ah 0)) = H4 at w4 n_p lv4 ⊢
    have w04 := w3.trans w4
    tm_at "ev"
    refine ⟨D, ys, rfl, .inl (.inl (.inl (wo_of (w04 _ _ hD)).2)), fun r hr' => ?_⟩
    have s5 := same_new (o := .lst ys) hr'
    exact q r _ bk (w04.trans (wo_same s5)) (lv4.same s5) (s5 _ _ n_p)
end
end Tp
set_option maxHeartbeats 2000000
namespace Tp
open PySem PySem.Spec PyProof.Rows L2
/-! ### zip of a list and a tuple, strict -/
abbrev IsZs (h : Heap) (z TI TO : Addr) (f0 : Value) : Prop := h.get? z = some { cls := .type "zip", dict := none, data := .fields #[f0, .bool false, .bool true, .ref TI, .ref TO], slots := #[] }
section
variable {prog : Program} {w : World} {A : Around} {E : Value → Shared → Prop} {s : Shared}
theorem orEnd_item {it : Addr} {Q : Option Value → Shared → Prop} (h : wpAny (model prog w) A (Builtin.SmallTypes.nextOf (.ref it)) (fun v => Q (some v)) (fun _ _ => False) s) : wpAny (model prog w) A (Builtin.SmallTypes.nextOrEnd (.ref it)) Q E s := by
  unfold Builtin.SmallTypes.nextOrEnd
  exact wpAny_bind (wpAny_attempt (wpAny_mono h (fun v s' q => wpAny_pure q) fun _ _ q => q.elim))
theorem orEnd_end {it : Addr} {Q : Option Value → Shared → Prop} (h : wpAny (model prog w) A (Builtin.SmallTypes.nextOf (.ref it)) (fun _ _ => False) (fun e s' => ∃ a, e = .ref a ∧ (∃ o, s'.heap.get? a = some o ∧ o.cls = .type "StopIteration") ∧ Q none s') s) : wpAny (model prog w) A (Builtin.SmallTypes.nextOrEnd (.ref it)) Q E s := by
  unfold Builtin.SmallTypes.nextOrEnd
  refine wpAny_bind (wpAny_attempt (wpAny_mono h (fun v s' q => q.elim) fun e s' q => ?_))
  obtain ⟨p, rfl, ⟨o, ho, hc⟩, q⟩ := q
  exact wpAny_bind (wpAny_isInstance (T := "StopIteration") (b := true) ⟨o, ho, hc⟩ isSubtype_stop (wpAny_pure q))
/-- an iterator at it over the things xs of l: S i, where it stands -/
structure Drw (it l : Addr) (xs : Array Value) (S : Nat → Heap → Prop) : Prop where
  item : ∀ {prog : Program} {w : World} {A : Around} {E : Value → Shared → Prop} {s : Shared} {i : Nat} {x : Value} {Q : Value → Shared → Prop}, S i s.heap → xs[i]? = some x → (∀ h', S (i + 1) h' → Heap.SameBut it s.heap h' → Q x { s with heap := h' }) →
    wpAny (model prog w) A (Builtin.SmallTypes.nextOf (.ref it)) Q E s
  fin : ∀ {prog : Program} {w : World} {A : Around} {E : Value → Shared → Prop} {s : Shared} {i : Nat} {Q : Value → Shared → Prop}, A.handled = none → S i s.heap → xs[i]? = none →
    (∀ h' e, Heap.ExtBut it s.heap h' → (∃ o, h'.get? e = some o ∧ o.cls = .type "StopIteration") → E (.ref e) { s with heap := h' }) → wpAny (model prog w) A (Builtin.SmallTypes.nextOf (.ref it)) Q E s
  keep : ∀ {i : Nat} {h h' : Heap}, S i h → (∀ o, h.get? it = some o → h'.get? it = some o) → (∀ o, h.get? l = some o → h'.get? l = some o) → S i h'
  live : ∀ {i : Nat} {h : Heap}, S i h → ∃ o, h.get? it = some o ∧ ∃ vs, o.data = .fields vs
theorem drw_list {it l : Addr} {xs : Array Value} (ne : l ≠ it) : Drw it l xs (fun i h => h.IsListIter it l i ∧ h.IsList l xs) where
  item := fun ⟨h1, h2⟩ hx hQ => wpAny_nextOf_list_item h1 h2 hx fun h' h3 sb => hQ h' ⟨h3, h2.extBut sb.extBut ne⟩ sb
  fin := fun hh ⟨h1, h2⟩ hx hE => wpAny_nextOf_list_end hh h1 h2 hx hE
  keep := fun ⟨h1, h2⟩ k1 k2 => ⟨h1.at k1, let ⟨o, e, r⟩ := h2; ⟨o, k2 _ e, r⟩⟩
  live := fun ⟨h1, _⟩ => let ⟨o, e, _, d⟩ := h1; ⟨o, e, _, d⟩
theorem drw_tup {it l : Addr} {xs : Array Value} (ne : l ≠ it) : Drw it l xs (fun i h => h.IsTupleIter it l i ∧ h.IsTuple l xs) where
  item := fun ⟨h1, h2⟩ hx hQ => RZ.nextOf_tuple_item h1 h2 hx fun h' h3 sb => hQ h' ⟨h3, h2.extBut sb.extBut ne⟩ sb
  fin := fun hh ⟨h1, h2⟩ hx hE => RZ.nextOf_tuple_end hh h1 h2 hx hE
  keep := fun ⟨h1, h2⟩ k1 k2 => ⟨h1.at k1, let ⟨o, e, r⟩ := h2; ⟨o, k2 _ e, r⟩⟩
  live := fun ⟨h1, _⟩ => let ⟨o, e, _, d⟩ := h1; ⟨o, e, _, d⟩
theorem Drw.ext {it l z : Addr} {xs : Array Value} {S : Nat → Heap → Prop} {i : Nat} {h h' : Heap} (d : Drw it l xs S) (hs : S i h) (e : Heap.ExtBut z h h') (n1 : it ≠ z) (n2 : l ≠ z) : S i h' := d.keep hs (fun o q => e _ _ n1 q) fun o q => e _ _ n2 q
theorem zs_item {z TI TO i1 i2 l1 l2 : Addr} {k : Nat} {xs ys : Array Value} {x y a b : Value} {S1 S2 : Nat → Heap → Prop} {Q : Value → Shared → Prop} (D : ZipApart z TI TO i1 i2 l1 l2) (d1 : Drw i1 l1 xs S1) (d2 : Drw i2 l2 ys S2)
    (hz : IsZs s.heap z TI TO .none) (hTI : IsPair s.heap TI (.ref i1) (.ref i2)) (hTO : IsPair s.heap TO a b) (h1 : S1 k s.heap) (h2 : S2 k s.heap) (hx : xs[k]? = some x) (hy : ys[k]? = some y)
    (hQ : ∀ h', IsZs h' z TI TO (rawInt s.heap.objs.size) → IsPair h' TO x y → S1 (k + 1) h' → S2 (k + 1) h' → IsPair h' s.heap.objs.size x y → h'.objs.size = s.heap.objs.size + 1 →
      (∀ c o, c ≠ z → c ≠ TO → c ≠ i1 → c ≠ i2 → s.heap.get? c = some o → h'.get? c = some o) → Q (.ref s.heap.objs.size) { s with heap := h' }) :
    wpAny (model prog w) A (Builtin.«zip.__next__» ⟨[.ref z], []⟩) (fun fin s' => ∃ v, fin = .done (.ret v) ∧ Q v s') E s := by
  show wpAny _ _ (field (.ref z) 2 >>= _) _ _ _
  refine wpAny_bind (wpAny_field hz rfl (x := .bool true) rfl ?_)
  show wpAny _ _ (field (.ref z) 3 >>= _) _ _ _
  refine wpAny_bind (wpAny_field hz rfl (x := .ref TI) rfl (wpAny_bind (wpAny_seqItems hTI rfl ?_)))
  show wpAny _ _ (Builtin.SmallTypes.ownedTupleIsFree (.ref z) >>= _) _ _ _
  refine wpAny_bind ?_
  unfold Builtin.SmallTypes.ownedTupleIsFree
  refine wpAny_bind (wpAny_field hz rfl (x := .none) rfl (wpAny_pure ?_))
  simp only [if_true]
  refine wpAny_bind (wpAny_rule (wpAny_bind (wpAny_field hz rfl (x := .ref TO) rfl (wpAny_bind (wpAny_setField_rec hz (by simp) fun h₁ hz₁ hs₁ => ?_)))))
  replace hz₁ : IsZs h₁ z TI TO .ellipsis := hz₁
  refine wpAny_bind ?_
  simp only [List.zipIdx_cons, List.zipIdx_nil, List.forIn_cons, List.forIn_nil]
  refine wpAny_bind (wpAny_bind (wpAny_onRaise ?_))
  show wpAny _ _ (Builtin.SmallTypes.nextOrEnd (.ref i1)) _ _ _
  refine orEnd_item (d1.item (d1.ext h1 hs₁.extBut D.i1z D.l1z) hx fun h₂ h1₂ hs₂ => ?_)
  have hTO₂ : IsPair h₂ TO a b := hs₂.extBut _ _ D.TOi1 (hs₁.extBut _ _ D.TOz hTO)
  refine wpAny_bind (wpAny_seqItems hTO₂ rfl (wpAny_bind (wpAny_updateSeq_pair hTO₂ fun h₃ hTO₃ hs₃ => wpAny_bind (wpAny_letGo (wpAny_pure ?_)))))
  replace hTO₃ : IsPair h₃ TO x b := hTO₃
  refine wpAny_bind (wpAny_bind (wpAny_onRaise ?_))
  show wpAny _ _ (Builtin.SmallTypes.nextOrEnd (.ref i2)) _ _ _
  have h2₃ : S2 k h₃ := d2.ext (d2.ext (d2.ext h2 hs₁.extBut D.i2z D.l2z) hs₂.extBut D.i12.symm D.l2i1) hs₃.extBut D.TOi2.symm D.l2TO
  refine orEnd_item (d2.item h2₃ hy fun h₄ h2₄ hs₄ => ?_)
  have hTO₄ : IsPair h₄ TO x b := hs₄.extBut _ _ D.TOi2 hTO₃
  refine wpAny_bind (wpAny_seqItems hTO₄ rfl (wpAny_bind (wpAny_updateSeq_pair hTO₄ fun h₅ hTO₅ hs₅ => wpAny_bind (wpAny_letGo (wpAny_pure (wpAny_pure ?_))))))
  replace hTO₅ : IsPair h₅ TO x y := hTO₅
  refine wpAny_bind (wpAny_seqItems hTO₅ rfl (wpAny_bind (wpAny_newTuple ?_)))
  have z5 : h₅.objs.size = s.heap.objs.size := by rw [hs₅.1, hs₄.1, hs₃.1, hs₂.1, hs₁.1]
  have hz₅ : IsZs h₅ z TI TO .ellipsis := hs₅.extBut _ _ D.TOz.symm (hs₄.extBut _ _ D.i2z.symm (hs₃.extBut _ _ D.TOz.symm (hs₂.extBut _ _ D.i1z.symm hz₁)))
  have far : ∀ c o, c ≠ z → c ≠ TO → c ≠ i1 → c ≠ i2 → s.heap.get? c = some o → h₅.get? c = some o := fun c o n1 n2 n3 n4 e => hs₅.extBut _ _ n2 (hs₄.extBut _ _ n4 (hs₃.extBut _ _ n2 (hs₂.extBut _ _ n3 (hs₁.extBut _ _ n1 e))))
  have h1₅ : S1 (k + 1) h₅ := d1.ext (d1.ext (d1.ext h1₂ hs₃.extBut D.TOi1.symm D.l1TO) hs₄.extBut D.i12 D.l1i2) hs₅.extBut D.TOi1.symm D.l1TO
  have h2₅ : S2 (k + 1) h₅ := d2.ext h2₄ hs₅.extBut D.TOi2.symm D.l2TO
  have zl : z < h₅.objs.size := Heap.lt_size hz₅
  show wpAny _ _ (Builtin.SmallTypes.ownedTupleHandOut (.ref z) (.ref h₅.objs.size) >>= _) _ _ _
  refine wpAny_bind ?_
  unfold Builtin.SmallTypes.ownedTupleHandOut
  have hz₆ : IsZs (h₅.push { cls := .type "tuple", data := .seq #[x, y] }) z TI TO .ellipsis := Heap.get?_push_of_some _ hz₅
  refine wpAny_bind (wpAny_setField_rec hz₆ (by simp) fun h₇ hz₇ hs₇ => ?_)
  replace hz₇ : IsZs h₇ z TI TO (rawInt h₅.objs.size) := hz₇
  refine wpAny_setField_rec hz₇ (by simp) fun h₈ hz₈ hs₈ => ?_
  replace hz₈ : IsZs h₈ z TI TO (rawInt h₅.objs.size) := hz₈
  have up : ∀ c o, c ≠ z → h₅.get? c = some o → h₈.get? c = some o := fun c o n e => hs₈.extBut _ _ n (hs₇.extBut _ _ n (Heap.get?_push_of_some _ e))
  have hT₈ : IsPair h₈ h₅.objs.size x y := hs₈.extBut _ _ (Nat.ne_of_gt zl) (hs₇.extBut _ _ (Nat.ne_of_gt zl) (Heap.get?_push_size _ rfl))
  have z8 : h₈.objs.size = h₅.objs.size + 1 := by rw [hs₈.1, hs₇.1, Heap.size_push]
  rw [z5] at hz₈ hT₈ z8
  refine wpAny_pure ⟨_, rfl, ?_⟩
  show Q (.ref h₅.objs.size) _
  rw [z5]
  exact hQ h₈ hz₈ (up _ _ D.TOz hTO₅) (d1.keep h1₅ (fun o e => up _ o D.i1z e) fun o e => up _ o D.l1z e) (d2.keep h2₅ (fun o e => up _ o D.i2z e) fun o e => up _ o D.l2z e) hT₈ z8 fun c o n1 n2 n3 n4 e => up c o n1 (far c o n1 n2 n3 n4 e)
theorem zs_end {z TI TO i1 i2 l1 l2 : Addr} {k : Nat} {xs ys : Array Value} {a b : Value} {S1 S2 : Nat → Heap → Prop} {Q : Fin → Shared → Prop} (hh : A.handled = none) (D : ZipApart z TI TO i1 i2 l1 l2) (d1 : Drw i1 l1 xs S1) (d2 : Drw i2 l2 ys S2)
    (hz : IsZs s.heap z TI TO .none) (hTI : IsPair s.heap TI (.ref i1) (.ref i2)) (hTO : IsPair s.heap TO a b) (h1 : S1 k s.heap) (h2 : S2 k s.heap) (hx : xs[k]? = none) (hy : ys[k]? = none)
    (hE : ∀ h' e, (∀ c o, c ≠ z → c ≠ TO → c ≠ i1 → c ≠ i2 → s.heap.get? c = some o → h'.get? c = some o) → (∃ o, h'.get? e = some o ∧ o.cls = .type "StopIteration") → E (.ref e) { s with heap := h' }) :
    wpAny (model prog w) A (Builtin.«zip.__next__» ⟨[.ref z], []⟩) Q E s := by
  show wpAny _ _ (field (.ref z) 2 >>= _) _ _ _
  refine wpAny_bind (wpAny_field hz rfl (x := .bool true) rfl ?_)
  show wpAny _ _ (field (.ref z) 3 >>= _) _ _ _
  refine wpAny_bind (wpAny_field hz rfl (x := .ref TI) rfl (wpAny_bind (wpAny_seqItems hTI rfl ?_)))
  show wpAny _ _ (Builtin.SmallTypes.ownedTupleIsFree (.ref z) >>= _) _ _ _
  refine wpAny_bind ?_
  unfold Builtin.SmallTypes.ownedTupleIsFree
  refine wpAny_bind (wpAny_field hz rfl (x := .none) rfl (wpAny_pure ?_))
  simp only [if_true]
  refine wpAny_bind (wpAny_rule (wpAny_bind (wpAny_field hz rfl (x := .ref TO) rfl (wpAny_bind (wpAny_setField_rec hz (by simp) fun h₁ hz₁ hs₁ => ?_)))))
  replace hz₁ : IsZs h₁ z TI TO .ellipsis := hz₁
  refine wpAny_bind ?_
  simp only [List.zipIdx_cons, List.zipIdx_nil, List.forIn_cons, List.forIn_nil]
  refine wpAny_bind (wpAny_bind (wpAny_onRaise ?_))
  show wpAny _ _ (Builtin.SmallTypes.nextOrEnd (.ref i1)) _ _ _
  refine orEnd_end (d1.fin hh (d1.ext h1 hs₁.extBut D.i1z D.l1z) hx fun h₂ e hs₂ he => ⟨e, rfl, he, ?_⟩)
  have hz₂ : IsZs h₂ z TI TO .ellipsis := hs₂ _ _ D.i1z.symm hz₁
  show wpAny _ _ (setField (.ref z) 0 .none >>= _) _ _ _
  refine wpAny_bind (wpAny_setField_rec hz₂ (by simp) fun h₃ hz₃ hs₃ => wpAny_bind ?_)
  refine wpAny_bind ?_
  simp only [List.drop_succ_cons, List.drop_zero, List.zipIdx_cons, List.zipIdx_nil, List.forIn_cons, List.forIn_nil]
  have h2₃ : S2 k h₃ := d2.ext (d2.ext (d2.ext h2 hs₁.extBut D.i2z D.l2z) hs₂ D.i12.symm D.l2i1) hs₃.extBut D.i2z D.l2z
  refine wpAny_bind (wpAny_bind (orEnd_end (d2.fin hh h2₃ hy fun h₄ e2 hs₄ he2 => ⟨e2, rfl, he2, ?_⟩)))
  simp only [Option.isSome_none, Bool.false_eq_true, if_false]
  refine wpAny_pure (wpAny_pure (wpAny_bind (wpAny_rule ?_)))
  unfold Builtin.SmallTypes.stopIteration
  refine wpAny_bind ?_
  simp only [newExc, newTuple]
  refine wpAny_bind (wpAny_newObj_type ?_ (by size_fits))
  refine wpAny_bind (m := firstArgMember _ _) (wpAny_of_eq (a := Value.none) (by first | rfl | (simp only [firstArgMember]; rfl)) ?_)
  refine wpAny_newObj_type ?_ (by size_fits)
  simp only [raiseNew]
  refine wpAny_bind (wpAny_handled ?_)
  rw [hh]
  refine wpAny_bind (wpAny_pure (wpAny_throw ?_))
  exact hE _ _ (fun c o n1 n2 n3 n4 q => Heap.get?_push_of_some _ (Heap.get?_push_of_some _ (hs₄ _ _ n4 (hs₃.extBut _ _ n1 (hs₂ _ _ n3 (hs₁.extBut _ _ n1 q)))))) ⟨_, Heap.get?_push_size _ rfl, rfl⟩
theorem zs_next_item {z TI TO i1 i2 l1 l2 : Addr} {k : Nat} {xs ys : Array Value} {x y a b : Value} {S1 S2 : Nat → Heap → Prop} {Q : Option Value → Shared → Prop} (D : ZipApart z TI TO i1 i2 l1 l2) (d1 : Drw i1 l1 xs S1) (d2 : Drw i2 l2 ys S2)
    (hz : IsZs s.heap z TI TO .none) (hTI : IsPair s.heap TI (.ref i1) (.ref i2)) (hTO : IsPair s.heap TO a b) (h1 : S1 k s.heap) (h2 : S2 k s.heap) (hx : xs[k]? = some x) (hy : ys[k]? = some y)
    (hQ : ∀ h', IsZs h' z TI TO (rawInt s.heap.objs.size) → IsPair h' TO x y → S1 (k + 1) h' → S2 (k + 1) h' → IsPair h' s.heap.objs.size x y → h'.objs.size = s.heap.objs.size + 1 →
      (∀ c o, c ≠ z → c ≠ TO → c ≠ i1 → c ≠ i2 → s.heap.get? c = some o → h'.get? c = some o) → Q (some (.ref s.heap.objs.size)) { s with heap := h' }) :
    wpAny (model prog w) A (pyNext (.ref z)) Q E s := by
  have hT : s.TypeIs (.ref z) "zip" := ⟨_, hz, rfl⟩
  unfold pyNext
  exact wpAny_bind (wpAny_attempt (wpAny_callSpecial?_slot (name := Str.ofString "__next__") hT F.slot_zip_next (wpAny_call_entry F.slot_zip_next hT F.entry_zip_next
    (zs_item D d1 d2 hz hTI hTO h1 h2 hx hy fun h' b1 b2 b3 b4 b5 b6 b7 => wpAny_pure (hQ h' b1 b2 b3 b4 b5 b6 b7)) (F.args_zip_next_1 _))))
theorem zs_next_end {z TI TO i1 i2 l1 l2 : Addr} {k : Nat} {xs ys : Array Value} {a b : Value} {S1 S2 : Nat → Heap → Prop} {Q : Option Value → Shared → Prop} (hh : A.handled = none) (D : ZipApart z TI TO i1 i2 l1 l2) (d1 : Drw i1 l1 xs S1) (d2 : Drw i2 l2 ys S2)
    (hz : IsZs s.heap z TI TO .none) (hTI : IsPair s.heap TI (.ref i1) (.ref i2)) (hTO : IsPair s.heap TO a b) (h1 : S1 k s.heap) (h2 : S2 k s.heap) (hx : xs[k]? = none) (hy : ys[k]? = none)
    (hQ : ∀ h', (∀ c o, c ≠ z → c ≠ TO → c ≠ i1 → c ≠ i2 → s.heap.get? c = some o → h'.get? c = some o) → Q none { s with heap := h' }) : wpAny (model prog w) A (pyNext (.ref z)) Q E s := by
  have hT : s.TypeIs (.ref z) "zip" := ⟨_, hz, rfl⟩
  unfold pyNext
  refine wpAny_bind (wpAny_attempt (wpAny_callSpecial?_slot (name := Str.ofString "__next__") hT F.slot_zip_next (wpAny_call_entry F.slot_zip_next hT F.entry_zip_next
    (zs_end hh D d1 d2 hz hTI hTO h1 h2 hx hy fun h' e hk he => ?_) (F.args_zip_next_1 _))))
  obtain ⟨o, ho, hc⟩ := he
  exact wpAny_bind (wpAny_isInstance (T := "StopIteration") (b := true) ⟨o, ho, hc⟩ isSubtype_stop (wpAny_pure (hQ _ hk)))
theorem zs_self {z TI TO : Addr} {f0 : Value} {Q : Value → Shared → Prop} (hz : IsZs s.heap z TI TO f0) (h : Q (.ref z) s) : wpAny (model prog w) A (pyIter (.ref z)) Q E s := by
  have hT : s.TypeIs (.ref z) "zip" := ⟨_, hz, rfl⟩
  refine wpAny_pyIter_slot hT F.slot_zip_iter (wpAny_call_entry F.slot_zip_iter hT F.entry_zip_iter ?_ (F.args_zip_iter_1 _))
  show wpAny _ _ (ret (.ref z)) _ _ s
  exact wpAny_pure ⟨_, rfl, "zip", _, hT, F.slot_zip_next.lookup, h⟩
theorem zs_letgo {elts : List Expr} {kk : Nat} {pos : Pos} {z TI TO T : Addr} {Q : Unit → Shared → Prop} (hz : IsZs s.heap z TI TO (rawInt T)) (hQ : ∀ h', IsZs h' z TI TO .none → Heap.SameBut z s.heap h' → Q () { s with heap := h' }) :
    wpAny (model prog w) A (letOwnedTupleGo (.Tuple elts kk pos) (.ref z) (.ref T)) Q E s := by
  unfold letOwnedTupleGo
  refine wpAny_bind (wpAny_load hz ?_)
  show wpAny _ _ (if (["enumerate", "zip", "dict_itemiterator", "dict_reverseitemiterator", "odict_iterator", "itertools.zip_longest", "itertools.pairwise"].contains "zip" && (#[rawInt T, .bool false, .bool true, .ref TI, .ref TO] : Array Value)[0]? == some (rawInt T)) = true then _ else _) Q E s
  rw [if_pos (by simp)]
  refine wpAny_bind (wpAny_rule ?_)
  show wpAny _ _ (setField (.ref z) 0 .none) Q E s
  exact wpAny_setField_rec hz (by simp) fun h' hz' hs' => hQ h' hz' hs'
theorem typeCall_zs (x y b : Value) : checkTypeCall "zip" ⟨[x, y], [(Str.ofString "strict", b)]⟩ = pure () := by kernel_rfl
theorem newCall_zs (x y b : Value) : checkBuiltinCall "zip.__new__" ⟨[.type "zip", x, y], [(Str.ofString "strict", b)]⟩ = pure () := by kernel_rfl
theorem args_zs (o x y b : Value) : argsOk "object.__init__" ⟨[o, x, y], [(Str.ofString "strict", b)]⟩ := by
  unfold argsOk
  kernel_rfl
def zh1 (h : Heap) (l1 : Addr) : Heap := h.push { cls := .type "list_iterator", data := .fields #[.ref l1, .int 0 0] }
def zh2 (h : Heap) (l1 l2 : Addr) : Heap := (zh1 h l1).push { cls := .type "tuple_iterator", data := .fields #[.ref l2, .int 0 0] }
def zh3 (h : Heap) (l1 l2 : Addr) : Heap := (zh2 h l1 l2).push { cls := .type "tuple", data := .seq #[.ref h.objs.size, .ref (zh1 h l1).objs.size] }
def zh4 (h : Heap) (l1 l2 : Addr) : Heap := (zh3 h l1 l2).push { cls := .type "tuple", data := .seq #[.none, .none] }
def zh5 (h : Heap) (l1 l2 : Addr) : Heap := (zh4 h l1 l2).push { cls := .type "zip", data := .fields #[.none, .bool false, .bool true, .ref (zh2 h l1 l2).objs.size, .ref (zh3 h l1 l2).objs.size] }
theorem meets_zs (l1 l2 : Addr) (xs ys : Array Value) : Meets (Builtin.«zip.__new__» ⟨[.type "zip", .ref l1, .ref l2], [(Str.ofString "strict", .bool true)]⟩) (fun _ R s => s.heap.IsList l1 xs ∧ s.heap.IsTuple l2 ys ∧ R (.ok (.ret (.ref (zh4 s.heap l1 l2).objs.size))) { s with heap := zh5 s.heap l1 l2 }) :=
  .of_wp fun prog w A R s h => by
    obtain ⟨hp, g, d, tk, os⟩ := s
    obtain ⟨hl1, hl2, h⟩ := h
    have hsub := sub_zip
    have hL1 : Heap.IsList (Shared.heap ⟨hp, g, d, tk, os⟩) l1 xs := hl1
    have hL2 : Heap.IsTuple (Shared.heap ⟨hp.push { cls := .type "list_iterator", data := .fields #[.ref l1, .int 0 0] }, g, d, tk, os⟩) l2 ys := Heap.IsTuple.push hl2 _
    have e1 : (Str.ofString "strict" == ("strict" : Str)) = true := by decide +kernel
    have e2 : (Str.ofString "strict" != ("strict" : Str)) = false := by decide +kernel
    wp_walk using wpAny_pyIter_list hL1, wpAny_pyIter_tuple hL2
    exact ⟨_, rfl, h⟩
end
end Tp
set_option maxHeartbeats 2000000
namespace Tp
open PySem PySem.Spec PyProof.Rows L2
section
variable {prog : Program} {w : World} {A : Around} {E : Value → Shared → Prop} {s : Shared}
theorem call_zs {l1 l2 : Addr} {xs ys : Array Value} {Q : Value → Shared → Prop} (hl1 : s.heap.IsList l1 xs) (hl2 : s.heap.IsTuple l2 ys)
    (h : ∀ h', IsZs h' (s.heap.objs.size + 4) (s.heap.objs.size + 2) (s.heap.objs.size + 3) .none → IsPair h' (s.heap.objs.size + 2) (.ref s.heap.objs.size) (.ref (s.heap.objs.size + 1)) → IsPair h' (s.heap.objs.size + 3) .none .none →
      h'.IsListIter s.heap.objs.size l1 0 → h'.IsTupleIter (s.heap.objs.size + 1) l2 0 → (∀ c o, s.heap.get? c = some o → h'.get? c = some o) → Q (.ref (s.heap.objs.size + 4)) { s with heap := h' }) :
    wpAny (model prog w) A (call (.type "zip") [.ref l1, .ref l2] [(Str.ofString "strict", .bool true)]) Q E s := by
  refine callType_newKw F.called_zip (by decide) (typeCall_zs _ _ _) (newCall_zs _ _ _) (fun obj => args_zs obj _ _ _) F.entry_zip_new (meets_zs l1 l2 xs ys) ⟨hl1, hl2, ?_⟩
  have z1 : (zh1 s.heap l1).objs.size = s.heap.objs.size + 1 := Heap.size_push ..
  have z2 : (zh2 s.heap l1 l2).objs.size = s.heap.objs.size + 2 := by rw [zh2, Heap.size_push, z1]
  have z3 : (zh3 s.heap l1 l2).objs.size = s.heap.objs.size + 3 := by rw [zh3, Heap.size_push, z2]
  have z4 : (zh4 s.heap l1 l2).objs.size = s.heap.objs.size + 4 := by rw [zh4, Heap.size_push, z3]
  have g5 : (zh5 s.heap l1 l2).get? (zh4 s.heap l1 l2).objs.size = some _ := Heap.get?_push_size _ rfl
  have g4 : (zh5 s.heap l1 l2).get? (zh3 s.heap l1 l2).objs.size = some _ := Heap.get?_push_of_some _ (Heap.get?_push_size _ rfl)
  have g3 : (zh5 s.heap l1 l2).get? (zh2 s.heap l1 l2).objs.size = some _ := Heap.get?_push_of_some _ (Heap.get?_push_of_some _ (Heap.get?_push_size _ rfl))
  have g2 : (zh5 s.heap l1 l2).get? (zh1 s.heap l1).objs.size = some _ := Heap.get?_push_of_some _ (Heap.get?_push_of_some _ (Heap.get?_push_of_some _ (Heap.get?_push_size _ rfl)))
  have g1 : (zh5 s.heap l1 l2).get? s.heap.objs.size = some _ := Heap.get?_push_of_some _ (Heap.get?_push_of_some _ (Heap.get?_push_of_some _ (Heap.get?_push_of_some _ (Heap.get?_push_size _ rfl))))
  show _ ∧ _
  rw [z2, z3, z4] at g5
  rw [z1, z2] at g3
  rw [z3] at g4
  rw [z1] at g2
  rw [z4]
  exact ⟨⟨_, g5, rfl⟩, h _ g5 g3 g4 ⟨_, g1, rfl, rfl⟩ ⟨_, g2, rfl, rfl⟩ fun c o q => Heap.get?_push_of_some _ (Heap.get?_push_of_some _ (Heap.get?_push_of_some _ (Heap.get?_push_of_some _ (Heap.get?_push_of_some _ q))))⟩
theorem callWith_tyKw {M : Model} {env : Env} {pos : Pos} {T : String} {e : Expr} {rest : List Expr} {kws : List Keyword} {Q : Value → Shared → Prop}
    (h : wpAny M A (spliced (backTo pos (starEach (e :: rest) env))) (fun vs s₁ => wpAny M A (evalAll ((backToKw pos (keywordEach kws env)).map (·.2))) (fun kvs s₂ => wpAny M A (call (.type T) vs (((backToKw pos (keywordEach kws env)).filterMap (·.1)).zip kvs)) Q E s₂) E s₁) E s)
    (he : backTo pos (starEach (e :: rest) env) = (false, eval e env) :: backTo pos (starEach rest env) := by rfl) (hp : (backTo pos (starEach (e :: rest) env)).any (·.1) = false := by rfl)
    (ha : (backToKw pos (keywordEach kws env)).all (·.1.isSome) = true := by rfl) (hk : (backToKw pos (keywordEach kws env)).any (·.1.isNone) = false := by rfl) :
    wpAny M A (callWith pos (.type T) [] (backTo pos (starEach (e :: rest) env)) (backToKw pos (keywordEach kws env))) Q E s := by
  have h2 : wpAny M A (evalArgs (.type T) true (backTo pos (starEach (e :: rest) env)) (backToKw pos (keywordEach kws env))) (fun r s₁ => wpAny M A (call (.type T) ([] ++ r.pos) r.kw) Q E s₁) E s := by
    rw [he] at h ⊢
    exact evalArgs_kwB ha h
  unfold callWith
  refine wpAny_bind (wpAny_holding (wpAny_mono h2 (fun r s₁ h₁ => wpAny_bind (wpAny_standAt ?_)) fun _ _ z => z))
  simp only [hp, hk, Bool.or_false]
  refine wpAny_bind (wpAny_pure ?_)
  exact wpAny_bind (wpAny_mono h₁ (fun r s₂ hr => wpAny_bind (wpAny_holding (wpAny_point (wpAny_pure hr)))) fun _ _ z => z)
end
/-- the pairs of a list and a tuple -/
def Itzs (K : PySem.W.Frag) (a b : Addr) : It :=
  ⟨fun i H => ∃ (xs ys : List V) (x y : V), SqL K H a xs ∧ SqT K H b ys ∧ xs[i]? = some x ∧ ys[i]? = some y,
    fun i H v H' => ∃ T x y, v = .ref T ∧ H T = none ∧ H' = upd H T (.tup [x, y]) ∧ (∀ xs, SqL K H a xs → xs[i]? = some x) ∧ ∀ ys, SqT K H b ys → ys[i]? = some y,
    fun i H => ∃ xs ys : List V, SqL K H a xs ∧ SqT K H b ys ∧ xs.length ≤ i ∧ ys.length ≤ i⟩
theorem five {c z TI TO i1 i2 : Addr} (h : c ∈ [z, TI, TO, i1, i2]) : c = z ∨ c = TI ∨ c = TO ∨ c = i1 ∨ c = i2 := by simpa using h
theorem turn_zs {P : Program} {w : World} {K : PySem.W.Frag} {elts : List Expr} {kk : Nat} {tpos : Pos} {a b z TI TO i1 i2 : Addr} (D : ZipApart z TI TO i1 i2 a b) :
    Turn P w K (.Tuple elts kk tpos) (Itzs K a b) [z, TI, TO, i1, i2] z (fun i h => IsZs h z TI TO .none ∧ IsPair h TI (.ref i1) (.ref i2) ∧ (∃ x y, IsPair h TO x y) ∧ h.IsListIter i1 a i ∧ h.IsTupleIter i2 b i) where
  mem := by simp
  obj := fun i h st c hc => by
    obtain ⟨hz, hTI, ⟨x, y, hTO⟩, ⟨o1, e1, _, d1⟩, ⟨o2, e2, _, d2⟩⟩ := st
    rcases five hc with q | q | q | q | q
    · rw [q]; exact ⟨_, hz, fun v q => nomatch q⟩
    · rw [q]; exact ⟨_, hTI, fun v q => nomatch q⟩
    · rw [q]; exact ⟨_, hTO, fun v q => nomatch q⟩
    · rw [q]; exact ⟨o1, e1, fun v q => by rw [d1] at q; cases q⟩
    · rw [q]; exact ⟨o2, e2, fun v q => by rw [d2] at q; cases q⟩
  keep := fun i h h' st k => by
    obtain ⟨hz, hTI, ⟨x, y, hTO⟩, h1, h2⟩ := st
    exact ⟨k z (by simp) _ hz, k TI (by simp) _ hTI, ⟨x, y, k TO (by simp) _ hTO⟩, h1.at fun o q => k i1 (by simp) o q, h2.at fun o q => k i2 (by simp) o q⟩
  item := by
    intro X hP hw hK hc i pins s σ H E I hf st hg
    subst hP hw hK
    obtain ⟨hz, hTI, ⟨x0, y0, hTO⟩, h1, h2⟩ := st
    obtain ⟨xs, ys, x, y, hqx, hqy, hx, hy⟩ := hg
    obtain ⟨its, rv, p, _⟩ := I.list hqx
    obtain ⟨its2, rv2, p2, _⟩ := I.tuple hqy
    obtain ⟨u, hu, ru⟩ := rv.get hx
    obtain ⟨u2, hu2, ru2⟩ := rv2.get hy
    have zl : z < s.heap.objs.size := Heap.lt_size hz
    refine zs_next_item D (drw_list D.l1i1) (drw_tup D.l2i2) hz hTI hTO ⟨h1, p.isList⟩ ⟨h2, p2⟩ (x := u) (y := u2) (by simpa using hu) (by simpa using hu2) fun h' z' TO' h1' h2' hT hsz hk => ?_
    refine ⟨_, rfl, zs_letgo (s := { s with heap := h' }) z' fun h'' z'' sb => ?_⟩
    have hT2 : h''.get? s.heap.objs.size = some { cls := .type "tuple", data := .seq #[u, u2] } := (sb.2 _ (Nat.ne_of_gt zl)).trans hT
    have nw : ObjOk X.prog X.w (upd H s.heap.objs.size (.tup [x, y])) h'' s.heap.objs.size (.tup [x, y]) := ⟨by show 2 ≤ sizeLine; decide, [u, u2], .cons ru (.cons ru2 .nil), ⟨_, hT2, rfl, _, rfl⟩⟩
    have I1 : Inv X pins σ (upd H s.heap.objs.size (.tup [x, y])) { s with heap := h'' } :=
      I.turnedNew (t' := s.toks) (ch := [z, TI, TO, i1, i2]) (fun c o n q => (sb.2 c (fun q' => n (by simp [q']))).trans (hk c o (fun q' => n (by simp [q'])) (fun q' => n (by simp [q'])) (fun q' => n (by simp [q'])) (fun q' => n (by simp [q'])) q)) hf (Nat.le_refl _) nw
    refine ⟨.ref s.heap.objs.size, _, I1, rfl, ⟨_, x, y, rfl, I.hok.fresh (Nat.le_refl _), rfl, fun l hl => by rw [I.list_inj hl hqx]; exact hx, fun l hl => by rw [I.tuple_inj hl hqy]; exact hy⟩, ⟨z'', ?_, ⟨u, u2, ?_⟩, ?_, ?_⟩, fun c hcm => ?_⟩
    · exact (sb.2 _ D.TIz).trans (hk _ _ D.TIz D.TITO D.TIi1 D.TIi2 hTI)
    · exact (sb.2 _ D.TOz).trans TO'
    · exact h1'.1.at fun o q => (sb.2 _ D.i1z).trans q
    · exact h2'.1.at fun o q => (sb.2 _ D.i2z).trans q
    · have lt : c < s.heap.objs.size := by
        rcases five hcm with q | q | q | q | q
        · rw [q]; exact zl
        · rw [q]; exact Heap.lt_size hTI
        · rw [q]; exact Heap.lt_size hTO
        · rw [q]; obtain ⟨_, e1, _⟩ := h1; exact Heap.lt_size e1
        · rw [q]; obtain ⟨_, e2, _⟩ := h2; exact Heap.lt_size e2
      rw [upd_ne (Nat.ne_of_lt lt)]
      exact (hf c hcm).1
  done := by
    intro X hP hw hK hc i pins s σ H E I hf st hg
    subst hP hw hK
    obtain ⟨hz, hTI, ⟨x0, y0, hTO⟩, h1, h2⟩ := st
    obtain ⟨xs, ys, hqx, hqy, e1, e2⟩ := hg
    obtain ⟨its, rv, p, _⟩ := I.list hqx
    obtain ⟨its2, rv2, p2, _⟩ := I.tuple hqy
    have n1 := rv.length
    have n2 := rv2.length
    exact zs_next_end (I.ok.hd hc) D (drw_list D.l1i1) (drw_tup D.l2i2) hz hTI hTO ⟨h1, p.isList⟩ ⟨h2, p2⟩ (by simp; omega) (by simp; omega) fun h' hk => ⟨rfl, I.turnedL (t' := s.toks) (ch := [z, TI, TO, i1, i2]) (fun c o n q =>
      hk c o (fun q' => n (by simp [q'])) (fun q' => n (by simp [q'])) (fun q' => n (by simp [q'])) (fun q' => n (by simp [q'])) q) hf⟩
  self := fun A i s Q E st h => zs_self st.1 h
def iZs (K : PySem.W.Frag) (ta tk : TA) : TI := fun σ H R => ta σ H fun vs H1 => tk σ H1 fun zs H2 => ∃ a b xs ys, vs = [.ref a, .ref b] ∧ zs = [.bl true] ∧ SqL K H2 a xs ∧ SqT K H2 b ys ∧ R (Itzs K a b) H2
theorem pi_zs {X : Cx} {K : PySem.W.Frag} {e e2 : Expr} {kws : List Keyword} {ta tk : TA} {p pos tpos : Pos} {elts : List Expr} {kk : Nat} (hK : X.K = K) (hg : Gl X "zip") (hm : X.mg "zip" = none) (ha : PA X [e, e2] ta) (hk : PK X kws tk)
    (hs : backTo pos (starEach [e, e2] X.env) = (false, eval e X.env) :: backTo pos (starEach [e2] X.env) := by rfl) (hpl : (backTo pos (starEach [e, e2] X.env)).any (·.1) = false := by rfl)
    (hall : (backToKw pos (keywordEach kws X.env)).all (·.1.isSome) = true := by rfl) (hnone : (backToKw pos (keywordEach kws X.env)).any (·.1.isNone) = false := by rfl) (hks : (backToKw pos (keywordEach kws X.env)).filterMap (·.1) = [Str.ofString "strict"] := by rfl) :
    PI X (.Tuple elts kk tpos) (.Call (.Name "zip" p) [e, e2] kws pos) (iZs K ta tk) := by
  subst hK
  refine ⟨fun pins s σ H R I h => ?_⟩
  refine wpAny_Call_Name_kw (ld_blt I hg hm PyProof.Rows.boot_zip (callWith_tyKw (thn (ha.run pos pins s σ H _ I h) fun us s1 ⟨vs, H1, I1, r1, q1⟩ => thn (hk.run pos pins s1 σ H1 _ I1 q1) fun ws s2 ⟨zs, H2, I2, r2, q2⟩ => ?_) hs hpl hall hnone))
  rw [hks]
  obtain ⟨a, b, xs, ys, ex, ez, hqx, hqy, q⟩ := q2
  subst ex ez
  obtain ⟨u, eu, ru⟩ := vals1 r2
  subst eu
  cases ru
  cases r1 with
  | cons r rr =>
    cases rr with
    | cons r' rr =>
      cases rr
      cases r
      cases r'
      obtain ⟨its, rv, p1, _⟩ := I2.list hqx
      obtain ⟨its2, rv2, p2, _⟩ := I2.tuple hqy
      obtain ⟨o2, ho2, _⟩ := id p2
      refine call_zs p1.isList (show s2.heap.IsTuple b its2.toArray from p2) fun h' hz hTI hTO h1 h2 hkp => zs_self hz ?_
      have I3 : Inv X pins σ H2 { s2 with heap := h' } := I2.kept (t' := s2.toks) hkp
      refine ⟨s2.heap.objs.size + 4, [s2.heap.objs.size + 4, s2.heap.objs.size + 2, s2.heap.objs.size + 3, s2.heap.objs.size, s2.heap.objs.size + 1], _, _, H2, rfl, I3, turn_zs (PySem.W.ktu_apart s2.heap.objs.size a b p1.lt (Heap.lt_size ho2)), ⟨hz, hTI, ⟨_, _, hTO⟩, h1, h2⟩, fun c hcm => ?_, q⟩
      have le : s2.heap.objs.size ≤ c := by
        rcases five hcm with z | z | z | z | z <;> rw [z] <;> first | exact Nat.le_add_right _ _ | exact Nat.le_refl _
      exact I2.fpOk le (I2.hok.fresh le)
theorem ev_zs {K : PySem.W.Frag} {ta tk : TA} {σ : L2.St} {H : Hp} {R : It → Hp → Prop} (q : ta σ H fun vs H1 => tk σ H1 fun zs H2 => ∃ a b xs ys, vs = [.ref a, .ref b] ∧ zs = [.bl true] ∧ SqL K H2 a xs ∧ SqT K H2 b ys ∧ R (Itzs K a b) H2) : iZs K ta tk σ H R := q
/-- a comprehension over such pairs, each item True -/
theorem lc_zs {K : PySem.W.Frag} {H1 : Hp} {D a b : Addr} {xs ys : List V} {ds es : List PyData} {g : TG} {te : TE} {vs : List Nat} {σ : L2.St} {Qd : Hp → Prop} (N : List Addr) (hx : SqL K H1 a xs) (hy : SqT K H1 b ys) (hdx : DwA K N H1 xs ds) (hdy : DwA K N H1 ys es) (hl : ds.length = es.length) (hz : ds.length ≤ 1000)
    (hD : H1 D = none) (lv : Live N H1)
    (turn : ∀ (i : Nat) d e v H, ds[i]? = some d → es[i]? = some e → Same H1 H → Live (D :: N) H → Dw K (D :: N) H v (.tuple [d, e]) → ∀ Y : V → Hp → Prop, (∀ H', Same H H' → Y (.bl true) H') → g v (wipe σ vs) H fun σ2 H2 => wipe σ2 vs = wipe σ vs ∧ te σ2 H2 Y)
    (done : ∀ H', NewL K N H1 H' D (ds.map fun _ => .bool true) → Qd H') :
    ∃ W : Nat → Nat → Hp → Prop, (∃ m, W 0 m (upd H1 D (.lst []))) ∧ ∀ i m H, W i m H →
      ((Itzs K a b).stop i H ∧ Qd H) ∨ ((Itzs K a b).go i H ∧ ∃ Nx : Hp → Prop, (∀ H', Nx H' → ∃ m', m' < m ∧ W (i + 1) m' H') ∧ ∀ x H', (Itzs K a b).yld i H x H' → g x (wipe σ vs) H' fun σ2 H2 => wipe σ2 vs = wipe σ vs ∧ tYes σ2 H2 fun b H3 =>
        if b = true then te σ2 H3 fun y H4 => ∃ acc, H4 D = some (.lst acc) ∧ acc.length < sizeLine ∧ Nx (upd H4 D (.lst (acc ++ [y]))) else Nx H3) := by
  have lx := dpA_len hdx
  have ly := dpA_len hdy
  refine ⟨fun i m H => m = xs.length - i ∧ i ≤ xs.length ∧ Same H1 H ∧ H D = some (.lst ((xs.take i).map fun _ => V.bl true)), ⟨xs.length, by simp, Nat.zero_le _, same_new hD, upd_same⟩, ?_⟩
  rintro i m H ⟨rfl, hi, s, hH⟩
  have hx' := s.seq hx
  have hy' := sqT_mono s hy
  by_cases lt : i < xs.length
  · have ex : xs[i]? = some xs[i] := List.getElem?_eq_getElem lt
    have lt2 : i < ys.length := by omega
    have ey : ys[i]? = some ys[i] := List.getElem?_eq_getElem lt2
    obtain ⟨d, hd1, hd2⟩ := dpA_at hdx ex
    obtain ⟨e, he1, he2⟩ := dpA_at hdy ey
    refine .inr ⟨⟨xs, ys, _, _, hx', hy', ex, ey⟩, fun H' => Same H1 H' ∧ H' D = some (.lst ((xs.take (i + 1)).map fun _ => V.bl true)), fun H' h' => ⟨xs.length - (i + 1), by omega, rfl, lt, h'.1, h'.2⟩, fun v H' yl => ?_⟩
    obtain ⟨T, x', y', rfl, hT, rfl, f1, f2⟩ := yl
    have e1 := f1 xs hx'
    have e2 := f2 ys hy'
    rw [ex] at e1
    rw [ey] at e2
    cases e1
    cases e2
    have lvD : Live (D :: N) H := (lv.same s).cons hH
    have sT := same_new (o := .tup [xs[i], ys[i]]) hT
    have up : Same (wo N H1) (wo (D :: N) H) := wo_more hD s
    have t := dw_tup (K := K) lvD (xs := [xs[i], ys[i]]) (ds := [d, e]) (.cons (dp_mono up hd2) (.cons (dp_mono up he2) .nil)) hT
    have q := turn i d e (.ref T) _ hd1 he1 (s.trans sT) (lvD.same sT) t.2 (fun y H4 => ∃ acc, H4 D = some (.lst acc) ∧ acc.length < sizeLine ∧ (Same H1 (upd H4 D (.lst (acc ++ [y]))) ∧ upd H4 D (.lst (acc ++ [y])) D = some (.lst ((xs.take (i + 1)).map fun _ => V.bl true)))) (fun H4 s4 => by
      refine ⟨_, s4 _ _ (sT _ _ hH), ?_, same_mut ((s.trans sT).trans s4) hD, ?_⟩
      · rw [List.length_map, List.length_take]
        exact Nat.lt_of_le_of_lt (Nat.min_le_left _ _) (Nat.lt_of_lt_of_le (show i < 16000 by omega) (by decide))
      · rw [upd_same, take_up ex, List.map_append]
        rfl)
    exact q
  · have e : i = xs.length := by omega
    subst e
    refine .inl ⟨⟨xs, ys, hx', hy', Nat.le_refl _, by omega⟩, done H ⟨s, hD, _, hH, ?_⟩⟩
    rw [List.take_length]
    have : ∀ {us : List V} {fs : List PyData}, us.length = fs.length → DpAll K (wo (D :: N) H) (us.map fun _ => V.bl true) (fs.map fun _ => PyData.bool true) := fun {us} => by
      induction us with
      | nil =>
        intro fs h
        cases fs with
        | nil => exact .nil
        | cons _ _ => cases h
      | cons _ us ih =>
        intro fs h
        cases fs with
        | nil => cases h
        | cons f fs => exact .cons (.bl _) (ih (Nat.succ.inj h))
    exact this lx
end Tp
set_option maxHeartbeats 4000000
namespace Tp
open PySem PySem.Spec PyProof.Rows L2
local macro_rules | `(tactic| tm_at "ev") => `(tactic| repeat first
  | with_reducible refine ev_seq ?_ | with_reducible refine ev_asg ?_ | with_reducible refine ev_drop ?_ | with_reducible refine ev_ret ?_ | with_reducible refine ev_ifS ?_ | with_reducible refine ev_next ?_
  | ((with_reducible refine' ev_var ?k1 ?_); (case k1 => exact rfl)) | with_reducible refine ev_c ?_ | with_reducible refine ev_op ?_ | with_reducible refine ev_I0 ?_ | with_reducible refine ev_test ?_ | with_reducible refine ev_B ?_ | with_reducible refine ev_bl ?_
  | ((with_reducible refine ev_eq ?k1 ?_); (case k1 => exact rfl)) | ((with_reducible refine ev_ne ?k1 ?_); (case k1 => exact rfl))
  | ((with_reducible refine' ev_nameL ?k1 ?_); (case k1 => first | (dsimp only [L2.start, wipe, List.map, List.set, List.length, List.replicate, List.append]; exact rfl) | exact rfl)) | with_reducible refine ev_name ?_ | with_reducible refine ev_nil ?_ | with_reducible refine ev_cons ?_ | with_reducible refine ev_call ?_ | with_reducible refine ev_tup ?_ | with_reducible refine ev_lst ?_ | with_reducible refine ev_CB ?_ | with_reducible refine ev_fld ?_
  | with_reducible refine ev_not ?_ | with_reducible refine ev_and ?_ | with_reducible refine ev_or ?_ | with_reducible refine ev_andV ?_ | with_reducible refine ev_orV ?_ | with_reducible refine ev_ifE ?_ | with_reducible refine ev_chain ?_ | with_reducible refine ev_meth ?_ | with_reducible refine ev_un ?_
  | with_reducible refine ev_sl ?_ | with_reducible refine ev_part ?_ | with_reducible refine ev_nopart ?_ | with_reducible refine ev_int ?_ | with_reducible refine ev_for ?_ | with_reducible refine ev_list ?_ | with_reducible refine ev_lc ?_ | with_reducible refine ev_gcons ?_ | with_reducible refine ev_gnil ?_ | with_reducible refine ev_sfld ?_ | with_reducible refine ev_make ?_ | with_reducible refine ev_notV ?_ | with_reducible refine ev_yes ?_ | with_reducible refine ev_dget ?_ | with_reducible refine ev_dput ?_ | with_reducible refine ev_bm ?_ | with_reducible refine ev_bm0 ?_ | with_reducible refine ev_items ?_ | with_reducible refine ev_keys ?_ | with_reducible refine ev_enum ?_ | with_reducible refine ev_tupI ?_ | with_reducible refine ev_par ?_ | with_reducible refine ev_two ?_ | with_reducible refine ev_kget ?_ | with_reducible refine ev_gsub ?_ | with_reducible refine ev_tapeK ?_ | with_reducible refine ev_str ?_ | with_reducible refine ev_txt ?_ | with_reducible refine ev_lc2 ?_ | with_reducible refine ev_dget2 ?_ | with_reducible refine ev_rU ?_ | with_reducible refine ev_ckw ?_ | with_reducible refine ev_dnotin ?_ | with_reducible refine ev_din ?_ | with_reducible refine ev_gfld ?_ | with_reducible refine ev_saug ?_ | with_reducible refine ev_finN ?_ | with_reducible refine ev_zs ?_ | with_reducible refine ev_rng1 ?_)
section
variable {P : Program} {w : World} {K : PySem.W.Frag} {mg : Str → Option Value} {base : Heap} {a : Ad}
def rNotKd (K : PySem.W.Frag) (d : Addr) : R2 := fun x y H Q => ∃ (z : Str) (r : Option Value), x = .str z ∧ y = .ref d ∧ PySem.W.nsIn K d z = some r ∧ Q (.bl (!r.isSome)) H
theorem kop_notin_kd {X : Cx} {K : PySem.W.Frag} {w : World} {d : Addr} (hK : X.K = K) (hw : X.w = w) (D : ∃ es n, KDict K w d es n) : OpR X (compareOp .NotIn) (rNotKd K d) := by
  subst hK
  subst hw
  obtain ⟨es, n, D⟩ := D
  exact op_notIn_kd D
/-- the things of an event, by its word -/
structure Bnd (K : PySem.W.Frag) (aF : Addr) (z : Str) (ds : List PyData) : Prop where
  ne : z ≠ "mark"
  ex : ∃ (t : Addr) (bs : List PyData), PySem.W.nsIn K aF z = some (some (.ref t)) ∧ Dp K (fun _ => none) (.ref t) (.tuple bs) ∧ ds.length = bs.length ∧ ds.length ≤ 3 ∧ ∀ (i : Nat) d b, ds[i]? = some d → bs[i]? = some b → ∃ x lo hi : Int, d = .int x ∧ b = .tuple [.int lo, .int hi] ∧ lo ≤ x ∧ x ≤ hi
theorem bnd_of (T : Tx w K mg a) (th : Th) (ok : th.ok) : (∃ z, th = .mark z) ∨ Bnd K a.aF th.word th.args := by
  cases th with
  | mark z => exact .inl ⟨z, rfl⟩
  | on c k f =>
    obtain ⟨t, h1, h2⟩ := T.x_F_on
    refine .inr ⟨(show ("on" : Str) ≠ "mark" by decide), t, _, h1, h2, rfl, Nat.le_refl _, fun i d b hd hb => ?_⟩
    rcases i with _ | _ | _ | i
    · cases hd; cases hb; exact ⟨_, _, _, rfl, rfl, ok.1.1, ok.1.2⟩
    · cases hd; cases hb; exact ⟨_, _, _, rfl, rfl, ok.2.1.1, ok.2.1.2⟩
    · cases hd; cases hb; exact ⟨_, _, _, rfl, rfl, ok.2.2.1, ok.2.2.2⟩
    · cases hd
  | off c k f =>
    obtain ⟨t, h1, h2⟩ := T.x_F_off
    refine .inr ⟨(show ("off" : Str) ≠ "mark" by decide), t, _, h1, h2, rfl, Nat.le_refl _, fun i d b hd hb => ?_⟩
    rcases i with _ | _ | _ | i
    · cases hd; cases hb; exact ⟨_, _, _, rfl, rfl, ok.1.1, ok.1.2⟩
    · cases hd; cases hb; exact ⟨_, _, _, rfl, rfl, ok.2.1.1, ok.2.1.2⟩
    · cases hd; cases hb; exact ⟨_, _, _, rfl, rfl, ok.2.2.1, ok.2.2.2⟩
    · cases hd
  | knob c k f =>
    obtain ⟨t, h1, h2⟩ := T.x_F_knob
    refine .inr ⟨(show ("knob" : Str) ≠ "mark" by decide), t, _, h1, h2, rfl, Nat.le_refl _, fun i d b hd hb => ?_⟩
    rcases i with _ | _ | _ | i
    · cases hd; cases hb; exact ⟨_, _, _, rfl, rfl, ok.1.1, ok.1.2⟩
    · cases hd; cases hb; exact ⟨_, _, _, rfl, rfl, ok.2.1.1, ok.2.1.2⟩
    · cases hd; cases hb; exact ⟨_, _, _, rfl, rfl, ok.2.2.1, ok.2.2.2⟩
    · cases hd
  | voice c f =>
    obtain ⟨t, h1, h2⟩ := T.x_F_voice
    refine .inr ⟨(show ("voice" : Str) ≠ "mark" by decide), t, _, h1, h2, rfl, (show 2 ≤ 3 by decide), fun i d b hd hb => ?_⟩
    rcases i with _ | _ | i
    · cases hd; cases hb; exact ⟨_, _, _, rfl, rfl, ok.1.1, ok.1.2⟩
    · cases hd; cases hb; exact ⟨_, _, _, rfl, rfl, ok.2.1, ok.2.2⟩
    · cases hd
/-! ### is_event -/
theorem sc_is_event : FnScope ["event", "tick", "word", "things", "thing", "bounds"] ["event"] (defScope s_is_event) := ⟨rfl, rfl, rfl, by decide +kernel, rfl, by decide +kernel, by decide +kernel⟩
theorem ok_is_event (T : Tx w K mg a) (c_is_between : C8.Cal P w K mg base 1 "is_between" (sp_is_between K) []) (c_is_text : C8.Cal P w K mg base 1 "is_text" (sp_is_text K) []) : C8.Cal P w K mg base 2 "is_event" (sp_is_event K) [] := by
  refine calD T.d_is_event sc_is_event (fun _ _ _ _ _ _ us hl => match us, hl with | [_], _ => rfl) (fun vs H Q E h => ?_) (fun f cdv A outer s H vs Q E hr h => ?_)
  · obtain ⟨N, v, e, rfl, _⟩ := h
    rfl
  · obtain ⟨N, v, e, rfl, lv, hv, ok, q⟩ := h
    refine ⟨_, (pss_cons (ps_if (PW.pt (pw_or (pt_cmpR op_lt (pe_callB (kcall_len (K := K) rfl) rfl T.f_len (by decide +kernel) (pa_cons (pv 0) pa_nil)) pe_int (nomark _)) (pw_or1 (pt_not (pt_val (C8.pe_c c_is_between hr (by decide) rfl (pa_cons (pe_ix (kix_tup (K := K) rfl) (pv 0) pe_int (fun _ _ => rfl)) (pa_cons (pe_tup (pa_cons pe_int (pa_cons (C8.pe_gc rfl T.g_MOST_TICK) pa_nil))) pa_nil)))))))) (pss_one (ps_ret pe_bl)) pss_nil)
      (pss_cons (ps_asg (pv 0) (kg_star (K := K) rfl (pg_star (i := 2) rfl (pgs_cons (pg_name (i := 1) sc_is_event.nd rfl (Or.inl rfl)) (pgs_cons (pg_name (i := 2) sc_is_event.nd rfl (Or.inl rfl)) (pgs_star (pg_name (i := 3) sc_is_event.nd rfl (Or.inl rfl)) pgs_nil))))))
      (pss_cons (ps_if (pt_cmpR op_eq (pv 2) pe_str (nomark _)) (pss_one (ps_ret (pe_and (pe_cmpR op_eq (pe_callB (kcall_len (K := K) rfl) rfl T.f_len (by decide +kernel) (pa_cons (pv 3) pa_nil)) pe_int (nomark _)) (pe_one (C8.pe_c c_is_text hr (by decide) rfl (pa_cons (pe_ix (kix_list (K := K) rfl) (pv 3) pe_int (fun _ _ => rfl)) pa_nil)))))) pss_nil)
      (pss_cons (ps_if (PW.pt (pw_or (pt_not (pt_val (pe_callB (kcall_isi (K := K) rfl) rfl T.f_isinstance (by decide +kernel) (pa_cons (pv 2) (pa_cons (pe_bltn (v := .ty "str") rfl T.f_str (by decide +kernel) rfl) pa_nil))))) (pw_or (pt_cmpR (kop_notin_kd (K := K) (w := w) rfl rfl T.x_F) (pv 2) (C8.pe_gc rfl T.g_FORMS) (by rfl)) (pw_or1 (pt_cmpR op_ne (pe_callB (kcall_len (K := K) rfl) rfl T.f_len (by decide +kernel) (pa_cons (pv 3) pa_nil)) (pe_callB (kcall_len (K := K) rfl) rfl T.f_len (by decide +kernel) (pa_cons (pe_ix (kix_kdict (K := K) (w := w) rfl rfl) (C8.pe_gc rfl T.g_FORMS) (pv 2) (fun _ _ => rfl)) pa_nil)) (nomark _)))))) (pss_one (ps_ret pe_bl)) pss_nil)
      (pss_one (ps_ret (pe_callB (kcr_all (K := K) rfl rfl) rfl T.f_all (by decide +kernel) (pa_cons (pe_lc (own := [("thing", 4), ("bounds", 5)]) rfl sc_is_event.nd (pi_zs (K := K) rfl rfl T.f_zip (pa_cons (pv 3) (pa_cons (pe_ix (kix_kdict (K := K) (w := w) rfl rfl) (C8.pe_gc rfl T.g_FORMS) (pv 2) (fun _ _ => rfl)) pa_nil)) (pk_cons pe_bl pk_nil)) (blkOk_by (own := [("thing", 4), ("bounds", 5)]) (N := ["event", "tick", "word", "things", "thing", "bounds"]) (sc := defScope s_is_event) (by decide +kernel)) (fun _ _ _ _ _ => kg_tup (K := K) rfl (pg_tup (n := 2) rfl (pgs_cons (pg_name (i := 4) sc_is_event.nd rfl (Or.inl rfl)) (pgs_cons (pg_name (i := 5) sc_is_event.nd rfl (Or.inl rfl)) pgs_nil)))) (fun _ _ _ _ _ => pts_nil) (fun _ _ _ _ _ => C8.pe_c c_is_between hr (by decide) rfl (pa_cons (pv 4) (pa_cons (pv 5) pa_nil)))) pa_nil)))))))), ?_⟩
    have hd : e.d = .tuple (.int e.t :: .str e.th.word :: e.th.args) := by
      unfold Ev.d
      rw [th_ds]
    rw [hd] at hv
    tm_at "ev"
    refine q_lenT hv ?_
    tm_at "ev"
    refine if_nd (by rw [List.length_cons, List.length_cons]; omega) ?_
    tm_at "ev"
    refine q_ixTi hv (atI_n (n := 0) rfl) ?_
    tm_at "ev"
    refine ⟨sz2, fun p hp => ?_⟩
    tm_at "ev"
    have t1 := dw_tup (K := K) lv (xs := [.int 0, .int 999999]) (ds := [.int 0, .int 999999]) (.cons (.int _) (.cons (.int _) .nil)) hp
    refine ⟨N, e.t, 0, 999999, .ref p, rfl, t1.2, ok.1.1, ok.1.2, ?_⟩
    have s1 := t1.1
    have lv1 := lv.same s1
    have hv1 := hv.up s1
    generalize upd H p (.tup [.int 0, .int 999999]) = H1 at s1 lv1 hv1 ⊢
    tm_at "ev"
    refine if_f rfl ?_
    tm_at "ev"
    have la : e.th.args.length ≤ 3 := by cases e.th <;> simp [Th.args]
    refine q_star2 hv1 (by omega) fun x y p2 hx hy hp2 H2 n2 => ?_
    obtain rfl := dp_int hx
    obtain rfl := dp_str hy
    have lv2 := lv1.same n2.same
    have dth := n2.dw lv1
    tm_at "ev"
    rcases bnd_of T e.th ok.2 with ⟨z, hz⟩ | bn
    · have okz := ok.2
      rw [hz] at dth okz ⊢
      refine if_t (decide_eq_true rfl) ?_
      tm_at "ev"
      refine q_len dth ?_
      tm_at "ev"
      refine if_t (decide_eq_true rfl) ?_
      tm_at "ev"
      refine q_ixL dth (atI_n (n := 0) rfl) fun v3 hv3 => ?_
      obtain rfl := dp_str hv3
      tm_at "ev"
      exact ⟨N, z, rfl, lv2, okz.1, okz.2, fun H3 s3 => q H3 ((s1.trans n2.same).trans s3)⟩
    · obtain ⟨ne, t, bs, hn, hb, hl, hl3, hin⟩ := bn
      refine if_f (vs_ne ne) ?_
      tm_at "ev"
      refine q_isStr ?_
      tm_at "ev"
      refine if_f rfl ?_
      tm_at "ev"
      refine ⟨_, _, rfl, rfl, hn, ?_⟩
      tm_at "ev"
      refine if_f rfl ?_
      tm_at "ev"
      refine q_len dth ?_
      tm_at "ev"
      obtain ⟨esD, nD, kD⟩ := T.x_F
      refine ⟨a.aF, e.th.word, .ref t, rfl, rfl, ⟨esD, nD, _, kD.at_, kD.lit, hn, rfl⟩, ?_⟩
      tm_at "ev"
      have hb2 : Dw K N H2 (.ref t) (.tuple bs) := dp_mono none_same hb
      refine q_lenT hb2 ?_
      tm_at "ev"
      refine if_f (by rw [hl]; simp) ?_
      tm_at "ev"
      refine ⟨a.aF, e.th.word, .ref t, rfl, rfl, ⟨esD, nD, _, kD.at_, kD.lit, hn, rfl⟩, ?_⟩
      tm_at "ev"
      obtain ⟨p3, xs3, e3, hx3, dx3⟩ := dp_lst dth
      cases e3
      obtain ⟨t4, xs4, e4, hx4, dx4⟩ := dp_tup hb2
      cases e4
      refine ⟨p2, t, xs3, xs4, rfl, rfl, sqL_mono wo_sub hx3, sqT_mono wo_sub hx4, fun D5 hD5 => lc_zs N (sqL_mono wo_sub hx3) (sqT_mono wo_sub hx4) dx3 dx4 hl (by omega) hD5 lv2 ?_ ?_⟩
      · intro i d b v H5 hd hb s5 lv5 dv Y hY
        obtain ⟨x, lo, hi, rfl, rfl, h1, h2⟩ := hin i d b hd hb
        tm_at "ev"
        refine q_unT dv rfl fun us hus => ?_
        obtain ⟨v1, r1, rfl, e1, hus⟩ := dpA_cons hus
        obtain ⟨v2, r2, rfl, e2, hus⟩ := dpA_cons hus
        obtain rfl := dpA_nil hus
        obtain rfl := dp_int e1
        tm_at "ev"
        refine ⟨rfl, ?_⟩
        tm_at "ev"
        exact ⟨D5 :: N, x, lo, hi, v2, rfl, e2, h1, h2, hY _ same_rfl⟩
      · intro H5 n5
        tm_at "ev"
        refine q_all n5 ?_
        tm_at "ev"
        exact q H5 ((s1.trans n2.same).trans n5.same)
/-! ### Tape.__eq__ -/
theorem str_ok {z : Str} (h : PyData.strOk z = true) : (PyData.str z).canLay0 = true := by
  rw [PyData.canLay0]
  exact h
theorem mark_ok {z : Str} (h : ∀ c ∈ z.cps.toList, c ∈ signs.cps.toList) : PyData.strOk z = true := by
  have hs : ∀ c ∈ signs.cps.toList, c < 0x110000 := by decide +kernel
  unfold PyData.strOk
  rw [← Array.all_toList, List.all_eq_true]
  exact fun c hc => decide_eq_true (hs c (h c hc))
theorem sh_ev (e : Ev) (ok : e.ok) : Sh 2 e.d := .tup fun d hd => by
  have w1 : PyData.strOk "on" = true := by decide +kernel
  have w2 : PyData.strOk "off" = true := by decide +kernel
  have w3 : PyData.strOk "knob" = true := by decide +kernel
  have w4 : PyData.strOk "voice" = true := by decide +kernel
  have w5 : PyData.strOk "mark" = true := by decide +kernel
  have ok2 := ok.2
  rcases List.mem_cons.mp hd with rfl | hd
  · exact .int _
  · cases h : e.th <;> rw [h] at hd ok2 <;> simp only [Th.ds, List.mem_cons, List.not_mem_nil, or_false] at hd
    · rcases hd with rfl | rfl | rfl | rfl <;> first | exact .int _ | exact .str (str_ok w1)
    · rcases hd with rfl | rfl | rfl | rfl <;> first | exact .int _ | exact .str (str_ok w2)
    · rcases hd with rfl | rfl | rfl | rfl <;> first | exact .int _ | exact .str (str_ok w3)
    · rcases hd with rfl | rfl | rfl <;> first | exact .int _ | exact .str (str_ok w4)
    · rcases hd with rfl | rfl
      · exact .str (str_ok w5)
      · exact .str (str_ok (mark_ok ok2.2))
theorem sh_tr (l : List Ev) (ok : ∀ e ∈ l, e.ok) : Sh 3 (trD l) := sh_map fun e he => sh_ev e (ok e he)
theorem sh_trs (l : List (List Ev)) (ok : ∀ t ∈ l, ∀ e ∈ t, e.ok) : Sh 4 (trsD l) := sh_map fun t ht => sh_tr t (ok t ht)
def sp_Tape___eq__ (ad : Ad) (K : PySem.W.Frag) : Sp := fun vs H Q _ => ∃ (N : List Addr) (x y : Addr) (t : Tp0), vs = [.ref x, .ref y] ∧ Live N H ∧ TapeAt ad K (wo N H) x t ∧ TapeAt ad K (wo N H) y t ∧ TpOk t ∧ ∀ H', Same H H' → Q (.bl true) H'
theorem sc_Tape___eq__ : FnScope ["self", "other"] ["self", "other"] (defScope s_Tape___eq__) := ⟨rfl, rfl, rfl, by decide +kernel, rfl, by decide +kernel, by decide +kernel⟩
theorem ok_Tape___eq__ (T : Tx w K mg a) (m_Map___eq__ : C8.Met P w K mg base 3 a.cM "__eq__" (sp_Map___eq__ a K) []) (m_Tape_paced : C8.Met P w K mg base 5 a.cT "paced" (sp_Tape_paced a K) [])
    (m_Tape_tracks : C8.Met P w K mg base 1 a.cT "tracks" (sp_Tape_tracks a K) []) : C8.Met P w K mg base 6 a.cT "__eq__" (sp_Tape___eq__ a K) [] := by
  refine metD T.cl_Tape T.d_Tape___eq__ sc_Tape___eq__ (fun _ _ _ _ _ _ us hl => match us, hl with | [_, _], _ => rfl) (fun vs H Q E h => ?_) (fun f cdv A outer s H vs Q E hr h => ?_)
  · obtain ⟨N, x, y, t, rfl, _⟩ := h
    rfl
  · obtain ⟨N, x, y, t, rfl, lv, hx, hy, ok, q⟩ := h
    refine ⟨_, (pss_one (ps_ret (pe_and (pe_callB (C8.call_isC T.is_Tape) rfl T.f_isinstance (by decide +kernel) (pa_cons (pv 1) (pa_cons (pe_glob (v := .ref a.cT) rfl T.m_Tape rfl) pa_nil))) (pe_and (pe_cmpR (op_eqOwn (K := K) rfl m_Map___eq__ hr (by decide)) (k_fld (K := K) rfl (pe_fld (pv 0) rfl)) (C8.pe_mt0 m_Tape_paced hr (by decide) (pv 1)) (nomark _)) (pe_one (pe_cmpR (kop_eq (K := K) rfl hr.units) (k_fld (K := K) rfl (pe_fld (pv 0) rfl)) (C8.pe_mt0 m_Tape_tracks hr (by decide) (pv 1)) (nomark _))))))), ?_⟩
    have hx' := hx
    obtain ⟨dx, m, r, h1, h2, h3⟩ := hx'
    have hy' := hy
    obtain ⟨dy, m2, r2, g1, g2, g3⟩ := hy'
    tm_at "ev"
    refine ⟨y, dy, _, rfl, (wo_of g1).2, ?_⟩
    tm_at "ev"
    refine iteT ?_
    tm_at "ev"
    refine ⟨x, a.cT, dx, _, _, rfl, (wo_of h1).2, T.cl_Tape, T.n_Tape_own, rfl, ?_⟩
    tm_at "ev"
    refine ⟨y, dy, _, rfl, (wo_of g1).2, rfl, ?_⟩
    tm_at "ev"
    refine ⟨N, y, t, rfl, lv, hy, ok.ps, ok.b, fun z d H1 s1 hz hdz mz => ?_⟩
    have lv1 := lv.same s1
    have h2' := h2.mono (wo_same s1)
    have h2c := h2'
    obtain ⟨d0, ⟨dm, k1⟩, k2⟩ := h2c
    obtain ⟨⟨dz, k3⟩, k4⟩ := id mz
    refine ev_own (wo_of k1).2 (wo_of k3).2 ?_
    refine ⟨N, m, z, t.b, t.ps, rfl, lv1, h2', ⟨d, mz⟩, ok.ps, fun H2 s2 => ⟨true, rfl, ?_⟩⟩
    have lv2 := lv1.same s2
    have s12 := s1.trans s2
    tm_at "ev"
    refine iteT ?_
    tm_at "ev"
    refine ⟨x, a.cT, dx, _, _, rfl, s12 _ _ (wo_of h1).2, T.cl_Tape, T.n_Tape_rows, rfl, ?_⟩
    tm_at "ev"
    refine ⟨y, dy, _, rfl, s12 _ _ (wo_of g1).2, rfl, ?_⟩
    tm_at "ev"
    refine ⟨N, y, t, rfl, lv2, hy.mono (wo_same s12), ok.len.2, fun r3 H3 n3 => ?_⟩
    refine q_eqD (dp_mono ((wo_same (s12.trans n3.same)).trans wo_sub) h3) (n3.dw lv2).real (sh_trs t.trs fun l hl => (ok.trs l hl).ok) ?_
    tm_at "ev"
    exact q H3 (s12.trans n3.same)
end
end Tp
set_option maxHeartbeats 2000000
namespace Tp
open PySem PySem.Spec PyProof.Rows L2
/-! ### moments, plainly -/
theorem fil1 {α : Type} {p : α → Bool} {x : α} (h : p x = true) : [x].filter p = [x] := by
  rw [List.filter_cons_of_pos h, List.filter_nil]
theorem fil0 {α : Type} {p : α → Bool} {x : α} (h : p x = false) : [x].filter p = [] := by
  rw [List.filter_cons_of_neg (by rw [h]; decide), List.filter_nil]
theorem last_split {α : Type} {l : List α} (h : l ≠ []) (d : α) : l = l.dropLast ++ [l.getLastD d] := by
  refine List.reverse_inj.mp ?_
  cases e : l.reverse with
  | nil => exact absurd (List.reverse_eq_nil_iff.mp e) h
  | cons x r =>
    have el : l = r.reverse ++ [x] := by rw [← List.reverse_reverse l, e, List.reverse_cons]
    subst el
    rw [List.getLastD_concat, List.dropLast_concat, List.reverse_append, List.reverse_reverse]
    rfl
theorem mom_last {l : Ps} {t : Int} (h : ((sts l).getLastD (0, 0, 500000)).1 ≤ t) : mom l t = ((sts l).getLastD (0, 0, 500000)).2.1 + (t - ((sts l).getLastD (0, 0, 500000)).1) * ((sts l).getLastD (0, 0, 500000)).2.2 := by
  have e : lastT l t = (sts l).getLastD (0, 0, 500000) := by
    have hl := getLast_D (sts_ne l) (0, 0, 500000)
    obtain ⟨r, hr⟩ : ∃ r, sts l = r ++ [(sts l).getLastD (0, 0, 500000)] := ⟨_, last_split (sts_ne l) _⟩
    unfold lastT
    generalize (sts l).getLastD (0, 0, 500000) = z at hr h ⊢
    rw [hr, List.filter_append, fil1 (p := fun q : Tri => decide (q.1 ≤ t)) (decide_eq_true h), List.getLastD_concat]
  unfold mom
  rw [e]
theorem srt_below {l : Ps} {e : Int × Int} (s : Srt (l ++ [e])) (k : ∀ q ∈ l ++ [e], 0 ≤ q.1) : ((sts l).getLastD (0, 0, 500000)).1 ≤ e.1 := by
  rw [sts_last]
  cases hl : l.getLast? with
  | none => exact k e (by simp)
  | some q => exact Int.le_of_lt ((List.pairwise_append.mp s).2.2 q (List.mem_of_getLast? hl) e (by simp))
theorem mom_snoc {l : Ps} {e : Int × Int} (s : Srt (l ++ [e])) (k : ∀ q ∈ l ++ [e], 0 ≤ q.1) (t : Int) : mom (l ++ [e]) t = if e.1 ≤ t then mom l e.1 + (t - e.1) * e.2 else mom l t := by
  have hb := srt_below s k
  by_cases h : e.1 ≤ t
  · rw [if_pos h, mom_last (l := l) hb]
    have hz : (sts (l ++ [e])).getLastD (0, 0, 500000) = nxT ((sts l).getLastD (0, 0, 500000)) e := by rw [sts_snoc, List.getLastD_concat]
    rw [mom_last (l := l ++ [e]) (by rw [hz]; exact h), hz]
    rfl
  · rw [if_neg h]
    unfold mom lastT
    rw [sts_snoc, List.filter_append, fil0 (p := fun q : Tri => decide (q.1 ≤ t)) (decide_eq_false h), List.append_nil]
theorem mom_nil (t : Int) (h : 0 ≤ t) : mom [] t = t * 500000 := by
  have e : sts [] = [(0, 0, 500000)] := rfl
  rw [mom_last (by rw [e]; exact h), e]
  show 0 + (t - 0) * 500000 = _
  omega
theorem srt_init {l : Ps} {e : Int × Int} (s : Srt (l ++ [e])) : Srt l := (List.pairwise_append.mp s).1
theorem srt_lt {l : Ps} {e : Int × Int} (s : Srt (l ++ [e])) : ∀ q ∈ l, q.1 < e.1 := fun q hq => (List.pairwise_append.mp s).2.2 q hq e (by simp)
structure Mo (l : Ps) : Prop where
  s : Srt l
  k : ∀ q ∈ l, 0 ≤ q.1
  p : ∀ q ∈ l, 1 ≤ q.2
theorem Mo.of {l : Ps} (ok : PsOk l) : Mo l := ⟨ok.up, fun q hq => (ok.ok q hq).1.1, fun q hq => (ok.ok q hq).2.1⟩
theorem Mo.init {l : Ps} {e : Int × Int} (h : Mo (l ++ [e])) : Mo l := ⟨srt_init h.s, fun q hq => h.k q (List.mem_append_left _ hq), fun q hq => h.p q (List.mem_append_left _ hq)⟩
theorem mom_mono {l : Ps} (h : Mo l) : ∀ {t u : Int}, 0 ≤ t → t < u → mom l t < mom l u := by
  refine ps_rev (P := fun l => Mo l → ∀ {t u : Int}, 0 ≤ t → t < u → mom l t < mom l u) (fun _ {t u} ht hu => ?_) (fun l e ih h {t u} ht hu => ?_) l h
  · rw [mom_nil t ht, mom_nil u (by omega)]
    omega
  · have ih := @ih h.init
    rw [mom_snoc h.s h.k, mom_snoc h.s h.k]
    have he := h.k e (by simp)
    have hp := h.p e (by simp)
    by_cases h1 : e.1 ≤ t
    · rw [if_pos h1, if_pos (by omega)]
      have := Int.mul_lt_mul_of_pos_right (a := t - e.1) (b := u - e.1) (c := e.2) (by omega) (by omega)
      omega
    · rw [if_neg h1]
      by_cases h2 : e.1 ≤ u
      · rw [if_pos h2]
        have := ih ht (show t < e.1 by omega)
        have := Int.mul_nonneg (a := u - e.1) (b := e.2) (by omega) (by omega)
        omega
      · rw [if_neg h2]
        exact ih ht hu
theorem mom_inj {l : Ps} (h : Mo l) {t u : Int} (ht : 0 ≤ t) (hu : 0 ≤ u) (e : mom l t = mom l u) : t = u := by
  rcases Int.lt_trichotomy t u with q | q | q
  · have := mom_mono h ht q
    omega
  · exact q
  · have := mom_mono h hu q
    omega
/-- the first piece's map -/
theorem mom_cut1 {l : Ps} (h : Mo l) {tk : Int} : ∀ {t : Int}, 0 ≤ t → t ≤ tk → mom (cutPs1 l tk) t = mom l t := by
  refine ps_rev (P := fun l => Mo l → ∀ {t : Int}, 0 ≤ t → t ≤ tk → mom (cutPs1 l tk) t = mom l t) (fun _ {t} _ _ => rfl) (fun l e ih h {t} ht hu => ?_) l h
  have ih := @ih h.init
  rw [mom_snoc h.s h.k]
  by_cases he : e.1 < tk
  · have ec : cutPs1 (l ++ [e]) tk = cutPs1 l tk ++ [e] := by
      unfold cutPs1
      rw [List.filter_append, fil1 (p := fun q : Int × Int => decide (q.1 < tk)) (decide_eq_true he)]
    have hs : Mo (cutPs1 l tk ++ [e]) := by
      rw [← ec]
      exact ⟨h.s.sublist List.filter_sublist, fun q hq => h.k q (List.mem_filter.mp hq).1, fun q hq => h.p q (List.mem_filter.mp hq).1⟩
    rw [ec, mom_snoc hs.s hs.k]
    by_cases h1 : e.1 ≤ t
    · rw [if_pos h1, if_pos h1, ih (h.k e (by simp)) (by omega)]
    · rw [if_neg h1, if_neg h1, ih ht hu]
  · have ec : cutPs1 (l ++ [e]) tk = cutPs1 l tk := by
      unfold cutPs1
      rw [List.filter_append, fil0 (p := fun q : Int × Int => decide (q.1 < tk)) (decide_eq_false he), List.append_nil]
    rw [ec, ih ht hu]
    by_cases h1 : e.1 ≤ t
    · rw [if_pos h1, show e.1 = t by omega, show t - t = 0 by omega, Int.zero_mul, Int.add_zero]
    · rw [if_neg h1]
theorem paceAt_snoc (l : Ps) (e : Int × Int) (t : Int) : paceAt (l ++ [e]) t = if e.1 ≤ t then e.2 else paceAt l t := by
  unfold paceAt
  rw [List.filter_append]
  by_cases h : e.1 ≤ t
  · rw [if_pos h, fil1 (p := fun q : Int × Int => decide (q.1 ≤ t)) (decide_eq_true h), List.getLast?_concat]
  · rw [if_neg h, fil0 (p := fun q : Int × Int => decide (q.1 ≤ t)) (decide_eq_false h), List.append_nil]
theorem mom_single {p t : Int} (ht : 0 ≤ t) : mom [(0, p)] t = t * p := by
  have := mom_snoc (l := []) (e := (0, p)) (by unfold Srt; simp) (by simp) t
  rw [List.nil_append] at this
  rw [this, if_pos ht, mom_nil 0 (by decide)]
  show 0 * 500000 + (t - 0) * p = t * p
  rw [Int.sub_zero]
  omega
/-- the second piece's map -/
theorem mom_cut2 {l : Ps} (h : Mo l) {tk : Int} (h0 : 0 ≤ tk) : ∀ {t : Int}, 0 ≤ t → mom (cutPs2 l tk) t + mom l tk = mom l (tk + t) := by
  refine ps_rev (P := fun l => Mo l → ∀ {t : Int}, 0 ≤ t → mom (cutPs2 l tk) t + mom l tk = mom l (tk + t)) (fun _ {t} ht => ?_) (fun l e ih h {t} ht => ?_) l h
  · rw [show cutPs2 [] tk = [(0, 500000)] from rfl, mom_single ht, mom_nil tk h0, mom_nil (tk + t) (by omega)]
    omega
  · have ih := @ih h.init
    rw [mom_snoc h.s h.k, mom_snoc h.s h.k]
    by_cases he : e.1 ≤ tk
    · have ec : cutPs2 (l ++ [e]) tk = [(0, e.2)] := by
        unfold cutPs2
        rw [paceAt_snoc, if_pos he, List.filter_append, fil0 (p := fun q : Int × Int => decide (tk < q.1)) (decide_eq_false (by omega)), List.append_nil]
        rw [List.filter_eq_nil_iff.mpr fun q hq z => absurd (of_decide_eq_true z) (by have := srt_lt h.s q hq; omega)]
        rfl
      rw [ec, mom_single ht, if_pos he, if_pos (by omega)]
      rw [show tk + t - e.1 = t + (tk - e.1) by omega, Int.add_mul]
      omega
    · have ec : cutPs2 (l ++ [e]) tk = cutPs2 l tk ++ [(e.1 - tk, e.2)] := by
        unfold cutPs2
        rw [paceAt_snoc, if_neg he, List.filter_append, fil1 (p := fun q : Int × Int => decide (tk < q.1)) (decide_eq_true (by omega)), List.map_append]
        rfl
      have hs : Srt (cutPs2 l tk ++ [(e.1 - tk, e.2)]) := by
        rw [← ec]
        unfold cutPs2 Srt
        refine List.pairwise_cons.mpr ⟨fun q hq => ?_, ?_⟩
        · obtain ⟨r, hr, rfl⟩ := List.mem_map.mp hq
          have := of_decide_eq_true (List.mem_filter.mp hr).2
          show (0 : Int) < r.1 - tk
          omega
        · refine List.pairwise_map.mpr ((h.s.sublist List.filter_sublist).imp fun {x y} q => ?_)
          show x.1 - tk < y.1 - tk
          omega
      have hk : ∀ q ∈ cutPs2 l tk ++ [(e.1 - tk, e.2)], 0 ≤ q.1 := by
        rw [← ec]
        intro q hq
        unfold cutPs2 at hq
        rcases List.mem_cons.mp hq with rfl | hq
        · exact Int.le_refl _
        · obtain ⟨r, hr, rfl⟩ := List.mem_map.mp hq
          have := of_decide_eq_true (List.mem_filter.mp hr).2
          show (0 : Int) ≤ r.1 - tk
          omega
      rw [ec, mom_snoc hs hk, if_neg (by omega : ¬ e.1 ≤ tk)]
      show (if e.1 - tk ≤ t then mom (cutPs2 l tk) (e.1 - tk) + (t - (e.1 - tk)) * e.2 else mom (cutPs2 l tk) t) + mom l tk = _
      by_cases h1 : e.1 ≤ tk + t
      · have q := ih (t := e.1 - tk) (by omega)
        rw [show tk + (e.1 - tk) = e.1 by omega] at q
        rw [if_pos (by omega), if_pos h1, show t - (e.1 - tk) = tk + t - e.1 by omega]
        omega
      · rw [if_neg (by omega), if_neg h1, ih ht]
/-! ### shares -/
theorem gcd_pos' {x y : Nat} (h : 0 < y) : 0 < Nat.gcd x y := Nat.gcd_pos_of_pos_right _ h
/-- a reduced share tells its number -/
theorem sh_eq {x y b : Nat} (hb : 0 < b) : (x / Nat.gcd x b * (b / Nat.gcd y b) = y / Nat.gcd y b * (b / Nat.gcd x b)) ↔ x = y := by
  obtain ⟨g, hg⟩ : ∃ g, g = Nat.gcd x b := ⟨_, rfl⟩
  obtain ⟨k, hk⟩ : ∃ k, k = Nat.gcd y b := ⟨_, rfl⟩
  rw [← hg, ← hk]
  have hg0 : 0 < g := hg ▸ gcd_pos' hb
  have hk0 : 0 < k := hk ▸ gcd_pos' hb
  obtain ⟨x1, hx⟩ : g ∣ x := hg ▸ Nat.gcd_dvd_left x b
  obtain ⟨b1, hb1⟩ : g ∣ b := hg ▸ Nat.gcd_dvd_right x b
  obtain ⟨y1, hy⟩ : k ∣ y := hk ▸ Nat.gcd_dvd_left y b
  obtain ⟨b2, hb2⟩ : k ∣ b := hk ▸ Nat.gcd_dvd_right y b
  have e1 : x / g = x1 := by rw [hx]; exact Nat.mul_div_cancel_left _ hg0
  have e2 : b / g = b1 := by rw [hb1]; exact Nat.mul_div_cancel_left _ hg0
  have e3 : y / k = y1 := by rw [hy]; exact Nat.mul_div_cancel_left _ hk0
  have e4 : b / k = b2 := by rw [hb2]; exact Nat.mul_div_cancel_left _ hk0
  rw [e1, e2, e3, e4]
  have hb' : 0 < g * k := Nat.mul_pos hg0 hk0
  constructor
  · intro h
    have e : x * b = y * b := by
      calc x * b = (g * x1) * (k * b2) := by rw [← hx, ← hb2]
        _ = g * k * (x1 * b2) := by simp only [Nat.mul_comm, Nat.mul_left_comm, Nat.mul_assoc]
        _ = g * k * (y1 * b1) := by rw [h]
        _ = (k * y1) * (g * b1) := by simp only [Nat.mul_comm, Nat.mul_left_comm, Nat.mul_assoc]
        _ = y * b := by rw [← hy, ← hb1]
    exact Nat.eq_of_mul_eq_mul_right hb e
  · intro h
    refine Nat.eq_of_mul_eq_mul_left hb' ?_
    calc g * k * (x1 * b2) = (g * x1) * (k * b2) := by simp only [Nat.mul_comm, Nat.mul_left_comm, Nat.mul_assoc]
      _ = x * b := by rw [← hx, ← hb2]
      _ = y * b := by rw [h]
      _ = (k * y1) * (g * b1) := by rw [← hy, ← hb1]
      _ = g * k * (y1 * b1) := by simp only [Nat.mul_comm, Nat.mul_left_comm, Nat.mul_assoc]
theorem sh_lt {x y b : Nat} (hb : 0 < b) : (x / Nat.gcd x b * (b / Nat.gcd y b) < y / Nat.gcd y b * (b / Nat.gcd x b)) ↔ x < y := by
  obtain ⟨g, hg⟩ : ∃ g, g = Nat.gcd x b := ⟨_, rfl⟩
  obtain ⟨k, hk⟩ : ∃ k, k = Nat.gcd y b := ⟨_, rfl⟩
  rw [← hg, ← hk]
  have hg0 : 0 < g := hg ▸ gcd_pos' hb
  have hk0 : 0 < k := hk ▸ gcd_pos' hb
  obtain ⟨x1, hx⟩ : g ∣ x := hg ▸ Nat.gcd_dvd_left x b
  obtain ⟨b1, hb1⟩ : g ∣ b := hg ▸ Nat.gcd_dvd_right x b
  obtain ⟨y1, hy⟩ : k ∣ y := hk ▸ Nat.gcd_dvd_left y b
  obtain ⟨b2, hb2⟩ : k ∣ b := hk ▸ Nat.gcd_dvd_right y b
  have e1 : x / g = x1 := by rw [hx]; exact Nat.mul_div_cancel_left _ hg0
  have e2 : b / g = b1 := by rw [hb1]; exact Nat.mul_div_cancel_left _ hg0
  have e3 : y / k = y1 := by rw [hy]; exact Nat.mul_div_cancel_left _ hk0
  have e4 : b / k = b2 := by rw [hb2]; exact Nat.mul_div_cancel_left _ hk0
  rw [e1, e2, e3, e4]
  have hb' : 0 < g * k := Nat.mul_pos hg0 hk0
  have a1 : g * k * (x1 * b2) = x * b := by
    calc g * k * (x1 * b2) = (g * x1) * (k * b2) := by simp only [Nat.mul_comm, Nat.mul_left_comm, Nat.mul_assoc]
      _ = x * b := by rw [← hx, ← hb2]
  have a2 : g * k * (y1 * b1) = y * b := by
    calc g * k * (y1 * b1) = (k * y1) * (g * b1) := by simp only [Nat.mul_comm, Nat.mul_left_comm, Nat.mul_assoc]
      _ = y * b := by rw [← hy, ← hb1]
  constructor
  · intro h
    have := Nat.mul_lt_mul_of_pos_left h hb'
    rw [a1, a2] at this
    exact Nat.lt_of_mul_lt_mul_right this
  · intro h
    have : x * b < y * b := Nat.mul_lt_mul_of_pos_right h hb
    rw [← a1, ← a2] at this
    exact Nat.lt_of_mul_lt_mul_left this
/-- the law's own sum of two shares -/
theorem sh_add {x y z b : Nat} (hb : 0 < b) (h : x + y = z) :
    ((x / Nat.gcd x b) * (b / Nat.gcd y b) + (y / Nat.gcd y b) * (b / Nat.gcd x b)) * (b / Nat.gcd z b) = (z / Nat.gcd z b) * (b / Nat.gcd x b) * (b / Nat.gcd y b) := by
  obtain ⟨g, hg⟩ : ∃ g, g = Nat.gcd x b := ⟨_, rfl⟩
  obtain ⟨k, hk⟩ : ∃ k, k = Nat.gcd y b := ⟨_, rfl⟩
  obtain ⟨m, hm⟩ : ∃ m, m = Nat.gcd z b := ⟨_, rfl⟩
  rw [← hg, ← hk, ← hm]
  have hg0 : 0 < g := hg ▸ gcd_pos' hb
  have hk0 : 0 < k := hk ▸ gcd_pos' hb
  have hm0 : 0 < m := hm ▸ gcd_pos' hb
  obtain ⟨x1, hx⟩ : g ∣ x := hg ▸ Nat.gcd_dvd_left x b
  obtain ⟨b1, hb1⟩ : g ∣ b := hg ▸ Nat.gcd_dvd_right x b
  obtain ⟨y1, hy⟩ : k ∣ y := hk ▸ Nat.gcd_dvd_left y b
  obtain ⟨b2, hb2⟩ : k ∣ b := hk ▸ Nat.gcd_dvd_right y b
  obtain ⟨z1, hz⟩ : m ∣ z := hm ▸ Nat.gcd_dvd_left z b
  obtain ⟨b3, hb3⟩ : m ∣ b := hm ▸ Nat.gcd_dvd_right z b
  have e1 : x / g = x1 := by rw [hx]; exact Nat.mul_div_cancel_left _ hg0
  have e2 : b / g = b1 := by rw [hb1]; exact Nat.mul_div_cancel_left _ hg0
  have e3 : y / k = y1 := by rw [hy]; exact Nat.mul_div_cancel_left _ hk0
  have e4 : b / k = b2 := by rw [hb2]; exact Nat.mul_div_cancel_left _ hk0
  have e5 : z / m = z1 := by rw [hz]; exact Nat.mul_div_cancel_left _ hm0
  have e6 : b / m = b3 := by rw [hb3]; exact Nat.mul_div_cancel_left _ hm0
  rw [e1, e2, e3, e4, e5, e6]
  refine Nat.eq_of_mul_eq_mul_left (Nat.mul_pos (Nat.mul_pos hg0 hk0) hm0) ?_
  calc g * k * m * ((x1 * b2 + y1 * b1) * b3) = ((g * x1) * (k * b2) + (k * y1) * (g * b1)) * (m * b3) := by
        simp only [Nat.mul_add, Nat.add_mul]
        congr 1 <;> simp only [Nat.mul_comm, Nat.mul_left_comm, Nat.mul_assoc]
    _ = (x * b + y * b) * b := by rw [← hx, ← hy, ← hb1, ← hb2, ← hb3]
    _ = z * b * b := by rw [← Nat.add_mul, h]
    _ = (m * z1) * (g * b1) * (k * b2) := by rw [← hz, ← hb1, ← hb2]
    _ = g * k * m * (z1 * b1 * b2) := by simp only [Nat.mul_comm, Nat.mul_left_comm, Nat.mul_assoc]
end Tp
set_option maxHeartbeats 4000000
namespace Tp
open PySem PySem.Spec PyProof.Rows L2
local macro_rules | `(tactic| tm_at "ev") => `(tactic| repeat first
  | with_reducible refine ev_seq ?_ | with_reducible refine ev_asg ?_ | with_reducible refine ev_drop ?_ | with_reducible refine ev_ret ?_ | with_reducible refine ev_ifS ?_ | with_reducible refine ev_next ?_
  | ((with_reducible refine' ev_var ?k1 ?_); (case k1 => exact rfl)) | with_reducible refine ev_c ?_ | with_reducible refine ev_op ?_ | with_reducible refine ev_I0 ?_ | with_reducible refine ev_test ?_ | with_reducible refine ev_B ?_ | with_reducible refine ev_bl ?_
  | ((with_reducible refine ev_eq ?k1 ?_); (case k1 => exact rfl)) | ((with_reducible refine ev_ne ?k1 ?_); (case k1 => exact rfl))
  | ((with_reducible refine' ev_nameL ?k1 ?_); (case k1 => first | (dsimp only [L2.start, wipe, List.map, List.set, List.length, List.replicate, List.append]; exact rfl) | exact rfl)) | with_reducible refine ev_name ?_ | with_reducible refine ev_nil ?_ | with_reducible refine ev_cons ?_ | with_reducible refine ev_call ?_ | with_reducible refine ev_tup ?_ | with_reducible refine ev_lst ?_ | with_reducible refine ev_CB ?_ | with_reducible refine ev_fld ?_
  | with_reducible refine ev_not ?_ | with_reducible refine ev_and ?_ | with_reducible refine ev_or ?_ | with_reducible refine ev_andV ?_ | with_reducible refine ev_orV ?_ | with_reducible refine ev_ifE ?_ | with_reducible refine ev_chain ?_ | with_reducible refine ev_meth ?_ | with_reducible refine ev_un ?_
  | with_reducible refine ev_sl ?_ | with_reducible refine ev_part ?_ | with_reducible refine ev_nopart ?_ | with_reducible refine ev_int ?_ | with_reducible refine ev_for ?_ | with_reducible refine ev_list ?_ | with_reducible refine ev_lc ?_ | with_reducible refine ev_gcons ?_ | with_reducible refine ev_gnil ?_ | with_reducible refine ev_sfld ?_ | with_reducible refine ev_make ?_ | with_reducible refine ev_notV ?_ | with_reducible refine ev_yes ?_ | with_reducible refine ev_dget ?_ | with_reducible refine ev_dput ?_ | with_reducible refine ev_bm ?_ | with_reducible refine ev_bm0 ?_ | with_reducible refine ev_items ?_ | with_reducible refine ev_keys ?_ | with_reducible refine ev_enum ?_ | with_reducible refine ev_tupI ?_ | with_reducible refine ev_par ?_ | with_reducible refine ev_two ?_ | with_reducible refine ev_kget ?_ | with_reducible refine ev_gsub ?_ | with_reducible refine ev_tapeK ?_ | with_reducible refine ev_str ?_ | with_reducible refine ev_txt ?_ | with_reducible refine ev_lc2 ?_ | with_reducible refine ev_dget2 ?_ | with_reducible refine ev_rU ?_ | with_reducible refine ev_ckw ?_ | with_reducible refine ev_dnotin ?_ | with_reducible refine ev_din ?_ | with_reducible refine ev_gfld ?_ | with_reducible refine ev_saug ?_ | with_reducible refine ev_finN ?_ | with_reducible refine ev_zs ?_ | with_reducible refine ev_rng1 ?_)
section
variable {P : Program} {w : World} {K : PySem.W.Frag} {mg : Str → Option Value} {base : Heap} {a : Ad}
/-! ### rows: moments and things -/
def row (ps : Ps) (b : Int) (e : Ev) : PyData := .tuple [shD (mom ps e.t).toNat b.toNat, e.th.d]
theorem mom_le {l : Ps} (ok : PsOk l) : ∀ {t : Int}, 0 ≤ t → mom l t ≤ t * 16777215 := by
  refine ps_rev (P := fun l => PsOk l → ∀ {t : Int}, 0 ≤ t → mom l t ≤ t * 16777215) (fun _ {t} ht => ?_) (fun l e ih h {t} ht => ?_) l ok
  · rw [mom_nil t ht]
    omega
  · have hi : PsOk l := ⟨fun q hq => h.ok q (List.mem_append_left _ hq), srt_init h.up, by have := h.len; rw [List.length_append] at this; omega⟩
    have m := Mo.of h
    rw [mom_snoc m.s m.k]
    have he := (h.ok e (by simp))
    by_cases h1 : e.1 ≤ t
    · rw [if_pos h1]
      have h2 := ih hi (t := e.1) he.1.1
      have h3 := Int.mul_le_mul_of_nonneg_left (a := e.2) (b := 16777215) (c := t - e.1) he.2.2 (by omega)
      have h4 : (t - e.1) * 16777215 = t * 16777215 - e.1 * 16777215 := Int.sub_mul _ _ _
      omega
    · rw [if_neg h1]
      exact ih hi ht
theorem sh_sh (x y : Nat) : Sh 2 (shD x y) := .tup fun d hd => by
  simp only [List.mem_cons, List.not_mem_nil, or_false] at hd
  rcases hd with rfl | rfl <;> exact .int _
theorem sh_th (e : Ev) (ok : e.ok) : Sh 2 e.th.d := .tup fun d hd => by
  have h := sh_ev e ok
  have hc := h.can
  have hp := h.dep
  unfold Ev.d at hc hp
  rw [PyData.canLay0] at hc
  rw [PyData.depth] at hp
  cases hth : e.th <;> rw [hth] at hd <;> simp only [Th.ds, List.mem_cons, List.not_mem_nil, or_false] at hd
  · rcases hd with rfl | rfl | rfl | rfl <;> first | exact .int _ | exact .str (str_ok (by decide +kernel))
  · rcases hd with rfl | rfl | rfl | rfl <;> first | exact .int _ | exact .str (str_ok (by decide +kernel))
  · rcases hd with rfl | rfl | rfl | rfl <;> first | exact .int _ | exact .str (str_ok (by decide +kernel))
  · rcases hd with rfl | rfl | rfl <;> first | exact .int _ | exact .str (str_ok (by decide +kernel))
  · rcases hd with rfl | rfl
    · exact .str (str_ok (by decide +kernel))
    · have ok2 := ok.2
      rw [hth] at ok2
      exact .str (str_ok (mark_ok ok2.2))
theorem sh_row (ps : Ps) (b : Int) (e : Ev) (ok : e.ok) : Sh 3 (row ps b e) := .tup fun d hd => by
  simp only [List.mem_cons, List.not_mem_nil, or_false] at hd
  rcases hd with rfl | rfl
  · exact sh_sh _ _
  · exact sh_th e ok
theorem eqv_nilR (ds : List PyData) : PyData.eqv (.list ds) (.list []) = ds.isEmpty := by
  rw [PyData.eqv]
  cases ds <;> rw [PyData.eqvAll] <;> rfl
theorem eqv_sh {x y b : Nat} (hb : 0 < b) : PyData.eqv (shD x b) (shD y b) = decide (x = y) := by
  unfold shD
  simp only [PyData.eqv, PyData.eqvAll, Bool.and_true]
  by_cases h : x = y
  · subst h
    simp
  · rw [decide_eq_false h, Bool.and_eq_false_iff]
    by_cases h1 : x / Nat.gcd x b = y / Nat.gcd y b
    · right
      refine beq_eq_false_iff_ne.mpr fun h2 => h ?_
      have h2' : b / Nat.gcd x b = b / Nat.gcd y b := by exact_mod_cast h2
      exact (sh_eq hb).mp (by rw [h1, h2'])
    · left
      exact beq_eq_false_iff_ne.mpr fun h2 => h1 (by exact_mod_cast h2)
section
variable {N : List Addr} {H : Hp} {x y : V} {Q : VK} {ds : List PyData} {n : Nat}
theorem q_eqNil (hx : Dp K H x (.list ds)) (hy : Dp K H y (.list [])) (h : Sh n (.list ds)) (q : Q (.bl ds.isEmpty) H) (hn : n ≤ 64 := by decide) : rEqD K x y H Q := by
  refine ⟨_, _, hx, hy, h.shaped hn, (Sh.lst (n := 1) (ds := []) fun _ h => nomatch h).shaped, ?_⟩
  rw [eqv_nilR]
  exact q
theorem q_neNil (hx : Dp K H x (.list ds)) (hy : Dp K H y (.list [])) (h : Sh n (.list ds)) (q : Q (.bl (!ds.isEmpty)) H) (hn : n ≤ 64 := by decide) : rNeD K x y H Q := by
  refine ⟨_, _, hx, hy, h.shaped hn, (Sh.lst (n := 1) (ds := []) fun _ h => nomatch h).shaped, ?_⟩
  rw [eqv_nilR]
  exact q
theorem q_eqSh {a b c : Nat} (hx : Dp K H x (shD a c)) (hy : Dp K H y (shD b c)) (hc : 0 < c) (q : Q (.bl (decide (a = b))) H) : rEqD K x y H Q := by
  refine ⟨_, _, hx, hy, (sh_sh a c).shaped, (sh_sh b c).shaped, ?_⟩
  rw [eqv_sh hc]
  exact q
end
/-! ### ahead_of -/
def sp_ahead_of (K : PySem.W.Frag) : Sp := fun vs H Q _ => ∃ (N : List Addr) (v v2 : V) (x y b : Nat), vs = [v, v2] ∧ Dw K N H v (shD x b) ∧ Dw K N H v2 (shD y b) ∧ 0 < b ∧ x < 2 ^ 60 ∧ y < 2 ^ 60 ∧ Q (.bl (decide (x < y))) H
theorem sc_ahead_of : FnScope ["one", "other"] ["one", "other"] (defScope s_ahead_of) := ⟨rfl, rfl, rfl, by decide +kernel, rfl, by decide +kernel, by decide +kernel⟩
theorem ok_ahead_of (T : Tx w K mg a) : C8.Cal P w K mg base 1 "ahead_of" (sp_ahead_of K) [] := by
  refine calD T.d_ahead_of sc_ahead_of (fun _ _ _ _ _ _ us hl => match us, hl with | [_, _], _ => rfl) (fun vs H Q E h => ?_) (fun f cdv A outer s H vs Q E hr h => ?_)
  · obtain ⟨N, v, v2, x, y, b, rfl, _⟩ := h
    rfl
  · obtain ⟨N, v, v2, x, y, b, rfl, hv, hv2, hb, hx, hy, q⟩ := h
    refine ⟨_, (pss_one (ps_ret (pe_cmpR op_lt (pe_op op_mul (pe_ix (kix_tup (K := K) rfl) (pv 0) pe_int (fun _ _ => rfl)) (pe_ix (kix_tup (K := K) rfl) (pv 1) pe_int (fun _ _ => rfl))) (pe_op op_mul (pe_ix (kix_tup (K := K) rfl) (pv 1) pe_int (fun _ _ => rfl)) (pe_ix (kix_tup (K := K) rfl) (pv 0) pe_int (fun _ _ => rfl))) (nomark _)))), ?_⟩
    have lx : x / Nat.gcd x b < 2 ^ 60 := Nat.lt_of_le_of_lt (Nat.div_le_self _ _) hx
    have ly : y / Nat.gcd y b < 2 ^ 60 := Nat.lt_of_le_of_lt (Nat.div_le_self _ _) hy
    have nx := Int.natCast_nonneg (x / Nat.gcd x b)
    have ny := Int.natCast_nonneg (y / Nat.gcd y b)
    tm_at "ev"
    refine q_ixTi hv (atI_n (n := 0) rfl) ?_
    tm_at "ev"
    refine q_ixTi hv2 (atI_n (n := 1) rfl) ?_
    refine ⟨_, _, rfl, rfl, .inl ⟨by omega, by omega⟩, ?_⟩
    tm_at "ev"
    refine q_ixTi hv2 (atI_n (n := 0) rfl) ?_
    tm_at "ev"
    refine q_ixTi hv (atI_n (n := 1) rfl) ?_
    refine ⟨_, _, rfl, rfl, .inl ⟨by omega, by omega⟩, ?_⟩
    tm_at "ev"
    have e : decide (((x / Nat.gcd x b : Nat) : Int) * ((b / Nat.gcd y b : Nat) : Int) < ((y / Nat.gcd y b : Nat) : Int) * ((b / Nat.gcd x b : Nat) : Int)) = decide (x < y) := by
      refine decide_eq_decide.mpr ?_
      rw [← sh_lt (x := x) (y := y) hb]
      exact_mod_cast Iff.rfl
    rw [e]
    exact q
/-! ### timed -/
def sp_timed (ad : Ad) (K : PySem.W.Frag) : Sp := fun vs H Q _ => ∃ (N : List Addr) (v : V) (m : Addr) (b : Int) (ps : Ps) (l : List Ev), vs = [v, .ref m] ∧ Live N H ∧ Dw K N H v (trD l) ∧ (∀ e ∈ l, e.ok) ∧ l.length ≤ 1000 ∧ MapAt ad (wo N H) m b ps ∧ PsOk ps ∧ BeatOk b ∧
  ∀ r H', NewL K N H H' r (l.map (row ps b)) → Q (.ref r) H'
theorem sc_timed : FnScope ["track", "own", "event"] ["track", "own"] (defScope s_timed) := ⟨rfl, rfl, rfl, by decide +kernel, rfl, by decide +kernel, by decide +kernel⟩
theorem ok_timed (T : Tx w K mg a) (m_Map_moment : C8.Met P w K mg base 4 a.cM "moment" (sp_Map_moment a K) []) : C8.Cal P w K mg base 5 "timed" (sp_timed a K) [] := by
  refine calD T.d_timed sc_timed (fun _ _ _ _ _ _ us hl => match us, hl with | [_, _], _ => rfl) (fun vs H Q E h => ?_) (fun f cdv A outer s H vs Q E hr h => ?_)
  · obtain ⟨N, v, m, b, ps, l, rfl, _⟩ := h
    rfl
  · obtain ⟨N, v, m, b, ps, l, rfl, lv, hv, ok, hl, hm, okp, okb, q⟩ := h
    refine ⟨_, (pss_one (ps_ret (pe_lc (own := [("event", 2)]) rfl sc_timed.nd (k_list (K := K) rfl (pi_list (pv 0))) (blkOk_by (own := [("event", 2)]) (N := ["track", "own", "event"]) (sc := defScope s_timed) (by decide +kernel)) (fun _ _ _ _ _ => pg_name (i := 2) sc_timed.nd rfl (Or.inl rfl)) (fun _ _ _ _ _ => pts_nil) (fun _ _ _ _ _ => pe_tup (pa_cons (C8.pe_mt m_Map_moment hr (by decide) (pv 1) (pa_cons (pe_ix (kix_tup (K := K) rfl) (pv 2) pe_int (fun _ _ => rfl)) pa_nil)) (pa_cons (pe_slice (ksl_tup (K := K) rfl) (pv 2) (po_some pe_int) po_none) pa_nil)))))), ?_⟩
    have hm' := hm
    obtain ⟨d, ⟨dm, k1⟩, k2⟩ := hm'
    tm_at "ev"
    obtain ⟨p1, xs1, e1, hx1, dx1⟩ := dp_lst hv
    cases e1
    refine ⟨p1, rfl, ⟨_, sqL_mono wo_sub hx1⟩, fun D2 hD2 => lc_map (K := K) N l Ev.d (row ps b) (sqL_mono wo_sub hx1) dx1 hD2 (by omega) lv ?_ ?_⟩
    · intro e he x H2 s2 lv2 dx Y hY
      have oke := ok e he
      tm_at "ev"
      refine ⟨rfl, ?_⟩
      tm_at "ev"
      refine ⟨m, dm, _, rfl, s2 _ _ (wo_of k1).2, rfl, ?_⟩
      tm_at "ev"
      have dx' : Dw K (D2 :: N) H2 x (.tuple (.int e.t :: e.th.ds)) := dx
      refine q_ixTi dx' (atI_n (n := 0) rfl) ?_
      tm_at "ev"
      refine ⟨D2 :: N, m, b, e.t, ps, rfl, lv2, hm.mono (wo_more hD2 s2), okp, okb, oke.1, fun v3 H3 s3 d3 => ?_⟩
      have lv3 := lv2.same s3
      tm_at "ev"
      refine q_slT 1 lv3 (dx'.up s3) fun v4 H4 s4 d4 => ?_
      tm_at "ev"
      refine ⟨sz2, fun p5 hp5 => ?_⟩
      have lv4 := lv3.same s4
      have t5 := dw_tup (K := K) lv4 (xs := [v3, v4]) (ds := [shD (mom ps e.t).toNat b.toNat, e.th.d]) (.cons (d3.up s4) (.cons d4 .nil)) hp5
      exact hY _ _ ((s3.trans s4).trans t5.1) t5.2
    intro H3 n3
    tm_at "ev"
    exact q D2 H3 n3
/-! ### next_moment -/
structure IsMin (l m : List Ev) (t : Int) : Prop where
  ex : (∃ e r, l = e :: r ∧ e.t = t) ∨ ∃ e r, m = e :: r ∧ e.t = t
  l : ∀ e r, l = e :: r → t ≤ e.t
  m : ∀ e r, m = e :: r → t ≤ e.t
def sp_next_moment (K : PySem.W.Frag) : Sp := fun vs H Q _ => ∃ (N : List Addr) (p q : Addr) (us us' : List V) (l m : List Ev) (ps : Ps) (b : Int), vs = [.ref p, .ref q] ∧ Live N H ∧ H p = some (.lst us) ∧ H q = some (.lst us') ∧ p ∉ N ∧ q ∉ N ∧ DwA K N H us (l.map (row ps b)) ∧ DwA K N H us' (m.map (row ps b)) ∧
  (∀ e ∈ l, e.ok) ∧ (∀ e ∈ m, e.ok) ∧ l.length + m.length ≤ 1000 ∧ (l ≠ [] ∨ m ≠ []) ∧ PsOk ps ∧ BeatOk b ∧ ∀ v H' t, Same H H' → Dw K N H' v (shD (mom ps t).toNat b.toNat) → IsMin l m t → (0 ≤ t ∧ t ≤ 999999) → Q v H'
theorem sc_next_moment : FnScope ["rows", "others"] ["rows", "others"] (defScope s_next_moment) := ⟨rfl, rfl, rfl, by decide +kernel, rfl, by decide +kernel, by decide +kernel⟩
theorem isE_map {α β : Type} {l : List α} {f : α → β} : (l.map f).isEmpty = l.isEmpty := by cases l <;> rfl
theorem ok_next_moment (T : Tx w K mg a) (c_ahead_of : C8.Cal P w K mg base 1 "ahead_of" (sp_ahead_of K) []) : C8.Cal P w K mg base 2 "next_moment" (sp_next_moment K) [] := by
  refine calD T.d_next_moment sc_next_moment (fun _ _ _ _ _ _ us hl => match us, hl with | [_, _], _ => rfl) (fun vs H Q E h => ?_) (fun f cdv A outer s H vs Q E hr h => ?_)
  · obtain ⟨N, p, q, us, us', l, m, ps, b, rfl, _⟩ := h
    rfl
  · obtain ⟨N, p, q0, us, us', l, m, ps, b, rfl, lv, hp, hq, pN, qN, du, du', okl, okm, hlen, hne, okp, okb, q⟩ := h
    refine ⟨_, (pss_cons (ps_if (PW.pt (pw_or (pt_cmpR (kop_eq (K := K) rfl hr.units) (pv 0) (pe_lst pa_nil) (nomark _)) (pw_or1 (pt_cmpR (kop_eq (K := K) rfl hr.units) (pv 1) (pe_lst pa_nil) (nomark _))))) (pss_one (ps_ret (pe_ix (kix_tup (K := K) rfl) (pe_ix (kix_list (K := K) rfl) (pe_op op_cat (pv 0) (pv 1)) pe_int (fun _ _ => rfl)) pe_int (fun _ _ => rfl)))) pss_nil)
      (pss_one (ps_ret (pe_ifExp (pt_val (C8.pe_c c_ahead_of hr (by decide) rfl (pa_cons (pe_ix (kix_tup (K := K) rfl) (pe_ix (kix_list (K := K) rfl) (pv 1) pe_int (fun _ _ => rfl)) pe_int (fun _ _ => rfl)) (pa_cons (pe_ix (kix_tup (K := K) rfl) (pe_ix (kix_list (K := K) rfl) (pv 0) pe_int (fun _ _ => rfl)) pe_int (fun _ _ => rfl)) pa_nil)))) (pe_ix (kix_tup (K := K) rfl) (pe_ix (kix_list (K := K) rfl) (pv 1) pe_int (fun _ _ => rfl)) pe_int (fun _ _ => rfl)) (pe_ix (kix_tup (K := K) rfl) (pe_ix (kix_list (K := K) rfl) (pv 0) pe_int (fun _ _ => rfl)) pe_int (fun _ _ => rfl)))))), ?_⟩
    have dl : Dw K N H (.ref p) (.list (l.map (row ps b))) := .lst (.inl (.inl (wo_at pN hp))) du
    have dm : Dw K N H (.ref q0) (.list (m.map (row ps b))) := .lst (.inl (.inl (wo_at qN hq))) du'
    have shl : Sh 4 (.list (l.map (row ps b))) := sh_map fun e he => sh_row ps b e (okl e he)
    have shm : Sh 4 (.list (m.map (row ps b))) := sh_map fun e he => sh_row ps b e (okm e he)
    tm_at "ev"
    refine ⟨sz0, fun p1 hp1 => ?_⟩
    have n1 := newL_lst (K := K) (N := N) (xs := []) (ds := []) .nil hp1
    have lv1 := lv.same n1.same
    refine q_eqNil (dl.up n1.same).real (n1.dw lv).real shl ?_
    rw [isE_map]
    generalize upd H p1 (.lst []) = H1 at n1 lv1 ⊢
    tm_at "ev"
    have both : ∀ H2, Same H H2 → Live N H2 → (l = [] ∨ m = []) → ∀ (R : VK), (∀ v H' t, Same H2 H' → Dw K N H' v (shD (mom ps t).toNat b.toNat) → IsMin l m t → (0 ≤ t ∧ t ≤ 999999) → R v H') →
        rCat (.ref p) (.ref q0) H2 fun v3 H3 => rIxL K v3 (.int 0) H3 fun v4 H4 => rIxT K v4 (.int 0) H4 R := by
      intro H2 s2 lv2 hor R hR
      refine q_cat (N := N) (s2 _ _ hp) (s2 _ _ hq) (DwA.up du s2) (DwA.up du' s2) (by rw [List.length_map, List.length_map]; omega) fun r H3 n3 => ?_
      have d3 := n3.dw lv2
      rw [← List.map_append] at d3
      obtain ⟨e, rest, hc, oke, hmin⟩ : ∃ e rest, l ++ m = e :: rest ∧ e.ok ∧ IsMin l m e.t := by
        rcases hor with h | h
        · subst h
          cases m with
          | nil => exact absurd rfl (hne.elim (fun z => z) fun z => z)
          | cons e r => exact ⟨e, r, rfl, okm e (by simp), .inr ⟨e, r, rfl, rfl⟩, (fun e r h => nomatch h), fun e' r' h => by cases h; exact Int.le_refl _⟩
        · subst h
          cases l with
          | nil => exact absurd rfl (hne.elim (fun z => z) fun z => z)
          | cons e r => exact ⟨e, r, by simp, okl e (by simp), .inl ⟨e, r, rfl, rfl⟩, fun e' r' h => by cases h; exact Int.le_refl _, (fun e r h => nomatch h)⟩
      rw [hc] at d3
      refine q_ixL d3 (atI_n (n := 0) rfl) fun v4 d4 => ?_
      refine q_ixT d4 (atI_n (n := 0) rfl) fun v5 d5 => ?_
      exact hR v5 H3 e.t n3.same d5 hmin oke.1
    cases l with
    | nil =>
      refine if_t rfl ?_
      tm_at "ev"
      refine if_t rfl ?_
      tm_at "ev"
      exact both H1 n1.same lv1 (.inl rfl) _ fun v H' t s' d' h1 h2 => q v H' t (n1.same.trans s') d' h1 h2
    | cons e r =>
      refine if_f rfl ?_
      tm_at "ev"
      refine ⟨sz0, fun p2 hp2 => ?_⟩
      have n2 := newL_lst (K := K) (N := N) (xs := []) (ds := []) .nil hp2
      have lv2 := lv1.same n2.same
      have s12 := n1.same.trans n2.same
      refine q_eqNil (dm.up s12).real (n2.dw lv1).real shm ?_
      rw [isE_map]
      generalize upd H1 p2 (.lst []) = H2 at n2 lv2 s12 ⊢
      tm_at "ev"
      cases m with
      | nil =>
        refine if_t rfl ?_
        tm_at "ev"
        exact both H2 s12 lv2 (.inr rfl) _ fun v H' t s' d' h1 h2 => q v H' t (s12.trans s') d' h1 h2
      | cons e2 r2 =>
        refine if_f rfl ?_
        tm_at "ev"
        have ok1 := okl e (by simp)
        have ok2 := okm e2 (by simp)
        have dl2 := dl.up s12
        have dm2 := dm.up s12
        have b1 : 0 < b.toNat := by have := okb.1; omega
        have le : ∀ t : Int, 0 ≤ t → t ≤ 999999 → (mom ps t).toNat < 2 ^ 60 := fun t h1 h2 => by
          have := mom_le okp h1
          have : t * 16777215 ≤ 999999 * 16777215 := Int.mul_le_mul_of_nonneg_right h2 (by decide)
          omega
        refine q_ixL dm2 (atI_n (n := 0) rfl) fun v4 d4 => ?_
        tm_at "ev"
        refine q_ixT d4 (atI_n (n := 0) rfl) fun v5 d5 => ?_
        tm_at "ev"
        refine q_ixL dl2 (atI_n (n := 0) rfl) fun v6 d6 => ?_
        tm_at "ev"
        refine q_ixT d6 (atI_n (n := 0) rfl) fun v7 d7 => ?_
        tm_at "ev"
        refine ⟨N, v5, v7, _, _, _, rfl, d5, d7, b1, le _ ok2.1.1 ok2.1.2, le _ ok1.1.1 ok1.1.2, ?_⟩
        have mo := Mo.of okp
        have nn1 := mom_nn okp ok1.1.1
        have nn2 := mom_nn okp ok2.1.1
        tm_at "ev"
        refine if_dd (fun hlt => ?_) fun hnl => ?_
        · have lt : e2.t < e.t := by
            rcases Int.lt_trichotomy e2.t e.t with h | h | h
            · exact h
            · rw [h] at hlt; omega
            · have := mom_mono mo ok1.1.1 h; omega
          tm_at "ev"
          refine q_ixL dm2 (atI_n (n := 0) rfl) fun v8 d8 => ?_
          tm_at "ev"
          refine q_ixT d8 (atI_n (n := 0) rfl) fun v9 d9 => ?_
          exact q v9 H2 e2.t s12 d9 ⟨.inr ⟨e2, r2, rfl, rfl⟩, fun e' r' h => by cases h; omega, fun e' r' h => by cases h; omega⟩ ok2.1
        · have le' : e.t ≤ e2.t := by
            rcases Int.lt_trichotomy e2.t e.t with h | h | h
            · have := mom_mono mo ok2.1.1 h; omega
            · omega
            · omega
          tm_at "ev"
          refine q_ixL dl2 (atI_n (n := 0) rfl) fun v8 d8 => ?_
          tm_at "ev"
          refine q_ixT d8 (atI_n (n := 0) rfl) fun v9 d9 => ?_
          exact q v9 H2 e.t s12 d9 ⟨.inl ⟨e, r, rfl, rfl⟩, fun e' r' h => by cases h; omega, fun e' r' h => by cases h; omega⟩ ok1.1
end
end Tp
set_option maxHeartbeats 4000000
namespace Tp
open PySem PySem.Spec PyProof.Rows L2
local macro_rules | `(tactic| tm_at "ev") => `(tactic| repeat first
  | with_reducible refine ev_seq ?_ | with_reducible refine ev_asg ?_ | with_reducible refine ev_drop ?_ | with_reducible refine ev_ret ?_ | with_reducible refine ev_ifS ?_ | with_reducible refine ev_next ?_
  | ((with_reducible refine' ev_var ?k1 ?_); (case k1 => exact rfl)) | with_reducible refine ev_c ?_ | with_reducible refine ev_op ?_ | with_reducible refine ev_I0 ?_ | with_reducible refine ev_test ?_ | with_reducible refine ev_B ?_ | with_reducible refine ev_bl ?_
  | ((with_reducible refine ev_eq ?k1 ?_); (case k1 => exact rfl)) | ((with_reducible refine ev_ne ?k1 ?_); (case k1 => exact rfl))
  | ((with_reducible refine' ev_nameL ?k1 ?_); (case k1 => first | (dsimp only [L2.start, wipe, List.map, List.set, List.length, List.replicate, List.append]; exact rfl) | exact rfl)) | with_reducible refine ev_name ?_ | with_reducible refine ev_nil ?_ | with_reducible refine ev_cons ?_ | with_reducible refine ev_call ?_ | with_reducible refine ev_tup ?_ | with_reducible refine ev_lst ?_ | with_reducible refine ev_CB ?_ | with_reducible refine ev_fld ?_
  | with_reducible refine ev_not ?_ | with_reducible refine ev_and ?_ | with_reducible refine ev_or ?_ | with_reducible refine ev_andV ?_ | with_reducible refine ev_orV ?_ | with_reducible refine ev_ifE ?_ | with_reducible refine ev_chain ?_ | with_reducible refine ev_meth ?_ | with_reducible refine ev_un ?_
  | with_reducible refine ev_sl ?_ | with_reducible refine ev_part ?_ | with_reducible refine ev_nopart ?_ | with_reducible refine ev_int ?_ | with_reducible refine ev_for ?_ | with_reducible refine ev_list ?_ | with_reducible refine ev_lc ?_ | with_reducible refine ev_gcons ?_ | with_reducible refine ev_gnil ?_ | with_reducible refine ev_sfld ?_ | with_reducible refine ev_make ?_ | with_reducible refine ev_notV ?_ | with_reducible refine ev_yes ?_ | with_reducible refine ev_dget ?_ | with_reducible refine ev_dput ?_ | with_reducible refine ev_bm ?_ | with_reducible refine ev_bm0 ?_ | with_reducible refine ev_items ?_ | with_reducible refine ev_keys ?_ | with_reducible refine ev_enum ?_ | with_reducible refine ev_tupI ?_ | with_reducible refine ev_par ?_ | with_reducible refine ev_two ?_ | with_reducible refine ev_kget ?_ | with_reducible refine ev_gsub ?_ | with_reducible refine ev_tapeK ?_ | with_reducible refine ev_str ?_ | with_reducible refine ev_txt ?_ | with_reducible refine ev_lc2 ?_ | with_reducible refine ev_dget2 ?_ | with_reducible refine ev_rU ?_ | with_reducible refine ev_ckw ?_ | with_reducible refine ev_dnotin ?_ | with_reducible refine ev_din ?_ | with_reducible refine ev_gfld ?_ | with_reducible refine ev_saug ?_ | with_reducible refine ev_finN ?_ | with_reducible refine ev_zs ?_ | with_reducible refine ev_rng1 ?_)
section
variable {P : Program} {w : World} {K : PySem.W.Frag} {mg : Str → Option Value} {base : Heap} {a : Ad}
/-! ### unlike -/
theorem StandAt.le {ad : Ad} {G : Hp} {p : Addr} {s : Sd} {n k : Nat} (h : StandAt ad K G p s n) (e : n ≤ k) : StandAt ad K G p s k := by
  obtain ⟨dx, r, t, c, er, et, ec, h1, h2, h3, h4, h5, h6, h7, h8⟩ := h
  exact ⟨dx, r, t, c, er, et, ec, h1, h2, h3, h4, Nat.le_trans h5 e, Nat.le_trans h6 e, Nat.le_trans h7 e, fun q => Nat.le_trans (h8 q) e⟩
def Thr (l : List Ev) (i : Nat) (u : Int) : Prop := (∀ e ∈ l.take i, e.t ≤ u) ∧ ∀ e ∈ l.drop i, u < e.t
theorem thr_fil {l : List Ev} {i : Nat} {u : Int} (h : Thr l i u) : l.filter (fun e => decide (e.t ≤ u)) = l.take i := by
  have h1 : (l.take i).filter (fun e => decide (e.t ≤ u)) = l.take i := List.filter_eq_self.mpr fun e he => decide_eq_true (h.1 e he)
  have h2 : (l.drop i).filter (fun e => decide (e.t ≤ u)) = [] := List.filter_eq_nil_iff.mpr fun e he z => absurd (of_decide_eq_true z) (by have := h.2 e he; omega)
  have h3 : l.filter (fun e => decide (e.t ≤ u)) = (l.take i ++ l.drop i).filter (fun e => decide (e.t ≤ u)) := by rw [List.take_append_drop]
  rw [h3, List.filter_append, h1, h2, List.append_nil]
theorem up_head {l : List Ev} {i : Nat} {e : Ev} {r : List Ev} (up : l.Pairwise fun x y => x.t ≤ y.t) (h : l.drop i = e :: r) : ∀ y ∈ l.drop i, e.t ≤ y.t := by
  have q : (e :: r).Pairwise fun x y => x.t ≤ y.t := h ▸ up.sublist (List.drop_sublist i l)
  rw [h]
  intro y hy
  rcases List.mem_cons.mp hy with rfl | hy
  · exact Int.le_refl _
  · exact (List.pairwise_cons.mp q).1 y hy
theorem drop_next {l : List Ev} {i : Nat} {e : Ev} {r : List Ev} (h : l.drop i = e :: r) : i < l.length ∧ l.drop (i + 1) = r ∧ l.take (i + 1) = l.take i ++ [e] := by
  have hi : i < l.length := by
    rcases Nat.lt_or_ge i l.length with h1 | h1
    · exact h1
    · rw [List.drop_of_length_le h1] at h
      cases h
  have h2 := List.drop_eq_getElem_cons hi
  rw [h] at h2
  injection h2 with h3 h4
  refine ⟨hi, h4.symm, ?_⟩
  rw [h3]
  exact take_up (List.getElem?_eq_getElem hi)
/-- (when, thing), *rows = rows -/
theorem q_starR {N : List Addr} {H : Hp} {p : Addr} {us : List V} {d e : PyData} {ds : List PyData} {t : TGs} {σ : L2.St} {i9 i10 : Nat} {R : L2.St → Hp → Prop} (hp : H p = some (.lst us)) (h : DwA K N H us (.tuple [d, e] :: ds)) (z : ds.length ≤ 16000)
    (q : ∀ x y r, Dw K N H x d → Dw K N H y e → H r = none → ∀ H', NewL K N H H' r ds → gName i9 x σ H' fun σ' H'' => gName i10 y σ' H'' fun σ2 H2 => t [.ref r] σ2 H2 R) :
    gStar K 1 (gCons (gTup K 2 (gCons (gName i9) (gCons (gName i10) gNil))) t) (.ref p) σ H R := by
  obtain ⟨x, vs, rfl, h1, h2⟩ := dpA_cons h
  have l := dpA_len h2
  refine ⟨p, _, rfl, .inr (.inl (.inl hp)), by rw [List.length_cons]; omega, by rw [List.length_cons]; omega, fun r n => ?_⟩
  have nw := newL_lst (K := K) (N := N) (xs := vs) h2 n
  obtain ⟨p2, us2, rfl, k1, k2⟩ := dp_tup (dp_mono (wo_same nw.same) h1)
  obtain ⟨u1, r1, rfl, e1, k2⟩ := dpA_cons k2
  obtain ⟨u2, r2, rfl, e2, k2⟩ := dpA_cons k2
  obtain rfl := dpA_nil k2
  obtain ⟨p3, us3, e3, k3, k4⟩ := dp_tup h1
  cases e3
  obtain ⟨u3, r3, rfl, f1, k4⟩ := dpA_cons k4
  obtain ⟨u4, r4, rfl, f2, k4⟩ := dpA_cons k4
  obtain rfl := dpA_nil k4
  refine ⟨_, _, rfl, ?_⟩
  refine ⟨p2, _, rfl, sqT_mono (wo_sub.trans nw.same) k3, rfl, ?_⟩
  exact ⟨_, _, rfl, ⟨_, _, rfl, ⟨rfl, q u3 u4 r f1 f2 n _ nw⟩⟩⟩
/-- the rows from i on are at slot r, the stand behind those ahead at slot s -/
structure Row (K : PySem.W.Frag) (ad : Ad) (N : List Addr) (ps : Ps) (b : Int) (l : List Ev) (r s i : Nat) (σ : L2.St) (H : Hp) : Prop where
  il : i ≤ l.length
  ex : ∃ p us x, σ[r]? = some (some (.ref p)) ∧ σ[s]? = some (some (.ref x)) ∧ H p = some (.lst us) ∧ p ∉ N ∧ DwA K N H us ((l.drop i).map (row ps b)) ∧ StandAt ad K (wo N H) x (Sd.nil.run (l.take i)) i
theorem Row.up {ad : Ad} {N : List Addr} {ps : Ps} {b : Int} {l : List Ev} {r s i : Nat} {σ σ' : L2.St} {H H' : Hp} (h : Row K ad N ps b l r s i σ H) (sm : Same H H') (e1 : σ'[r]? = σ[r]?) (e2 : σ'[s]? = σ[s]?) : Row K ad N ps b l r s i σ' H' := by
  obtain ⟨p, us, x, h1, h2, h3, h4, h5, h6⟩ := h.ex
  exact ⟨h.il, p, us, x, e1.trans h1, e2.trans h2, sm _ _ h3, h4, DwA.up h5 sm, h6.mono (wo_same sm)⟩
theorem q_orNil {N : List Addr} {H : Hp} {σ : L2.St} {i j : Nat} {p q : Addr} {ds es : List PyData} {n : Nat} {QB : Bool → Hp → Prop} (h1 : σ[i]? = some (some (.ref p))) (h2 : σ[j]? = some (some (.ref q))) (lv : Live N H) (d1 : Dw K N H (.ref p) (.list ds)) (d2 : Dw K N H (.ref q) (.list es))
    (s1 : Sh n (.list ds)) (s2 : Sh n (.list es)) (hn : n ≤ 64) (k : ∀ H', Same H H' → QB (!ds.isEmpty || !es.isEmpty) H') : tOr (tTest (tOp (rNeD K) (tVar i) (tLst tNil))) (tTest (tOp (rNeD K) (tVar j) (tLst tNil))) σ H QB := by
  refine ⟨_, h1, sz0, fun a1 ha1 => ?_⟩
  have n1 := newL_lst (K := K) (N := N) (xs := []) (ds := []) .nil ha1
  have lv1 := lv.same n1.same
  refine q_neNil (d1.up n1.same).real (n1.dw lv).real s1 ⟨_, rfl, ?_⟩ hn
  cases ds with
  | cons d ds => exact if_t rfl (k _ n1.same)
  | nil =>
    refine if_f rfl ?_
    refine ⟨_, h2, sz0, fun a2 ha2 => ?_⟩
    have n2 := newL_lst (K := K) (N := N) (xs := []) (ds := []) .nil ha2
    have s12 := n1.same.trans n2.same
    exact q_neNil (d2.up s12).real (n2.dw lv1).real s2 ⟨_, rfl, by rw [show (!List.isEmpty ([] : List PyData) || !es.isEmpty) = !es.isEmpty from rfl] at k; exact k _ s12⟩ hn
def headIs (l : List Ev) (t : Int) : Bool := match l with
  | [] => false
  | e :: _ => decide (e.t = t)
theorem q_andHead {N : List Addr} {H : Hp} {σ : L2.St} {i : Nat} {p : Addr} {vm : V} {ps : Ps} {b t : Int} {l : List Ev} {QB : Bool → Hp → Prop} (h1 : σ[i]? = some (some (.ref p))) (h8 : σ[8]? = some (some vm)) (lv : Live N H) (d1 : Dw K N H (.ref p) (.list (l.map (row ps b))))
    (dm : Dw K N H vm (shD (mom ps t).toNat b.toNat)) (okl : ∀ e ∈ l, e.ok) (ht : 0 ≤ t) (okp : PsOk ps) (hb : 0 < b.toNat) (k : ∀ H', Same H H' → QB (headIs l t) H') :
    tAnd (tTest (tOp (rNeD K) (tVar i) (tLst tNil))) (tTest (tOp (rEqD K) (tOp (rIxT K) (tOp (rIxL K) (tVar i) (tC (.int 0))) (tC (.int 0))) (tVar 8))) σ H QB := by
  have sh : Sh 4 (.list (l.map (row ps b))) := sh_map fun e he => sh_row ps b e (okl e he)
  refine ⟨_, h1, sz0, fun a1 ha1 => ?_⟩
  have n1 := newL_lst (K := K) (N := N) (xs := []) (ds := []) .nil ha1
  refine q_neNil (d1.up n1.same).real (n1.dw lv).real sh ⟨_, rfl, ?_⟩
  cases l with
  | nil => exact if_f rfl (k _ n1.same)
  | cons e l =>
    refine if_t rfl ?_
    have d2 := d1.up n1.same
    refine ⟨_, h1, ?_⟩
    tm_at "ev"
    refine q_ixL d2 (atI_n (n := 0) rfl) fun v4 d4 => ?_
    tm_at "ev"
    refine q_ixT d4 (atI_n (n := 0) rfl) fun v5 d5 => ?_
    refine ⟨_, h8, ?_⟩
    refine q_eqSh d5.real (dm.up n1.same).real hb ⟨_, rfl, ?_⟩
    have ok1 := (okl e (by simp)).1
    have mo := Mo.of okp
    have e1 : decide ((mom ps e.t).toNat = (mom ps t).toNat) = headIs (e :: l) t := by
      refine decide_eq_decide.mpr ⟨fun h => ?_, fun h => by rw [h]⟩
      have h1 := mom_nn okp ok1.1
      have h2 := mom_nn okp ht
      exact mom_inj mo ok1.1 ht (by omega)
    rw [e1]
    exact k _ n1.same
def innerC (K : PySem.W.Frag) (r : Nat) : TT := tAnd (tTest (tOp (rNeD K) (tVar r) (tLst tNil))) (tTest (tOp (rEqD K) (tOp (rIxT K) (tOp (rIxL K) (tVar r) (tC (.int 0))) (tC (.int 0))) (tVar 8)))
def innerB (K : PySem.W.Frag) (ad : Ad) (r s : Nat) : TS := tSeq (tAsg (tVar r) (gStar K 1 (gCons (gTup K 2 (gCons (gName 9) (gCons (gName 10) gNil))) (gCons (gName r) gNil)))) (tAsg (tMeth ad.cS "after" (sp_Stand_after ad K) [] C8.E0 (tVar s) (tCons (tVar 10) tNil)) (gName s))
theorem rows_loop {ad : Ad} {N : List Addr} {ps : Ps} {b t : Int} {l : List Ev} {r s i : Nat} {σ : L2.St} {H : Hp} {D : Ends} {vm : V} (hr : r < 8) (hs : s < 8) (hrs : r ≠ s) (up : l.Pairwise fun x y => x.t ≤ y.t) (okl : ∀ e ∈ l, e.ok) (ll : l.length ≤ 60) (ht : 0 ≤ t) (okp : PsOk ps) (hb : 0 < b.toNat)
    (lv : Live N H) (hl : σ.length = 11) (h8 : σ[8]? = some (some vm)) (dm : Dw K N H vm (shD (mom ps t).toNat b.toNat)) (R : Row K ad N ps b l r s i σ H) (t1 : ∀ e ∈ l.take i, e.t ≤ t) (t2 : ∀ e ∈ l.drop i, t ≤ e.t)
    (done : ∀ σ' H' i', i ≤ i' → σ'.length = 11 → (∀ k, k ≠ r → k ≠ s → k ≠ 9 → k ≠ 10 → σ'[k]? = σ[k]?) → Same H H' → Row K ad N ps b l r s i' σ' H' → Thr l i' t → D.nx σ' H') : tWhile (innerC K r) (innerB K ad r s) D σ H := by
  refine ⟨fun mm σ' H' => ∃ i', mm = l.length - i' ∧ i ≤ i' ∧ σ'.length = 11 ∧ (∀ k, k ≠ r → k ≠ s → k ≠ 9 → k ≠ 10 → σ'[k]? = σ[k]?) ∧ Same H H' ∧ Row K ad N ps b l r s i' σ' H' ∧ (∀ e ∈ l.take i', e.t ≤ t) ∧ ∀ e ∈ l.drop i', t ≤ e.t,
    ⟨_, i, rfl, Nat.le_refl _, hl, fun _ _ _ _ _ => rfl, same_rfl, R, t1, t2⟩, ?_⟩
  rintro mm σ' H' ⟨i', rfl, hi, hl', hk, sm, R', t1', t2'⟩
  obtain ⟨p, us, x, k1, k2, k3, k4, k5, k6⟩ := R'.ex
  have lv' := lv.same sm
  have k8 : σ'[8]? = some (some vm) := (hk 8 (by omega) (by omega) (by decide) (by decide)).trans h8
  have dl : Dw K N H' (.ref p) (.list ((l.drop i').map (row ps b))) := .lst (.inl (.inl (wo_at k4 k3))) k5
  refine q_andHead k1 k8 lv' dl (dm.up sm) (fun e he => okl e (List.mem_of_mem_drop he)) ht okp hb fun H2 s2 => ?_
  have sm2 := sm.trans s2
  have lv2 := lv.same sm2
  have R2 := R'.up s2 rfl rfl
  cases hd : l.drop i' with
  | nil =>
    refine if_f rfl ?_
    exact done σ' H2 i' hi hl' hk sm2 R2 ⟨t1', fun e he => by rw [hd] at he; cases he⟩
  | cons e rest =>
    by_cases he : e.t = t
    · refine if_t (decide_eq_true he) ?_
      obtain ⟨lt, hd2, ht2⟩ := drop_next hd
      refine ⟨fun σ3 H3 => ∃ m', m' < l.length - i' ∧ ∃ i', m' = l.length - i' ∧ i ≤ i' ∧ σ3.length = 11 ∧ (∀ k, k ≠ r → k ≠ s → k ≠ 9 → k ≠ 10 → σ3[k]? = σ[k]?) ∧ Same H H3 ∧ Row K ad N ps b l r s i' σ3 H3 ∧ (∀ e ∈ l.take i', e.t ≤ t) ∧ ∀ e ∈ l.drop i', t ≤ e.t, fun _ _ h => h, ?_⟩
      refine ⟨_, k1, ?_⟩
      have d5 : DwA K N H2 us (.tuple [shD (mom ps e.t).toNat b.toNat, e.th.d] :: rest.map (row ps b)) := by
        have := DwA.up k5 s2
        rw [hd] at this
        exact this
      have lr : rest.length ≤ 60 := by
        have := congrArg List.length hd
        rw [List.length_drop, List.length_cons] at this
        omega
      refine q_starR (s2 _ _ k3) d5 (by rw [List.length_map]; omega) fun v9 v10 q2 dv9 dv10 hq2 H3 n3 => ?_
      have lv3 := lv2.same n3.same
      refine ⟨_, _, rfl, ⟨rfl, ?_⟩⟩
      have l3 : (((σ'.set 9 (some v9)).set 10 (some v10)).set r (some (.ref q2))).length = 11 := by simp [hl']
      have g_s : (((σ'.set 9 (some v9)).set 10 (some v10)).set r (some (.ref q2)))[s]? = some (some (.ref x)) := by
        rw [List.getElem?_set_ne hrs, List.getElem?_set_ne (by omega), List.getElem?_set_ne (by omega)]
        exact k2
      have g_10 : (((σ'.set 9 (some v9)).set 10 (some v10)).set r (some (.ref q2)))[10]? = some (some v10) := by
        rw [List.getElem?_set_ne (by omega), List.getElem?_set_self (by rw [List.length_set]; omega)]
      obtain ⟨dx, _, _, _, _, _, _, hx0, _⟩ := id k6
      refine ⟨_, g_s, x, dx, _, rfl, (s2.trans n3.same) _ _ (wo_of hx0).2, rfl, ?_⟩
      refine ⟨_, g_10, ?_⟩
      have oke := okl e (List.mem_of_mem_drop (i := i') (by rw [hd]; simp))
      refine ⟨N, x, v10, e.th, _, i', rfl, lv3, k6.mono (wo_same (s2.trans n3.same)), dv10.up n3.same, oke.2, by omega, fun y H4 s4 st4 => ?_⟩
      obtain ⟨us4, hus4, dus4⟩ := n3.at_
      have s24 := n3.same.trans s4
      refine ⟨_, ?_, i' + 1, rfl, Nat.le_succ_of_le hi, ?_, ?_, sm2.trans s24, ⟨lt, q2, us4, y, ?_, ?_, s4 _ _ hus4, lv2.notin n3.new, ?_, ?_⟩, ?_, ?_⟩
      · omega
      · rw [List.length_set]
        exact l3
      · intro k h1 h2 h3 h4
        rw [List.getElem?_set_ne (Ne.symm h2), List.getElem?_set_ne (Ne.symm h1), List.getElem?_set_ne (Ne.symm h4), List.getElem?_set_ne (Ne.symm h3)]
        exact hk k h1 h2 h3 h4
      · rw [List.getElem?_set_ne (Ne.symm hrs), List.getElem?_set_self (by simp [hl']; omega)]
      · rw [List.getElem?_set_self (by rw [l3]; omega)]
      · rw [hd2]
        exact dpA_mono (wo_drop.trans (wo_same s4)) dus4
      · rw [ht2]
        have e2 : Sd.nil.run (l.take i' ++ [e]) = (Sd.nil.run (l.take i')).step e.th := by
          rw [run_app]
          rfl
        rw [e2]
        exact st4
      · rw [ht2]
        intro y hy
        rcases List.mem_append.mp hy with h | h
        · exact t1' y h
        · rw [List.mem_singleton] at h
          rw [h, he]
          exact Int.le_refl _
      · rw [hd2]
        intro y hy
        exact t2' y (by rw [hd]; exact List.mem_cons_of_mem _ hy)
    · refine if_f (decide_eq_false he) ?_
      refine done σ' H2 i' hi hl' hk sm2 R2 ⟨t1', fun y hy => ?_⟩
      have h1 := up_head up hd y hy
      have h2 := t2' e (by rw [hd]; simp)
      omega
def sp_unlike (ad : Ad) (K : PySem.W.Frag) : Sp := fun vs H Q _ => ∃ (N : List Addr) (v v2 : V) (m : Addr) (b : Int) (ps : Ps) (l l2 : List Ev), vs = [v, .ref m, v2, .ref m] ∧ Live N H ∧ Dw K N H v (trD l) ∧ Dw K N H v2 (trD l2) ∧ MapAt ad (wo N H) m b ps ∧ PsOk ps ∧ BeatOk b ∧
  (∀ e ∈ l, e.ok) ∧ (∀ e ∈ l2, e.ok) ∧ (l.Pairwise fun x y => x.t ≤ y.t) ∧ (l2.Pairwise fun x y => x.t ≤ y.t) ∧ l.length ≤ 60 ∧ l2.length ≤ 60 ∧
  (∀ u : Int, Sd.nil.run (l.filter fun e => decide (e.t ≤ u)) = Sd.nil.run (l2.filter fun e => decide (e.t ≤ u))) ∧ ∀ H', Same H H' → Q .non H'
theorem sc_unlike : FnScope ["track", "own", "other", "theirs", "rows", "others", "mine", "yours", "moment", "when", "thing"] ["track", "own", "other", "theirs"] (defScope s_unlike) := ⟨rfl, rfl, rfl, by decide +kernel, rfl, by decide +kernel, by decide +kernel⟩
theorem ok_unlike (T : Tx w K mg a) (c_timed : C8.Cal P w K mg base 5 "timed" (sp_timed a K) []) (c_next_moment : C8.Cal P w K mg base 2 "next_moment" (sp_next_moment K) []) (k_Stand : C8.Mak P w K mg base 1 "Stand" a.cS (sp_Stand___init__ a K) [])
    (m_Stand_after : C8.Met P w K mg base 3 a.cS "after" (sp_Stand_after a K) []) (m_Stand___eq__ : C8.Met P w K mg base 3 a.cS "__eq__" (sp_Stand___eq__ a K) []) : C8.Cal P w K mg base 6 "unlike" (sp_unlike a K) [] := by
  refine calD T.d_unlike sc_unlike (fun _ _ _ _ _ _ us hl => match us, hl with | [_, _, _, _], _ => rfl) (fun vs H Q E h => ?_) (fun f cdv A outer s H vs Q E hr h => ?_)
  · obtain ⟨N, v, v2, m, b, ps, l, l2, rfl, _⟩ := h
    rfl
  · obtain ⟨N, v, v2, m, b, ps, l, l2, rfl, lv, hv, hv2, hm, okp, okb, okl, okl2, up, up2, ll, ll2, alike, q⟩ := h
    refine ⟨_, (pss_cons (ps_par (i := 4) (j := 5) rfl sc_unlike.nd rfl rfl (by decide) rfl rfl (pa_cons (C8.pe_c c_timed hr (by decide) rfl (pa_cons (pv 0) (pa_cons (pv 1) pa_nil))) (pa_cons (C8.pe_c c_timed hr (by decide) rfl (pa_cons (pv 2) (pa_cons (pv 3) pa_nil))) pa_nil)) (by rfl))
      (pss_cons (ps_par (i := 6) (j := 7) rfl sc_unlike.nd rfl rfl (by decide) rfl rfl (pa_cons (pe_mk0 k_Stand hr (by decide) rfl) (pa_cons (pe_mk0 k_Stand hr (by decide) rfl) pa_nil)) (by rfl))
      (pss_cons (ps_while PassesOwn.never (PW.pt (pw_or (pt_cmpR (kop_ne (K := K) rfl hr.units) (pv 4) (pe_lst pa_nil) (nomark _)) (pw_or1 (pt_cmpR (kop_ne (K := K) rfl hr.units) (pv 5) (pe_lst pa_nil) (nomark _)))))
        (pss_cons (ps_set (i := 8) sc_unlike.nd rfl (Or.inl rfl) (C8.pe_c c_next_moment hr (by decide) rfl (pa_cons (pv 4) (pa_cons (pv 5) pa_nil))))
        (pss_cons (ps_while PassesOwn.never (PW.pt (pw_and (pt_cmpR (kop_ne (K := K) rfl hr.units) (pv 4) (pe_lst pa_nil) (nomark _)) (pw_and1 (pt_cmpR (kop_eq (K := K) rfl hr.units) (pe_ix (kix_tup (K := K) rfl) (pe_ix (kix_list (K := K) rfl) (pv 4) pe_int (fun _ _ => rfl)) pe_int (fun _ _ => rfl)) (pv 8) (nomark _)))))
          (pss_cons (ps_asg (pv 4) (kg_star (K := K) rfl (pg_star (i := 1) rfl (pgs_cons (kg_tup (K := K) rfl (pg_tup (n := 2) rfl (pgs_cons (pg_name (i := 9) sc_unlike.nd rfl (Or.inl rfl)) (pgs_cons (pg_name (i := 10) sc_unlike.nd rfl (Or.inl rfl)) pgs_nil)))) (pgs_star (pg_name (i := 4) sc_unlike.nd rfl (Or.inl rfl)) pgs_nil)))))
          (pss_one (ps_set (i := 6) sc_unlike.nd rfl (Or.inl rfl) (C8.pe_mt m_Stand_after hr (by decide) (pv 6) (pa_cons (pv 10) pa_nil))))))
        (pss_cons (ps_while PassesOwn.never (PW.pt (pw_and (pt_cmpR (kop_ne (K := K) rfl hr.units) (pv 5) (pe_lst pa_nil) (nomark _)) (pw_and1 (pt_cmpR (kop_eq (K := K) rfl hr.units) (pe_ix (kix_tup (K := K) rfl) (pe_ix (kix_list (K := K) rfl) (pv 5) pe_int (fun _ _ => rfl)) pe_int (fun _ _ => rfl)) (pv 8) (nomark _)))))
          (pss_cons (ps_asg (pv 5) (kg_star (K := K) rfl (pg_star (i := 1) rfl (pgs_cons (kg_tup (K := K) rfl (pg_tup (n := 2) rfl (pgs_cons (pg_name (i := 9) sc_unlike.nd rfl (Or.inl rfl)) (pgs_cons (pg_name (i := 10) sc_unlike.nd rfl (Or.inl rfl)) pgs_nil)))) (pgs_star (pg_name (i := 5) sc_unlike.nd rfl (Or.inl rfl)) pgs_nil)))))
          (pss_one (ps_set (i := 7) sc_unlike.nd rfl (Or.inl rfl) (C8.pe_mt m_Stand_after hr (by decide) (pv 7) (pa_cons (pv 10) pa_nil))))))
        (pss_one (ps_if (pt_cmpR (op_neOwn (K := K) rfl m_Stand___eq__ hr (by decide) T.x_ne) (pv 6) (pv 7) (nomark _)) (pss_one (ps_ret (pe_tup (pa_cons (pv 8) (pa_cons (pv 6) (pa_cons (pv 7) pa_nil)))))) pss_nil))))))
      (pss_one (ps_ret pe_non))))), ?_⟩
    tm_at "ev"
    refine ⟨N, v, m, b, ps, l, rfl, lv, hv, okl, by omega, hm, okp, okb, fun p H1 n1 => ?_⟩
    have lv1 := lv.same n1.same
    tm_at "ev"
    refine ⟨N, v2, m, b, ps, l2, rfl, lv1, hv2.up n1.same, okl2, by omega, hm.mono (wo_same n1.same), okp, okb, fun q0 H2 n2 => ?_⟩
    have lv2 := lv1.same n2.same
    have s2 := n1.same.trans n2.same
    tm_at "ev"
    intro x dx hx hdx hne
    refine ⟨N, x, dx, rfl, upd_same, lv2.notin hx, mk_live lv2 hx hdx, fun H3 r t c sb h3 rN tN cN _ _ _ _ _ _ hr3 ht3 hc3 => ⟨rfl, ?_⟩⟩
    have s3 := mk_same hx hdx sb
    have st3 := stand_nil (K := K) h3 (lv2.notin hx) rN tN cN hr3 ht3 hc3
    have lv3 := lv2.same s3
    tm_at "ev"
    intro y dy hy hdy hne2
    refine ⟨N, y, dy, rfl, upd_same, lv3.notin hy, mk_live lv3 hy hdy, fun H4 r t c sb h4 rN tN cN _ _ _ _ _ _ hr4 ht4 hc4 => ⟨rfl, ?_⟩⟩
    have s4 := mk_same hy hdy sb
    have st4 := stand_nil (K := K) h4 (lv3.notin hy) rN tN cN hr4 ht4 hc4
    tm_at "ev"
    have s04 := s2.trans (s3.trans s4)
    obtain ⟨us, hus, dus⟩ := n1.at_
    obtain ⟨us', hus', dus'⟩ := n2.at_
    have s14 := n2.same.trans (s3.trans s4)
    have b1 : 0 < b.toNat := by have := okb.1; omega
    have mo := Mo.of okp
    have R1 : Row K a N ps b l 4 6 0 [some v, some (.ref m), some v2, some (.ref m), some (.ref p), some (.ref q0), some (.ref x), some (.ref y), none, none, none] H4 :=
      ⟨Nat.zero_le _, p, us, x, rfl, rfl, s14 _ _ hus, lv.notin n1.new, dpA_mono (wo_drop.trans (wo_same s14)) dus, st3.mono (wo_same s4)⟩
    have R2 : Row K a N ps b l2 5 7 0 [some v, some (.ref m), some v2, some (.ref m), some (.ref p), some (.ref q0), some (.ref x), some (.ref y), none, none, none] H4 :=
      ⟨Nat.zero_le _, q0, us', y, rfl, rfl, (s3.trans s4) _ _ hus', lv1.notin n2.new, dpA_mono (wo_drop.trans (wo_same (s3.trans s4))) dus', st4⟩
    refine ⟨fun mm σ H' => ∃ i j u, mm = (l.length - i) + (l2.length - j) ∧ σ.length = 11 ∧ Same H H' ∧ Row K a N ps b l 4 6 i σ H' ∧ Row K a N ps b l2 5 7 j σ H' ∧ Thr l i u ∧ Thr l2 j u, ⟨_, 0, 0, -1, rfl, rfl, s04, R1, R2, ⟨(fun e h => by simp at h), fun e h => by have := (okl e h).1.1; omega⟩, (fun e h => by simp at h), fun e h => by have := (okl2 e h).1.1; omega⟩, ?_⟩
    clear R1 R2
    rintro mm σ H5 ⟨i, j, u, rfl, hl5, s05, R1, R2, th1, th2⟩
    obtain ⟨p, us, x, k1, k2, k3, k4, k5, k6⟩ := R1.ex
    obtain ⟨q0, us', y, j1, j2, j3, j4, j5, j6⟩ := R2.ex
    have lv5 := lv.same s05
    have okd : ∀ e ∈ l.drop i, e.ok := fun e he => okl e (List.mem_of_mem_drop he)
    have okd2 : ∀ e ∈ l2.drop j, e.ok := fun e he => okl2 e (List.mem_of_mem_drop he)
    have shl : Sh 4 (.list ((l.drop i).map (row ps b))) := sh_map fun e he => sh_row ps b e (okd e he)
    have shl2 : Sh 4 (.list ((l2.drop j).map (row ps b))) := sh_map fun e he => sh_row ps b e (okd2 e he)
    refine q_orNil k1 j1 lv5 (.lst (.inl (.inl (wo_at k4 k3))) k5) (.lst (.inl (.inl (wo_at j4 j3))) j5) shl shl2 (by decide) fun H6 s6 => ?_
    have s06 := s05.trans s6
    have lv6 := lv5.same s6
    rw [isE_map, isE_map]
    refine if_2 ?_ (fun _ => (by
      tm_at "ev"
      exact q H6 s06))
    intro hne
    have hne' : l.drop i ≠ [] ∨ l2.drop j ≠ [] := by
      rcases Bool.or_eq_true_iff.mp hne with h | h
      · exact .inl fun z => by rw [z] at h; cases h
      · exact .inr fun z => by rw [z] at h; cases h
    refine ⟨fun σ' H' => ∃ m', m' < (l.length - i) + (l2.length - j) ∧ ∃ i j u, m' = (l.length - i) + (l2.length - j) ∧ σ'.length = 11 ∧ Same H H' ∧ Row K a N ps b l 4 6 i σ' H' ∧ Row K a N ps b l2 5 7 j σ' H' ∧ Thr l i u ∧ Thr l2 j u, fun _ _ h => h, ?_⟩
    tm_at "ev"
    refine ⟨_, k1, ?_⟩
    tm_at "ev"
    refine ⟨_, j1, ?_⟩
    tm_at "ev"
    refine ⟨N, p, q0, us, us', l.drop i, l2.drop j, ps, b, rfl, lv6, s6 _ _ k3, s6 _ _ j3, k4, j4, DwA.up k5 s6, DwA.up j5 s6, okd, okd2, by rw [List.length_drop, List.length_drop]; omega, hne', okp, okb, fun vm H7 t s7 dm hmin ht => ?_⟩
    have s07 := s06.trans s7
    have lv7 := lv6.same s7
    have s57 := s6.trans s7
    tm_at "ev"
    have hl8 : (σ.set 8 (some vm)).length = 11 := by rw [List.length_set]; exact hl5
    have e8 : (σ.set 8 (some vm))[8]? = some (some vm) := List.getElem?_set_self (by omega)
    have ne8 : ∀ k, k ≠ 8 → (σ.set 8 (some vm))[k]? = σ[k]? := fun k hk => List.getElem?_set_ne (Ne.symm hk)
    have ta : ∀ e ∈ l.take i, e.t ≤ t := fun e he => by
      have h1 := th1.1 e he
      rcases hmin.ex with ⟨e0, r0, h2, h3⟩ | ⟨e0, r0, h2, h3⟩
      · have := th1.2 e0 (by rw [h2]; simp)
        omega
      · have := th2.2 e0 (by rw [h2]; simp)
        omega
    have tb : ∀ e ∈ l2.take j, e.t ≤ t := fun e he => by
      have h1 := th2.1 e he
      rcases hmin.ex with ⟨e0, r0, h2, h3⟩ | ⟨e0, r0, h2, h3⟩
      · have := th1.2 e0 (by rw [h2]; simp)
        omega
      · have := th2.2 e0 (by rw [h2]; simp)
        omega
    have tc : ∀ e ∈ l.drop i, t ≤ e.t := fun e he => by
      cases hd : l.drop i with
      | nil => rw [hd] at he; cases he
      | cons e0 r0 =>
        have h1 := up_head up hd e he
        have h2 := hmin.l e0 r0 hd
        omega
    have td : ∀ e ∈ l2.drop j, t ≤ e.t := fun e he => by
      cases hd : l2.drop j with
      | nil => rw [hd] at he; cases he
      | cons e0 r0 =>
        have h1 := up_head up2 hd e he
        have h2 := hmin.m e0 r0 hd
        omega
    refine rows_loop (K := K) (ad := a) (N := N) (ps := ps) (b := b) (t := t) (r := 4) (s := 6) (by decide) (by decide) (by decide) up okl ll ht.1 okp b1 lv7 hl8 e8 dm (R1.up s57 (ne8 4 (by decide)) (ne8 6 (by decide))) ta tc fun σ8 H8 i' hi8 hl8 hk8 s8 R8 th8 => ?_
    have lv8 := lv7.same s8
    have f8 : σ8[8]? = some (some vm) := (hk8 8 (by decide) (by decide) (by decide) (by decide)).trans e8
    tm_at "ev"
    refine rows_loop (K := K) (ad := a) (N := N) (ps := ps) (b := b) (t := t) (r := 5) (s := 7) (by decide) (by decide) (by decide) up2 okl2 ll2 ht.1 okp b1 lv8 hl8 f8 (dm.up s8) (R2.up (s57.trans s8) ((hk8 5 (by decide) (by decide) (by decide) (by decide)).trans (ne8 5 (by decide))) ((hk8 7 (by decide) (by decide) (by decide) (by decide)).trans (ne8 7 (by decide)))) tb td fun σ9 H9 j' hj9 hl9 hk9 s9 R9 th9 => ?_
    have lv9 := lv8.same s9
    have R8' := R8.up s9 (hk9 4 (by decide) (by decide) (by decide) (by decide)) (hk9 6 (by decide) (by decide) (by decide) (by decide))
    obtain ⟨p8, us8, x8, a1, a2, a3, a4, a5, a6⟩ := R8'.ex
    obtain ⟨p9, us9, y9, c1, c2, c3, c4, c5, c6⟩ := R9.ex
    have same : Sd.nil.run (l2.take j') = Sd.nil.run (l.take i') := by
      rw [← thr_fil th8, ← thr_fil th9, alike t]
    rw [same] at c6
    obtain ⟨dx8, _, _, _, _, _, _, hx8, _⟩ := id a6
    obtain ⟨dy9, _, _, _, _, _, _, hy9, _⟩ := id c6
    tm_at "ev"
    refine ⟨_, a2, ?_⟩
    tm_at "ev"
    refine ⟨_, c2, ?_⟩
    refine ev_own (wo_of hx8).2 (wo_of hy9).2 ?_
    refine ⟨N, x8, y9, _, 60, rfl, lv9, a6.le (by have := R8'.il; omega), c6.le (by have := R9.il; omega), Nat.le_refl _, fun H10 s10 => ⟨true, rfl, ?_⟩⟩
    refine ⟨_, rfl, if_f rfl ?_⟩
    tm_at "ev"
    have s010 := s07.trans (s8.trans (s9.trans s10))
    refine ⟨_, ?_, i', j', t, rfl, hl9, s010, R8'.up s10 rfl rfl, R9.up s10 rfl rfl, th8, th9⟩
    have il := R8.il
    have jl := R9.il
    rcases hmin.ex with ⟨e0, r0, h2, h3⟩ | ⟨e0, r0, h2, h3⟩
    · have hlt := (drop_next h2).1
      have : i ≠ i' := fun z => by
        have := th8.2 e0 (by rw [← z, h2]; simp)
        omega
      omega
    · have hlt := (drop_next h2).1
      have : j ≠ j' := fun z => by
        have := th9.2 e0 (by rw [← z, h2]; simp)
        omega
      omega
end
end Tp
set_option maxHeartbeats 4000000
namespace Tp
open PySem PySem.Spec PyProof.Rows L2
local macro_rules | `(tactic| tm_at "ev") => `(tactic| repeat first
  | with_reducible refine ev_seq ?_ | with_reducible refine ev_asg ?_ | with_reducible refine ev_drop ?_ | with_reducible refine ev_ret ?_ | with_reducible refine ev_ifS ?_ | with_reducible refine ev_next ?_
  | ((with_reducible refine' ev_var ?k1 ?_); (case k1 => exact rfl)) | with_reducible refine ev_c ?_ | with_reducible refine ev_op ?_ | with_reducible refine ev_I0 ?_ | with_reducible refine ev_test ?_ | with_reducible refine ev_B ?_ | with_reducible refine ev_bl ?_
  | ((with_reducible refine ev_eq ?k1 ?_); (case k1 => exact rfl)) | ((with_reducible refine ev_ne ?k1 ?_); (case k1 => exact rfl))
  | ((with_reducible refine' ev_nameL ?k1 ?_); (case k1 => first | (dsimp only [L2.start, wipe, List.map, List.set, List.length, List.replicate, List.append]; exact rfl) | exact rfl)) | with_reducible refine ev_name ?_ | with_reducible refine ev_nil ?_ | with_reducible refine ev_cons ?_ | with_reducible refine ev_call ?_ | with_reducible refine ev_tup ?_ | with_reducible refine ev_lst ?_ | with_reducible refine ev_CB ?_ | with_reducible refine ev_fld ?_
  | with_reducible refine ev_not ?_ | with_reducible refine ev_and ?_ | with_reducible refine ev_or ?_ | with_reducible refine ev_andV ?_ | with_reducible refine ev_orV ?_ | with_reducible refine ev_ifE ?_ | with_reducible refine ev_chain ?_ | with_reducible refine ev_meth ?_ | with_reducible refine ev_un ?_
  | with_reducible refine ev_sl ?_ | with_reducible refine ev_part ?_ | with_reducible refine ev_nopart ?_ | with_reducible refine ev_int ?_ | with_reducible refine ev_for ?_ | with_reducible refine ev_list ?_ | with_reducible refine ev_lc ?_ | with_reducible refine ev_gcons ?_ | with_reducible refine ev_gnil ?_ | with_reducible refine ev_sfld ?_ | with_reducible refine ev_make ?_ | with_reducible refine ev_notV ?_ | with_reducible refine ev_yes ?_ | with_reducible refine ev_dget ?_ | with_reducible refine ev_dput ?_ | with_reducible refine ev_bm ?_ | with_reducible refine ev_bm0 ?_ | with_reducible refine ev_items ?_ | with_reducible refine ev_keys ?_ | with_reducible refine ev_enum ?_ | with_reducible refine ev_tupI ?_ | with_reducible refine ev_par ?_ | with_reducible refine ev_two ?_ | with_reducible refine ev_kget ?_ | with_reducible refine ev_gsub ?_ | with_reducible refine ev_tapeK ?_ | with_reducible refine ev_str ?_ | with_reducible refine ev_txt ?_ | with_reducible refine ev_lc2 ?_ | with_reducible refine ev_dget2 ?_ | with_reducible refine ev_rU ?_ | with_reducible refine ev_ckw ?_ | with_reducible refine ev_dnotin ?_ | with_reducible refine ev_din ?_ | with_reducible refine ev_gfld ?_ | with_reducible refine ev_saug ?_ | with_reducible refine ev_finN ?_ | with_reducible refine ev_zs ?_ | with_reducible refine ev_rng1 ?_)
section
variable {P : Program} {w : World} {K : PySem.W.Frag} {mg : Str → Option Value} {base : Heap} {a : Ad}
/-! ### the draw -/
abbrev drL (s : Addr) (i b r c : Int) : List V := [.ref s, .int i, .int b, .int r, .int c]
structure DrI (K : PySem.W.Frag) (N : List Addr) (H : Hp) (d s : Addr) (ns : List Int) (i b r c : Int) : Prop where
  at_ : H d = some (.lst (drL s i b r c))
  sq : SqL K (wo N H) s (ns.map V.int)
  dN : d ∈ N
  i0 : 0 ≤ i
  b0 : 0 ≤ b
  r0 : 0 ≤ r
  r1 : r < 1000000007
def DrAt (K : PySem.W.Frag) (N : List Addr) (H : Hp) (d : Addr) : Prop := ∃ s ns i b r c, DrI K N H d s ns i b r c
theorem sb_w {d : Addr} {N : List Addr} {H H' : Hp} (m : d ∈ N) (s : SameBut d H H') : Same (wo N H) (wo N H') := wo_but fun b o h n => s b o (fun e => n (by rw [e]; exact m)) h
theorem sb_trans {d : Addr} {H H1 H2 : Hp} (s : SameBut d H H1) (t : SameBut d H1 H2) : SameBut d H H2 := fun b o n h => t b o n (s b o n h)
theorem sb_live {d : Addr} {N : List Addr} {H H' : Hp} (l : Live N H) (s : SameBut d H H') (h : ∃ o, H' d = some o) : Live N H' := fun b hb => by
  by_cases e : b = d
  · rw [e]; exact h
  · obtain ⟨o, q⟩ := l b hb
    exact ⟨o, s b o e q⟩
theorem DrAt.some {N : List Addr} {H : Hp} {d : Addr} (h : DrAt K N H d) : ∃ o, H d = some o := let ⟨_, _, _, _, _, _, h⟩ := h; ⟨_, h.at_⟩
theorem DrAt.mem {N : List Addr} {H : Hp} {d : Addr} (h : DrAt K N H d) : d ∈ N := let ⟨_, _, _, _, _, _, h⟩ := h; h.dN
theorem DrAt.to {N N' : List Addr} {H H' : Hp} {d : Addr} (h : DrAt K N H d) (s : Same (wo N H) (wo N' H')) (e : H' d = H d) (m : d ∈ N') : DrAt K N' H' d := let ⟨a1, a2, a3, a4, a5, a6, h⟩ := h; ⟨a1, a2, a3, a4, a5, a6, e.trans h.at_, sqL_mono s h.sq, m, h.i0, h.b0, h.r0, h.r1⟩
theorem DrAt.up {N : List Addr} {H H' : Hp} {d : Addr} (h : DrAt K N H d) (s : Same H H') : DrAt K N H' d := by
  obtain ⟨o, e⟩ := h.some
  exact h.to (wo_same s) ((s _ _ e).trans e.symm) h.mem
theorem q_drI {H : Hp} {d : Addr} {xs : List V} {v : V} {Q : VK} (k : Nat) (h : H d = some (.lst xs)) (e : xs[k]? = some v) (q : Q v H) : rIxL K (.ref d) (.int (k : Int)) H Q := ⟨d, xs, k, v, rfl, rfl, .inl (.inl h), atI_n e, q⟩
theorem q_setI {H : Hp} {d : Addr} {xs : List V} {v : V} {R : Hp → Prop} (k : Nat) (h : H d = some (.lst xs)) (hk : k < xs.length) (q : R (upd H d (.lst (xs.set k v)))) : rSetL (.ref d) (.int (k : Int)) v H R := by
  refine ⟨d, xs, k, k, rfl, rfl, h, ?_, q⟩
  unfold ixN
  rw [if_pos (by omega), if_pos (by omega)]
  rfl
theorem DrI.step {H H1 : Hp} {d s : Addr} {ns : List Int} {i b r c i' b' r' c' : Int} {N : List Addr} (h : DrI K N H d s ns i b r c) (sb : SameBut d H H1) (e : H1 d = some (.lst (drL s i' b' r' c'))) (i0 : 0 ≤ i') (b0 : 0 ≤ b') (r0 : 0 ≤ r') (r1 : r' < 1000000007) : DrI K N H1 d s ns i' b' r' c' :=
  ⟨e, sqL_mono (sb_w h.dN sb) h.sq, h.dN, i0, b0, r0, r1⟩
/-- behind the first if of _law_pick -/
def pickT (K : PySem.W.Frag) : TS := tSeq (tIfS (tTest (tOp (rI0 fun i j => V.bl (decide (j ≤ i))) (tOp (rIxL K) (tVar 0) (tC (V.int 2))) (tVar 1)))
    (tSeq (tAsg (tOp (rI (fun _ j => 0 < j) fun i j => V.int (i % j)) (tOp (rIxL K) (tVar 0) (tC (V.int 2))) (tVar 1)) (gName 3))
      (tSeq (tAsg (tOp (rI CDiv fun i j => V.int (i / j)) (tOp (rIxL K) (tVar 0) (tC (V.int 2))) (tVar 1)) (gSub (tVar 0) (tC (V.int 2)) rSetL)) (tRet (tVar 3)))) tNext)
  (tSeq (tAsg (tOp (rI0 fun i j => V.int (i + j)) (tOp (rIxL K) (tVar 0) (tC (V.int 4))) (tC (V.int 1))) (gSub (tVar 0) (tC (V.int 4)) rSetL))
    (tSeq (tAsg (tOp (rI (fun _ j => 0 < j) fun i j => V.int (i % j)) (tOp (rI0 fun i j => V.int (i + j)) (tOp (rI0 fun i j => V.int (i + j)) (tOp (rI CPow fun i j => V.int (i ^ j.toNat)) (tOp (rIxL K) (tVar 0) (tC (V.int 3))) (tC (V.int 3)))
        (tOp (rI CMul fun i j => V.int (i * j)) (tC (V.int 40503)) (tOp (rIxL K) (tVar 0) (tC (V.int 4))))) (tC (V.int 17))) (tC (V.int 1000000007))) (gSub (tVar 0) (tC (V.int 3)) rSetL))
      (tRet (tOp (rI (fun _ j => 0 < j) fun i j => V.int (i % j)) (tOp (rI CDiv fun i j => V.int (i / j)) (tOp (rIxL K) (tVar 0) (tC (V.int 3))) (tC (V.int 5))) (tVar 1)))))
theorem pick_rest {N : List Addr} {H1 : Hp} {d s : Addr} {m i b r c : Int} {ns : List Int} {o2 o3 : Option V} {D : Ends} (h : DrI K N H1 d s ns i b r c) (hm : 1 ≤ m) (hm2 : m < 1073741824) (q : ∀ k H', SameBut d H1 H' → DrAt K N H' d → 0 ≤ k → k < m → D.rt (.int k) H') :
    pickT K D [some (.ref d), some (.int m), o2, o3] H1 := by
  unfold pickT
  tm_at "ev"
  refine q_drI 2 h.at_ rfl ?_
  tm_at "ev"
  refine if_dd (fun hge => ?_) fun hlt => ?_
  · tm_at "ev"
    refine q_drI 2 h.at_ rfl ?_
    tm_at "ev"
    refine ⟨_, _, rfl, rfl, by omega, ?_⟩
    tm_at "ev"
    refine q_drI 2 h.at_ rfl ?_
    tm_at "ev"
    refine ⟨_, _, rfl, rfl, ⟨by omega, hm2⟩, ?_⟩
    tm_at "ev"
    refine q_setI 2 h.at_ (by simp) ?_
    tm_at "ev"
    exact q _ _ (sb_upd (sb_same same_rfl)) ⟨_, _, _, _, _, _, h.step (sb_upd (sb_same same_rfl)) upd_same h.i0 (Int.ediv_nonneg h.b0 (by omega)) h.r0 h.r1⟩ (Int.emod_nonneg _ (by omega)) (Int.emod_lt_of_pos _ (by omega))
  · tm_at "ev"
    refine q_drI 4 h.at_ rfl ?_
    tm_at "ev"
    refine q_setI 4 h.at_ (by simp) ?_
    tm_at "ev"
    have sb2 : SameBut d H1 (upd H1 d (.lst ((drL s i b r c).set 4 (.int (c + 1))))) := sb_upd (sb_same same_rfl)
    have h2 : DrI K N (upd H1 d (.lst ((drL s i b r c).set 4 (.int (c + 1))))) d s ns i b r (c + 1) := h.step sb2 upd_same h.i0 h.b0 h.r0 h.r1
    generalize upd H1 d (.lst ((drL s i b r c).set 4 (.int (c + 1)))) = H2 at sb2 h2 ⊢
    refine q_drI 3 h2.at_ rfl ?_
    tm_at "ev"
    refine ⟨_, _, rfl, rfl, ⟨by decide, by decide, by have := h2.r0; have := h2.r1; omega⟩, ?_⟩
    tm_at "ev"
    refine q_drI 4 h2.at_ rfl ?_
    refine ⟨_, _, rfl, rfl, .inl ⟨by decide, by decide⟩, ?_⟩
    tm_at "ev"
    refine ⟨_, _, rfl, rfl, (show (0 : Int) < 1000000007 by decide), ?_⟩
    tm_at "ev"
    have r30 : 0 ≤ (r ^ (3 : Int).toNat + 40503 * (c + 1) + 17) % 1000000007 := Int.emod_nonneg _ (by decide)
    have r31 : (r ^ (3 : Int).toNat + 40503 * (c + 1) + 17) % 1000000007 < 1000000007 := Int.emod_lt_of_pos _ (by decide)
    show rSetL (.ref d) (.int 3) (.int ((r ^ (3 : Int).toNat + 40503 * (c + 1) + 17) % 1000000007)) H2 _
    generalize (r ^ (3 : Int).toNat + 40503 * (c + 1) + 17) % 1000000007 = r3 at r30 r31 ⊢
    refine q_setI 3 h2.at_ (by simp) ?_
    tm_at "ev"
    have sb3 : SameBut d H1 (upd H2 d (.lst ((drL s i b r (c + 1)).set 3 (.int r3)))) := sb_upd sb2
    have h3 : DrI K N (upd H2 d (.lst ((drL s i b r (c + 1)).set 3 (.int r3)))) d s ns i b r3 (c + 1) := h2.step (sb_upd (sb_same same_rfl)) upd_same h2.i0 h2.b0 r30 r31
    generalize upd H2 d (.lst ((drL s i b r (c + 1)).set 3 (.int r3))) = H3 at sb3 h3 ⊢
    refine q_drI 3 h3.at_ rfl ?_
    tm_at "ev"
    refine ⟨_, _, rfl, rfl, ⟨by decide, by decide⟩, ?_⟩
    tm_at "ev"
    refine ⟨_, _, rfl, rfl, by omega, ?_⟩
    tm_at "ev"
    exact q _ H3 sb3 ⟨_, _, _, _, _, _, h3⟩ (Int.emod_nonneg _ (by omega)) (Int.emod_lt_of_pos _ (by omega))
def sp__law_pick (K : PySem.W.Frag) : Sp := fun vs H Q _ => ∃ (N : List Addr) (d : Addr) (m : Int), vs = [.ref d, .int m] ∧ DrAt K N H d ∧ 1 ≤ m ∧ m < 1073741824 ∧ ∀ k H', SameBut d H H' → DrAt K N H' d → 0 ≤ k → k < m → Q (.int k) H'
theorem sc__law_pick : FnScope ["_law_draw", "_law_many", "_law_cell", "_law_got"] ["_law_draw", "_law_many"] (defScope s__law_pick) := ⟨rfl, rfl, rfl, by decide +kernel, rfl, by decide +kernel, by decide +kernel⟩
theorem ok__law_pick (T : Tx w K mg a) : C8.Cal P w K mg base 1 "_law_pick" (sp__law_pick K) [] := by
  refine calD T.d__law_pick sc__law_pick (fun _ _ _ _ _ _ us hl => match us, hl with | [_, _], _ => rfl) (fun vs H Q E h => ?_) (fun f cdv A outer s H vs Q E hr h => ?_)
  · obtain ⟨N, d, m, rfl, _⟩ := h
    rfl
  · obtain ⟨N, d, m, rfl, ⟨s0, ns, i, b, r, c, hd⟩, hm, hm2, q⟩ := h
    refine ⟨_, (pss_cons (ps_if (PW.pt (pw_and (pt_cmpR op_lt (pe_ix (kix_list (K := K) rfl) (pv 0) pe_int (fun _ _ => rfl)) (pv 1) (nomark _)) (pw_and1 (pt_cmpR op_lt (pe_ix (kix_list (K := K) rfl) (pv 0) pe_int (fun _ _ => rfl)) (pe_callB (kcall_len (K := K) rfl) rfl T.f_len (by decide +kernel) (pa_cons (pe_ix (kix_list (K := K) rfl) (pv 0) pe_int (fun _ _ => rfl)) pa_nil)) (nomark _))))) (pss_cons (ps_set (i := 2) sc__law_pick.nd rfl (Or.inl rfl) (pe_ix (kix_list (K := K) rfl) (pe_ix (kix_list (K := K) rfl) (pv 0) pe_int (fun _ _ => rfl)) (pe_ix (kix_list (K := K) rfl) (pv 0) pe_int (fun _ _ => rfl)) (fun _ _ => rfl)))
        (pss_cons (ps_asg (pe_op op_add (pe_ix (kix_list (K := K) rfl) (pv 0) pe_int (fun _ _ => rfl)) pe_int) (pg_sub (pv 0) pe_int set_list))
        (pss_cons (ps_asg pe_int (pg_sub (pv 0) pe_int set_list))
        (pss_one (ps_if (pt_cmpR op_ge (pv 2) (pe_op op_pow pe_int pe_int) (nomark _)) (pss_one (ps_asg (pv 2) (pg_sub (pv 0) pe_int set_list))) (pss_one (ps_asg (pe_op op_mod (pe_op op_add (pe_ix (kix_list (K := K) rfl) (pv 0) pe_int (fun _ _ => rfl)) (pv 2)) pe_int) (pg_sub (pv 0) pe_int set_list)))))))) pss_nil)
      (pss_cons (ps_if (pt_cmpR op_ge (pe_ix (kix_list (K := K) rfl) (pv 0) pe_int (fun _ _ => rfl)) (pv 1) (nomark _)) (pss_cons (ps_set (i := 3) sc__law_pick.nd rfl (Or.inl rfl) (pe_op op_mod (pe_ix (kix_list (K := K) rfl) (pv 0) pe_int (fun _ _ => rfl)) (pv 1)))
        (pss_cons (ps_asg (pe_op op_fdiv (pe_ix (kix_list (K := K) rfl) (pv 0) pe_int (fun _ _ => rfl)) (pv 1)) (pg_sub (pv 0) pe_int set_list))
        (pss_one (ps_ret (pv 3))))) pss_nil)
      (pss_cons (ps_asg (pe_op op_add (pe_ix (kix_list (K := K) rfl) (pv 0) pe_int (fun _ _ => rfl)) pe_int) (pg_sub (pv 0) pe_int set_list))
      (pss_cons (ps_asg (pe_op op_mod (pe_op op_add (pe_op op_add (pe_op op_pow (pe_ix (kix_list (K := K) rfl) (pv 0) pe_int (fun _ _ => rfl)) pe_int) (pe_op op_mul pe_int (pe_ix (kix_list (K := K) rfl) (pv 0) pe_int (fun _ _ => rfl)))) pe_int) pe_int) (pg_sub (pv 0) pe_int set_list))
      (pss_one (ps_ret (pe_op op_mod (pe_op op_fdiv (pe_ix (kix_list (K := K) rfl) (pv 0) pe_int (fun _ _ => rfl)) pe_int) (pv 1)))))))), ?_⟩
    tm_at "ev"
    refine q_drI 2 hd.at_ rfl ?_
    tm_at "ev"
    refine if_dd (fun hlt => ?_) fun _ => ?_
    · tm_at "ev"
      refine q_drI 1 hd.at_ rfl ?_
      tm_at "ev"
      refine q_drI 0 hd.at_ rfl ?_
      tm_at "ev"
      have sq := sqL_mono wo_sub hd.sq
      refine ⟨s0, _, rfl, .inl sq, ?_⟩
      tm_at "ev"
      rw [List.length_map]
      refine if_dd (fun hil => ?_) fun _ => ?_
      · tm_at "ev"
        refine q_drI 0 hd.at_ rfl ?_
        tm_at "ev"
        refine q_drI 1 hd.at_ rfl ?_
        have i0 := hd.i0
        obtain ⟨cell, hc⟩ : ∃ z, ns[i.toNat]? = some z := ⟨_, List.getElem?_eq_getElem (by omega)⟩
        refine ⟨s0, _, i, .int cell, rfl, rfl, sq, atI_e i0 (by rw [List.getElem?_map, hc]; rfl), ?_⟩
        tm_at "ev"
        refine q_drI 1 hd.at_ rfl ?_
        tm_at "ev"
        refine q_setI 1 hd.at_ (by simp) ?_
        tm_at "ev"
        have sb2 : SameBut d H (upd H d (.lst ((drL s0 i b r c).set 1 (.int (i + 1))))) := sb_upd (sb_same same_rfl)
        have h2 : DrI K N (upd H d (.lst ((drL s0 i b r c).set 1 (.int (i + 1))))) d s0 ns (i + 1) b r c := hd.step sb2 upd_same (by omega) hd.b0 hd.r0 hd.r1
        generalize upd H d (.lst ((drL s0 i b r c).set 1 (.int (i + 1)))) = H2 at sb2 h2 ⊢
        refine q_setI 2 h2.at_ (by simp) ?_
        tm_at "ev"
        have sb3 : SameBut d H (upd H2 d (.lst ((drL s0 (i + 1) b r c).set 2 (.int 0)))) := sb_upd sb2
        have h3 : DrI K N (upd H2 d (.lst ((drL s0 (i + 1) b r c).set 2 (.int 0)))) d s0 ns (i + 1) 0 r c := h2.step (sb_upd (sb_same same_rfl)) upd_same h2.i0 (Int.le_refl _) h2.r0 h2.r1
        generalize upd H2 d (.lst ((drL s0 (i + 1) b r c).set 2 (.int 0))) = H3 at sb3 h3 ⊢
        refine ⟨_, _, rfl, rfl, ⟨by decide, by decide, by decide⟩, ?_⟩
        tm_at "ev"
        refine if_dd (fun hbig => ?_) fun _ => ?_
        · tm_at "ev"
          refine q_setI 2 h3.at_ (by simp) ?_
          have sb4 : SameBut d H (upd H3 d (.lst ((drL s0 (i + 1) 0 r c).set 2 (.int cell)))) := sb_upd sb3
          have h4 : DrI K N (upd H3 d (.lst ((drL s0 (i + 1) 0 r c).set 2 (.int cell)))) d s0 ns (i + 1) cell r c := h3.step (sb_upd (sb_same same_rfl)) upd_same h3.i0 (Int.le_trans (by decide) hbig) h3.r0 h3.r1
          exact pick_rest (o2 := some (.int cell)) (o3 := none) (D := { nx := fun _ H' => Q .non H', rt := Q }) h4 hm hm2 fun k H' s' d' k0 k1 => q k H' (sb_trans sb4 s') d' k0 k1
        · tm_at "ev"
          refine q_drI 3 h3.at_ rfl ?_
          tm_at "ev"
          refine ⟨_, _, rfl, rfl, (show (0 : Int) < 1000000007 by decide), ?_⟩
          tm_at "ev"
          refine q_setI 3 h3.at_ (by simp) ?_
          have sb4 : SameBut d H (upd H3 d (.lst ((drL s0 (i + 1) 0 r c).set 3 (.int ((r + cell) % 1000000007))))) := sb_upd sb3
          have h4 : DrI K N (upd H3 d (.lst ((drL s0 (i + 1) 0 r c).set 3 (.int ((r + cell) % 1000000007))))) d s0 ns (i + 1) 0 ((r + cell) % 1000000007) c := h3.step (sb_upd (sb_same same_rfl)) upd_same h3.i0 h3.b0 (Int.emod_nonneg _ (by decide)) (Int.emod_lt_of_pos _ (by decide))
          exact pick_rest (o2 := some (.int cell)) (o3 := none) (D := { nx := fun _ H' => Q .non H', rt := Q }) h4 hm hm2 fun k H' s' d' k0 k1 => q k H' (sb_trans sb4 s') d' k0 k1
      · exact pick_rest hd hm hm2 q
    · refine if_f rfl ?_
      exact pick_rest hd hm hm2 q
end
end Tp
set_option maxHeartbeats 2000000
namespace Tp
open PySem PySem.Spec PyProof.Rows L2
/-! ### words -/
structure Sg (z : Str) (n : Nat) : Prop where
  len : z.length ≤ n
  mem : ∀ c ∈ z.cps.toList, c ∈ signs.cps.toList
theorem fold_reps (c : Nat) : ∀ (n : Nat) (acc : Array Nat), ((List.replicate n #[c]).foldl (· ++ ·) acc).toList = acc.toList ++ List.replicate n c
  | 0, acc => by simp
  | n + 1, acc => by
    rw [List.replicate_succ, List.foldl_cons, fold_reps c n, Array.toList_append, List.replicate_succ]
    simp
theorem sg_mul {c : Nat} (hc : c ∈ signs.cps.toList) {n : Int} (h0 : 0 ≤ n) (h1 : n ≤ 12) : MulOk ⟨#[c]⟩ n ∧ Sg (Txt.mul ⟨#[c]⟩ n) 12 := by
  have hl : (⟨#[c]⟩ : Str).length = 1 := rfl
  have h64 : ((2 : Int) ^ 63) = 9223372036854775808 := by decide
  refine ⟨⟨?_, fun _ _ => ?_, fun _ _ => ?_⟩, ?_⟩
  · rw [h64]
    simp only [Bool.or_eq_false_iff, decide_eq_false_iff_not]
    omega
  · rw [hl, h64]
    rcases (by omega : n = 0 ∨ n = 1 ∨ n = 2 ∨ n = 3 ∨ n = 4 ∨ n = 5 ∨ n = 6 ∨ n = 7 ∨ n = 8 ∨ n = 9 ∨ n = 10 ∨ n = 11 ∨ n = 12) with h | h | h | h | h | h | h | h | h | h | h | h | h <;> subst h <;> first | decide | omega
  · rw [hl]
    unfold Builtin.Str.tooLong
    have : n.toNat ≤ 12 := by omega
    refine decide_eq_false ?_
    have hz : 12 ≤ sizeLine := by decide
    omega
  · unfold Txt.mul
    by_cases h : n < 1
    · rw [if_pos h]
      exact ⟨by show 0 ≤ 12; decide, fun c' h' => by
        have e : (Str.empty).cps.toList = [] := rfl
        rw [e] at h'
        cases h'⟩
    · rw [if_neg h]
      by_cases h2 : (n == 1 || (⟨#[c]⟩ : Str).length == 0) = true
      · rw [if_pos h2]
        exact ⟨by rw [hl]; decide, fun c' h' => by
          have : c' = c := by simpa using h'
          rw [this]
          exact hc⟩
      · rw [if_neg h2]
        have e := fold_reps c n.toNat #[]
        refine ⟨?_, fun c' h' => ?_⟩
        · show ((List.replicate n.toNat #[c]).foldl (· ++ ·) #[]).size ≤ 12
          rw [← Array.length_toList, e]
          simp
          omega
        · have h3 : c' ∈ ((List.replicate n.toNat #[c]).foldl (· ++ ·) #[]).toList := h'
          rw [e] at h3
          have : c' = c := by
            rcases List.mem_append.mp h3 with h4 | h4
            · cases h4
            · exact List.eq_of_mem_replicate h4
          rw [this]
          exact hc
theorem sg_join : ∀ {ys : List Str}, (∀ y ∈ ys, ∃ c, y = ⟨#[c]⟩ ∧ c ∈ signs.cps.toList) → Sg (Str.join "" ys) ys.length
  | [], _ => ⟨Nat.le_refl _, fun c h => by
    have e : (Str.join "" ([] : List Str)).cps.toList = [] := rfl
    rw [e] at h
    cases h⟩
  | [x], h => by
    obtain ⟨c, rfl, hc⟩ := h x (by simp)
    refine ⟨Nat.le_refl _, fun c' h' => ?_⟩
    have : c' = c := by
      have h2 : c' ∈ (#[c] : Array Nat).toList := h'
      simpa using h2
    rw [this]
    exact hc
  | x :: y :: r, h => by
    obtain ⟨c, hx, hc⟩ := h x (by simp)
    have ih := sg_join (ys := y :: r) fun z hz => h z (List.mem_cons_of_mem _ hz)
    have e : (Str.join "" (x :: y :: r)).cps.toList = [c] ++ (Str.join "" (y :: r)).cps.toList := by
      show ((x.cps ++ (Str.ofString "").cps) ++ (Str.join "" (y :: r)).cps).toList = _
      have e0 : (Str.ofString "").cps = #[] := by decide +kernel
      rw [hx, e0]
      simp
    refine ⟨?_, fun c' h' => ?_⟩
    · show (Str.join "" (x :: y :: r)).cps.size ≤ _
      rw [← Array.length_toList, e, List.length_append, Array.length_toList]
      have := ih.len
      rw [List.length_cons] at this ⊢
      have h3 : (Str.join "" (y :: r)).cps.size ≤ r.length + 1 := this
      simp
      omega
    · rw [e] at h'
      rcases List.mem_append.mp h' with h2 | h2
      · have : c' = c := by simpa using h2
        rw [this]
        exact hc
      · exact ih.mem c' h2
section
variable {X : Cx}
def rMulS : R2 := fun x y H Q => ∃ (z : Str) (n : Int), x = .str z ∧ y = .int n ∧ MulOk z n ∧ Q (.str (Txt.mul z n)) H
theorem op_mulS : OpR X (binaryOp .Mult) rMulS := by
  intro pins s σ H x y v u Q I rx ry h
  obtain ⟨z, n, rfl, rfl, ok, q⟩ := h
  obtain ⟨t, rfl⟩ := rx
  obtain ⟨t', rfl⟩ := ry
  exact SB.mul ok fun t2 k => ⟨.str (Txt.mul z n), H, I.tok _, ⟨_, rfl⟩, q⟩
theorem ev_rng1 {ta : TA} {σ : L2.St} {H : Hp} {R : It → Hp → Prop} (q : ta σ H fun vs H1 => ∃ j : Int, vs = [.int j] ∧ -(2 ^ 62) ≤ j ∧ j < 2 ^ 62 ∧ R (Itr 0 j.toNat) H1) : iRng1 ta σ H R := q
end
end Tp
set_option maxHeartbeats 4000000
namespace Tp
open PySem PySem.Spec PyProof.Rows L2
local macro_rules | `(tactic| tm_at "ev") => `(tactic| repeat first
  | with_reducible refine ev_seq ?_ | with_reducible refine ev_asg ?_ | with_reducible refine ev_drop ?_ | with_reducible refine ev_ret ?_ | with_reducible refine ev_ifS ?_ | with_reducible refine ev_next ?_
  | ((with_reducible refine' ev_var ?k1 ?_); (case k1 => exact rfl)) | with_reducible refine ev_c ?_ | with_reducible refine ev_op ?_ | with_reducible refine ev_I0 ?_ | with_reducible refine ev_test ?_ | with_reducible refine ev_B ?_ | with_reducible refine ev_bl ?_
  | ((with_reducible refine ev_eq ?k1 ?_); (case k1 => exact rfl)) | ((with_reducible refine ev_ne ?k1 ?_); (case k1 => exact rfl))
  | ((with_reducible refine' ev_nameL ?k1 ?_); (case k1 => first | (dsimp only [L2.start, wipe, List.map, List.set, List.length, List.replicate, List.append]; exact rfl) | exact rfl)) | with_reducible refine ev_name ?_ | with_reducible refine ev_nil ?_ | with_reducible refine ev_cons ?_ | with_reducible refine ev_call ?_ | with_reducible refine ev_tup ?_ | with_reducible refine ev_lst ?_ | with_reducible refine ev_CB ?_ | with_reducible refine ev_fld ?_
  | with_reducible refine ev_not ?_ | with_reducible refine ev_and ?_ | with_reducible refine ev_or ?_ | with_reducible refine ev_andV ?_ | with_reducible refine ev_orV ?_ | with_reducible refine ev_ifE ?_ | with_reducible refine ev_chain ?_ | with_reducible refine ev_meth ?_ | with_reducible refine ev_un ?_
  | with_reducible refine ev_sl ?_ | with_reducible refine ev_part ?_ | with_reducible refine ev_nopart ?_ | with_reducible refine ev_int ?_ | with_reducible refine ev_for ?_ | with_reducible refine ev_list ?_ | with_reducible refine ev_lc ?_ | with_reducible refine ev_gcons ?_ | with_reducible refine ev_gnil ?_ | with_reducible refine ev_sfld ?_ | with_reducible refine ev_make ?_ | with_reducible refine ev_notV ?_ | with_reducible refine ev_yes ?_ | with_reducible refine ev_dget ?_ | with_reducible refine ev_dput ?_ | with_reducible refine ev_bm ?_ | with_reducible refine ev_bm0 ?_ | with_reducible refine ev_items ?_ | with_reducible refine ev_keys ?_ | with_reducible refine ev_enum ?_ | with_reducible refine ev_tupI ?_ | with_reducible refine ev_par ?_ | with_reducible refine ev_two ?_ | with_reducible refine ev_kget ?_ | with_reducible refine ev_gsub ?_ | with_reducible refine ev_tapeK ?_ | with_reducible refine ev_str ?_ | with_reducible refine ev_txt ?_ | with_reducible refine ev_lc2 ?_ | with_reducible refine ev_dget2 ?_ | with_reducible refine ev_rU ?_ | with_reducible refine ev_ckw ?_ | with_reducible refine ev_dnotin ?_ | with_reducible refine ev_din ?_ | with_reducible refine ev_gfld ?_ | with_reducible refine ev_saug ?_ | with_reducible refine ev_finN ?_ | with_reducible refine ev_zs ?_ | with_reducible refine ev_rng1 ?_)
section
variable {P : Program} {w : World} {K : PySem.W.Frag} {mg : Str → Option Value} {base : Heap} {a : Ad}
/-! ### the draws -/
theorem q_sel {H : Hp} {p : Addr} {xs : List V} {k : Int} {Q : VK} (h : H p = some (.tup xs)) (h0 : 0 ≤ k) (h1 : k < xs.length) (q : ∀ v ∈ xs, Q v H) : rIxT K (.ref p) (.int k) H Q := by
  obtain ⟨v, hv⟩ : ∃ v, xs[k.toNat]? = some v := ⟨_, List.getElem?_eq_getElem (by omega)⟩
  exact ⟨p, xs, k, v, rfl, rfl, .inl (.inl h), atI_e h0 hv, q v (List.mem_of_getElem? hv)⟩
theorem dr_ne {N : List Addr} {H : Hp} {d p : Addr} (h : DrAt K N H d) (hp : H p = none) : p ≠ d := fun e => by
  obtain ⟨o, q⟩ := h.some
  rw [e, q] at hp
  cases hp
/-- a draw that gives a number of these bounds -/
def spI (K : PySem.W.Frag) (lo hi : Int) : Sp := fun vs H Q _ => ∃ (N : List Addr) (d : Addr), vs = [.ref d] ∧ DrAt K N H d ∧ ∀ k H', SameBut d H H' → DrAt K N H' d → lo ≤ k → k ≤ hi → Q (.int k) H'
def sp__law_begin (K : PySem.W.Frag) : Sp := fun vs H Q _ => ∃ (N : List Addr) (p : Addr) (ns : List Int), vs = [.ref p] ∧ Live N H ∧ SqL K H p (ns.map V.int) ∧ ns.length ≤ 63 ∧ ∀ d H', Same H H' → H d = none → Live (d :: N) H' → Same (wo N H) (wo (d :: N) H') → DrAt K (d :: N) H' d → Q (.ref d) H'
theorem sc__law_begin : FnScope ["_law_script"] ["_law_script"] (defScope s__law_begin) := ⟨rfl, rfl, rfl, by decide +kernel, rfl, by decide +kernel, by decide +kernel⟩
theorem ok__law_begin (T : Tx w K mg a) : C8.Cal P w K mg base 1 "_law_begin" (sp__law_begin K) [] := by
  refine calD T.d__law_begin sc__law_begin (fun _ _ _ _ _ _ us hl => match us, hl with | [_], _ => rfl) (fun vs H Q E h => ?_) (fun f cdv A outer s H vs Q E hr h => ?_)
  · obtain ⟨N, p, ns, rfl, _⟩ := h
    rfl
  · obtain ⟨N, p, ns, rfl, lv, hp, hl, q⟩ := h
    refine ⟨_, (pss_one (ps_ret (pe_lst (pa_cons (pe_callTy (kcall_list (K := K) rfl) rfl T.f_list (by decide +kernel) (pa_cons (pe_slice (ksl_list (K := K) rfl) (pv 0) po_none (po_some pe_int)) pa_nil)) (pa_cons pe_int (pa_cons pe_int (pa_cons pe_int (pa_cons pe_int pa_nil)))))))), ?_⟩
    tm_at "ev"
    refine ⟨p, _, rfl, hp, fun r hr0 => ?_⟩
    have e0 : cutV (ns.map V.int) none (some (63 : Int)) = ns.map V.int := by
      have := cut_to 63 (ns.map V.int)
      rw [show ((63 : Nat) : Int) = 63 from rfl] at this
      rw [this, List.take_of_length_le (by rw [List.length_map]; exact hl)]
    rw [e0]
    tm_at "ev"
    have s1 := same_new (o := .lst (ns.map V.int)) hr0
    refine ⟨r, _, rfl, .inl (.inl (.inl upd_same)), fun s0 hs0 => ?_⟩
    tm_at "ev"
    have s2 := same_new (o := .lst (ns.map V.int)) hs0
    have h2s : upd (upd H r (.lst (ns.map V.int))) s0 (.lst (ns.map V.int)) s0 = some (.lst (ns.map V.int)) := upd_same
    have sN : s0 ∉ N := (lv.same s1).notin hs0
    have s12 := s1.trans s2
    have lv2 := lv.same s12
    generalize upd (upd H r (.lst (ns.map V.int))) s0 (.lst (ns.map V.int)) = H2 at h2s s12 lv2 ⊢
    refine ⟨sz5, fun d hd => ?_⟩
    have s3 := same_new (o := .lst [V.ref s0, .int 0, .int 0, .int 1, .int 0]) hd
    have sd : s0 ≠ d := fun e => by rw [e, hd] at h2s; cases h2s
    have w3 : Same (wo N H2) (wo (d :: N) (upd H2 d (.lst [V.ref s0, .int 0, .int 0, .int 1, .int 0]))) := wo_newM hd
    exact q d _ (s12.trans s3) (s12.free hd) ((lv2.same s3).cons upd_same) ((wo_same s12).trans w3) ⟨s0, ns, 0, 0, 1, 0, upd_same, .inl (.inl (wo_at (fun h => (List.mem_cons.mp h).elim sd sN) ((upd_ne sd).trans h2s))), List.mem_cons_self, Int.le_refl _, Int.le_refl _, by decide, by decide⟩
theorem sc__law_channel : FnScope ["_law_draw"] ["_law_draw"] (defScope s__law_channel) := ⟨rfl, rfl, rfl, by decide +kernel, rfl, by decide +kernel, by decide +kernel⟩
theorem ok__law_channel (T : Tx w K mg a) (c__law_pick : C8.Cal P w K mg base 1 "_law_pick" (sp__law_pick K) []) : C8.Cal P w K mg base 2 "_law_channel" (spI K 0 15) [] := by
  refine calD T.d__law_channel sc__law_channel (fun _ _ _ _ _ _ us hl => match us, hl with | [_], _ => rfl) (fun vs H Q E h => ?_) (fun f cdv A outer s H vs Q E hr h => ?_)
  · obtain ⟨N, d, rfl, _⟩ := h
    rfl
  · obtain ⟨N, d, rfl, hd, q⟩ := h
    refine ⟨_, (pss_one (ps_ret (pe_ix (kix_tup (K := K) rfl) (pe_tup (pa_cons (C8.pe_c c__law_pick hr (by decide) rfl (pa_cons (pv 0) (pa_cons pe_int pa_nil))) (pa_cons (C8.pe_c c__law_pick hr (by decide) rfl (pa_cons (pv 0) (pa_cons pe_int pa_nil))) pa_nil))) (C8.pe_c c__law_pick hr (by decide) rfl (pa_cons (pv 0) (pa_cons pe_int pa_nil))) (fun _ _ => rfl)))), ?_⟩
    tm_at "ev"
    refine ⟨N, d, 3, rfl, hd, by decide, by decide, fun k1 H1 s1 d1 a1 b1 => ?_⟩
    tm_at "ev"
    refine ⟨N, d, 16, rfl, d1, by decide, by decide, fun k2 H2 s2 d2 a2 b2 => ?_⟩
    tm_at "ev"
    refine ⟨sz2, fun p hp => ?_⟩
    tm_at "ev"
    have s3 := same_new (o := .tup [V.int k1, V.int k2]) hp
    refine ⟨N, d, 2, rfl, d2.up s3, by decide, by decide, fun k3 H4 s4 d4 a3 b3 => ?_⟩
    have pd := dr_ne d2 hp
    refine q_sel (s4 _ _ pd upd_same) a3 b3 fun v hv => ?_
    have sb := sb_trans s1 (sb_trans s2 (sb_trans (sb_same s3) s4))
    simp only [List.mem_cons, List.not_mem_nil, or_false] at hv
    rcases hv with rfl | rfl
    · exact q k1 H4 sb d4 a1 (by omega)
    · exact q k2 H4 sb d4 a2 (by omega)
theorem sc__law_key : FnScope ["_law_draw"] ["_law_draw"] (defScope s__law_key) := ⟨rfl, rfl, rfl, by decide +kernel, rfl, by decide +kernel, by decide +kernel⟩
theorem ok__law_key (T : Tx w K mg a) (c__law_pick : C8.Cal P w K mg base 1 "_law_pick" (sp__law_pick K) []) : C8.Cal P w K mg base 2 "_law_key" (spI K 0 127) [] := by
  refine calD T.d__law_key sc__law_key (fun _ _ _ _ _ _ us hl => match us, hl with | [_], _ => rfl) (fun vs H Q E h => ?_) (fun f cdv A outer s H vs Q E hr h => ?_)
  · obtain ⟨N, d, rfl, _⟩ := h
    rfl
  · obtain ⟨N, d, rfl, hd, q⟩ := h
    refine ⟨_, (pss_one (ps_ret (pe_ix (kix_tup (K := K) rfl) (pe_tup (pa_cons (pe_op op_add pe_int (C8.pe_c c__law_pick hr (by decide) rfl (pa_cons (pv 0) (pa_cons pe_int pa_nil)))) (pa_cons (C8.pe_c c__law_pick hr (by decide) rfl (pa_cons (pv 0) (pa_cons pe_int pa_nil))) pa_nil))) (C8.pe_c c__law_pick hr (by decide) rfl (pa_cons (pv 0) (pa_cons pe_int pa_nil))) (fun _ _ => rfl)))), ?_⟩
    tm_at "ev"
    refine ⟨N, d, 3, rfl, hd, by decide, by decide, fun k1 H1 s1 d1 a1 b1 => ?_⟩
    tm_at "ev"
    refine ⟨N, d, 128, rfl, d1, by decide, by decide, fun k2 H2 s2 d2 a2 b2 => ?_⟩
    tm_at "ev"
    refine ⟨sz2, fun p hp => ?_⟩
    tm_at "ev"
    have s3 := same_new (o := .tup [V.int (60 + k1), V.int k2]) hp
    refine ⟨N, d, 2, rfl, d2.up s3, by decide, by decide, fun k3 H4 s4 d4 a3 b3 => ?_⟩
    have pd := dr_ne d2 hp
    refine q_sel (s4 _ _ pd upd_same) a3 b3 fun v hv => ?_
    have sb := sb_trans s1 (sb_trans s2 (sb_trans (sb_same s3) s4))
    simp only [List.mem_cons, List.not_mem_nil, or_false] at hv
    rcases hv with rfl | rfl
    · exact q (60 + k1) H4 sb d4 (by omega) (by omega)
    · exact q k2 H4 sb d4 a2 (by omega)
def sp__law_one (K : PySem.W.Frag) : Sp := fun vs H Q _ => ∃ (N : List Addr) (d : Addr) (v : V) (ds : List PyData), vs = [.ref d, v] ∧ DrAt K N H d ∧ Dw K N H v (.list ds) ∧ 0 < ds.length ∧ ds.length ≤ 100000 ∧ ∀ e ∈ ds, ∀ x H', SameBut d H H' → DrAt K N H' d → Dw K N H' x e → Q x H'
theorem sc__law_one : FnScope ["_law_draw", "_law_some"] ["_law_draw", "_law_some"] (defScope s__law_one) := ⟨rfl, rfl, rfl, by decide +kernel, rfl, by decide +kernel, by decide +kernel⟩
theorem ok__law_one (T : Tx w K mg a) (c__law_pick : C8.Cal P w K mg base 1 "_law_pick" (sp__law_pick K) []) : C8.Cal P w K mg base 2 "_law_one" (sp__law_one K) [] := by
  refine calD T.d__law_one sc__law_one (fun _ _ _ _ _ _ us hl => match us, hl with | [_, _], _ => rfl) (fun vs H Q E h => ?_) (fun f cdv A outer s H vs Q E hr h => ?_)
  · obtain ⟨N, d, v, ds, rfl, _⟩ := h
    rfl
  · obtain ⟨N, d, v, ds, rfl, hd, hv, l0, l1, q⟩ := h
    refine ⟨_, (pss_one (ps_ret (pe_ix (kix_list (K := K) rfl) (pv 1) (C8.pe_c c__law_pick hr (by decide) rfl (pa_cons (pv 0) (pa_cons (pe_callB (kcall_len (K := K) rfl) rfl T.f_len (by decide +kernel) (pa_cons (pv 1) pa_nil)) pa_nil))) (fun _ _ => rfl)))), ?_⟩
    tm_at "ev"
    refine q_len hv ?_
    tm_at "ev"
    refine ⟨N, d, _, rfl, hd, by omega, by omega, fun k1 H1 s1 d1 a1 b1 => ?_⟩
    obtain ⟨e, he⟩ : ∃ e, ds[k1.toNat]? = some e := ⟨_, List.getElem?_eq_getElem (by omega)⟩
    refine q_ixL (dp_mono (sb_w hd.mem s1) hv) (atI_e a1 he) fun x hx => ?_
    exact q e (List.mem_of_getElem? he) x H1 s1 d1 hx
def sp__law_word (K : PySem.W.Frag) : Sp := fun vs H Q _ => ∃ (N : List Addr) (d : Addr), vs = [.ref d, .int 12] ∧ Live N H ∧ DrAt K N H d ∧ ∀ z H', Sg z 12 → SameBut d H H' → DrAt K N H' d → Q (.str z) H'
theorem signs_len : signs.cps.toList.length = 37 := by decide +kernel
theorem q_sign {H : Hp} {k : Int} {Q : VK} (h0 : 0 ≤ k) (h1 : k < 37) (q : ∀ c, c ∈ signs.cps.toList → Q (.str ⟨#[c]⟩) H) : rIxS (.str signs) (.int k) H Q := by
  obtain ⟨c, hc⟩ : ∃ c, signs.cps.toList[k.toNat]? = some c := ⟨_, List.getElem?_eq_getElem (by rw [signs_len]; omega)⟩
  exact ⟨signs, k, c, rfl, rfl, by decide +kernel, atI_e h0 hc, q c (List.mem_of_getElem? hc)⟩
theorem sc__law_word : FnScope ["_law_draw", "_law_most", "_law_signs", "_law_k"] ["_law_draw", "_law_most"] (defScope s__law_word) := ⟨rfl, rfl, rfl, by decide +kernel, rfl, by decide +kernel, by decide +kernel⟩
theorem ok__law_word (T : Tx w K mg a) (c__law_pick : C8.Cal P w K mg base 1 "_law_pick" (sp__law_pick K) []) : C8.Cal P w K mg base 2 "_law_word" (sp__law_word K) [] := by
  refine calD T.d__law_word sc__law_word (fun _ _ _ _ _ _ us hl => match us, hl with | [_, _], _ => rfl) (fun vs H Q E h => ?_) (fun f cdv A outer s H vs Q E hr h => ?_)
  · obtain ⟨N, d, rfl, _⟩ := h
    rfl
  · obtain ⟨N, d, rfl, lv, hd, q⟩ := h
    refine ⟨_, (pss_cons (ps_set (i := 2) sc__law_word.nd rfl (Or.inr rfl) pe_str)
      (pss_cons (ps_if (pt_cmpR op_eq (C8.pe_c c__law_pick hr (by decide) rfl (pa_cons (pv 0) (pa_cons pe_int pa_nil))) pe_int (nomark _)) (pss_one (ps_ret (pe_op op_mulS (pe_ix ix_str (pv 2) (C8.pe_c c__law_pick hr (by decide) rfl (pa_cons (pv 0) (pa_cons pe_int pa_nil))) (fun _ _ => rfl)) (C8.pe_c c__law_pick hr (by decide) rfl (pa_cons (pv 0) (pa_cons (pe_op op_add (pv 1) pe_int) pa_nil)))))) pss_nil)
      (pss_one (ps_ret (pe_join pe_str (pe_lc (own := [("_law_k", 3)]) rfl sc__law_word.nd (pi_range1 rfl T.f_range (pa_cons (C8.pe_c c__law_pick hr (by decide) rfl (pa_cons (pv 0) (pa_cons (pe_op op_add (pv 1) pe_int) pa_nil))) pa_nil)) (blkOk_by (own := [("_law_k", 3)]) (N := ["_law_draw", "_law_most", "_law_signs", "_law_k"]) (sc := defScope s__law_word) (by decide +kernel)) (fun _ _ _ _ _ => pg_name (i := 3) sc__law_word.nd rfl (Or.inl rfl)) (fun _ _ _ _ _ => pts_nil) (fun _ _ _ _ _ => pe_ix ix_str (pv 2) (C8.pe_c c__law_pick hr (by decide) rfl (pa_cons (pv 0) (pa_cons pe_int pa_nil))) (fun _ _ => rfl)))))))), ?_⟩
    tm_at "ev"
    refine ⟨N, d, 2, rfl, hd, by decide, by decide, fun k1 H1 s1 d1 a1 b1 => ?_⟩
    tm_at "ev"
    refine if_dd (fun _ => ?_) fun _ => ?_
    · tm_at "ev"
      refine ⟨N, d, 37, rfl, d1, by decide, by decide, fun k2 H2 s2 d2 a2 b2 => ?_⟩
      refine q_sign a2 b2 fun c hc => ?_
      tm_at "ev"
      refine ⟨N, d, 13, rfl, d2, by decide, by decide, fun k3 H3 s3 d3 a3 b3 => ?_⟩
      obtain ⟨m1, m2⟩ := sg_mul hc a3 (show k3 ≤ 12 by omega)
      exact ⟨⟨#[c]⟩, k3, rfl, rfl, m1, q _ H3 m2 (sb_trans s1 (sb_trans s2 s3)) d3⟩
    · tm_at "ev"
      refine ⟨⟨_, rfl⟩, ?_⟩
      tm_at "ev"
      refine ⟨N, d, 13, rfl, d1, by decide, by decide, fun k2 H2 s2 d2 a2 b2 => ?_⟩
      have s12 := sb_trans s1 s2
      have lv2 := sb_live lv s12 d2.some
      refine ⟨k2, rfl, by omega, by omega, fun D hD => ?_⟩
      have Dd := dr_ne d2 hD
      have dD : DrAt K (D :: N) (upd H2 D (.lst [])) d := d2.to (wo_newM hD) (upd_ne (Ne.symm Dd)) (List.mem_cons_of_mem _ d2.mem)
      refine lc_range (lo := 0) (n := k2.toNat) (fun i H' => ∃ ys : List Str, SameBut d H2 H' ∧ DrAt K (D :: N) H' d ∧ H' D = some (.lst (ys.map V.str)) ∧ ys.length = i ∧ (∀ y ∈ ys, ∃ c, y = ⟨#[c]⟩ ∧ c ∈ signs.cps.toList) ∧ Same (wo N H2) (wo (D :: N) H'))
        ⟨[], sb_new (sb_same same_rfl) hD, dD, upd_same, rfl, (fun y h => nomatch h), wo_newM hD⟩ (fun i H' hi hh => ?_) fun H' hh => ?_
      · obtain ⟨ys, s3, d3, hDD, hl, hy, w3⟩ := hh
        tm_at "ev"
        refine ⟨rfl, ?_⟩
        tm_at "ev"
        refine if_t rfl ?_
        tm_at "ev"
        refine ⟨D :: N, d, 37, rfl, d3, by decide, by decide, fun k4 H4 s4 d4 a4 b4 => ?_⟩
        refine q_sign a4 b4 fun c hc => ?_
        have hD4 := s4 _ _ Dd hDD
        refine ⟨_, hD4, by rw [List.length_map, hl]; exact Nat.lt_of_lt_of_le (show i < 100 by omega) (by decide), ys ++ [⟨#[c]⟩], ?_, ?_, ?_, by rw [List.length_append, hl]; rfl, ?_, ?_⟩
        · intro b o h1 h2
          have hb : b ≠ D := ne_of_none h2 hD
          rw [upd_ne hb]
          exact s4 b o h1 (s3 b o h1 h2)
        · exact d4.to (wo_mut List.mem_cons_self) (upd_ne (Ne.symm Dd)) d4.mem
        · rw [upd_same, List.map_append]
          rfl
        · intro y hy'
          rcases List.mem_append.mp hy' with h | h
          · exact hy y h
          · rw [List.mem_singleton] at h
            exact ⟨c, h, hc⟩
        · exact (w3.trans (sb_w d3.mem s4)).trans (wo_mut List.mem_cons_self)
      · obtain ⟨ys, s3, d3, hDD, hl, hy, w3⟩ := hh
        have sg := sg_join hy
        have hs : ∀ us : List Str, (∀ y ∈ us, ∃ c, y = (⟨#[c]⟩ : Str) ∧ c ∈ signs.cps.toList) → (us.map (·.length)).sum = us.length := fun us => by
          induction us with
          | nil => intro _; rfl
          | cons y us ih =>
            intro h
            obtain ⟨c, e, _⟩ := h y (by simp)
            rw [List.map_cons, List.sum_cons, ih fun z hz => h z (List.mem_cons_of_mem _ hz), e, List.length_cons]
            show 1 + us.length = us.length + 1
            omega
        refine ⟨"", D, ys, rfl, rfl, .inl (.inl (.inl hDD)), ?_, ?_⟩
        · rw [hs ys hy, show (Str.ofString "").length = 0 by decide +kernel]
          omega
        · have e : Txt.join (Str.ofString "") ys = Str.join (Str.ofString "") ys := StrLaws.glued_eq_join _ _
          rw [e]
          exact q _ H' ⟨Nat.le_trans sg.len (by rw [hl]; omega), sg.mem⟩ (sb_trans s12 s3) (d3.to wo_drop rfl d2.mem)
end
end Tp
set_option maxHeartbeats 4000000
namespace Tp
open PySem PySem.Spec PyProof.Rows L2
local macro_rules | `(tactic| tm_at "ev") => `(tactic| repeat first
  | with_reducible refine ev_seq ?_ | with_reducible refine ev_asg ?_ | with_reducible refine ev_drop ?_ | with_reducible refine ev_ret ?_ | with_reducible refine ev_ifS ?_ | with_reducible refine ev_next ?_
  | ((with_reducible refine' ev_var ?k1 ?_); (case k1 => exact rfl)) | with_reducible refine ev_c ?_ | with_reducible refine ev_op ?_ | with_reducible refine ev_I0 ?_ | with_reducible refine ev_test ?_ | with_reducible refine ev_B ?_ | with_reducible refine ev_bl ?_
  | ((with_reducible refine ev_eq ?k1 ?_); (case k1 => exact rfl)) | ((with_reducible refine ev_ne ?k1 ?_); (case k1 => exact rfl))
  | ((with_reducible refine' ev_nameL ?k1 ?_); (case k1 => first | (dsimp only [L2.start, wipe, List.map, List.set, List.length, List.replicate, List.append]; exact rfl) | exact rfl)) | with_reducible refine ev_name ?_ | with_reducible refine ev_nil ?_ | with_reducible refine ev_cons ?_ | with_reducible refine ev_call ?_ | with_reducible refine ev_tup ?_ | with_reducible refine ev_lst ?_ | with_reducible refine ev_CB ?_ | with_reducible refine ev_fld ?_
  | with_reducible refine ev_not ?_ | with_reducible refine ev_and ?_ | with_reducible refine ev_or ?_ | with_reducible refine ev_andV ?_ | with_reducible refine ev_orV ?_ | with_reducible refine ev_ifE ?_ | with_reducible refine ev_chain ?_ | with_reducible refine ev_meth ?_ | with_reducible refine ev_un ?_
  | with_reducible refine ev_sl ?_ | with_reducible refine ev_part ?_ | with_reducible refine ev_nopart ?_ | with_reducible refine ev_int ?_ | with_reducible refine ev_for ?_ | with_reducible refine ev_list ?_ | with_reducible refine ev_lc ?_ | with_reducible refine ev_gcons ?_ | with_reducible refine ev_gnil ?_ | with_reducible refine ev_sfld ?_ | with_reducible refine ev_make ?_ | with_reducible refine ev_notV ?_ | with_reducible refine ev_yes ?_ | with_reducible refine ev_dget ?_ | with_reducible refine ev_dput ?_ | with_reducible refine ev_bm ?_ | with_reducible refine ev_bm0 ?_ | with_reducible refine ev_items ?_ | with_reducible refine ev_keys ?_ | with_reducible refine ev_enum ?_ | with_reducible refine ev_tupI ?_ | with_reducible refine ev_par ?_ | with_reducible refine ev_two ?_ | with_reducible refine ev_kget ?_ | with_reducible refine ev_gsub ?_ | with_reducible refine ev_tapeK ?_ | with_reducible refine ev_str ?_ | with_reducible refine ev_txt ?_ | with_reducible refine ev_lc2 ?_ | with_reducible refine ev_dget2 ?_ | with_reducible refine ev_rU ?_ | with_reducible refine ev_ckw ?_ | with_reducible refine ev_dnotin ?_ | with_reducible refine ev_din ?_ | with_reducible refine ev_gfld ?_ | with_reducible refine ev_saug ?_ | with_reducible refine ev_finN ?_ | with_reducible refine ev_zs ?_ | with_reducible refine ev_rng1 ?_)
section
variable {P : Program} {w : World} {K : PySem.W.Frag} {mg : Str → Option Value} {base : Heap} {a : Ad}
/-- a comprehension over a range whose items draw -/
theorem lc_draw {N : List Addr} {H1 : Hp} {d D : Addr} {lo : Int} {n : Nat} {g : TG} {te : TE} {vs : List Nat} {σ : L2.St} {Qd : Hp → Prop} (P : PyData → Prop) (hd : DrAt K N H1 d) (lv : Live N H1) (hD : H1 D = none) (hn : n ≤ 1000)
    (turn : ∀ i H', i < n → SameBut d H1 H' → Live (D :: N) H' → DrAt K (D :: N) H' d → ∀ Y : V → Hp → Prop, (∀ e y H2, P e → SameBut d H' H2 → DrAt K (D :: N) H2 d → Dw K (D :: N) H2 y e → Y y H2) → g (.int (lo + (i : Nat))) (wipe σ vs) H' fun σ2 H2 => wipe σ2 vs = wipe σ vs ∧ te σ2 H2 Y)
    (done : ∀ ds us H', ds.length = n → (∀ e ∈ ds, P e) → SameBut d H1 H' → Live N H' → DrAt K N H' d → H' D = some (.lst us) → DwA K (D :: N) H' us ds → Dw K N H' (.ref D) (.list ds) → Qd H') :
    ∃ W : Nat → Nat → Hp → Prop, (∃ m, W 0 m (upd H1 D (.lst []))) ∧ ∀ i m H, W i m H →
      ((Itr lo n).stop i H ∧ Qd H) ∨ ((Itr lo n).go i H ∧ ∃ Nx : Hp → Prop, (∀ H', Nx H' → ∃ m', m' < m ∧ W (i + 1) m' H') ∧ ∀ x H', (Itr lo n).yld i H x H' → g x (wipe σ vs) H' fun σ2 H2 => wipe σ2 vs = wipe σ vs ∧ tYes σ2 H2 fun b H3 =>
        if b = true then te σ2 H3 fun y H4 => ∃ acc, H4 D = some (.lst acc) ∧ acc.length < sizeLine ∧ Nx (upd H4 D (.lst (acc ++ [y]))) else Nx H3) := by
  have Dd := dr_ne hd hD
  have DN := lv.notin hD
  refine lc_range (lo := lo) (n := n) (fun i H' => ∃ us ds, SameBut d H1 H' ∧ DrAt K (D :: N) H' d ∧ H' D = some (.lst us) ∧ DwA K (D :: N) H' us ds ∧ ds.length = i ∧ ∀ e ∈ ds, P e)
    ⟨[], [], sb_new (sb_same same_rfl) hD, hd.to (wo_newM hD) (upd_ne (Ne.symm Dd)) (List.mem_cons_of_mem _ hd.mem), upd_same, .nil, rfl, (fun e h => nomatch h)⟩ (fun i H' hi hh => ?_) fun H' hh => ?_
  · obtain ⟨us, ds, s1, d1, hDD, du, hl, hP⟩ := hh
    have lv1 : Live (D :: N) H' := (sb_live lv s1 d1.some).cons hDD
    have t := turn i H' hi s1 lv1 d1 (fun y H4 => ∃ acc, H4 D = some (.lst acc) ∧ acc.length < sizeLine ∧ ∃ us ds, SameBut d H1 (upd H4 D (.lst (acc ++ [y]))) ∧ DrAt K (D :: N) (upd H4 D (.lst (acc ++ [y]))) d ∧ upd H4 D (.lst (acc ++ [y])) D = some (.lst us) ∧ DwA K (D :: N) (upd H4 D (.lst (acc ++ [y]))) us ds ∧ ds.length = i + 1 ∧ ∀ e ∈ ds, P e) (fun e y H4 he s4 d4 dy => by
      have w4 := sb_w d1.mem s4
      refine ⟨us, s4 _ _ Dd hDD, ?_, us ++ [y], ds ++ [e], ?_, ?_, upd_same, ?_, ?_, ?_⟩
      · rw [dpA_len du, hl]
        exact Nat.lt_of_lt_of_le (show i < 16000 by omega) (by decide)
      · intro b o h1 h2
        rw [upd_ne (ne_of_none h2 hD)]
        exact s4 b o h1 (s1 b o h1 h2)
      · exact d4.to (wo_mut List.mem_cons_self) (upd_ne (Ne.symm Dd)) d4.mem
      · exact dpA_app (dpA_mono (w4.trans (wo_mut List.mem_cons_self)) du) (dpA_one (dp_mono (wo_mut List.mem_cons_self) dy))
      · rw [List.length_append, hl]
        rfl
      · intro z hz
        rcases List.mem_append.mp hz with h | h
        · exact hP z h
        · rw [List.mem_singleton] at h
          exact h ▸ he)
    exact t
  · obtain ⟨us, ds, s1, d1, hDD, du, hl, hP⟩ := hh
    exact done ds us H' hl hP s1 (sb_live lv s1 d1.some) (d1.to wo_drop rfl hd.mem) hDD du (.lst (.inl (.inl (wo_at DN hDD))) (dpA_mono wo_drop du))
def sp__law_thing (K : PySem.W.Frag) : Sp := fun vs H Q _ => ∃ (N : List Addr) (d : Addr), vs = [.ref d] ∧ Live N H ∧ DrAt K N H d ∧ ∀ (th : Th) v H', th.ok → SameBut d H H' → DrAt K N H' d → Dw K N H' v th.d → Q v H'
theorem sc__law_thing : FnScope ["_law_draw", "_law_kind", "_law_channel_here"] ["_law_draw"] (defScope s__law_thing) := ⟨rfl, rfl, rfl, by decide +kernel, rfl, by decide +kernel, by decide +kernel⟩
theorem ok__law_thing (T : Tx w K mg a) (c__law_pick : C8.Cal P w K mg base 1 "_law_pick" (sp__law_pick K) []) (c__law_channel : C8.Cal P w K mg base 2 "_law_channel" (spI K 0 15) []) (c__law_key : C8.Cal P w K mg base 2 "_law_key" (spI K 0 127) [])
    (c__law_word : C8.Cal P w K mg base 2 "_law_word" (sp__law_word K) []) : C8.Cal P w K mg base 3 "_law_thing" (sp__law_thing K) [] := by
  refine calD T.d__law_thing sc__law_thing (fun _ _ _ _ _ _ us hl => match us, hl with | [_], _ => rfl) (fun vs H Q E h => ?_) (fun f cdv A outer s H vs Q E hr h => ?_)
  · obtain ⟨N, d, rfl, _⟩ := h
    rfl
  · obtain ⟨N, d, rfl, lv, hd, q⟩ := h
    refine ⟨_, (pss_cons (ps_set (i := 1) sc__law_thing.nd rfl (Or.inl rfl) (C8.pe_c c__law_pick hr (by decide) rfl (pa_cons (pv 0) (pa_cons pe_int pa_nil))))
      (pss_cons (ps_set (i := 2) sc__law_thing.nd rfl (Or.inl rfl) (C8.pe_c c__law_channel hr (by decide) rfl (pa_cons (pv 0) pa_nil)))
      (pss_cons (ps_if (pt_cmpR op_lt (pv 1) pe_int (nomark _)) (pss_one (ps_ret (pe_tup (pa_cons pe_str (pa_cons (pv 2) (pa_cons (C8.pe_c c__law_key hr (by decide) rfl (pa_cons (pv 0) pa_nil)) (pa_cons (pe_op op_add pe_int (C8.pe_c c__law_pick hr (by decide) rfl (pa_cons (pv 0) (pa_cons pe_int pa_nil)))) pa_nil))))))) pss_nil)
      (pss_cons (ps_if (pt_cmpR op_lt (pv 1) pe_int (nomark _)) (pss_one (ps_ret (pe_tup (pa_cons pe_str (pa_cons (pv 2) (pa_cons (C8.pe_c c__law_key hr (by decide) rfl (pa_cons (pv 0) pa_nil)) (pa_cons (pe_ix (kix_tup (K := K) rfl) (pe_tup (pa_cons pe_int (pa_cons (C8.pe_c c__law_pick hr (by decide) rfl (pa_cons (pv 0) (pa_cons pe_int pa_nil))) pa_nil))) (C8.pe_c c__law_pick hr (by decide) rfl (pa_cons (pv 0) (pa_cons pe_int pa_nil))) (fun _ _ => rfl)) pa_nil))))))) pss_nil)
      (pss_cons (ps_if (pt_cmpR op_lt (pv 1) pe_int (nomark _)) (pss_one (ps_ret (pe_tup (pa_cons pe_str (pa_cons (pv 2) (pa_cons (pe_ix (kix_tup (K := K) rfl) (pe_tup (pa_cons (C8.pe_c c__law_pick hr (by decide) rfl (pa_cons (pv 0) (pa_cons pe_int pa_nil))) (pa_cons (C8.pe_c c__law_pick hr (by decide) rfl (pa_cons (pv 0) (pa_cons pe_int pa_nil))) pa_nil))) (C8.pe_c c__law_pick hr (by decide) rfl (pa_cons (pv 0) (pa_cons pe_int pa_nil))) (fun _ _ => rfl)) (pa_cons (C8.pe_c c__law_pick hr (by decide) rfl (pa_cons (pv 0) (pa_cons pe_int pa_nil))) pa_nil))))))) pss_nil)
      (pss_cons (ps_if (pt_cmpR op_eq (pv 1) pe_int (nomark _)) (pss_one (ps_ret (pe_tup (pa_cons pe_str (pa_cons (pv 2) (pa_cons (C8.pe_c c__law_pick hr (by decide) rfl (pa_cons (pv 0) (pa_cons pe_int pa_nil))) pa_nil)))))) pss_nil)
      (pss_one (ps_ret (pe_tup (pa_cons pe_str (pa_cons (C8.pe_c c__law_word hr (by decide) rfl (pa_cons (pv 0) (pa_cons pe_int pa_nil))) pa_nil))))))))))), ?_⟩
    have fin : ∀ (th : Th) (xs : List V) H1 p, th.ok → SameBut d H H1 → DrAt K N H1 d → DwA K N H1 xs th.ds → H1 p = none → Q (.ref p) (upd H1 p (.tup xs)) := fun th xs H1 p ok s1 d1 dx hp => by
      have t := dw_tup (K := K) (sb_live lv s1 d1.some) dx hp
      exact q th _ _ ok (sb_trans s1 (sb_same t.1)) (d1.up t.1) t.2
    tm_at "ev"
    refine ⟨N, d, 12, rfl, hd, by decide, by decide, fun k1 H1 s1 d1 a1 b1 => ?_⟩
    tm_at "ev"
    refine ⟨N, d, rfl, d1, fun ch H2 s2 d2 c0 c1 => ?_⟩
    have s12 := sb_trans s1 s2
    tm_at "ev"
    refine if_dd (fun _ => ?_) fun _ => ?_
    · tm_at "ev"
      refine ⟨N, d, rfl, d2, fun ky H3 s3 d3 k0 k1 => ?_⟩
      tm_at "ev"
      refine ⟨N, d, 127, rfl, d3, by decide, by decide, fun fo H4 s4 d4 f0 f1 => ?_⟩
      tm_at "ev"
      refine ⟨sz4, fun p hp => ?_⟩
      exact fin (.on ch ky (1 + fo)) _ H4 p ⟨⟨c0, c1⟩, ⟨k0, k1⟩, by omega, by omega⟩ (sb_trans s12 (sb_trans s3 s4)) d4 (.cons (.str _) (.cons (.int _) (.cons (.int _) (.cons (.int _) .nil)))) hp
    · tm_at "ev"
      refine if_dd (fun _ => ?_) fun _ => ?_
      · tm_at "ev"
        refine ⟨N, d, rfl, d2, fun ky H3 s3 d3 k0 k1 => ?_⟩
        tm_at "ev"
        refine ⟨N, d, 128, rfl, d3, by decide, by decide, fun fo H4 s4 d4 f0 f1 => ?_⟩
        tm_at "ev"
        refine ⟨sz2, fun p5 hp5 => ?_⟩
        tm_at "ev"
        have s5 := same_new (o := .tup [V.int 64, V.int fo]) hp5
        refine ⟨N, d, 2, rfl, d4.up s5, by decide, by decide, fun k6 H6 s6 d6 a6 b6 => ?_⟩
        have pd := dr_ne d4 hp5
        have sb := sb_trans s12 (sb_trans s3 (sb_trans s4 (sb_trans (sb_same s5) s6)))
        refine q_sel (s6 _ _ pd upd_same) a6 b6 fun v hv => ?_
        have hv2 : ∃ z : Int, v = .int z ∧ 0 ≤ z ∧ z ≤ 127 := by
          simp only [List.mem_cons, List.not_mem_nil, or_false] at hv
          rcases hv with rfl | rfl
          · exact ⟨64, rfl, by decide, by decide⟩
          · exact ⟨fo, rfl, f0, by omega⟩
        obtain ⟨z, rfl, z0, z1⟩ := hv2
        tm_at "ev"
        refine ⟨sz4, fun p hp => ?_⟩
        exact fin (.off ch ky z) _ H6 p ⟨⟨c0, c1⟩, ⟨k0, k1⟩, z0, z1⟩ sb d6 (.cons (.str _) (.cons (.int _) (.cons (.int _) (.cons (.int _) .nil)))) hp
      · tm_at "ev"
        refine if_dd (fun _ => ?_) fun _ => ?_
        · tm_at "ev"
          refine ⟨N, d, 3, rfl, d2, by decide, by decide, fun g1 H3 s3 d3 k0 k1 => ?_⟩
          tm_at "ev"
          refine ⟨N, d, 128, rfl, d3, by decide, by decide, fun g2 H4 s4 d4 f0 f1 => ?_⟩
          tm_at "ev"
          refine ⟨sz2, fun p5 hp5 => ?_⟩
          tm_at "ev"
          have s5 := same_new (o := .tup [V.int g1, V.int g2]) hp5
          refine ⟨N, d, 2, rfl, d4.up s5, by decide, by decide, fun k6 H6 s6 d6 a6 b6 => ?_⟩
          have pd := dr_ne d4 hp5
          refine q_sel (s6 _ _ pd upd_same) a6 b6 fun v hv => ?_
          have hv2 : ∃ z : Int, v = .int z ∧ 0 ≤ z ∧ z ≤ 127 := by
            simp only [List.mem_cons, List.not_mem_nil, or_false] at hv
            rcases hv with rfl | rfl
            · exact ⟨g1, rfl, k0, by omega⟩
            · exact ⟨g2, rfl, f0, by omega⟩
          obtain ⟨z, rfl, z0, z1⟩ := hv2
          tm_at "ev"
          refine ⟨N, d, 128, rfl, d6, by decide, by decide, fun g3 H7 s7 d7 h0 h1 => ?_⟩
          have sb := sb_trans s12 (sb_trans s3 (sb_trans s4 (sb_trans (sb_same s5) (sb_trans s6 s7))))
          tm_at "ev"
          refine ⟨sz4, fun p hp => ?_⟩
          exact fin (.knob ch z g3) _ H7 p ⟨⟨c0, c1⟩, ⟨z0, z1⟩, h0, by omega⟩ sb d7 (.cons (.str _) (.cons (.int _) (.cons (.int _) (.cons (.int _) .nil)))) hp
        · tm_at "ev"
          refine if_dd (fun _ => ?_) fun _ => ?_
          · tm_at "ev"
            refine ⟨N, d, 128, rfl, d2, by decide, by decide, fun g1 H3 s3 d3 k0 k1 => ?_⟩
            tm_at "ev"
            refine ⟨sz3, fun p hp => ?_⟩
            exact fin (.voice ch g1) _ H3 p ⟨⟨c0, c1⟩, k0, by omega⟩ (sb_trans s12 s3) d3 (.cons (.str _) (.cons (.int _) (.cons (.int _) .nil))) hp
          · tm_at "ev"
            refine ⟨N, d, rfl, sb_live lv s12 d2.some, d2, fun z H3 sg s3 d3 => ?_⟩
            tm_at "ev"
            refine ⟨sz2, fun p hp => ?_⟩
            exact fin (.mark z) _ H3 p ⟨sg.len, sg.mem⟩ (sb_trans s12 s3) d3 (.cons (.str _) (.cons (.str _) .nil)) hp
end
end Tp
set_option maxHeartbeats 4000000
namespace Tp
open PySem PySem.Spec PyProof.Rows L2
local macro_rules | `(tactic| tm_at "ev") => `(tactic| repeat first
  | with_reducible refine ev_seq ?_ | with_reducible refine ev_asg ?_ | with_reducible refine ev_drop ?_ | with_reducible refine ev_ret ?_ | with_reducible refine ev_ifS ?_ | with_reducible refine ev_next ?_
  | ((with_reducible refine' ev_var ?k1 ?_); (case k1 => exact rfl)) | with_reducible refine ev_c ?_ | with_reducible refine ev_op ?_ | with_reducible refine ev_I0 ?_ | with_reducible refine ev_test ?_ | with_reducible refine ev_B ?_ | with_reducible refine ev_bl ?_
  | ((with_reducible refine ev_eq ?k1 ?_); (case k1 => exact rfl)) | ((with_reducible refine ev_ne ?k1 ?_); (case k1 => exact rfl))
  | ((with_reducible refine' ev_nameL ?k1 ?_); (case k1 => first | (dsimp only [L2.start, wipe, List.map, List.set, List.length, List.replicate, List.append]; exact rfl) | exact rfl)) | with_reducible refine ev_name ?_ | with_reducible refine ev_nil ?_ | with_reducible refine ev_cons ?_ | with_reducible refine ev_call ?_ | with_reducible refine ev_tup ?_ | with_reducible refine ev_lst ?_ | with_reducible refine ev_CB ?_ | with_reducible refine ev_fld ?_
  | with_reducible refine ev_not ?_ | with_reducible refine ev_and ?_ | with_reducible refine ev_or ?_ | with_reducible refine ev_andV ?_ | with_reducible refine ev_orV ?_ | with_reducible refine ev_ifE ?_ | with_reducible refine ev_chain ?_ | with_reducible refine ev_meth ?_ | with_reducible refine ev_un ?_
  | with_reducible refine ev_sl ?_ | with_reducible refine ev_part ?_ | with_reducible refine ev_nopart ?_ | with_reducible refine ev_int ?_ | with_reducible refine ev_for ?_ | with_reducible refine ev_list ?_ | with_reducible refine ev_lc ?_ | with_reducible refine ev_gcons ?_ | with_reducible refine ev_gnil ?_ | with_reducible refine ev_sfld ?_ | with_reducible refine ev_make ?_ | with_reducible refine ev_notV ?_ | with_reducible refine ev_yes ?_ | with_reducible refine ev_dget ?_ | with_reducible refine ev_dput ?_ | with_reducible refine ev_bm ?_ | with_reducible refine ev_bm0 ?_ | with_reducible refine ev_items ?_ | with_reducible refine ev_keys ?_ | with_reducible refine ev_enum ?_ | with_reducible refine ev_tupI ?_ | with_reducible refine ev_par ?_ | with_reducible refine ev_two ?_ | with_reducible refine ev_kget ?_ | with_reducible refine ev_gsub ?_ | with_reducible refine ev_tapeK ?_ | with_reducible refine ev_str ?_ | with_reducible refine ev_txt ?_ | with_reducible refine ev_lc2 ?_ | with_reducible refine ev_dget2 ?_ | with_reducible refine ev_rU ?_ | with_reducible refine ev_ckw ?_ | with_reducible refine ev_dnotin ?_ | with_reducible refine ev_din ?_ | with_reducible refine ev_gfld ?_ | with_reducible refine ev_saug ?_ | with_reducible refine ev_finN ?_ | with_reducible refine ev_zs ?_ | with_reducible refine ev_rng1 ?_)
section
variable {P : Program} {w : World} {K : PySem.W.Frag} {mg : Str → Option Value} {base : Heap} {a : Ad}
/-! ### _law_keen_track -/
def ckD (q : Int × Int) : PyData := .tuple [.int q.1, .int q.2]
/-- the state of the loop over the events -/
structure Kt (K : PySem.W.Frag) (N : List Addr) (H : Hp) (d F S : Addr) (ds : List PyData) (tk : Int) (l : List Ev) (H' : Hp) : Prop where
  sb : SameBut d H H'
  dr : DrAt K (F :: N) H' d
  lv : Live (F :: N) H'
  fd : ∃ us, H' F = some (.lst us) ∧ DwA K (F :: N) H' us (l.map Ev.d)
  sm : Dw K (F :: N) H' (.ref S) (.list ds)
  ok : ∀ e ∈ l, e.ok
  up : l.Pairwise fun x y => x.t ≤ y.t
  le : ∀ e ∈ l, e.t ≤ tk
  tk0 : 0 ≤ tk
  tk1 : tk ≤ 999999
theorem Kt.draw {N : List Addr} {H H1 H2 : Hp} {d F S : Addr} {ds : List PyData} {tk : Int} {l : List Ev} (k : Kt K N H d F S ds tk l H1) (Fd : F ≠ d) (s : SameBut d H1 H2) (dr : DrAt K (F :: N) H2 d) : Kt K N H d F S ds tk l H2 := by
  obtain ⟨us, h1, h2⟩ := k.fd
  have w := sb_w k.dr.mem s
  exact ⟨sb_trans k.sb s, dr, sb_live k.lv s dr.some, ⟨us, s _ _ Fd h1, dpA_mono w h2⟩, dp_mono w k.sm, k.ok, k.up, k.le, k.tk0, k.tk1⟩
theorem Kt.app {N : List Addr} {H H1 : Hp} {d F S : Addr} {ds : List PyData} {tk tk' : Int} {l : List Ev} {e : Ev} {v : V} (k : Kt K N H d F S ds tk l H1) (Fd : F ≠ d) (hF : H F = none) (ht : tk ≤ tk') (ht1 : tk' ≤ 999999) (he : e.t = tk') (oke : e.ok) (hv : Dw K (F :: N) H1 v e.d)
    {us : List V} (h1 : H1 F = some (.lst us)) (h2 : DwA K (F :: N) H1 us (l.map Ev.d)) : Kt K N H d F S ds tk' (l ++ [e]) (upd H1 F (.lst (us ++ [v]))) := by
  have w : Same (wo (F :: N) H1) (wo (F :: N) (upd H1 F (.lst (us ++ [v])))) := wo_mut List.mem_cons_self
  have ht0 := k.tk0
  refine ⟨fun b o n h => ?_, k.dr.to w (upd_ne (Ne.symm Fd)) k.dr.mem, live_upd k.lv, ⟨_, upd_same, ?_⟩, dp_mono w k.sm, ?_, ?_, ?_, by omega, ht1⟩
  · rw [upd_ne (ne_of_none h hF)]
    exact k.sb b o n h
  · rw [List.map_append]
    exact dpA_app (dpA_mono w h2) (dpA_one (dp_mono w hv))
  · intro x hx
    rcases List.mem_append.mp hx with h | h
    · exact k.ok x h
    · rw [List.mem_singleton] at h
      exact h ▸ oke
  · refine List.pairwise_append.mpr ⟨k.up, by simp, fun x hx y hy => ?_⟩
    rw [List.mem_singleton] at hy
    have := k.le x hx
    rw [hy, he]
    omega
  · intro x hx
    rcases List.mem_append.mp hx with h | h
    · have := k.le x h
      omega
    · rw [List.mem_singleton] at h
      rw [h, he]
      exact Int.le_refl _
def sp__law_keen_track (K : PySem.W.Frag) : Sp := fun vs H Q _ => ∃ (N : List Addr) (d : Addr), vs = [.ref d, .int 12] ∧ Live N H ∧ DrAt K N H d ∧ ∀ (l : List Ev) r H', (∀ e ∈ l, e.ok) → (l.Pairwise fun x y => x.t ≤ y.t) → l.length ≤ 12 → SameBut d H H' → DrAt K N H' d → Dw K N H' (.ref r) (trD l) → Q (.ref r) H'
theorem sc__law_keen_track : FnScope ["_law_draw", "_law_most", "_law_found", "_law_tick_here", "_law_k", "_law_some", "_law_channel_here", "_law_key_here", "_law_kind"] ["_law_draw", "_law_most"] (defScope s__law_keen_track) := ⟨rfl, rfl, rfl, by decide +kernel, rfl, by decide +kernel, by decide +kernel⟩
theorem ok__law_keen_track (T : Tx w K mg a) (c__law_pick : C8.Cal P w K mg base 1 "_law_pick" (sp__law_pick K) []) (c__law_channel : C8.Cal P w K mg base 2 "_law_channel" (spI K 0 15) []) (c__law_key : C8.Cal P w K mg base 2 "_law_key" (spI K 0 127) [])
    (c__law_one : C8.Cal P w K mg base 2 "_law_one" (sp__law_one K) []) (c__law_thing : C8.Cal P w K mg base 3 "_law_thing" (sp__law_thing K) []) : C8.Cal P w K mg base 4 "_law_keen_track" (sp__law_keen_track K) [] := by
  refine calD T.d__law_keen_track sc__law_keen_track (fun _ _ _ _ _ _ us hl => match us, hl with | [_, _], _ => rfl) (fun vs H Q E h => ?_) (fun f cdv A outer s H vs Q E hr h => ?_)
  · obtain ⟨N, d, rfl, _⟩ := h
    rfl
  · obtain ⟨N, d, rfl, lv, hd, q⟩ := h
    refine ⟨_, (pss_cons (ps_set (i := 2) sc__law_keen_track.nd rfl (Or.inl rfl) (pe_lst pa_nil))
      (pss_cons (ps_set (i := 3) sc__law_keen_track.nd rfl (Or.inl rfl) pe_int)
      (pss_cons (ps_setLc (i := 5) (own := [("_law_k", 4)]) rfl sc__law_keen_track.nd rfl rfl (sw_true rfl rfl rfl (by decide +kernel)) (pi_range1 rfl T.f_range (pa_cons (pe_op op_add pe_int (C8.pe_c c__law_pick hr (by decide) rfl (pa_cons (pv 0) (pa_cons pe_int pa_nil)))) pa_nil)) (blkOk_by (own := [("_law_k", 4)]) (N := ["_law_draw", "_law_most", "_law_found", "_law_tick_here", "_law_k", "_law_some", "_law_channel_here", "_law_key_here", "_law_kind"]) (sc := defScope s__law_keen_track) (by decide +kernel)) (fun _ _ _ _ _ => pg_name (i := 4) sc__law_keen_track.nd rfl (Or.inl rfl)) (fun _ _ _ _ _ => pts_nil) (fun _ _ _ _ _ => pe_tup (pa_cons (C8.pe_c c__law_channel hr (by decide) rfl (pa_cons (pv 0) pa_nil)) (pa_cons (C8.pe_c c__law_key hr (by decide) rfl (pa_cons (pv 0) pa_nil)) pa_nil))))
      (pss_cons (ps_for PassesOwn.never rfl (pi_range1 rfl T.f_range (pa_cons (C8.pe_c c__law_pick hr (by decide) rfl (pa_cons (pv 0) (pa_cons (pe_op op_add (pv 1) pe_int) pa_nil))) pa_nil)) (pg_name (i := 4) sc__law_keen_track.nd rfl (Or.inl rfl))
        (pss_cons (ps_set (i := 3) sc__law_keen_track.nd rfl (Or.inl rfl) (pe_callB (call_min2 rfl) rfl T.f_min (by decide +kernel) (pa_cons pe_int (pa_cons (pe_op op_add (pv 3) (C8.pe_c c__law_pick hr (by decide) rfl (pa_cons (pv 0) (pa_cons (pe_ix (kix_tup (K := K) rfl) (pe_tup (pa_cons pe_int (pa_cons pe_int (pa_cons pe_int (pa_cons pe_int pa_nil))))) (C8.pe_c c__law_pick hr (by decide) rfl (pa_cons (pv 0) (pa_cons pe_int pa_nil))) (fun _ _ => rfl)) pa_nil)))) pa_nil))))
        (pss_cons (ps_asg (C8.pe_c c__law_one hr (by decide) rfl (pa_cons (pv 0) (pa_cons (pv 5) pa_nil))) (kg_tup (K := K) rfl (pg_tup (n := 2) rfl (pgs_cons (pg_name (i := 6) sc__law_keen_track.nd rfl (Or.inl rfl)) (pgs_cons (pg_name (i := 7) sc__law_keen_track.nd rfl (Or.inl rfl)) pgs_nil)))))
        (pss_cons (ps_set (i := 8) sc__law_keen_track.nd rfl (Or.inl rfl) (C8.pe_c c__law_pick hr (by decide) rfl (pa_cons (pv 0) (pa_cons pe_int pa_nil))))
        (pss_one (ps_if (pt_cmpR op_lt (pv 8) pe_int (nomark _)) (pss_one (ps_expr (k_bm (K := K) rfl (pe_bm PySem.F.plainAttrs_list PySem.F.slot_list_append PySem.F.type_list_append mt_append (pv 2) (pa_cons (pe_tup (pa_cons (pv 3) (pa_cons pe_str (pa_cons (pv 6) (pa_cons (pv 7) (pa_cons (pe_op op_add pe_int (C8.pe_c c__law_pick hr (by decide) rfl (pa_cons (pv 0) (pa_cons pe_int pa_nil)))) pa_nil)))))) pa_nil))))) (pss_one (ps_if (pt_cmpR op_lt (pv 8) pe_int (nomark _)) (pss_one (ps_expr (k_bm (K := K) rfl (pe_bm PySem.F.plainAttrs_list PySem.F.slot_list_append PySem.F.type_list_append mt_append (pv 2) (pa_cons (pe_tup (pa_cons (pv 3) (pa_cons pe_str (pa_cons (pv 6) (pa_cons (pv 7) (pa_cons (pe_ix (kix_tup (K := K) rfl) (pe_tup (pa_cons pe_int (pa_cons (C8.pe_c c__law_pick hr (by decide) rfl (pa_cons (pv 0) (pa_cons pe_int pa_nil))) pa_nil))) (C8.pe_c c__law_pick hr (by decide) rfl (pa_cons (pv 0) (pa_cons pe_int pa_nil))) (fun _ _ => rfl)) pa_nil)))))) pa_nil))))) (pss_one (ps_expr (k_bm (K := K) rfl (pe_bm PySem.F.plainAttrs_list PySem.F.slot_list_append PySem.F.type_list_append mt_append (pv 2) (pa_cons (pe_op (kop_cat (K := K) rfl) (pe_tup (pa_cons (pv 3) pa_nil)) (C8.pe_c c__law_thing hr (by decide) rfl (pa_cons (pv 0) pa_nil))) pa_nil)))))))))))))
      (pss_one (ps_ret (pv 2))))))), ?_⟩
    tm_at "ev"
    refine ⟨sz0, fun F hF => ?_⟩
    tm_at "ev"
    have Fd := dr_ne hd hF
    have FN := lv.notin hF
    have s0 := same_new (o := .lst []) hF
    have w0 : Same (wo N H) (wo (F :: N) (upd H F (.lst []))) := wo_newM hF
    have lv0 : Live (F :: N) (upd H F (.lst [])) := (lv.same s0).cons upd_same
    have hd0 : DrAt K (F :: N) (upd H F (.lst [])) d := hd.to w0 (upd_ne (Ne.symm Fd)) (List.mem_cons_of_mem _ hd.mem)
    have hF0 : upd H F (.lst []) F = some (.lst []) := upd_same
    generalize upd H F (.lst []) = H0 at s0 w0 lv0 hd0 hF0 ⊢
    refine ⟨F :: N, d, 3, rfl, hd0, by decide, by decide, fun k1 H1 s1 d1 a1 b1 => ?_⟩
    have lv1 := sb_live lv0 s1 d1.some
    tm_at "ev"
    refine ⟨1 + k1, rfl, by omega, by omega, fun S hS => lc_draw (K := K) (N := F :: N) (fun e => ∃ c k : Int, e = ckD (c, k) ∧ (0 ≤ c ∧ c ≤ 15) ∧ 0 ≤ k ∧ k ≤ 127) d1 lv1 hS (by omega) ?_ ?_⟩
    · intro i H2 hi s2 lv2 d2 Y hY
      tm_at "ev"
      refine ⟨rfl, ?_⟩
      tm_at "ev"
      refine ⟨S :: F :: N, d, rfl, d2, fun c H3 s3 d3 c0 c1 => ?_⟩
      tm_at "ev"
      refine ⟨S :: F :: N, d, rfl, d3, fun k H4 s4 d4 k0 k2 => ?_⟩
      tm_at "ev"
      refine ⟨sz2, fun p hp => ?_⟩
      have s34 := sb_trans s3 s4
      have t5 := dw_tup (K := K) (sb_live lv2 s34 d4.some) (xs := [.int c, .int k]) (ds := [.int c, .int k]) (.cons (.int _) (.cons (.int _) .nil)) hp
      exact hY (ckD (c, k)) (.ref p) _ ⟨c, k, rfl, ⟨c0, c1⟩, k0, k2⟩ (sb_trans s34 (sb_same t5.1)) (d4.up t5.1) t5.2
    intro ds us0 H2 hl hP s2 lv2 d2 hS2 du2 dS
    tm_at "ev"
    refine ⟨F :: N, d, 13, rfl, d2, by decide, by decide, fun k3 H3 s3 d3 a3 b3 => ?_⟩
    have lv3 := sb_live lv2 s3 d3.some
    tm_at "ev"
    refine ⟨k3, rfl, by omega, by omega, ?_⟩
    have s03 := sb_trans (sb_same s0) (sb_trans s1 (sb_trans s2 s3))
    have K0 : Kt K N H d F S ds 0 [] H3 := ⟨s03, d3, lv3, ⟨[], s3 _ _ Fd (s2 _ _ Fd (s1 _ _ Fd hF0)), .nil⟩, dp_mono (sb_w d2.mem s3) dS, (fun e h => nomatch h), .nil, (fun e h => nomatch h), Int.le_refl _, by decide⟩
    refine for_range (lo := 0) (n := k3.toNat) (fun i σ H' => ∃ l tk o4 o6 o7 o8, σ = [some (.ref d), some (.int 12), some (.ref F), some (.int tk), o4, some (.ref S), o6, o7, o8] ∧ l.length = i ∧ Kt K N H d F S ds tk l H') ⟨[], 0, none, none, none, none, rfl, rfl, K0⟩ (fun i σ H4 hi hh => ?_) fun σ H4 hh => ?_
    · obtain ⟨l, tk, o4, o6, o7, o8, rfl, hll, kt⟩ := hh
      tm_at "ev"
      refine ⟨sz4, fun p5 hp5 => ?_⟩
      tm_at "ev"
      have s5 := same_new (o := .tup [V.int 1, .int 3, .int 60, .int 9000]) hp5
      refine ⟨F :: N, d, 4, rfl, kt.dr.up s5, by decide, by decide, fun k6 H6 s6 d6 a6 b6 => ?_⟩
      have pd := dr_ne kt.dr hp5
      refine q_sel (s6 _ _ pd upd_same) a6 b6 fun v hv => ?_
      have hv2 : ∃ z : Int, v = .int z ∧ 1 ≤ z ∧ z ≤ 9000 := by
        simp only [List.mem_cons, List.not_mem_nil, or_false] at hv
        rcases hv with rfl | rfl | rfl | rfl
        · exact ⟨1, rfl, by decide, by decide⟩
        · exact ⟨3, rfl, by decide, by decide⟩
        · exact ⟨60, rfl, by decide, by decide⟩
        · exact ⟨9000, rfl, by decide, by decide⟩
      obtain ⟨z, rfl, z0, z1⟩ := hv2
      tm_at "ev"
      refine ⟨F :: N, d, z, rfl, d6, z0, by omega, fun k7 H7 s7 d7 a7 b7 => ?_⟩
      have kt7 := kt.draw Fd (sb_trans (sb_same s5) (sb_trans s6 s7)) d7
      tm_at "ev"
      refine ⟨999999, tk + k7, rfl, ?_⟩
      have ht0 := kt7.tk0
      have ht1 := kt7.tk1
      obtain ⟨tk', e', l1, l2⟩ : ∃ tk' : Int, (if tk + k7 < 999999 then tk + k7 else 999999) = tk' ∧ tk ≤ tk' ∧ tk' ≤ 999999 := by
        by_cases h : tk + k7 < 999999
        · exact ⟨_, if_pos h, by omega, by omega⟩
        · exact ⟨_, if_neg h, by omega, by decide⟩
      rw [e']
      tm_at "ev"
      refine ⟨F :: N, d, .ref S, ds, rfl, d7, kt7.sm, by omega, by omega, fun e he x H8 s8 d8 dx => ?_⟩
      obtain ⟨c, ky, rfl, ⟨c0, c1⟩, g0, g1⟩ := hP e he
      have kt8 := kt7.draw Fd s8 d8
      tm_at "ev"
      refine q_unT dx rfl fun us hus => ?_
      obtain ⟨v1, r1, rfl, e1, hus⟩ := dpA_cons hus
      obtain ⟨v2, r2, rfl, e2, hus⟩ := dpA_cons hus
      obtain rfl := dpA_nil hus
      obtain rfl := dp_int e1
      obtain rfl := dp_int e2
      tm_at "ev"
      refine ⟨F :: N, d, 9, rfl, d8, by decide, by decide, fun k9 H9 s9 d9 a9 b9 => ?_⟩
      have kt9 := kt8.draw Fd s9 d9
      tm_at "ev"
      refine if_dd (fun _ => ?_) fun _ => ?_
      · tm_at "ev"
        obtain ⟨us9, hF9, dF9⟩ := kt9.fd
        refine ⟨tyL hF9, ?_⟩
        tm_at "ev"
        refine ⟨F :: N, d, 127, rfl, d9, by decide, by decide, fun fo H10 s10 d10 f0 f1 => ?_⟩
        have kt10 := kt9.draw Fd s10 d10
        tm_at "ev"
        refine ⟨sz5, fun p hp => ?_⟩
        have t11 := dw_tup (K := K) kt10.lv (xs := [.int tk', .str "on", .int c, .int ky, .int (1 + fo)]) (ds := [.int tk', .str "on", .int c, .int ky, .int (1 + fo)]) (.cons (.int _) (.cons (.str _) (.cons (.int _) (.cons (.int _) (.cons (.int _) .nil))))) hp
        have kt11 := kt10.draw Fd (sb_same t11.1) (d10.up t11.1)
        obtain ⟨us, hF11, dF11⟩ := kt11.fd
        tm_at "ev"
        refine ⟨F, us, .ref p, rfl, rfl, hF11, by rw [dpA_len dF11, List.length_map, hll]; exact Nat.lt_of_lt_of_le (show i < 100 by omega) (by decide), ?_⟩
        exact ⟨l ++ [⟨tk', .on c ky (1 + fo)⟩], tk', _, _, _, _, rfl, by rw [List.length_append, hll]; rfl, kt11.app (e := ⟨tk', .on c ky (1 + fo)⟩) Fd hF l1 l2 rfl ⟨⟨by show (0 : Int) ≤ tk'; omega, l2⟩, ⟨c0, c1⟩, ⟨g0, g1⟩, by omega, by omega⟩ t11.2 hF11 dF11⟩
      · tm_at "ev"
        refine if_dd (fun _ => ?_) fun _ => ?_
        · tm_at "ev"
          obtain ⟨us9, hF9, dF9⟩ := kt9.fd
          refine ⟨tyL hF9, ?_⟩
          tm_at "ev"
          refine ⟨F :: N, d, 128, rfl, d9, by decide, by decide, fun fo H10 s10 d10 f0 f1 => ?_⟩
          have kt10 := kt9.draw Fd s10 d10
          tm_at "ev"
          refine ⟨sz2, fun p11 hp11 => ?_⟩
          tm_at "ev"
          have s11 := same_new (o := .tup [V.int 64, V.int fo]) hp11
          refine ⟨F :: N, d, 2, rfl, d10.up s11, by decide, by decide, fun k12 H12 s12 d12 a12 b12 => ?_⟩
          have kt12 := kt10.draw Fd (sb_trans (sb_same s11) s12) d12
          refine q_sel (s12 _ _ (dr_ne d10 hp11) upd_same) a12 b12 fun v hv => ?_
          have hv2 : ∃ z : Int, v = .int z ∧ 0 ≤ z ∧ z ≤ 127 := by
            simp only [List.mem_cons, List.not_mem_nil, or_false] at hv
            rcases hv with rfl | rfl
            · exact ⟨64, rfl, by decide, by decide⟩
            · exact ⟨fo, rfl, f0, by omega⟩
          obtain ⟨y, rfl, y0, y1⟩ := hv2
          tm_at "ev"
          refine ⟨sz5, fun p hp => ?_⟩
          have t13 := dw_tup (K := K) kt12.lv (xs := [.int tk', .str "off", .int c, .int ky, .int y]) (ds := [.int tk', .str "off", .int c, .int ky, .int y]) (.cons (.int _) (.cons (.str _) (.cons (.int _) (.cons (.int _) (.cons (.int _) .nil))))) hp
          have kt13 := kt12.draw Fd (sb_same t13.1) (d12.up t13.1)
          obtain ⟨us, hF13, dF13⟩ := kt13.fd
          tm_at "ev"
          refine ⟨F, us, .ref p, rfl, rfl, hF13, by rw [dpA_len dF13, List.length_map, hll]; exact Nat.lt_of_lt_of_le (show i < 100 by omega) (by decide), ?_⟩
          exact ⟨l ++ [⟨tk', .off c ky y⟩], tk', _, _, _, _, rfl, by rw [List.length_append, hll]; rfl, kt13.app (e := ⟨tk', .off c ky y⟩) Fd hF l1 l2 rfl ⟨⟨by show (0 : Int) ≤ tk'; omega, l2⟩, ⟨c0, c1⟩, ⟨g0, g1⟩, y0, y1⟩ t13.2 hF13 dF13⟩
        · tm_at "ev"
          obtain ⟨us9, hF9, dF9⟩ := kt9.fd
          refine ⟨tyL hF9, ?_⟩
          tm_at "ev"
          refine ⟨sz1, fun p10 hp10 => ?_⟩
          have t10 := dw_tup (K := K) kt9.lv (xs := [.int tk']) (ds := [.int tk']) (.cons (.int _) .nil) hp10
          have kt10 := kt9.draw Fd (sb_same t10.1) (d9.up t10.1)
          tm_at "ev"
          refine ⟨F :: N, d, rfl, kt10.lv, kt10.dr, fun th v11 H11 okth s11 d11 dv11 => ?_⟩
          have kt11 := kt10.draw Fd s11 d11
          have lth : th.ds.length ≤ 4 := by cases th <;> simp [Th.ds]
          refine q_catT kt11.lv (dp_mono (sb_w kt10.dr.mem s11) t10.2) dv11 (by simp; omega) fun v12 H12 s12 dv12 => ?_
          have kt12 := kt11.draw Fd (sb_same s12) (d11.up s12)
          obtain ⟨us, hF12, dF12⟩ := kt12.fd
          tm_at "ev"
          refine ⟨F, us, v12, rfl, rfl, hF12, by rw [dpA_len dF12, List.length_map, hll]; exact Nat.lt_of_lt_of_le (show i < 100 by omega) (by decide), ?_⟩
          exact ⟨l ++ [⟨tk', th⟩], tk', _, _, _, _, rfl, by rw [List.length_append, hll]; rfl, kt12.app (e := ⟨tk', th⟩) Fd hF l1 l2 rfl ⟨⟨by show (0 : Int) ≤ tk'; omega, l2⟩, okth⟩ dv12 hF12 dF12⟩
    · obtain ⟨l, tk, o4, o6, o7, o8, rfl, hll, kt⟩ := hh
      obtain ⟨us, hF4, dF4⟩ := kt.fd
      tm_at "ev"
      exact q l F H4 kt.ok kt.up (by omega) kt.sb (kt.dr.to wo_drop rfl hd.mem) (.lst (.inl (.inl (wo_at FN hF4))) (dpA_mono wo_drop dF4))
end
end Tp
set_option maxHeartbeats 4000000
namespace Tp
open PySem PySem.Spec PyProof.Rows L2
local macro_rules | `(tactic| tm_at "ev") => `(tactic| repeat first
  | with_reducible refine ev_seq ?_ | with_reducible refine ev_asg ?_ | with_reducible refine ev_drop ?_ | with_reducible refine ev_ret ?_ | with_reducible refine ev_ifS ?_ | with_reducible refine ev_next ?_
  | ((with_reducible refine' ev_var ?k1 ?_); (case k1 => exact rfl)) | with_reducible refine ev_c ?_ | with_reducible refine ev_op ?_ | with_reducible refine ev_I0 ?_ | with_reducible refine ev_test ?_ | with_reducible refine ev_B ?_ | with_reducible refine ev_bl ?_
  | ((with_reducible refine ev_eq ?k1 ?_); (case k1 => exact rfl)) | ((with_reducible refine ev_ne ?k1 ?_); (case k1 => exact rfl))
  | ((with_reducible refine' ev_nameL ?k1 ?_); (case k1 => first | (dsimp only [L2.start, wipe, List.map, List.set, List.length, List.replicate, List.append]; exact rfl) | exact rfl)) | with_reducible refine ev_name ?_ | with_reducible refine ev_nil ?_ | with_reducible refine ev_cons ?_ | with_reducible refine ev_call ?_ | with_reducible refine ev_tup ?_ | with_reducible refine ev_lst ?_ | with_reducible refine ev_CB ?_ | with_reducible refine ev_fld ?_
  | with_reducible refine ev_not ?_ | with_reducible refine ev_and ?_ | with_reducible refine ev_or ?_ | with_reducible refine ev_andV ?_ | with_reducible refine ev_orV ?_ | with_reducible refine ev_ifE ?_ | with_reducible refine ev_chain ?_ | with_reducible refine ev_meth ?_ | with_reducible refine ev_un ?_
  | with_reducible refine ev_sl ?_ | with_reducible refine ev_part ?_ | with_reducible refine ev_nopart ?_ | with_reducible refine ev_int ?_ | with_reducible refine ev_for ?_ | with_reducible refine ev_list ?_ | with_reducible refine ev_lc ?_ | with_reducible refine ev_gcons ?_ | with_reducible refine ev_gnil ?_ | with_reducible refine ev_sfld ?_ | with_reducible refine ev_make ?_ | with_reducible refine ev_notV ?_ | with_reducible refine ev_yes ?_ | with_reducible refine ev_dget ?_ | with_reducible refine ev_dput ?_ | with_reducible refine ev_bm ?_ | with_reducible refine ev_bm0 ?_ | with_reducible refine ev_items ?_ | with_reducible refine ev_keys ?_ | with_reducible refine ev_enum ?_ | with_reducible refine ev_tupI ?_ | with_reducible refine ev_par ?_ | with_reducible refine ev_two ?_ | with_reducible refine ev_kget ?_ | with_reducible refine ev_gsub ?_ | with_reducible refine ev_tapeK ?_ | with_reducible refine ev_str ?_ | with_reducible refine ev_txt ?_ | with_reducible refine ev_lc2 ?_ | with_reducible refine ev_dget2 ?_ | with_reducible refine ev_rU ?_ | with_reducible refine ev_ckw ?_ | with_reducible refine ev_dnotin ?_ | with_reducible refine ev_din ?_ | with_reducible refine ev_gfld ?_ | with_reducible refine ev_saug ?_ | with_reducible refine ev_finN ?_ | with_reducible refine ev_zs ?_ | with_reducible refine ev_rng1 ?_)
section
variable {P : Program} {w : World} {K : PySem.W.Frag} {mg : Str → Option Value} {base : Heap} {a : Ad}
theorem lc_ints {K : PySem.W.Frag} {N : List Addr} {H1 : Hp} {ns : List Int} : DpAll K (wo N H1) (ns.map V.int) (ns.map PyData.int) := dpA_ints ns
theorem sc__law_tick : FnScope ["_law_draw"] ["_law_draw"] (defScope s__law_tick) := ⟨rfl, rfl, rfl, by decide +kernel, rfl, by decide +kernel, by decide +kernel⟩
theorem ok__law_tick (T : Tx w K mg a) (c__law_pick : C8.Cal P w K mg base 1 "_law_pick" (sp__law_pick K) []) : C8.Cal P w K mg base 2 "_law_tick" (spI K 0 999999) [] := by
  refine calD T.d__law_tick sc__law_tick (fun _ _ _ _ _ _ us hl => match us, hl with | [_], _ => rfl) (fun vs H Q E h => ?_) (fun f cdv A outer s H vs Q E hr h => ?_)
  · obtain ⟨N, d, rfl, _⟩ := h
    rfl
  · obtain ⟨N, d, rfl, hd, q⟩ := h
    refine ⟨_, (pss_one (ps_ret (pe_ix (kix_tup (K := K) rfl) (pe_tup (pa_cons (C8.pe_c c__law_pick hr (by decide) rfl (pa_cons (pv 0) (pa_cons pe_int pa_nil))) (pa_cons (C8.pe_c c__law_pick hr (by decide) rfl (pa_cons (pv 0) (pa_cons pe_int pa_nil))) (pa_cons (C8.pe_c c__law_pick hr (by decide) rfl (pa_cons (pv 0) (pa_cons (pe_op op_pow pe_int pe_int) pa_nil))) (pa_cons pe_int pa_nil))))) (C8.pe_c c__law_pick hr (by decide) rfl (pa_cons (pv 0) (pa_cons pe_int pa_nil))) (fun _ _ => rfl)))), ?_⟩
    tm_at "ev"
    refine ⟨N, d, 30, rfl, hd, by decide, by decide, fun k1 H1 s1 d1 a1 b1 => ?_⟩
    tm_at "ev"
    refine ⟨N, d, 1000, rfl, d1, by decide, by decide, fun k2 H2 s2 d2 a2 b2 => ?_⟩
    tm_at "ev"
    refine ⟨_, _, rfl, rfl, ⟨by decide, by decide, by decide⟩, ?_⟩
    tm_at "ev"
    refine ⟨N, d, 1000000, rfl, d2, by decide, by decide, fun k3 H3 s3 d3 a3 b3 => ?_⟩
    tm_at "ev"
    refine ⟨sz4, fun p hp => ?_⟩
    tm_at "ev"
    have s4 := same_new (o := .tup [V.int k1, .int k2, .int k3, .int 999999]) hp
    refine ⟨N, d, 4, rfl, d3.up s4, by decide, by decide, fun k5 H5 s5 d5 a5 b5 => ?_⟩
    refine q_sel (s5 _ _ (dr_ne d3 hp) upd_same) a5 b5 fun v hv => ?_
    have sb := sb_trans s1 (sb_trans s2 (sb_trans s3 (sb_trans (sb_same s4) s5)))
    simp only [List.mem_cons, List.not_mem_nil, or_false] at hv
    rcases hv with rfl | rfl | rfl | rfl
    · exact q k1 H5 sb d5 a1 (by omega)
    · exact q k2 H5 sb d5 a2 (by omega)
    · exact q k3 H5 sb d5 a3 (by omega)
    · exact q 999999 H5 sb d5 (by decide) (by decide)
/-- a draw that gives a number of these bounds, and makes things -/
def spL (K : PySem.W.Frag) (lo hi : Int) : Sp := fun vs H Q _ => ∃ (N : List Addr) (d : Addr), vs = [.ref d] ∧ Live N H ∧ DrAt K N H d ∧ ∀ k H', SameBut d H H' → DrAt K N H' d → lo ≤ k → k ≤ hi → Q (.int k) H'
theorem sc__law_beat : FnScope ["_law_draw"] ["_law_draw"] (defScope s__law_beat) := ⟨rfl, rfl, rfl, by decide +kernel, rfl, by decide +kernel, by decide +kernel⟩
theorem ok__law_beat (T : Tx w K mg a) (c__law_pick : C8.Cal P w K mg base 1 "_law_pick" (sp__law_pick K) []) (c__law_one : C8.Cal P w K mg base 2 "_law_one" (sp__law_one K) []) : C8.Cal P w K mg base 3 "_law_beat" (spL K 1 960) [] := by
  refine calD T.d__law_beat sc__law_beat (fun _ _ _ _ _ _ us hl => match us, hl with | [_], _ => rfl) (fun vs H Q E h => ?_) (fun f cdv A outer s H vs Q E hr h => ?_)
  · obtain ⟨N, d, rfl, _⟩ := h
    rfl
  · obtain ⟨N, d, rfl, lv, hd, q⟩ := h
    refine ⟨_, (pss_one (ps_ret (C8.pe_c c__law_one hr (by decide) rfl (pa_cons (pv 0) (pa_cons (pe_lst (pa_cons pe_int (pa_cons pe_int (pa_cons pe_int (pa_cons (pe_op op_add pe_int (C8.pe_c c__law_pick hr (by decide) rfl (pa_cons (pv 0) (pa_cons pe_int pa_nil)))) (pa_cons pe_int (pa_cons pe_int pa_nil))))))) pa_nil))))), ?_⟩
    tm_at "ev"
    refine ⟨N, d, 960, rfl, hd, by decide, by decide, fun k1 H1 s1 d1 a1 b1 => ?_⟩
    tm_at "ev"
    refine ⟨sz6, fun p hp => ?_⟩
    have n2 := newL_lst (K := K) (N := N) (xs := [96, 1, 960, 1 + k1, 24, 7].map V.int) (dpA_ints [96, 1, 960, 1 + k1, 24, 7]) hp
    have lv1 := sb_live lv s1 d1.some
    tm_at "ev"
    refine ⟨N, d, .ref p, _, rfl, d1.up n2.same, n2.dw lv1, (by simp), (by simp), fun e he x H3 s3 d3 dx => ?_⟩
    have sb := sb_trans s1 (sb_trans (sb_same n2.same) s3)
    simp only [List.map_cons, List.map_nil, List.mem_cons, List.not_mem_nil, or_false] at he
    rcases he with rfl | rfl | rfl | rfl | rfl | rfl <;> obtain rfl := dp_int dx
    · exact q _ H3 sb d3 (by decide) (by decide)
    · exact q _ H3 sb d3 (by decide) (by decide)
    · exact q _ H3 sb d3 (by decide) (by decide)
    · exact q _ H3 sb d3 (by omega) (by omega)
    · exact q _ H3 sb d3 (by decide) (by decide)
    · exact q _ H3 sb d3 (by decide) (by decide)
theorem sc__law_pace : FnScope ["_law_draw"] ["_law_draw"] (defScope s__law_pace) := ⟨rfl, rfl, rfl, by decide +kernel, rfl, by decide +kernel, by decide +kernel⟩
theorem ok__law_pace (T : Tx w K mg a) (c__law_pick : C8.Cal P w K mg base 1 "_law_pick" (sp__law_pick K) []) (c__law_one : C8.Cal P w K mg base 2 "_law_one" (sp__law_one K) []) : C8.Cal P w K mg base 3 "_law_pace" (spL K 1 16777215) [] := by
  refine calD T.d__law_pace sc__law_pace (fun _ _ _ _ _ _ us hl => match us, hl with | [_], _ => rfl) (fun vs H Q E h => ?_) (fun f cdv A outer s H vs Q E hr h => ?_)
  · obtain ⟨N, d, rfl, _⟩ := h
    rfl
  · obtain ⟨N, d, rfl, lv, hd, q⟩ := h
    refine ⟨_, (pss_one (ps_ret (C8.pe_c c__law_one hr (by decide) rfl (pa_cons (pv 0) (pa_cons (pe_lst (pa_cons pe_int (pa_cons pe_int (pa_cons pe_int (pa_cons (pe_op op_add pe_int (C8.pe_c c__law_pick hr (by decide) rfl (pa_cons (pv 0) (pa_cons pe_int pa_nil)))) (pa_cons (pe_op op_add pe_int (C8.pe_c c__law_pick hr (by decide) rfl (pa_cons (pv 0) (pa_cons pe_int pa_nil)))) (pa_cons pe_int pa_nil))))))) pa_nil))))), ?_⟩
    tm_at "ev"
    refine ⟨N, d, 16777215, rfl, hd, by decide, by decide, fun k1 H1 s1 d1 a1 b1 => ?_⟩
    tm_at "ev"
    refine ⟨N, d, 9, rfl, d1, by decide, by decide, fun k2 H2 s2 d2 a2 b2 => ?_⟩
    have s12 := sb_trans s1 s2
    tm_at "ev"
    refine ⟨sz6, fun p hp => ?_⟩
    have n3 := newL_lst (K := K) (N := N) (xs := [500000, 1, 16777215, 1 + k1, 1 + k2, 250000].map V.int) (dpA_ints [500000, 1, 16777215, 1 + k1, 1 + k2, 250000]) hp
    have lv2 := sb_live lv s12 d2.some
    tm_at "ev"
    refine ⟨N, d, .ref p, _, rfl, d2.up n3.same, n3.dw lv2, (by simp), (by simp), fun e he x H3 s3 d3 dx => ?_⟩
    have sb := sb_trans s12 (sb_trans (sb_same n3.same) s3)
    simp only [List.map_cons, List.map_nil, List.mem_cons, List.not_mem_nil, or_false] at he
    rcases he with rfl | rfl | rfl | rfl | rfl | rfl <;> obtain rfl := dp_int dx
    · exact q _ H3 sb d3 (by decide) (by decide)
    · exact q _ H3 sb d3 (by decide) (by decide)
    · exact q _ H3 sb d3 (by decide) (by decide)
    · exact q _ H3 sb d3 (by omega) (by omega)
    · exact q _ H3 sb d3 (by omega) (by omega)
    · exact q _ H3 sb d3 (by decide) (by decide)
structure KnOk (es : Ps) : Prop where
  nd : (es.map (·.1)).Nodup
  ok : ∀ q ∈ es, (0 ≤ q.1 ∧ q.1 ≤ 999999) ∧ 1 ≤ q.2 ∧ q.2 ≤ 16777215
def sp__law_paces (K : PySem.W.Frag) : Sp := fun vs H Q _ => ∃ (N : List Addr) (d : Addr), vs = [.ref d, .int 6] ∧ Live N H ∧ DrAt K N H d ∧ ∀ (es : Ps) D H', KnOk es → es.length ≤ 6 → SameBut d H H' → DrAt K N H' d → wo N H' D = some (.dK (kM es)) → Q (.ref D) H'
theorem sc__law_paces : FnScope ["_law_draw", "_law_most", "_law_found", "_law_k"] ["_law_draw", "_law_most"] (defScope s__law_paces) := ⟨rfl, rfl, rfl, by decide +kernel, rfl, by decide +kernel, by decide +kernel⟩
theorem ok__law_paces (T : Tx w K mg a) (c__law_pick : C8.Cal P w K mg base 1 "_law_pick" (sp__law_pick K) []) (c__law_tick : C8.Cal P w K mg base 2 "_law_tick" (spI K 0 999999) []) (c__law_pace : C8.Cal P w K mg base 3 "_law_pace" (spL K 1 16777215) []) :
    C8.Cal P w K mg base 4 "_law_paces" (sp__law_paces K) [] := by
  refine calD T.d__law_paces sc__law_paces (fun _ _ _ _ _ _ us hl => match us, hl with | [_, _], _ => rfl) (fun vs H Q E h => ?_) (fun f cdv A outer s H vs Q E hr h => ?_)
  · obtain ⟨N, d, rfl, _⟩ := h
    rfl
  · obtain ⟨N, d, rfl, lv, hd, q⟩ := h
    refine ⟨_, (pss_cons (ps_set (i := 2) sc__law_paces.nd rfl (Or.inl rfl) pe_dnewK)
      (pss_cons (ps_for PassesOwn.never rfl (pi_range1 rfl T.f_range (pa_cons (C8.pe_c c__law_pick hr (by decide) rfl (pa_cons (pv 0) (pa_cons (pe_op op_add (pv 1) pe_int) pa_nil))) pa_nil)) (pg_name (i := 3) sc__law_paces.nd rfl (Or.inl rfl))
        (pss_one (ps_dput (hu_of hr) (pv 2) (C8.pe_c c__law_tick hr (by decide) rfl (pa_cons (pv 0) pa_nil)) (C8.pe_c c__law_pace hr (by decide) rfl (pa_cons (pv 0) pa_nil)) rfl)))
      (pss_one (ps_ret (pv 2))))), ?_⟩
    tm_at "ev"
    intro D hD
    tm_at "ev"
    have Dd := dr_ne hd hD
    have DN := lv.notin hD
    have s0 := same_new (o := .dK []) hD
    have w0 : Same (wo N H) (wo (D :: N) (upd H D (.dK []))) := wo_newM hD
    have lv0 : Live (D :: N) (upd H D (.dK [])) := (lv.same s0).cons upd_same
    have hd0 : DrAt K (D :: N) (upd H D (.dK [])) d := hd.to w0 (upd_ne (Ne.symm Dd)) (List.mem_cons_of_mem _ hd.mem)
    have hD0 : upd H D (.dK []) D = some (.dK []) := upd_same
    generalize upd H D (.dK []) = H0 at s0 w0 lv0 hd0 hD0 ⊢
    refine ⟨D :: N, d, 7, rfl, hd0, by decide, by decide, fun k1 H1 s1 d1 a1 b1 => ?_⟩
    tm_at "ev"
    refine ⟨k1, rfl, by omega, by omega, ?_⟩
    refine for_range (lo := 0) (n := k1.toNat) (fun i σ H' => ∃ (es : Ps) (o3 : Option V), σ = [some (.ref d), some (.int 6), some (.ref D), o3] ∧ es.length ≤ i ∧ KnOk es ∧ SameBut d H H' ∧ DrAt K (D :: N) H' d ∧ Live (D :: N) H' ∧ H' D = some (.dK (kM es)))
      ⟨[], none, rfl, Nat.le_refl _, ⟨.nil, (fun _ h => nomatch h)⟩, sb_trans (sb_same s0) s1, d1, sb_live lv0 s1 d1.some, s1 _ _ Dd hD0⟩ (fun i σ H2 hi hh => ?_) fun σ H2 hh => ?_
    · obtain ⟨es, o3, rfl, hl, ok, s2, d2, lv2, hD2⟩ := hh
      tm_at "ev"
      refine ⟨D :: N, d, rfl, lv2, d2, fun p H3 s3 d3 p0 p1 => ?_⟩
      tm_at "ev"
      refine ⟨D :: N, d, rfl, d3, fun t H4 s4 d4 t0 t1 => ?_⟩
      have s34 := sb_trans s3 s4
      have hD4 := s34 _ _ Dd hD2
      refine ⟨D, upd H4 D (.dK (putK (kM es) (.inl t) (.int p))), rfl, DPut.k (k := Sum.inl t) hD4 (by rw [kM_len]; exact Nat.lt_of_lt_of_le (show es.length < 100 by omega) (by decide)), ?_⟩
      rw [kM_put]
      have lp := putE_len es t p
      refine ⟨putE es t p, _, rfl, by omega, ⟨putE_nd ok.nd, fun z hz => ?_⟩, ?_, d4.to (wo_mut List.mem_cons_self) (upd_ne (Ne.symm Dd)) d4.mem, live_upd (sb_live lv2 s34 d4.some), upd_same⟩
      · rcases putE_mem hz with rfl | ⟨h, _⟩
        · exact ⟨⟨t0, t1⟩, p0, p1⟩
        · exact ok.ok z h
      · intro b o h1 h2
        rw [upd_ne (ne_of_none h2 hD)]
        exact s34 b o h1 (s2 b o h1 h2)
    · obtain ⟨es, o3, rfl, hl, ok, s2, d2, lv2, hD2⟩ := hh
      tm_at "ev"
      exact q es D H2 ok (by omega) s2 (d2.to wo_drop rfl hd.mem) (wo_at DN hD2)
def vlE (es : Ps) (t : Int) : Int := ((es.find? fun e => decide (e.1 = t)).map (·.2)).getD 0
theorem vlE_of : ∀ {es : Ps}, (es.map (·.1)).Nodup → ∀ e ∈ es, vlE es e.1 = e.2
  | [], _, e, h => nomatch h
  | x :: es, nd, e, h => by
    rw [List.map_cons, List.nodup_cons] at nd
    rcases List.mem_cons.mp h with rfl | h
    · unfold vlE
      simp
    · have ne : x.1 ≠ e.1 := fun z => nd.1 (z ▸ List.mem_map.mpr ⟨e, h, rfl⟩)
      have ih := vlE_of nd.2 e h
      unfold vlE at ih ⊢
      rw [List.find?_cons_of_neg (by simp [ne])]
      exact ih
def sp__law_pairs (K : PySem.W.Frag) : Sp := fun vs H Q _ => ∃ (N : List Addr) (D : Addr) (es : Ps), vs = [.ref D] ∧ Live N H ∧ wo N H D = some (.dK (kM es)) ∧ (es.map (·.1)).Nodup ∧ es.length ≤ 100 ∧ ∀ ps r H', Srt ps → ps.Perm es → NewL K N H H' r (ps.map prD) → Q (.ref r) H'
theorem sc__law_pairs : FnScope ["_law_known", "_law_tick_here"] ["_law_known"] (defScope s__law_pairs) := ⟨rfl, rfl, rfl, by decide +kernel, rfl, by decide +kernel, by decide +kernel⟩
theorem ok__law_pairs (T : Tx w K mg a) : C8.Cal P w K mg base 1 "_law_pairs" (sp__law_pairs K) [] := by
  refine calD T.d__law_pairs sc__law_pairs (fun _ _ _ _ _ _ us hl => match us, hl with | [_], _ => rfl) (fun vs H Q E h => ?_) (fun f cdv A outer s H vs Q E hr h => ?_)
  · obtain ⟨N, D, es, rfl, _⟩ := h
    rfl
  · obtain ⟨N, D, es, rfl, lv, hD, nd, hl, q⟩ := h
    refine ⟨_, (pss_one (ps_ret (pe_lc (own := [("_law_tick_here", 1)]) rfl sc__law_pairs.nd (k_list (K := K) rfl (pi_list (pe_callB cr_sortedI rfl T.f_sorted (by decide +kernel) (pa_cons (pe_callTy (call_list_dK rfl) rfl T.f_list (by decide +kernel) (pa_cons (pv 0) pa_nil)) pa_nil)))) (blkOk_by (own := [("_law_tick_here", 1)]) (N := ["_law_known", "_law_tick_here"]) (sc := defScope s__law_pairs) (by decide +kernel)) (fun _ _ _ _ _ => pg_name (i := 1) sc__law_pairs.nd rfl (Or.inl rfl)) (fun _ _ _ _ _ => pts_nil) (fun _ _ _ _ _ => pe_tup (pa_cons (pv 1) (pa_cons (pe_dget (hu_of hr) (pv 0) (pv 1) (fun _ _ => rfl)) pa_nil)))))), ?_⟩
    tm_at "ev"
    refine ⟨D, _, rfl, (wo_of hD).2, fun p hp => ?_⟩
    have ek : (kM es).map (fun kv => kV kv.1) = (es.map (·.1)).map V.int := by
      unfold kM
      rw [List.map_map, List.map_map]
      rfl
    rw [ek]
    tm_at "ev"
    have s1 := same_new (o := .lst ((es.map (·.1)).map V.int)) hp
    refine ⟨p, es.map (·.1), rfl, .inl (.inl upd_same), fun ns p2 perm srt hp2 => ?_⟩
    have s2 := same_new (o := .lst (ns.map V.int)) hp2
    have s12 := s1.trans s2
    have lv2 := lv.same s12
    have h2 : upd (upd H p (.lst ((es.map (·.1)).map V.int))) p2 (.lst (ns.map V.int)) p2 = some (.lst (ns.map V.int)) := upd_same
    have n2 : p2 ∉ N := (lv.same s1).notin hp2
    generalize upd (upd H p (.lst ((es.map (·.1)).map V.int))) p2 (.lst (ns.map V.int)) = H2 at s12 lv2 h2 ⊢
    refine ⟨p2, rfl, ⟨_, .inl (.inl h2)⟩, fun D3 hD3 => lc_map (K := K) N ns PyData.int (fun t => prD (t, vlE es t)) (.inl (.inl h2)) (dpA_ints ns) hD3 ?_ lv2 ?_ ?_⟩
    · have := perm.length_eq
      rw [List.length_map] at this
      omega
    · intro t ht x H3 s3 lv3 dx Y hY
      obtain rfl := dp_int dx
      tm_at "ev"
      refine ⟨rfl, ?_⟩
      tm_at "ev"
      have htm : t ∈ es.map (·.1) := perm.mem_iff.mp ht
      have hD3' := (s12.trans s3) _ _ (wo_of hD).2
      have hg : DGet H3 D (.int t) (some (.int (vlE es t))) := by
        have g := DGet.k (k := Sum.inl t) hD3'
        rcases valV_map (Sum.inl : Int → Key) inl_inj V.int es t with ⟨e, he, rfl, hv⟩ | ⟨hn, _⟩
        · rw [vlE_of nd e he]
          have e2 : valV (kM es) (Sum.inl e.1) = some (.int e.2) := hv
          rw [e2] at g
          exact g
        · exact absurd htm hn
      refine ⟨D, _, rfl, hg, ?_⟩
      tm_at "ev"
      refine ⟨sz2, fun p4 hp4 => ?_⟩
      have t4 := dw_tup (K := K) lv3 (xs := [.int t, .int (vlE es t)]) (ds := [.int t, .int (vlE es t)]) (.cons (.int _) (.cons (.int _) .nil)) hp4
      exact hY _ _ t4.1 t4.2
    intro H3 n3
    tm_at "ev"
    have e1 : (ns.map fun t => prD (t, vlE es t)) = (ns.map fun t => (t, vlE es t)).map prD := by
      rw [List.map_map]
      rfl
    rw [e1] at n3
    refine q _ D3 H3 ?_ ?_ (n3.back s12)
    · have nd2 : ns.Nodup := perm.nodup_iff.mpr nd
      refine List.pairwise_map.mpr ?_
      refine (srt.and nd2).imp fun {x y} h => ?_
      show x < y
      have := h.1
      have := h.2
      omega
    · refine (perm.map fun t => (t, vlE es t)).trans ?_
      rw [List.map_map]
      have e2 : es.map ((fun t => (t, vlE es t)) ∘ fun e => e.1) = es := by
        refine (List.map_congr_left (g := id) fun e he => ?_).trans (List.map_id es)
        show (e.1, vlE es e.1) = e
        rw [vlE_of nd e he]
      rw [e2]
end
end Tp
set_option maxHeartbeats 4000000
namespace Tp
open PySem PySem.Spec PyProof.Rows L2
local macro_rules | `(tactic| tm_at "ev") => `(tactic| repeat first
  | with_reducible refine ev_seq ?_ | with_reducible refine ev_asg ?_ | with_reducible refine ev_drop ?_ | with_reducible refine ev_ret ?_ | with_reducible refine ev_ifS ?_ | with_reducible refine ev_next ?_
  | ((with_reducible refine' ev_var ?k1 ?_); (case k1 => exact rfl)) | with_reducible refine ev_c ?_ | with_reducible refine ev_op ?_ | with_reducible refine ev_I0 ?_ | with_reducible refine ev_test ?_ | with_reducible refine ev_B ?_ | with_reducible refine ev_bl ?_
  | ((with_reducible refine ev_eq ?k1 ?_); (case k1 => exact rfl)) | ((with_reducible refine ev_ne ?k1 ?_); (case k1 => exact rfl))
  | ((with_reducible refine' ev_nameL ?k1 ?_); (case k1 => first | (dsimp only [L2.start, wipe, List.map, List.set, List.length, List.replicate, List.append]; exact rfl) | exact rfl)) | with_reducible refine ev_name ?_ | with_reducible refine ev_nil ?_ | with_reducible refine ev_cons ?_ | with_reducible refine ev_call ?_ | with_reducible refine ev_tup ?_ | with_reducible refine ev_lst ?_ | with_reducible refine ev_CB ?_ | with_reducible refine ev_fld ?_
  | with_reducible refine ev_not ?_ | with_reducible refine ev_and ?_ | with_reducible refine ev_or ?_ | with_reducible refine ev_andV ?_ | with_reducible refine ev_orV ?_ | with_reducible refine ev_ifE ?_ | with_reducible refine ev_chain ?_ | with_reducible refine ev_meth ?_ | with_reducible refine ev_un ?_
  | with_reducible refine ev_sl ?_ | with_reducible refine ev_part ?_ | with_reducible refine ev_nopart ?_ | with_reducible refine ev_int ?_ | with_reducible refine ev_for ?_ | with_reducible refine ev_list ?_ | with_reducible refine ev_lc ?_ | with_reducible refine ev_gcons ?_ | with_reducible refine ev_gnil ?_ | with_reducible refine ev_sfld ?_ | with_reducible refine ev_make ?_ | with_reducible refine ev_notV ?_ | with_reducible refine ev_yes ?_ | with_reducible refine ev_dget ?_ | with_reducible refine ev_dput ?_ | with_reducible refine ev_bm ?_ | with_reducible refine ev_bm0 ?_ | with_reducible refine ev_items ?_ | with_reducible refine ev_keys ?_ | with_reducible refine ev_enum ?_ | with_reducible refine ev_tupI ?_ | with_reducible refine ev_par ?_ | with_reducible refine ev_two ?_ | with_reducible refine ev_kget ?_ | with_reducible refine ev_gsub ?_ | with_reducible refine ev_tapeK ?_ | with_reducible refine ev_str ?_ | with_reducible refine ev_txt ?_ | with_reducible refine ev_lc2 ?_ | with_reducible refine ev_dget2 ?_ | with_reducible refine ev_rU ?_ | with_reducible refine ev_ckw ?_ | with_reducible refine ev_dnotin ?_ | with_reducible refine ev_din ?_ | with_reducible refine ev_gfld ?_ | with_reducible refine ev_saug ?_ | with_reducible refine ev_finN ?_ | with_reducible refine ev_zs ?_ | with_reducible refine ev_rng1 ?_)
section
variable {P : Program} {w : World} {K : PySem.W.Frag} {mg : Str → Option Value} {base : Heap} {a : Ad}
/-! ### what the law needs -/
/-- a comprehension over the keys of a locked dict of ints -/
theorem lc_keys {H1 : Hp} {d D : Addr} {kvs : Ps} {g : TG} {te : TE} {vs : List Nat} {σ : L2.St} {Qd : Hp → Prop} {od : Obj} (N : List Addr) (out : Int × Int → PyData)
    (hx : H1 d = some (.frz od (.dK (kM kvs)))) (hD : H1 D = none) (hz : kvs.length ≤ 100000) (lv : Live N H1)
    (turn : ∀ e ∈ kvs, ∀ H, Same H1 H → Live (D :: N) H → ∀ Y : V → Hp → Prop, (∀ y H', Same H H' → Dw K (D :: N) H' y (out e) → Y y H') → g (.int e.1) (wipe σ vs) H fun σ2 H2 => wipe σ2 vs = wipe σ vs ∧ te σ2 H2 Y)
    (done : ∀ H', NewL K N H1 H' D (kvs.map out) → Qd H') :
    ∃ W : Nat → Nat → Hp → Prop, (∃ m, W 0 m (upd H1 D (.lst []))) ∧ ∀ i m H, W i m H →
      ((Itk d od (kM kvs)).stop i H ∧ Qd H) ∨ ((Itk d od (kM kvs)).go i H ∧ ∃ Nx : Hp → Prop, (∀ H', Nx H' → ∃ m', m' < m ∧ W (i + 1) m' H') ∧ ∀ x H', (Itk d od (kM kvs)).yld i H x H' → g x (wipe σ vs) H' fun σ2 H2 => wipe σ2 vs = wipe σ vs ∧ tYes σ2 H2 fun b H3 =>
        if b = true then te σ2 H3 fun y H4 => ∃ acc, H4 D = some (.lst acc) ∧ acc.length < sizeLine ∧ Nx (upd H4 D (.lst (acc ++ [y]))) else Nx H3) := by
  have ln : (kM kvs).length = kvs.length := List.length_map _
  let Pv : Nat → Hp → Prop := fun i H => ∃ ys, Same H1 H ∧ H D = some (.lst ys) ∧ DpAll K (wo (D :: N) H) ys ((kvs.take i).map out)
  refine ⟨fun i m H => m = kvs.length - i ∧ i ≤ kvs.length ∧ Pv i H, ⟨kvs.length, rfl, Nat.zero_le _, [], same_new hD, upd_same, .nil⟩, ?_⟩
  rintro i m H ⟨rfl, hi, ys, s, hH, hys⟩
  by_cases hlt : i < kvs.length
  · refine .inr ⟨⟨s _ _ hx, by omega⟩, Pv (i + 1), fun H2 p' => ⟨kvs.length - (i + 1), by omega, rfl, hlt, p'⟩, fun x H2 y => ?_⟩
    obtain ⟨rfl, k, v, hk, rfl⟩ := y
    have he : kvs[i]? = some kvs[i] := List.getElem?_eq_getElem hlt
    have hk2 : (kM kvs)[i]? = some (Sum.inl kvs[i].1, V.int kvs[i].2) := by
      unfold kM
      rw [List.getElem?_map, he]
      rfl
    rw [hk2] at hk
    cases hk
    have lv1 : Live (D :: N) H2 := (lv.same s).cons hH
    have ly : ys.length ≤ i := by
      have q := dpA_len hys
      rw [List.length_map, List.length_take] at q
      omega
    refine turn kvs[i] (List.getElem_mem _) H2 s lv1 _ fun y H' s' hy => ?_
    refine ⟨ys, s' _ _ hH, Nat.lt_of_le_of_lt ly (Nat.lt_of_lt_of_le hlt (Nat.le_trans hz (by decide))), ys ++ [y], same_mut (s.trans s') hD, upd_same, ?_⟩
    rw [take_up he, List.map_append]
    exact dpA_app (dpA_mono ((wo_same s').trans (wo_mut List.mem_cons_self)) hys) (.cons (dp_mono (wo_mut List.mem_cons_self) hy) .nil)
  · refine .inl ⟨⟨s _ _ hx, by omega⟩, done H ⟨s, hD, ys, hH, ?_⟩⟩
    rw [List.take_of_length_le (by omega)] at hys
    exact hys
/-! ### the deck in the law's hands -/
abbrev BK : Type := Addr → Hp → Prop
def BK.st (B : BK) : Prop := ∀ b G G', Same G G' → B b G → B b G'
structure Dk (ad : Ad) (K : PySem.W.Frag) (N : List Addr) (H : Hp) (d p pa : Addr) (n : Nat) (ps : List V) (B : BK) : Prop where
  lv : Live N H
  dr : DrAt K N H d
  pN : p ∈ N
  paN : pa ∈ N
  pd : p ≠ d
  pad : pa ≠ d
  at_ : ∃ dx b el ah, H p = some (.ins ad.cD dx (fD b el pa ah 0)) ∧ H pa = some (.lst ps) ∧ H ah = some (.lst []) ∧ ah ∈ N ∧ B b (wo N H)
  len : ps.length ≤ n
theorem Dk.draw {ad : Ad} {N : List Addr} {H H' : Hp} {d p pa : Addr} {n : Nat} {ps : List V} {B : BK} (k : Dk ad K N H d p pa n ps B) (st : B.st) (s : SameBut d H H') (dr : DrAt K N H' d) : Dk ad K N H' d p pa n ps B := by
  obtain ⟨dx, b, el, ah, h1, h2, h3, h4, h5⟩ := k.at_
  have ahd : ah ≠ d := fun e => by
    obtain ⟨s', ns, i, b, r, c, x⟩ := k.dr
    have := x.at_
    rw [← e, h3] at this
    cases this
  exact ⟨sb_live k.lv s dr.some, dr, k.pN, k.paN, k.pd, k.pad, ⟨dx, b, el, ah, s _ _ k.pd h1, s _ _ k.pad h2, s _ _ ahd h3, h4, st _ _ _ (sb_w dr.mem s) h5⟩, k.len⟩
theorem Dk.up {ad : Ad} {N : List Addr} {H H' : Hp} {d p pa : Addr} {n : Nat} {ps : List V} {B : BK} (k : Dk ad K N H d p pa n ps B) (st : B.st) (s : Same H H') : Dk ad K N H' d p pa n ps B := k.draw st (sb_same s) (k.dr.up s)
theorem Dk.imp {ad : Ad} {N : List Addr} {H : Hp} {d p pa : Addr} {n m : Nat} {ps : List V} {B C : BK} (k : Dk ad K N H d p pa n ps B) (h : ∀ b G, B b G → C b G) (le : n ≤ m) : Dk ad K N H d p pa m ps C := by
  obtain ⟨dx, b, el, ah, h1, h2, h3, h4, h5⟩ := k.at_
  exact ⟨k.lv, k.dr, k.pN, k.paN, k.pd, k.pad, ⟨dx, b, el, ah, h1, h2, h3, h4, h _ _ h5⟩, Nat.le_trans k.len le⟩
theorem Dk.ins {ad : Ad} {N : List Addr} {H : Hp} {d p pa : Addr} {n : Nat} {ps : List V} {B : BK} (k : Dk ad K N H d p pa n ps B) (m : Str) (hm : ∀ b el ah : Addr, (fD b el pa ah 0).lookup m = none) : ∃ dx fs, H p = some (.ins ad.cD dx fs) ∧ fs.lookup m = none := by
  obtain ⟨dx, b, el, ah, h1, _⟩ := k.at_
  exact ⟨dx, _, h1, hm b el ah⟩
theorem Dk.doAll {ad : Ad} {N : List Addr} {H : Hp} {d p pa : Addr} {n : Nat} {ps : List V} {ds : List PyData} {v : V} {E : XK} {Q : VK} (F : Nat → BK) (k : Dk ad K N H d p pa n ps (F 0)) (hn : n ≤ 100) (al : Dw K N H v (.list ds)) (dl : ds.length ≤ 1000) (st : ∀ i, (F i).st)
    (turn : ∀ i u b H1 e (Qv : VK), ds[i]? = some e → Dw K N H1 u e → Same (wo N H) (wo N H1) → Live N H1 → F i b (wo N H1) → (∀ b2 H2, Same H1 H2 → F (i + 1) b2 (wo N H2) → Qv (.ref b2) H2) → sp_after ad K [.ref b, u] H1 Qv C8.E0)
    (q : ∀ N' H' ps', (∀ x ∈ N, x ∈ N') → Same (wo N H) (wo N' H') → Dk ad K N' H' d p pa (n + 1) ps' (F ds.length) → Q .non H') : sp_Deck_do_all ad K [.ref p, v] H Q E := by
  obtain ⟨al0, xs, rfl, hx, hd⟩ := dp_lst al
  obtain ⟨dx, b, el, ah, h1, h2, h3, h4, h5⟩ := k.at_
  have hl := dpA_len hd
  refine ⟨N, p, dx, b, el, pa, ah, al0, ps, xs, fun M i b H => F i b (wo M H), rfl, k.lv, k.pN, k.paN, h4, h1, h2, h3, by have := k.len; omega, hx, by omega, h5, fun M M' i b H1 H2 s h => st i _ _ _ s h, fun i x b H1 Qv hi s lv j hq => ?_, fun N' H' r => ?_⟩
  · obtain ⟨e, he, hv⟩ := dpA_at hd hi
    exact turn i x b H1 e Qv he (dp_mono s hv) s lv j hq
  · obtain ⟨dx, b, el, ah, ps', k1, k2, k3, k4, k5, k6, _⟩ := r.at_
    obtain ⟨o, ho⟩ := k.dr.some
    rw [hl] at k5
    exact q N' H' ps' r.sub r.same ⟨r.live, k.dr.to r.same ((r.far d o k.pd.symm k.pad.symm ho).trans ho.symm) (r.sub d k.dr.mem), r.sub p k.pN, r.sub pa k.paN, k.pd, k.pad, ⟨dx, b, el, ah, k1, k2, k3, k4, k5⟩, by have := k.len; omega⟩
/-- the deck, and the way back -/
def Back (ad : Ad) (K : PySem.W.Frag) (N : List Addr) (H : Hp) (ps : List V) (B : BK) : Prop := ∃ qs t D ys b0, ps = qs ++ [.ref t] ∧ wo N H t = some (.tup [.ref D, .ref b0]) ∧ wo N H D = some (.lst ys) ∧ B b0 (wo N H)
theorem Back.mono {ad : Ad} {N N' : List Addr} {H H' : Hp} {ps : List V} {B : BK} (k : Back ad K N H ps B) (st : B.st) (s : Same (wo N H) (wo N' H')) : Back ad K N' H' ps B := by
  obtain ⟨qs, t, D, ys, b0, e, h1, h2, h3⟩ := k
  exact ⟨qs, t, D, ys, b0, e, s _ _ h1, s _ _ h2, st _ _ _ s h3⟩
theorem Dk.doOne {ad : Ad} {N : List Addr} {H : Hp} {d p pa : Addr} {n : Nat} {ps : List V} {e : PyData} {v : V} {E : XK} {Q : VK} (F G : BK) (k : Dk ad K N H d p pa n ps F) (hn : n ≤ 100) (al : Dw K N H v e) (st : F.st) (st2 : G.st)
    (turn : ∀ b H1 (Qv : VK), Dw K N H1 v e → Same (wo N H) (wo N H1) → Live N H1 → F b (wo N H1) → (∀ b2 H2, Same H1 H2 → G b2 (wo N H2) → Qv (.ref b2) H2) → sp_after ad K [.ref b, v] H1 Qv C8.E0)
    (q : ∀ N' H' ps', (∀ x ∈ N, x ∈ N') → Same (wo N H) (wo N' H') → Dk ad K N' H' d p pa (n + 1) ps' G → Back ad K N' H' ps' F → Q .non H') : sp_Deck_do ad K [.ref p, v] H Q E := by
  obtain ⟨dx, b, el, ah, h1, h2, h3, h4, h5⟩ := k.at_
  refine ⟨N, p, dx, b, el, pa, ah, ps, v, fun M i b H => (i = 0 ∧ F b (wo M H)) ∨ (i ≠ 0 ∧ G b (wo M H)), rfl, k.lv, k.pN, k.paN, h4, h1, h2, h3, by have := k.len; omega, .inl ⟨rfl, h5⟩, fun M M' i b H1 H2 s h => h.imp (fun h => ⟨h.1, st _ _ _ s h.2⟩) fun h => ⟨h.1, st2 _ _ _ s h.2⟩, fun b H1 Qv s lv j hq => ?_, fun N' H' r => ?_⟩
  · rcases j with ⟨_, j⟩ | ⟨j, _⟩
    · exact turn b H1 Qv (dp_mono s al) s lv j fun b2 H2 s2 g => hq b2 H2 s2 (.inr ⟨by decide, g⟩)
    · exact absurd rfl j
  · obtain ⟨dx, b', el, ah, ps', k1, k2, k3, k4, k5, k6, k7⟩ := r.at_
    obtain ⟨o, ho⟩ := k.dr.some
    obtain ⟨t, D, ys, e1, e2, e3, _⟩ := k7 (by decide)
    have k5 : G b' (wo N' H') := k5.elim (fun h => absurd h.1 (by decide)) fun h => h.2
    exact q N' H' ps' r.sub r.same ⟨r.live, k.dr.to r.same ((r.far d o k.pd.symm k.pad.symm ho).trans ho.symm) (r.sub d k.dr.mem), r.sub p k.pN, r.sub pa k.paN, k.pd, k.pad, ⟨dx, b', el, ah, k1, k2, k3, k4, k5⟩, by have := k.len; omega⟩
      ⟨ps, t, D, ys, b, e1, e2, e3, st _ _ _ r.same h5⟩
/-! ### books -/
def BNil : BK := fun b G => G b = some (.dK (kB []))
def BOne (ad : Ad) (K : PySem.W.Frag) (t : Tp0) : BK := fun b G => ∃ x, G b = some (.dK (kB [("one", x)])) ∧ TapeAt ad K G x t
def BTwo (ad : Ad) (K : PySem.W.Frag) (t u : Tp0) : BK := fun b G => ∃ x y, G b = some (.dK (kB [("one", x), ("two", y)])) ∧ TapeAt ad K G x t ∧ TapeAt ad K G y u
theorem bnil_st : BNil.st := fun _ _ _ s h => s _ _ h
theorem bone_st {ad : Ad} {t : Tp0} : (BOne ad K t).st := fun _ _ _ s ⟨x, h1, h2⟩ => ⟨x, s _ _ h1, h2.mono s⟩
theorem btwo_st {ad : Ad} {t u : Tp0} : (BTwo ad K t u).st := fun _ _ _ s ⟨x, y, h1, h2, h3⟩ => ⟨x, y, s _ _ h1, h2.mono s, h3.mono s⟩
theorem put_one0 (y : Addr) : putE ([] : List (Str × Addr)) "one" y = [(("one" : Str), y)] := rfl
theorem put_one1 (x y : Addr) : putE [(("one" : Str), x)] "one" y = [(("one" : Str), y)] := by
  unfold putE
  rw [if_pos (by simp)]
  simp
theorem put_two (x y z : Addr) : putE (putE [(("one" : Str), x)] "one" y) "two" z = [(("one" : Str), y), (("two" : Str), z)] := by
  rw [put_one1]
  unfold putE
  rw [if_neg (by simp <;> decide)]
  rfl
theorem val_one (x : Addr) : valV (kB [("one", x)]) (.inr "one") = some (.ref x) := rfl
theorem val_one2 (x y : Addr) : valV (kB [("one", x), ("two", y)]) (.inr "one") = some (.ref x) := rfl
theorem val_two2 (x y : Addr) : valV (kB [("one", x), ("two", y)]) (.inr "two") = some (.ref y) := rfl
/-! ### the deeds -/
def newD (b : Int) : PyData := .tuple [.str "new", .str "one", .int b]
def addD : PyData := .tuple [.str "add", .str "one"]
def paceD (q : Int × Int) : PyData := .tuple [.str "pace", .str "one", .int q.1, .int q.2]
def putD (k : Nat) (e : Ev) : PyData := .tuple [.str "put", .str "one", .int k, e.d]
def cutD (t : Int) : PyData := .tuple [.str "cut", .str "one", .int t, .str "two"]
section
variable {ad : Ad} {N : List Addr} {H H1 : Hp} {b : Addr} {u : V} {Qv : VK} {t : Tp0}
theorem af_new {bt : Int} (lv : Live N H1) (hb : BNil b (wo N H1)) (hu : Dw K N H1 u (newD bt)) (ok : BeatOk bt) (q : ∀ b2 H2, Same H1 H2 → BOne ad K ⟨bt, [], [[]]⟩ b2 (wo N H2) → Qv (.ref b2) H2) : sp_after ad K [.ref b, u] H1 Qv C8.E0 := by
  refine ⟨N, b, u, [], rfl, lv, (wo_of hb).2, (show 0 < 6 by decide), .inl ⟨"one", bt, hu, (fun h => nomatch h), ok_one, ok, fun b2 y H' s n h1 h2 => q b2 H' s ⟨y, ?_, h2⟩⟩⟩
  rw [put_one0] at h1
  exact wo_at (lv.notin n) h1
theorem af_add (lv : Live N H1) (hb : BOne ad K t b (wo N H1)) (hu : Dw K N H1 u addD) (ok : TpOk t) (l6 : t.trs.length < 6) (q : ∀ b2 H2, Same H1 H2 → BOne ad K ⟨t.b, t.ps, t.trs ++ [[]]⟩ b2 (wo N H2) → Qv (.ref b2) H2) : sp_after ad K [.ref b, u] H1 Qv C8.E0 := by
  obtain ⟨x, hx, ht⟩ := hb
  refine ⟨N, b, u, [("one", x)], rfl, lv, (wo_of hx).2, (show 1 < 6 by decide), .inr (.inl ⟨"one", x, t, hu, val_one x, ht, ok, l6, fun b2 y H' s n h1 h2 => q b2 H' s ⟨y, ?_, h2⟩⟩)⟩
  rw [put_one1] at h1
  exact wo_at (lv.notin n) h1
theorem af_put {k : Nat} {e : Ev} {l : List Ev} (lv : Live N H1) (hb : BOne ad K t b (wo N H1)) (hu : Dw K N H1 u (putD k e)) (ok : TpOk t) (hk : t.trs[k]? = some l) (oke : e.ok) (le : ∀ y ∈ l, y.t ≤ e.t) (ll : l.length < 200)
    (q : ∀ b2 H2, Same H1 H2 → BOne ad K ⟨t.b, t.ps, t.trs.set k (l ++ [e])⟩ b2 (wo N H2) → Qv (.ref b2) H2) : sp_after ad K [.ref b, u] H1 Qv C8.E0 := by
  obtain ⟨x, hx, ht⟩ := hb
  refine ⟨N, b, u, [("one", x)], rfl, lv, (wo_of hx).2, (show 1 < 6 by decide), .inr (.inr (.inl ⟨"one", x, t, k, l, e, hu, val_one x, ht, ok, hk, oke, le, ll, fun b2 y H' s n h1 h2 => q b2 H' s ⟨y, ?_, h2⟩⟩))⟩
  rw [put_one1] at h1
  exact wo_at (lv.notin n) h1
theorem af_pace {e : Int × Int} (lv : Live N H1) (hb : BOne ad K t b (wo N H1)) (hu : Dw K N H1 u (paceD e)) (ok : TpOk t) (h1 : 0 ≤ e.1 ∧ e.1 ≤ 999999) (h2 : 1 ≤ e.2 ∧ e.2 ≤ 16777215) (l20 : t.ps.length < 20)
    (q : ∀ b2 ps H2, Srt ps → ps.Perm (putE t.ps e.1 e.2) → Same H1 H2 → BOne ad K ⟨t.b, ps, t.trs⟩ b2 (wo N H2) → Qv (.ref b2) H2) : sp_after ad K [.ref b, u] H1 Qv C8.E0 := by
  obtain ⟨x, hx, ht⟩ := hb
  refine ⟨N, b, u, [("one", x)], rfl, lv, (wo_of hx).2, (show 1 < 6 by decide), .inr (.inr (.inr (.inl ⟨"one", x, t, e.1, e.2, hu, val_one x, ht, ok, h1, h2, l20, fun b2 y ps H' srt perm s n h3 h4 => q b2 ps H' srt perm s ⟨y, ?_, h4⟩⟩)))⟩
  rw [put_one1] at h3
  exact wo_at (lv.notin n) h3
theorem af_cut {tk : Int} (lv : Live N H1) (hb : BOne ad K t b (wo N H1)) (hu : Dw K N H1 u (cutD tk)) (ok : TpOk t) (h1 : 0 ≤ tk ∧ tk ≤ 999999) (l60 : ∀ l ∈ t.trs, l.length ≤ 60) (l20 : t.ps.length < 20)
    (q : ∀ b2 H2, (∀ l ∈ t.trs, Cuts l tk) → Same H1 H2 → BTwo ad K ⟨t.b, cutPs1 t.ps tk, t.trs.map fun l => pcA l tk⟩ ⟨t.b, cutPs2 t.ps tk, t.trs.map fun l => pcB l tk⟩ b2 (wo N H2) → Qv (.ref b2) H2) : sp_after ad K [.ref b, u] H1 Qv C8.E0 := by
  obtain ⟨x, hx, ht⟩ := hb
  refine ⟨N, b, u, [("one", x)], rfl, lv, (wo_of hx).2, (show 1 < 6 by decide), .inr (.inr (.inr (.inr ⟨"one", "two", x, t, tk, hu, val_one x, ht, ok, h1, (by simp <;> decide), ok_two, l60, l20, fun b2 y1 y2 H' cs s n h3 h4 h5 => q b2 H' cs s ⟨y1, y2, ?_, h4, h5⟩⟩)))⟩
  rw [put_two] at h3
  exact wo_at (lv.notin n) h3
end
end
end Tp
set_option maxHeartbeats 4000000
namespace Tp
open PySem PySem.Spec PyProof.Rows L2
local macro_rules | `(tactic| tm_at "ev") => `(tactic| repeat first
  | with_reducible refine ev_seq ?_ | with_reducible refine ev_asg ?_ | with_reducible refine ev_drop ?_ | with_reducible refine ev_ret ?_ | with_reducible refine ev_ifS ?_ | with_reducible refine ev_next ?_
  | ((with_reducible refine' ev_var ?k1 ?_); (case k1 => exact rfl)) | with_reducible refine ev_c ?_ | with_reducible refine ev_op ?_ | with_reducible refine ev_I0 ?_ | with_reducible refine ev_test ?_ | with_reducible refine ev_B ?_ | with_reducible refine ev_bl ?_
  | ((with_reducible refine ev_eq ?k1 ?_); (case k1 => exact rfl)) | ((with_reducible refine ev_ne ?k1 ?_); (case k1 => exact rfl))
  | ((with_reducible refine' ev_nameL ?k1 ?_); (case k1 => first | (dsimp only [L2.start, wipe, List.map, List.set, List.length, List.replicate, List.append]; exact rfl) | exact rfl)) | with_reducible refine ev_name ?_ | with_reducible refine ev_nil ?_ | with_reducible refine ev_cons ?_ | with_reducible refine ev_call ?_ | with_reducible refine ev_tup ?_ | with_reducible refine ev_lst ?_ | with_reducible refine ev_CB ?_ | with_reducible refine ev_fld ?_
  | with_reducible refine ev_not ?_ | with_reducible refine ev_and ?_ | with_reducible refine ev_or ?_ | with_reducible refine ev_andV ?_ | with_reducible refine ev_orV ?_ | with_reducible refine ev_ifE ?_ | with_reducible refine ev_chain ?_ | with_reducible refine ev_meth ?_ | with_reducible refine ev_un ?_
  | with_reducible refine ev_sl ?_ | with_reducible refine ev_part ?_ | with_reducible refine ev_nopart ?_ | with_reducible refine ev_int ?_ | with_reducible refine ev_for ?_ | with_reducible refine ev_list ?_ | with_reducible refine ev_lc ?_ | with_reducible refine ev_gcons ?_ | with_reducible refine ev_gnil ?_ | with_reducible refine ev_sfld ?_ | with_reducible refine ev_make ?_ | with_reducible refine ev_notV ?_ | with_reducible refine ev_yes ?_ | with_reducible refine ev_dget ?_ | with_reducible refine ev_dput ?_ | with_reducible refine ev_bm ?_ | with_reducible refine ev_bm0 ?_ | with_reducible refine ev_items ?_ | with_reducible refine ev_keys ?_ | with_reducible refine ev_enum ?_ | with_reducible refine ev_tupI ?_ | with_reducible refine ev_par ?_ | with_reducible refine ev_two ?_ | with_reducible refine ev_kget ?_ | with_reducible refine ev_gsub ?_ | with_reducible refine ev_tapeK ?_ | with_reducible refine ev_str ?_ | with_reducible refine ev_txt ?_ | with_reducible refine ev_lc2 ?_ | with_reducible refine ev_dget2 ?_ | with_reducible refine ev_rU ?_ | with_reducible refine ev_ckw ?_ | with_reducible refine ev_dnotin ?_ | with_reducible refine ev_din ?_ | with_reducible refine ev_gfld ?_ | with_reducible refine ev_saug ?_ | with_reducible refine ev_finN ?_ | with_reducible refine ev_zs ?_ | with_reducible refine ev_rng1 ?_)
section
variable {P : Program} {w : World} {K : PySem.W.Frag} {mg : Str → Option Value} {base : Heap} {a : Ad}
/-! ### the deeds of the law, plainly -/
section
variable {ad : Ad} {N : List Addr} {H : Hp} {d p pa : Addr} {n : Nat} {ps : List V} {v : V} {E : XK} {Q : VK} {bt : Int} {qs es : Ps}
theorem Dk.ex {α : Type} {P : α → Prop} {B : α → BK} (k : Dk ad K N H d p pa n ps fun b G => ∃ x, P x ∧ B x b G) : ∃ x, P x ∧ Dk ad K N H d p pa n ps (B x) := by
  obtain ⟨dx, b, el, ah, h1, h2, h3, h4, x, hp, h5⟩ := k.at_
  exact ⟨x, hp, k.lv, k.dr, k.pN, k.paN, k.pd, k.pad, ⟨dx, b, el, ah, h1, h2, h3, h4, h5⟩, k.len⟩
theorem tr_nil : TrOk [] := ⟨(fun _ h => nomatch h), .nil, Nat.zero_le _⟩
theorem ps_nil : PsOk [] := ⟨(fun _ h => nomatch h), .nil, Nat.zero_le _⟩
def FNew (ad : Ad) (K : PySem.W.Frag) (bt : Int) : Nat → BK
  | 0 => BNil
  | i + 1 => BOne ad K ⟨bt, [], List.replicate (i + 1) []⟩
theorem do_first {m : Nat} (k : Dk ad K N H d p pa n ps BNil) (hn : n ≤ 100) (al : Dw K N H v (.list (newD bt :: List.replicate m addD))) (hm : m ≤ 2) (ok : BeatOk bt)
    (q : ∀ N' H' ps', (∀ x ∈ N, x ∈ N') → Same (wo N H) (wo N' H') → Dk ad K N' H' d p pa (n + 1) ps' (BOne ad K ⟨bt, [], List.replicate (m + 1) []⟩) → Q .non H') : sp_Deck_do_all ad K [.ref p, v] H Q E := by
  refine Dk.doAll (FNew ad K bt) k hn al (by rw [List.length_cons, List.length_replicate]; omega) (fun i => match i with | 0 => bnil_st | _ + 1 => bone_st) (fun i u b H1 e Qv he hu s lv hb hq => ?_) (fun N' H' ps' sub s k' => q N' H' ps' sub s (by
    rw [List.length_cons, List.length_replicate] at k'
    exact k'))
  cases i with
  | zero =>
    cases he
    exact af_new lv hb hu ok hq
  | succ i =>
    rw [List.getElem?_cons_succ, List.getElem?_replicate] at he
    by_cases hi : i < m
    · rw [if_pos hi] at he
      cases he
      refine af_add lv hb hu ⟨ok, ps_nil, fun l hl => ?_, ?_⟩ ?_ fun b2 H2 s2 g => hq b2 H2 s2 ?_
      · rw [List.eq_of_mem_replicate hl]
        exact tr_nil
      · show 1 ≤ (List.replicate (i + 1) ([] : List Ev)).length ∧ (List.replicate (i + 1) ([] : List Ev)).length ≤ 6
        rw [List.length_replicate]
        omega
      · show (List.replicate (i + 1) ([] : List Ev)).length < 6
        rw [List.length_replicate]
        omega
      · show BOne ad K ⟨bt, [], List.replicate (i + 1 + 1) []⟩ b2 (wo N H2)
        rw [List.replicate_succ']
        exact g
    · rw [if_neg hi] at he
      cases he
theorem putE_new {q : Int × Int} (h : q.1 ∉ es.map (·.1)) : putE es q.1 q.2 = es ++ [q] := by
  unfold putE
  rw [if_neg fun z => h (any_key.mp z)]
def FPace (ad : Ad) (K : PySem.W.Frag) (bt : Int) (trs : List (List Ev)) (es : Ps) (i : Nat) : BK := fun b G => ∃ qs : Ps, (Srt qs ∧ qs.Perm (es.take i)) ∧ BOne ad K ⟨bt, qs, trs⟩ b G
theorem do_paces {trs : List (List Ev)} (k : Dk ad K N H d p pa n ps (BOne ad K ⟨bt, [], trs⟩)) (hn : n ≤ 100) (al : Dw K N H v (.list (es.map paceD))) (kn : KnOk es) (hl : es.length ≤ 6) (ok : BeatOk bt) (okt : ∀ l ∈ trs, TrOk l) (lt : 1 ≤ trs.length ∧ trs.length ≤ 6)
    (q : ∀ N' H' ps' qs, Srt qs → qs.Perm es → (∀ x ∈ N, x ∈ N') → Same (wo N H) (wo N' H') → Dk ad K N' H' d p pa (n + 1) ps' (BOne ad K ⟨bt, qs, trs⟩) → Q .non H') : sp_Deck_do_all ad K [.ref p, v] H Q E := by
  have k0 : Dk ad K N H d p pa n ps (FPace ad K bt trs es 0) := k.imp (fun b G h => ⟨[], ⟨.nil, .nil⟩, h⟩) (Nat.le_refl _)
  refine Dk.doAll (FPace ad K bt trs es) k0 hn al (by rw [List.length_map]; omega) (fun i b G G' s ⟨qs, h1, h2⟩ => ⟨qs, h1, bone_st b G G' s h2⟩) (fun i u b H1 e Qv he hu s lv hb hq => ?_) (fun N' H' ps' sub s k' => ?_)
  · obtain ⟨qs, ⟨srt, perm⟩, hb⟩ := hb
    rw [List.getElem?_map] at he
    obtain ⟨z, hz, rfl⟩ := Option.map_eq_some_iff.mp he
    have hi : i < es.length := (List.getElem?_eq_some_iff.mp hz).1
    have zm : z ∈ es := List.mem_of_getElem? hz
    have ok1 := kn.ok z zm
    have pl := perm.length_eq
    rw [List.length_take] at pl
    have okq : PsOk qs := ⟨fun x hx => kn.ok x (List.mem_of_mem_take (perm.mem_iff.mp hx)), srt, by omega⟩
    have nz : z.1 ∉ qs.map (·.1) := fun hm => by
      have h1 : z.1 ∈ (es.take i).map (·.1) := (perm.map _).mem_iff.mp hm
      have h2 := kn.nd
      have e : es.take (i + 1) = es.take i ++ [z] := take_up hz
      have h3 : ((es.take (i + 1)).map (·.1)).Nodup := h2.sublist ((List.take_sublist _ _).map _)
      rw [e, List.map_append, List.nodup_append] at h3
      exact h3.2.2 _ h1 _ (by simp) rfl
    refine af_pace lv hb hu ⟨ok, okq, okt, lt⟩ ok1.1 ok1.2 (by show qs.length < 20; omega) fun b2 rs H2 srt2 perm2 s2 g => hq b2 H2 s2 ⟨rs, ⟨srt2, ?_⟩, g⟩
    have perm2 : rs.Perm (putE qs z.1 z.2) := perm2
    rw [putE_new nz] at perm2
    rw [take_up hz]
    exact perm2.trans (perm.append_right _)
  · rw [List.length_map] at k'
    obtain ⟨qs, ⟨srt, perm⟩, k2⟩ := Dk.ex k'
    rw [List.take_of_length_le (Nat.le_refl _)] at perm
    exact q N' H' ps' qs srt perm sub s k2
theorem do_puts {j : Nat} {L : List (List Ev)} {l : List Ev} (k : Dk ad K N H d p pa n ps (BOne ad K ⟨bt, qs, L⟩)) (hn : n ≤ 100) (al : Dw K N H v (.list (l.map (putD j)))) (okl : TrOk l) (hj : L[j]? = some []) (ok : BeatOk bt) (okq : PsOk qs) (okt : ∀ l ∈ L, TrOk l) (lt : 1 ≤ L.length ∧ L.length ≤ 6)
    (q : ∀ N' H' ps', (∀ x ∈ N, x ∈ N') → Same (wo N H) (wo N' H') → Dk ad K N' H' d p pa (n + 1) ps' (BOne ad K ⟨bt, qs, L.set j l⟩) → Q .non H') : sp_Deck_do_all ad K [.ref p, v] H Q E := by
  have jl : j < L.length := (List.getElem?_eq_some_iff.mp hj).1
  have e0 : L.set j (l.take 0) = L := by
    refine List.ext_getElem? fun i => ?_
    rw [List.getElem?_set]
    by_cases e : j = i
    · subst e
      rw [if_pos rfl, if_pos jl, hj]
      rfl
    · rw [if_neg e]
  have k0 : Dk ad K N H d p pa n ps (BOne ad K ⟨bt, qs, L.set j (l.take 0)⟩) := by
    rw [e0]
    exact k
  refine Dk.doAll (fun i => BOne ad K ⟨bt, qs, L.set j (l.take i)⟩) k0 hn al (by rw [List.length_map]; have := okl.len; omega) (fun i => bone_st) (fun i u b H1 e Qv he hu s lv hb hq => ?_) (fun N' H' ps' sub s k' => ?_)
  · rw [List.getElem?_map] at he
    obtain ⟨z, hz, rfl⟩ := Option.map_eq_some_iff.mp he
    have hi : i < l.length := (List.getElem?_eq_some_iff.mp hz).1
    have up := (okl.up.sublist (List.take_sublist (i + 1) l))
    rw [take_up hz] at up
    refine af_put (l := l.take i) lv hb hu ⟨ok, okq, fun x hx => ?_, ?_⟩ ?_ (okl.ok z (List.mem_of_getElem? hz)) (fun y hy => (List.pairwise_append.mp up).2.2 y hy z (by simp)) ?_ fun b2 H2 s2 g => hq b2 H2 s2 ?_
    · rcases List.mem_or_eq_of_mem_set hx with h | rfl
      · exact okt x h
      · exact ⟨fun e he => okl.ok e (List.mem_of_mem_take he), okl.up.sublist (List.take_sublist _ _), by rw [List.length_take]; have := okl.len; omega⟩
    · show 1 ≤ (L.set j (l.take i)).length ∧ (L.set j (l.take i)).length ≤ 6
      rw [List.length_set]
      exact lt
    · show (L.set j (l.take i))[j]? = some (l.take i)
      exact List.getElem?_set_self jl
    · rw [List.length_take]
      have := okl.len
      omega
    · have e : (L.set j (l.take i)).set j (l.take i ++ [z]) = L.set j (l.take (i + 1)) := by rw [List.set_set, take_up hz]
      show BOne ad K ⟨bt, qs, L.set j (l.take (i + 1))⟩ b2 (wo N H2)
      rw [← e]
      exact g
  · rw [List.length_map, List.take_of_length_le (Nat.le_refl _)] at k'
    exact q N' H' ps' sub s k'
theorem do_cutting {t : Tp0} {tk : Int} (k : Dk ad K N H d p pa n ps (BOne ad K t)) (hn : n ≤ 100) (al : Dw K N H v (cutD tk)) (ok : TpOk t) (h1 : 0 ≤ tk ∧ tk ≤ 999999) (l60 : ∀ l ∈ t.trs, l.length ≤ 60) (l20 : t.ps.length < 20)
    (q : ∀ N' H' ps', (∀ l ∈ t.trs, Cuts l tk) → (∀ x ∈ N, x ∈ N') → Same (wo N H) (wo N' H') → Dk ad K N' H' d p pa (n + 1) ps' (BTwo ad K ⟨t.b, cutPs1 t.ps tk, t.trs.map fun l => pcA l tk⟩ ⟨t.b, cutPs2 t.ps tk, t.trs.map fun l => pcB l tk⟩) → Back ad K N' H' ps' (BOne ad K t) → Q .non H') : sp_Deck_do ad K [.ref p, v] H Q E := by
  refine Dk.doOne (BOne ad K t) (fun b G => ∃ u : Unit, (∀ l ∈ t.trs, Cuts l tk) ∧ BTwo ad K ⟨t.b, cutPs1 t.ps tk, t.trs.map fun l => pcA l tk⟩ ⟨t.b, cutPs2 t.ps tk, t.trs.map fun l => pcB l tk⟩ b G) k hn al bone_st (fun b G G' s ⟨u, h1, h2⟩ => ⟨u, h1, btwo_st b G G' s h2⟩) (fun b H1 Qv hu s lv hb hq => ?_) (fun N' H' ps' sub s k' bk => ?_)
  · exact af_cut lv hb hu ok h1 l60 l20 fun b2 H2 cs s2 g => hq b2 H2 s2 ⟨(), cs, g⟩
  · obtain ⟨_, cs, k2⟩ := Dk.ex k'
    exact q N' H' ps' cs sub s k2 bk
/-! ### the tracks laid so far -/
def Laid (trs : List (List Ev)) (k : Nat) : List (List Ev) := trs.mapIdx fun j l => if j < k then l else []
theorem laid_len (trs : List (List Ev)) (k : Nat) : (Laid trs k).length = trs.length := List.length_mapIdx
theorem laid_at (trs : List (List Ev)) (k j : Nat) : (Laid trs k)[j]? = trs[j]?.map fun l => if j < k then l else [] := by
  unfold Laid
  rw [List.getElem?_mapIdx]
theorem laid_0 (trs : List (List Ev)) : Laid trs 0 = List.replicate trs.length [] := by
  refine List.ext_getElem? fun j => ?_
  rw [laid_at, List.getElem?_replicate]
  by_cases h : j < trs.length
  · rw [if_pos h, List.getElem?_eq_getElem h]
    rfl
  · rw [if_neg h, List.getElem?_eq_none (by omega)]
    rfl
theorem laid_n (trs : List (List Ev)) : Laid trs trs.length = trs := by
  refine List.ext_getElem? fun j => ?_
  rw [laid_at]
  by_cases h : j < trs.length
  · rw [List.getElem?_eq_getElem h]
    show some (if j < trs.length then _ else _) = _
    rw [if_pos h]
  · rw [List.getElem?_eq_none (by omega)]
    rfl
theorem laid_set {trs : List (List Ev)} {k : Nat} {l : List Ev} (h : trs[k]? = some l) : (Laid trs k).set k l = Laid trs (k + 1) := by
  have hk : k < trs.length := (List.getElem?_eq_some_iff.mp h).1
  refine List.ext_getElem? fun j => ?_
  rw [laid_at, List.getElem?_set, laid_len]
  by_cases e : k = j
  · subst e
    rw [if_pos rfl, if_pos hk, h]
    show some l = some (if k < k + 1 then l else [])
    rw [if_pos (by omega)]
  · rw [if_neg e, laid_at]
    congr 1
    funext x
    by_cases g : j < k
    · rw [if_pos g, if_pos (by omega)]
    · rw [if_neg g, if_neg (by omega)]
theorem laid_k {trs : List (List Ev)} {k : Nat} (h : k < trs.length) : (Laid trs k)[k]? = some [] := by
  rw [laid_at, List.getElem?_eq_getElem h]
  show some (if k < k then _ else _) = _
  rw [if_neg (by omega)]
theorem laid_ok {trs : List (List Ev)} (h : ∀ l ∈ trs, TrOk l) (k : Nat) : ∀ l ∈ Laid trs k, TrOk l := by
  intro l hl
  unfold Laid at hl
  obtain ⟨i, hi, rfl⟩ := List.mem_mapIdx.mp hl
  by_cases g : i < k
  · rw [if_pos g]
    exact h _ (List.getElem_mem _)
  · rw [if_neg g]
    exact tr_nil
end
/-! ### the pieces, glued again -/
theorem pcA_le {l : List Ev} {t : Int} : ∀ e ∈ pcA l t, e.t ≤ t := by
  intro e he
  unfold pcA cutA at he
  rcases List.mem_append.mp he with he | he
  · have := of_decide_eq_true (List.mem_filter.mp he).2
    omega
  · unfold endsE at he
    obtain ⟨x, _, rfl⟩ := List.mem_map.mp he
    exact Int.le_refl _
theorem pcB_ge {l : List Ev} {t : Int} (ok : TrOk l) (ht : 0 ≤ t ∧ t ≤ 999999) : ∀ e ∈ pcB l t, 0 ≤ e.t ∧ 0 ≤ e.t + t ∧ e.t + t ≤ 999999 := by
  intro e he
  unfold pcB cutB at he
  rcases List.mem_append.mp he with he | he
  · have : e.t = 0 := by rcases begE_mem he with ⟨x, _, rfl⟩ | ⟨x, _, rfl⟩ | ⟨x, _, rfl⟩ <;> rfl
    omega
  · obtain ⟨x, hx, rfl⟩ := List.mem_map.mp he
    have := (ok.ok x (List.mem_filter.mp hx).1).1
    have := of_decide_eq_true (List.mem_filter.mp hx).2
    show 0 ≤ x.t + (0 - t) ∧ 0 ≤ x.t + (0 - t) + t ∧ x.t + (0 - t) + t ≤ 999999
    omega
noncomputable def pcG (l : List Ev) (t : Int) : List Ev := pcA l t ++ (pcB l t).map (Ev.shift t)
structure Glue (l : List Ev) (t : Int) : Prop where
  a : TrOk (pcA l t)
  b : TrOk (pcB l t)
  ok : ∀ e ∈ pcG l t, e.ok
  up : (pcG l t).Pairwise fun x y => x.t ≤ y.t
  len : (pcG l t).length ≤ 60
  len2 : (pcA l t).length + (pcB l t).length ≤ 200
  run : ∀ u : Int, Sd.nil.run (l.filter fun e => decide (e.t ≤ u)) = Sd.nil.run ((pcG l t).filter fun e => decide (e.t ≤ u))
theorem glue {l : List Ev} {t : Int} (ok : TrOk l) (c : Cuts l t) (hl : l.length ≤ 12) (ht : 0 ≤ t ∧ t ≤ 999999) : Glue l t := by
  have a : TrOk (pcA l t) := cutA_ok ok (by omega) ht c.s
  have b : TrOk (pcB l t) := cutB_ok ok (by omega) ht c.s c.k c.v
  have pl := pieces_len c
  refine ⟨a, b, fun e he => ?_, ?_, ?_, by omega, fun u => (pieces_run ok c u).symm⟩
  · unfold pcG at he
    rcases List.mem_append.mp he with he | he
    · exact a.ok e he
    · obtain ⟨x, hx, rfl⟩ := List.mem_map.mp he
      have := pcB_ge ok ht x hx
      exact ⟨this.2, (b.ok x hx).2⟩
  · unfold pcG
    refine List.pairwise_append.mpr ⟨a.up, ?_, fun x hx y hy => ?_⟩
    · refine List.pairwise_map.mpr (b.up.imp fun {x y} h => ?_)
      show x.t + t ≤ y.t + t
      omega
    · obtain ⟨z, hz, rfl⟩ := List.mem_map.mp hy
      have h1 := pcA_le x hx
      have h2 := (pcB_ge ok ht z hz).1
      show x.t ≤ z.t + t
      omega
  · unfold pcG
    rw [List.length_append, List.length_map]
    omega
end
end Tp
set_option maxHeartbeats 4000000
namespace Tp
open PySem PySem.Spec PyProof.Rows L2
local macro_rules | `(tactic| tm_at "ev") => `(tactic| repeat first
  | with_reducible refine ev_seq ?_ | with_reducible refine ev_asg ?_ | with_reducible refine ev_drop ?_ | with_reducible refine ev_ret ?_ | with_reducible refine ev_ifS ?_ | with_reducible refine ev_next ?_
  | ((with_reducible refine' ev_var ?k1 ?_); (case k1 => exact rfl)) | with_reducible refine ev_c ?_ | with_reducible refine ev_op ?_ | with_reducible refine ev_I0 ?_ | with_reducible refine ev_test ?_ | with_reducible refine ev_B ?_ | with_reducible refine ev_bl ?_
  | ((with_reducible refine ev_eq ?k1 ?_); (case k1 => exact rfl)) | ((with_reducible refine ev_ne ?k1 ?_); (case k1 => exact rfl))
  | ((with_reducible refine' ev_nameL ?k1 ?_); (case k1 => first | (dsimp only [L2.start, wipe, List.map, List.set, List.length, List.replicate, List.append]; exact rfl) | exact rfl)) | with_reducible refine ev_name ?_ | with_reducible refine ev_nil ?_ | with_reducible refine ev_cons ?_ | with_reducible refine ev_call ?_ | with_reducible refine ev_tup ?_ | with_reducible refine ev_lst ?_ | with_reducible refine ev_CB ?_ | with_reducible refine ev_fld ?_
  | with_reducible refine ev_not ?_ | with_reducible refine ev_and ?_ | with_reducible refine ev_or ?_ | with_reducible refine ev_andV ?_ | with_reducible refine ev_orV ?_ | with_reducible refine ev_ifE ?_ | with_reducible refine ev_chain ?_ | with_reducible refine ev_meth ?_ | with_reducible refine ev_un ?_
  | with_reducible refine ev_sl ?_ | with_reducible refine ev_part ?_ | with_reducible refine ev_nopart ?_ | with_reducible refine ev_int ?_ | with_reducible refine ev_for ?_ | with_reducible refine ev_list ?_ | with_reducible refine ev_lc ?_ | with_reducible refine ev_gcons ?_ | with_reducible refine ev_gnil ?_ | with_reducible refine ev_sfld ?_ | with_reducible refine ev_make ?_ | with_reducible refine ev_notV ?_ | with_reducible refine ev_yes ?_ | with_reducible refine ev_dget ?_ | with_reducible refine ev_dput ?_ | with_reducible refine ev_bm ?_ | with_reducible refine ev_bm0 ?_ | with_reducible refine ev_items ?_ | with_reducible refine ev_keys ?_ | with_reducible refine ev_enum ?_ | with_reducible refine ev_tupI ?_ | with_reducible refine ev_par ?_ | with_reducible refine ev_two ?_ | with_reducible refine ev_kget ?_ | with_reducible refine ev_gsub ?_ | with_reducible refine ev_tapeK ?_ | with_reducible refine ev_str ?_ | with_reducible refine ev_txt ?_ | with_reducible refine ev_lc2 ?_ | with_reducible refine ev_dget2 ?_ | with_reducible refine ev_rU ?_ | with_reducible refine ev_ckw ?_ | with_reducible refine ev_dnotin ?_ | with_reducible refine ev_din ?_ | with_reducible refine ev_gfld ?_ | with_reducible refine ev_saug ?_ | with_reducible refine ev_finN ?_ | with_reducible refine ev_zs ?_ | with_reducible refine ev_rng1 ?_)
section
variable {P : Program} {w : World} {K : PySem.W.Frag} {mg : Str → Option Value} {base : Heap} {a : Ad}
/-! ### the law -/
theorem all_map {α β : Type} {f : α → β} {P : α → Prop} : ∀ {ds : List β}, (∀ e ∈ ds, ∃ l, e = f l ∧ P l) → ∃ trs : List α, ds = trs.map f ∧ ∀ l ∈ trs, P l
  | [], _ => ⟨[], rfl, fun _ h => nomatch h⟩
  | e :: ds, h => by
    obtain ⟨l, rfl, hl⟩ := h e List.mem_cons_self
    obtain ⟨trs, rfl, ht⟩ := all_map (ds := ds) fun x hx => h x (List.mem_cons_of_mem _ hx)
    exact ⟨l :: trs, rfl, fun x hx => (List.mem_cons.mp hx).elim (fun z => z ▸ hl) fun z => ht x z⟩
theorem dpA_rep {K : PySem.W.Frag} {G : Hp} {v : V} {e : PyData} (h : Dp K G v e) : ∀ m : Nat, DpAll K G (List.replicate m [v]).flatten (List.replicate m e)
  | 0 => .nil
  | m + 1 => by
    rw [List.replicate_succ, List.replicate_succ, List.flatten_cons]
    exact .cons h (dpA_rep h m)
theorem deck_made {ad : Ad} {H1 H2 : Hp} {d x dx b e pa ah : Addr} {o : HO} (lv : Live [d] H1) (dr : DrAt K [d] H1 d) (hx : H1 x = none) (hdx : H1 dx = none) (sb : SameBut x (upd (upd H1 dx (.own x)) x o) H2) (hb : upd (upd H1 dx (.own x)) x o b = none) (hp : upd (upd H1 dx (.own x)) x o pa = none) (hh : upd (upd H1 dx (.own x)) x o ah = none)
    (h1 : H2 x = some (.ins ad.cD dx (fD b e pa ah 0))) (h2 : H2 b = some (.dK [])) (h3 : H2 pa = some (.lst [])) (h4 : H2 ah = some (.lst [])) : Dk ad K [x, pa, ah, d] H2 d x pa 0 [] BNil ∧ Same (wo [d] H1) (wo [x, pa, ah, d] H2) := by
  have s2 : Same H1 H2 := mk_same hx hdx sb
  have s1 : Same H1 (upd (upd H1 dx (.own x)) x o) := mk_same hx hdx (sb_same same_rfl)
  obtain ⟨od, hd⟩ := lv d (by simp)
  have nb := s1.free hb
  have np := s1.free hp
  have nh := s1.free hh
  have w : Same (wo [d] H1) (wo [x, pa, ah, d] H2) := fun c u e => by
    obtain ⟨k1, k2⟩ := wo_of e
    have q1 := ne_of_none k2 hx
    have q2 := ne_of_none k2 np
    have q3 := ne_of_none k2 nh
    refine wo_at ?_ (s2 _ _ k2)
    simp only [List.mem_cons, List.not_mem_nil, or_false] at k1 ⊢
    rintro (z | z | z | z)
    · exact q1 z
    · exact q2 z
    · exact q3 z
    · exact k1 z
  have hdd := s2 _ _ hd
  refine ⟨⟨?_, dr.to w (hdd.trans hd.symm) (by simp), by simp, by simp, (ne_of_none hd hx).symm, (ne_of_none hd np).symm, ⟨dx, b, e, ah, h1, h3, h4, by simp, wo_at ?_ h2⟩, Nat.le_refl _⟩, w⟩
  · intro c hc
    simp only [List.mem_cons, List.not_mem_nil, or_false] at hc
    rcases hc with rfl | rfl | rfl | rfl
    · exact ⟨_, h1⟩
    · exact ⟨_, h3⟩
    · exact ⟨_, h4⟩
    · exact ⟨_, hdd⟩
  · simp only [List.mem_cons, List.not_mem_nil, or_false]
    rintro (z | z | z | z)
    · rw [z, h1] at h2; cases h2
    · rw [z, h3] at h2; cases h2
    · rw [z, h4] at h2; cases h2
    · rw [z] at nb; rw [nb] at hd; cases hd
theorem ints_of {G : Hp} {l : List Ev} {es : Ps} {t : Int} (okl : ∀ e ∈ l, e.ok) (kn : KnOk es) (ht : 0 ≤ t ∧ t ≤ 999999) : ∀ e ∈ (l.map fun e => PyData.int e.t) ++ (es.map (·.1)).map PyData.int ++ [PyData.int t], ∃ tk : Int, e = .int tk ∧ 0 ≤ tk ∧ tk ≤ 999999 := by
  intro e he
  rcases List.mem_append.mp he with he | he
  · rcases List.mem_append.mp he with he | he
    · obtain ⟨x, hx, rfl⟩ := List.mem_map.mp he
      exact ⟨_, rfl, (okl x hx).1⟩
    · obtain ⟨x, hx, rfl⟩ := List.mem_map.mp he
      obtain ⟨z, hz, rfl⟩ := List.mem_map.mp hx
      exact ⟨_, rfl, (kn.ok z hz).1⟩
  · rw [List.mem_singleton] at he
    exact ⟨t, he, ht⟩
theorem shr_fit {bt : Int} (ok : BeatOk bt) (z : Nat) : -(2 ^ 64) < ((bt.toNat / Nat.gcd z bt.toNat : Nat) : Int) ∧ ((bt.toNat / Nat.gcd z bt.toNat : Nat) : Int) < 2 ^ 64 := by
  have h1 := ok.1
  have h2 := ok.2
  have h3 := Nat.div_le_self bt.toNat (Nat.gcd z bt.toNat)
  have h4 := Int.natCast_nonneg (bt.toNat / Nat.gcd z bt.toNat)
  omega
theorem mom_sum {qs : Ps} {tk m : Int} (ok : PsOk qs) (ok2 : PsOk (cutPs2 qs tk)) (h : 0 ≤ tk) (hm : 0 ≤ m) : (mom (cutPs2 qs tk) m).toNat + (mom qs tk).toNat = (mom qs (tk + m)).toNat := by
  have g0 := mom_cut2 (Mo.of ok) h hm
  have g1 := mom_nn ok2 hm
  have g2 := mom_nn ok h
  omega
/-- the sum of two shares, as the law asks it -/
theorem sums {x y z b : Nat} (hb : 0 < b) (h : x + y = z) : (((x / Nat.gcd x b : Nat) : Int) * ((b / Nat.gcd y b : Nat) : Int) + ((y / Nat.gcd y b : Nat) : Int) * ((b / Nat.gcd x b : Nat) : Int)) * ((b / Nat.gcd z b : Nat) : Int) = ((z / Nat.gcd z b : Nat) : Int) * ((b / Nat.gcd x b : Nat) : Int) * ((b / Nat.gcd y b : Nat) : Int) := by
  exact_mod_cast sh_add hb h
theorem ne_false {A B : Int} (h : A = B) : (!decide (V.int A = V.int B)) = false := by
  rw [h]
  simp
theorem one_sh : Sh 2 (.list [.str "one"]) := .lst fun d hd => by
  rw [List.mem_singleton] at hd
  subst hd
  exact .str (by decide +kernel)
def sp_law (K : PySem.W.Frag) : Sp := fun vs H Q _ => ∃ (p : Addr) (ns : List Int), vs = [.ref p] ∧ SqL K H p (ns.map V.int) ∧ ns.length ≤ 63 ∧ ∀ H', Q (.bl true) H'
theorem sc_law : FnScope ["_law_script", "_law_draw", "_law_deck", "_law_k", "_law_tracks", "_law_beat_here", "_law_known", "_law_tick_here", "_law_elder", "_law_first", "_law_second", "_law_own", "_law_turn", "_law_more", "_law_upper", "_law_lower", "_law_least", "_law_under", "_law_whole_one", "_law_both", "_law_ahead", "_law_event"] ["_law_script"] (defScope s_law) := ⟨rfl, rfl, rfl, by decide +kernel, rfl, by decide +kernel, by decide +kernel⟩
theorem law_len {K : PySem.W.Frag} {vs : List V} {H : Hp} {Q : VK} {E : XK} (h : sp_law K vs H Q E) : vs.length = 1 := by
  obtain ⟨p0, ns, rfl, _⟩ := h
  rfl
theorem law_body (T : Tx w K mg a) (c__law_begin : C8.Cal P w K mg base 1 "_law_begin" (sp__law_begin K) []) (k_Deck : C8.Mak P w K mg base 1 "Deck" a.cD (sp_Deck___init__ a) []) (c__law_pick : C8.Cal P w K mg base 1 "_law_pick" (sp__law_pick K) [])
    (c__law_keen_track : C8.Cal P w K mg base 4 "_law_keen_track" (sp__law_keen_track K) []) (c__law_beat : C8.Cal P w K mg base 3 "_law_beat" (spL K 1 960) []) (c__law_paces : C8.Cal P w K mg base 4 "_law_paces" (sp__law_paces K) [])
    (m_Deck_do_all : C8.Met P w K mg base 9 a.cD "do_all" (sp_Deck_do_all a K) []) (m_Deck_tape : C8.Met P w K mg base 2 a.cD "tape" (sp_Deck_tape a) []) (c__law_one : C8.Cal P w K mg base 2 "_law_one" (sp__law_one K) [])
    (c__law_tick : C8.Cal P w K mg base 2 "_law_tick" (spI K 0 999999) []) (m_Deck_do : C8.Met P w K mg base 10 a.cD "do" (sp_Deck_do a K) []) (m_Tape_paced : C8.Met P w K mg base 5 a.cT "paced" (sp_Tape_paced a K) [])
    (c_unlike : C8.Cal P w K mg base 6 "unlike" (sp_unlike a K) []) (c_glued : C8.Cal P w K mg base 3 "glued" (sp_glued K) []) (m_Tape_tracks : C8.Met P w K mg base 1 a.cT "tracks" (sp_Tape_tracks a K) [])
    (m_Map_moment : C8.Met P w K mg base 4 a.cM "moment" (sp_Map_moment a K) []) (m_Deck_undo : C8.Met P w K mg base 1 a.cD "undo" (sp_Deck_undo a K) []) (m_Deck_names : C8.Met P w K mg base 1 a.cD "names" (sp_Deck_names a K) [])
    (m_Tape___eq__ : C8.Met P w K mg base 6 a.cT "__eq__" (sp_Tape___eq__ a K) []) (m_Map___eq__ : C8.Met P w K mg base 3 a.cM "__eq__" (sp_Map___eq__ a K) []) (k_Map : C8.Mak P w K mg base 2 "Map" a.cM (sp_Map___init__ a K) [])
    (c__law_pairs : C8.Cal P w K mg base 1 "_law_pairs" (sp__law_pairs K) []) : BodyF P w K mg base ["_law_script", "_law_draw", "_law_deck", "_law_k", "_law_tracks", "_law_beat_here", "_law_known", "_law_tick_here", "_law_elder", "_law_first", "_law_second", "_law_own", "_law_turn", "_law_more", "_law_upper", "_law_lower", "_law_least", "_law_under", "_law_whole_one", "_law_both", "_law_ahead", "_law_event"] "law" (topS 124) 10 (sp_law K) := by
  intro f cdv A outer s H vs Q E hr h
  · obtain ⟨p0, ns, rfl, hs, hl, q⟩ := h
    refine ⟨_, (pss_cons (ps_set (i := 1) sc_law.nd rfl (Or.inr rfl) (C8.pe_c c__law_begin hr (by decide) rfl (pa_cons (pv 0) pa_nil)))
      (pss_cons (ps_set (i := 2) sc_law.nd rfl (Or.inl rfl) (pe_mk0 k_Deck hr (by decide) rfl))
      (pss_cons (ps_setLc (i := 4) (own := [("_law_k", 3)]) rfl sc_law.nd rfl rfl (sw_true rfl rfl rfl (by decide +kernel)) (pi_range1 rfl T.f_range (pa_cons (pe_op op_add pe_int (C8.pe_c c__law_pick hr (by decide) rfl (pa_cons (pv 1) (pa_cons pe_int pa_nil)))) pa_nil)) (blkOk_by (own := [("_law_k", 3)]) (N := ["_law_script", "_law_draw", "_law_deck", "_law_k", "_law_tracks", "_law_beat_here", "_law_known", "_law_tick_here", "_law_elder", "_law_first", "_law_second", "_law_own", "_law_turn", "_law_more", "_law_upper", "_law_lower", "_law_least", "_law_under", "_law_whole_one", "_law_both", "_law_ahead", "_law_event"]) (sc := defScope s_law) (by decide +kernel)) (fun _ _ _ _ _ => pg_name (i := 3) sc_law.nd rfl (Or.inl rfl)) (fun _ _ _ _ _ => pts_nil) (fun _ _ _ _ _ => C8.pe_c c__law_keen_track hr (by decide) rfl (pa_cons (pv 1) (pa_cons pe_int pa_nil))))
      (pss_cons (ps_asg (pe_tup (pa_cons (C8.pe_c c__law_beat hr (by decide) rfl (pa_cons (pv 1) pa_nil)) (pa_cons (C8.pe_c c__law_paces hr (by decide) rfl (pa_cons (pv 1) (pa_cons pe_int pa_nil))) pa_nil))) (kg_tup (K := K) rfl (pg_tup (n := 2) rfl (pgs_cons (pg_name (i := 5) sc_law.nd rfl (Or.inl rfl)) (pgs_cons (pg_name (i := 6) sc_law.nd rfl (Or.inr rfl)) pgs_nil)))))
      (pss_cons (ps_expr (C8.pe_mt m_Deck_do_all hr (by decide) (pv 2) (pa_cons (pe_op op_cat (pe_lst (pa_cons (pe_tup (pa_cons pe_str (pa_cons pe_str (pa_cons (pv 5) pa_nil)))) pa_nil)) (pe_op op_rep (pe_lst (pa_cons (pe_tup (pa_cons pe_str (pa_cons pe_str pa_nil))) pa_nil)) (pe_op op_sub (pe_callB (kcall_len (K := K) rfl) rfl T.f_len (by decide +kernel) (pa_cons (pv 4) pa_nil)) pe_int))) pa_nil)))
      (pss_cons (ps_expr (C8.pe_mt m_Deck_do_all hr (by decide) (pv 2) (pa_cons (pe_lock (pe_lc (own := [("_law_tick_here", 7)]) rfl sc_law.nd (pi_keys (pv 6)) (blkOk_by (own := [("_law_tick_here", 7)]) (N := ["_law_script", "_law_draw", "_law_deck", "_law_k", "_law_tracks", "_law_beat_here", "_law_known", "_law_tick_here", "_law_elder", "_law_first", "_law_second", "_law_own", "_law_turn", "_law_more", "_law_upper", "_law_lower", "_law_least", "_law_under", "_law_whole_one", "_law_both", "_law_ahead", "_law_event"]) (sc := defScope s_law) (by decide +kernel)) (fun _ _ _ _ _ => pg_name (i := 7) sc_law.nd rfl (Or.inl rfl)) (fun _ _ _ _ _ => pts_nil) (fun _ _ _ _ _ => pe_tup (pa_cons pe_str (pa_cons pe_str (pa_cons (pv 7) (pa_cons (pe_dget (hu_of hr) (pv 6) (pv 7) (fun _ _ => rfl)) pa_nil))))))) pa_nil)))
      (pss_cons (ps_for PassesOwn.never rfl (pi_range1 rfl T.f_range (pa_cons (pe_callB (kcall_len (K := K) rfl) rfl T.f_len (by decide +kernel) (pa_cons (pv 4) pa_nil)) pa_nil)) (pg_name (i := 3) sc_law.nd rfl (Or.inr rfl))
        (pss_one (ps_expr (C8.pe_mt m_Deck_do_all hr (by decide) (pv 2) (pa_cons (pe_lc (own := [("_law_event", 21)]) rfl sc_law.nd (k_list (K := K) rfl (pi_list (pe_ix (kix_list (K := K) rfl) (pv 4) (pv 3) (fun _ _ => rfl)))) (blkOk_by (own := [("_law_event", 21)]) (N := ["_law_script", "_law_draw", "_law_deck", "_law_k", "_law_tracks", "_law_beat_here", "_law_known", "_law_tick_here", "_law_elder", "_law_first", "_law_second", "_law_own", "_law_turn", "_law_more", "_law_upper", "_law_lower", "_law_least", "_law_under", "_law_whole_one", "_law_both", "_law_ahead", "_law_event"]) (sc := defScope s_law) (by decide +kernel)) (fun _ _ _ _ _ => pg_name (i := 21) sc_law.nd rfl (Or.inl rfl)) (fun _ _ _ _ _ => pts_nil) (fun _ _ _ _ _ => pe_tup (pa_cons pe_str (pa_cons pe_str (pa_cons (pv 3) (pa_cons (pv 21) pa_nil)))))) pa_nil)))))
      (pss_cons (ps_set (i := 8) sc_law.nd rfl (Or.inl rfl) (C8.pe_mt m_Deck_tape hr (by decide) (pv 2) (pa_cons pe_str pa_nil)))
      (pss_cons (ps_set (i := 7) sc_law.nd rfl (Or.inl rfl) (C8.pe_c c__law_one hr (by decide) rfl (pa_cons (pv 1) (pa_cons (pe_op op_cat (pe_op op_cat (pe_lc (own := [("_law_event", 21)]) rfl sc_law.nd (k_list (K := K) rfl (pi_list (pe_ix (kix_list (K := K) rfl) (pv 4) pe_int (fun _ _ => rfl)))) (blkOk_by (own := [("_law_event", 21)]) (N := ["_law_script", "_law_draw", "_law_deck", "_law_k", "_law_tracks", "_law_beat_here", "_law_known", "_law_tick_here", "_law_elder", "_law_first", "_law_second", "_law_own", "_law_turn", "_law_more", "_law_upper", "_law_lower", "_law_least", "_law_under", "_law_whole_one", "_law_both", "_law_ahead", "_law_event"]) (sc := defScope s_law) (by decide +kernel)) (fun _ _ _ _ _ => pg_name (i := 21) sc_law.nd rfl (Or.inl rfl)) (fun _ _ _ _ _ => pts_nil) (fun _ _ _ _ _ => pe_ix (kix_tup (K := K) rfl) (pv 21) pe_int (fun _ _ => rfl))) (pe_callTy (call_list_dK rfl) rfl T.f_list (by decide +kernel) (pa_cons (pv 6) pa_nil))) (pe_lst (pa_cons (C8.pe_c c__law_tick hr (by decide) rfl (pa_cons (pv 1) pa_nil)) pa_nil))) pa_nil))))
      (pss_cons (ps_expr (C8.pe_mt m_Deck_do hr (by decide) (pv 2) (pa_cons (pe_tup (pa_cons pe_str (pa_cons pe_str (pa_cons (pv 7) (pa_cons pe_str pa_nil))))) pa_nil)))
      (pss_cons (ps_par (i := 9) (j := 10) rfl sc_law.nd rfl rfl (by decide) rfl rfl (pa_cons (C8.pe_mt m_Deck_tape hr (by decide) (pv 2) (pa_cons pe_str pa_nil)) (pa_cons (C8.pe_mt m_Deck_tape hr (by decide) (pv 2) (pa_cons pe_str pa_nil)) pa_nil)) (by rfl))
      (pss_cons (ps_set (i := 11) sc_law.nd rfl (Or.inl rfl) (C8.pe_mt0 m_Tape_paced hr (by decide) (pv 8)))
      (pss_cons (ps_for PassesOwn.never rfl (pi_range1 rfl T.f_range (pa_cons (pe_callB (kcall_len (K := K) rfl) rfl T.f_len (by decide +kernel) (pa_cons (pv 4) pa_nil)) pa_nil)) (pg_name (i := 3) sc_law.nd rfl (Or.inr rfl))
        (pss_one (ps_if (pt_cmpR op_notN (C8.pe_c c_unlike hr (by decide) rfl (pa_cons (pe_ix (kix_list (K := K) rfl) (pv 4) (pv 3) (fun _ _ => rfl)) (pa_cons (pv 11) (pa_cons (C8.pe_c c_glued hr (by decide) rfl (pa_cons (pe_ix (kix_list (K := K) rfl) (C8.pe_mt0 m_Tape_tracks hr (by decide) (pv 9)) (pv 3) (fun _ _ => rfl)) (pa_cons (pe_ix (kix_list (K := K) rfl) (C8.pe_mt0 m_Tape_tracks hr (by decide) (pv 10)) (pv 3) (fun _ _ => rfl)) (pa_cons (pv 7) pa_nil)))) (pa_cons (pv 11) pa_nil))))) pe_non (nomark _)) (pss_one (ps_ret pe_bl)) pss_nil)))
      (pss_cons (ps_for PassesOwn.never rfl (pi_range1 rfl T.f_range (pa_cons pe_int pa_nil)) (pg_name (i := 12) sc_law.nd rfl (Or.inl rfl))
        (pss_cons (ps_set (i := 13) sc_law.nd rfl (Or.inl rfl) (C8.pe_c c__law_pick hr (by decide) rfl (pa_cons (pv 1) (pa_cons (pe_op op_sub pe_int (pv 7)) pa_nil))))
        (pss_cons (ps_asg (C8.pe_mt m_Map_moment hr (by decide) (C8.pe_mt0 m_Tape_paced hr (by decide) (pv 10)) (pa_cons (pv 13) pa_nil)) (kg_tup (K := K) rfl (pg_tup (n := 2) rfl (pgs_cons (pg_name (i := 14) sc_law.nd rfl (Or.inl rfl)) (pgs_cons (pg_name (i := 15) sc_law.nd rfl (Or.inl rfl)) pgs_nil)))))
        (pss_cons (ps_asg (C8.pe_mt m_Map_moment hr (by decide) (pv 11) (pa_cons (pv 7) pa_nil)) (kg_tup (K := K) rfl (pg_tup (n := 2) rfl (pgs_cons (pg_name (i := 16) sc_law.nd rfl (Or.inl rfl)) (pgs_cons (pg_name (i := 17) sc_law.nd rfl (Or.inl rfl)) pgs_nil)))))
        (pss_cons (ps_set (i := 18) sc_law.nd rfl (Or.inl rfl) (C8.pe_mt m_Map_moment hr (by decide) (pv 11) (pa_cons (pe_op op_add (pv 7) (pv 13)) pa_nil)))
        (pss_cons (ps_set (i := 19) sc_law.nd rfl (Or.inl rfl) (pe_op op_add (pe_op op_mul (pv 14) (pv 17)) (pe_op op_mul (pv 16) (pv 15))))
        (pss_cons (ps_if (pt_cmpR op_ne (pe_op op_mul (pv 19) (pe_ix (kix_tup (K := K) rfl) (pv 18) pe_int (fun _ _ => rfl))) (pe_op op_mul (pe_op op_mul (pe_ix (kix_tup (K := K) rfl) (pv 18) pe_int (fun _ _ => rfl)) (pv 15)) (pv 17)) (nomark _)) (pss_one (ps_ret pe_bl)) pss_nil)
        (pss_cons (ps_set (i := 20) sc_law.nd rfl (Or.inl rfl) (C8.pe_c c__law_pick hr (by decide) rfl (pa_cons (pv 1) (pa_cons (pe_op op_add (pv 7) pe_int) pa_nil))))
        (pss_one (ps_if (pt_cmpR (kop_ne (K := K) rfl hr.units) (C8.pe_mt m_Map_moment hr (by decide) (C8.pe_mt0 m_Tape_paced hr (by decide) (pv 9)) (pa_cons (pv 20) pa_nil)) (C8.pe_mt m_Map_moment hr (by decide) (pv 11) (pa_cons (pv 20) pa_nil)) (nomark _)) (pss_one (ps_ret pe_bl)) pss_nil))))))))))
      (pss_cons (ps_expr (C8.pe_mt0 m_Deck_undo hr (by decide) (pv 2)))
      (pss_one (ps_ret (pe_and (pe_cmpR (op_eqOwn (K := K) rfl m_Tape___eq__ hr (by decide)) (C8.pe_mt m_Deck_tape hr (by decide) (pv 2) (pa_cons pe_str pa_nil)) (pv 8) (nomark _)) (pe_and (pe_cmpR (kop_eq (K := K) rfl hr.units) (C8.pe_mt0 m_Deck_names hr (by decide) (pv 2)) (pe_lst (pa_cons pe_str pa_nil)) (nomark _)) (pe_one (pe_cmpR (op_eqOwn (K := K) rfl m_Map___eq__ hr (by decide)) (pv 11) (C8.pe_mk k_Map hr (by decide) rfl (pa_cons (pv 5) (pa_cons (C8.pe_c c__law_pairs hr (by decide) rfl (pa_cons (pv 6) pa_nil)) pa_nil))) (nomark _)))))))))))))))))))))), ?_⟩
    tm_at "ev"
    refine ⟨[], p0, ns, rfl, (fun _ h => nomatch h), hs, hl, fun d H1 s1 n1 lv1 w1 dr1 => ?_⟩
    tm_at "ev"
    intro x dx hx hdx hne
    refine ⟨x, dx, rfl, upd_same, fun b e pa ah H2 sb2 hb hp hh bx px hx2 g1 g2 g3 g4 => ⟨rfl, ?_⟩⟩
    obtain ⟨k2, w2⟩ := deck_made (K := K) (ad := a) lv1 dr1 hx hdx sb2 hb hp hh g1 g2 g3 g4
    clear w2 w1 g1 g2 g3 g4 sb2 hb hp hh
    tm_at "ev"
    obtain ⟨N, hN⟩ : ∃ N, N = [x, pa, ah, d] := ⟨_, rfl⟩
    rw [← hN] at k2
    clear hN
    refine ⟨N, d, 3, rfl, k2.dr, by decide, by decide, fun k3 H3 s3 d3 a3 b3 => ?_⟩
    have k3' := k2.draw bnil_st s3 d3
    tm_at "ev"
    refine ⟨1 + k3, rfl, by omega, by omega, fun D1 hD1 => lc_draw (K := K) (N := N) (fun e => ∃ l, e = trD l ∧ TrOk l ∧ l.length ≤ 12) d3 k3'.lv hD1 (by omega) ?_ ?_⟩
    · intro i H4 hi s4 lv4 d4 Y hY
      tm_at "ev"
      refine ⟨rfl, ?_⟩
      tm_at "ev"
      exact ⟨D1 :: N, d, rfl, lv4, d4, fun l r H5 okl up len s5 d5 dw5 => hY (trD l) (.ref r) H5 ⟨l, rfl, ⟨okl, up, by omega⟩, len⟩ s5 d5 dw5⟩
    intro ds us0 H4 hds hP s4 lv4 d4 _ _ dS
    obtain ⟨trs, rfl, okt⟩ := all_map hP
    have k4 := k3'.draw bnil_st s4 d4
    have ln1 : 1 ≤ trs.length ∧ trs.length ≤ 3 := by
      rw [List.length_map] at hds
      omega
    clear hP hds k3' k2
    tm_at "ev"
    refine ⟨N, d, rfl, lv4, d4, fun bt H5 s5 d5 b0 b1 => ?_⟩
    have k5 := k4.draw bnil_st s5 d5
    tm_at "ev"
    refine ⟨N, d, rfl, k5.lv, d5, fun es D2 H6 kn hes s6 d6 hD2 => ?_⟩
    have k6 := k5.draw bnil_st s6 d6
    have dS6 : Dw K N H6 (.ref D1) (.list (trs.map trD)) := dp_mono (sb_w d5.mem s6) (dp_mono (sb_w d4.mem s5) dS)
    clear k4 k5 dS
    tm_at "ev"
    refine ⟨sz2, fun t0 ht0 => ?_⟩
    have s7 := same_new (o := .tup [V.int bt, V.ref D2]) ht0
    refine ⟨t0, _, rfl, .inl (.inl upd_same), rfl, ?_⟩
    have k7 := k6.up bnil_st s7
    have dS7 : Dw K N _ (.ref D1) (.list (trs.map trD)) := Dw.up dS6 s7
    have hD7 := (wo_same (N := N) s7) _ _ hD2
    clear k6 dS6 hD2
    generalize upd H6 t0 (.tup [V.int bt, V.ref D2]) = H7 at s7 k7 dS7 hD7 ⊢
    have okb : BeatOk bt := ⟨b0, b1⟩
    tm_at "ev"
    obtain ⟨m, hm⟩ : ∃ m, trs.length = m + 1 := ⟨trs.length - 1, by omega⟩
    obtain ⟨dx7, fs7, hx7, lk7⟩ := k7.ins "do_all" fun _ _ _ => rfl
    refine ⟨x, dx7, _, rfl, hx7, lk7, ?_⟩
    tm_at "ev"
    refine ⟨sz3, fun t1 ht1 => ?_⟩
    have q1 := dw_tup (K := K) k7.lv (xs := [.str "new", .str "one", .int bt]) (ds := [.str "new", .str "one", .int bt]) (.cons (.str _) (.cons (.str _) (.cons (.int _) .nil))) ht1
    generalize upd H7 t1 (.tup [V.str "new", .str "one", .int bt]) = G1 at q1 ⊢
    have kg1 := k7.up bnil_st q1.1
    tm_at "ev"
    refine ⟨sz1, fun l1 hl1 => ?_⟩
    have n1 := newL_lst (K := K) (N := N) (xs := [V.ref t1]) (ds := [newD bt]) (.cons q1.2 .nil) hl1
    have hl1' : upd G1 l1 (.lst [V.ref t1]) l1 = some (.lst [V.ref t1]) := upd_same
    generalize upd G1 l1 (.lst [V.ref t1]) = G2 at n1 hl1' ⊢
    have kg2 := kg1.up bnil_st n1.same
    have dt1 := Dw.up q1.2 n1.same
    tm_at "ev"
    refine ⟨sz2, fun t2 ht2 => ?_⟩
    have q2 := dw_tup (K := K) kg2.lv (xs := [.str "add", .str "one"]) (ds := [.str "add", .str "one"]) (.cons (.str _) (.cons (.str _) .nil)) ht2
    generalize upd G2 t2 (.tup [V.str "add", .str "one"]) = G3 at q2 ⊢
    have kg3 := kg2.up bnil_st q2.1
    tm_at "ev"
    refine ⟨sz1, fun l2 hl2 => ?_⟩
    have s4 := same_new (o := .lst [V.ref t2]) hl2
    have hl2' : upd G3 l2 (.lst [V.ref t2]) l2 = some (.lst [V.ref t2]) := upd_same
    generalize upd G3 l2 (.lst [V.ref t2]) = G4 at s4 hl2' ⊢
    have kg4 := kg3.up bnil_st s4
    have s74 := (q1.1.trans n1.same).trans (q2.1.trans s4)
    have dS8 : Dw K N G4 (.ref D1) (.list (trs.map trD)) := Dw.up dS7 s74
    tm_at "ev"
    refine q_len dS8 ?_
    tm_at "ev"
    rw [List.length_map, show ((trs.length : Nat) : Int) - 1 = (m : Int) by omega]
    refine ⟨l2, m, _, rfl, rfl, hl2', by omega, by omega, by rw [Int.toNat_natCast]; exact Nat.le_trans (show 1 * m ≤ 100 by omega) (by decide), fun l3 hl3 => ?_⟩
    rw [Int.toNat_natCast]
    have s5 := same_new (o := .lst (List.replicate m [V.ref t2]).flatten) hl3
    have hl3' : upd G4 l3 (.lst (List.replicate m [V.ref t2]).flatten) l3 = some (.lst (List.replicate m [V.ref t2]).flatten) := upd_same
    generalize upd G4 l3 (.lst (List.replicate m [V.ref t2]).flatten) = G5 at s5 hl3' ⊢
    have dt2 : Dw K N G5 (.ref t2) addD := Dw.up q2.2 (s4.trans s5)
    have dt1' : Dw K N G5 (.ref t1) (newD bt) := Dw.up dt1 ((q2.1.trans s4).trans s5)
    have dr2 := dpA_rep dt2 m
    refine ⟨l1, l3, _, _, rfl, rfl, ((q2.1.trans s4).trans s5) _ _ hl1', hl3', ?_, fun l4 hl4 => ?_⟩
    · rw [dpA_len dr2, List.length_replicate]
      exact Nat.le_trans (show 1 + m ≤ 100 by omega) (by decide)
    have n4 := newL_lst (K := K) (N := N) (xs := [V.ref t1] ++ (List.replicate m [V.ref t2]).flatten) (ds := newD bt :: List.replicate m addD) (.cons dt1' dr2) hl4
    generalize upd G5 l4 (.lst ([V.ref t1] ++ (List.replicate m [V.ref t2]).flatten)) = G6 at n4 ⊢
    tm_at "ev"
    have s76 := (s74.trans s5).trans n4.same
    have kg6 := k7.up bnil_st s76
    refine do_first kg6 (by decide) (n4.dw (kg4.lv.same s5)) (by omega) okb fun N8 H8 ps8 sub8 w8 k8 => ?_
    have dS9 : Dw K N8 H8 (.ref D1) (.list (trs.map trD)) := dp_mono ((wo_same s76).trans w8) dS7
    have hD9 := w8 _ _ ((wo_same (N := N) s76) _ _ hD7)
    clear n4 dr2 dt1' dt2 hl3' s5 dS8 s74 kg4 hl2' s4 kg3 q2 dt1 kg2 hl1' n1 kg1 q1 k7 dS7 hD7 kg6
    rw [← hm] at k8
    tm_at "ev"
    obtain ⟨dx8, fs8, hx8, lk8⟩ := k8.ins "do_all" fun _ _ _ => rfl
    refine ⟨x, dx8, _, rfl, hx8, lk8, ?_⟩
    tm_at "ev"
    refine ev_lock ⟨D2, _, (wo_of hD9).2, trivial, fun od => ?_⟩
    tm_at "ev"
    refine ⟨D2, od, rfl, .inl ⟨_, upd_same, fun D3 hD3 => lc_keys (K := K) (D2 :: N8) paceD upd_same hD3 (by omega) (live_frz k8.lv) ?_ ?_⟩⟩
    · intro e he H9 s9 lv9 Y hY
      tm_at "ev"
      refine ⟨rfl, ?_⟩
      tm_at "ev"
      have hg : DGet H9 D2 (.int e.1) (some (.int e.2)) := by
        refine .inl ⟨kM es, .inl e.1, .inr ⟨od, s9 _ _ upd_same⟩, rfl, ?_⟩
        rcases valV_map (Sum.inl : Int → Key) inl_inj V.int es e.1 with ⟨e', he', e1, hv⟩ | ⟨hn, _⟩
        · have e2 : e'.2 = e.2 := by rw [← vlE_of kn.nd e' he', ← vlE_of kn.nd e he, e1]
          rw [e2] at hv
          exact hv.symm
        · exact absurd (List.mem_map.mpr ⟨e, he, rfl⟩) hn
      refine ⟨D2, _, rfl, hg, ?_⟩
      tm_at "ev"
      refine ⟨sz4, fun p4 hp4 => ?_⟩
      have t4 := dw_tup (K := K) lv9 (xs := [.str "pace", .str "one", .int e.1, .int e.2]) (ds := [.str "pace", .str "one", .int e.1, .int e.2]) (.cons (.str _) (.cons (.str _) (.cons (.int _) (.cons (.int _) .nil)))) hp4
      exact hY _ _ t4.1 t4.2
    intro H9 n9
    have hfz := n9.same _ _ upd_same
    have n10 := n9.unlock (wo_of hD9).2
    refine ⟨hfz, ?_⟩
    tm_at "ev"
    generalize upd H9 D2 (.dK (kM es)) = H10 at n10 ⊢
    have k10 := k8.up bone_st n10.same
    refine do_paces k10 (by decide) (n10.dw k8.lv) kn hes okb (fun l hl => ?_) (by rw [List.length_replicate]; omega) fun N11 H11 ps11 qs srt perm sub11 w11 k11 => ?_
    · rw [List.eq_of_mem_replicate hl]
      exact tr_nil
    have w8t := (wo_same (N := N8) n10.same).trans w11
    have dS11 : Dw K N11 H11 (.ref D1) (.list (trs.map trD)) := dp_mono w8t dS9
    have hD11 := w8t _ _ hD9
    clear dS9 hD9 k8 k10 n9 n10 hfz w8t
    have okq : PsOk qs := ⟨fun x hx => kn.ok x (perm.mem_iff.mp hx), srt, by have := perm.length_eq; omega⟩
    rw [← laid_0] at k11
    tm_at "ev"
    refine q_len dS11 ?_
    tm_at "ev"
    rw [List.length_map]
    refine ⟨(trs.length : Int), rfl, by omega, by omega, ?_⟩
    refine for_range (lo := 0) (n := ((trs.length : Nat) : Int).toNat) (fun i σ H' => ∃ (N' : List Addr) (ps' : List V) (o3 : Option V), σ = [some (.ref p0), some (.ref d), some (.ref x), o3, some (.ref D1), some (.int bt), some (.ref D2), none, none, none, none, none, none, none, none, none, none, none, none, none, none, none] ∧ Same (wo N11 H11) (wo N' H') ∧ Dk a K N' H' d x pa (2 + i) ps' (BOne a K ⟨bt, qs, Laid trs i⟩))
      ⟨N11, ps11, none, rfl, same_rfl, k11⟩ (fun i σ H12 hi hh => ?_) fun σ H12 hh => ?_
    · obtain ⟨N12, ps12, o3, rfl, w12, k12⟩ := hh
      rw [Int.toNat_natCast] at hi
      rw [Int.zero_add]
      tm_at "ev"
      obtain ⟨dx12, fs12, hx12, lk12⟩ := k12.ins "do_all" fun _ _ _ => rfl
      refine ⟨x, dx12, _, rfl, hx12, lk12, ?_⟩
      tm_at "ev"
      have dS12 : Dw K N12 H12 (.ref D1) (.list (trs.map trD)) := dp_mono w12 dS11
      have hl := List.getElem?_eq_getElem hi
      obtain ⟨okl, ll⟩ := okt _ (List.getElem_mem hi)
      generalize trs[i] = l at hl okl ll
      refine q_ixL dS12 (atI_n (n := i) (by rw [List.getElem?_map, hl]; rfl)) fun v hv => ?_
      tm_at "ev"
      obtain ⟨pv, xs, rfl, hxs, dxs⟩ := dp_lst hv
      refine ⟨pv, rfl, ⟨_, sqL_mono wo_sub hxs⟩, fun D3 hD3 => lc_map (K := K) N12 l Ev.d (putD i) (sqL_mono wo_sub hxs) dxs hD3 (by omega) k12.lv ?_ ?_⟩
      · intro e he y H13 s13 lv13 dy Y hY
        tm_at "ev"
        refine ⟨rfl, ?_⟩
        tm_at "ev"
        refine ⟨sz4, fun p4 hp4 => ?_⟩
        have t4 := dw_tup (K := K) lv13 (xs := [.str "put", .str "one", .int i, y]) (ds := [.str "put", .str "one", .int i, e.d]) (.cons (.str _) (.cons (.str _) (.cons (.int _) (.cons dy .nil)))) hp4
        exact hY _ _ t4.1 t4.2
      intro H13 n13
      tm_at "ev"
      have k13 := k12.up bone_st n13.same
      refine do_puts k13 (by omega) (n13.dw k12.lv) okl (laid_k hi) okb okq (laid_ok (fun l h => (okt l h).1) i) (by rw [laid_len]; omega) fun N14 H14 ps14 sub14 w14 k14 => ?_
      tm_at "ev"
      rw [laid_set hl] at k14
      exact ⟨N14, ps14, _, rfl, (w12.trans (wo_same n13.same)).trans w14, k14⟩
    · obtain ⟨N12, ps12, o3, rfl, w12, k12⟩ := hh
      rw [Int.toNat_natCast, laid_n] at k12
      have dS12 : Dw K N12 H12 (.ref D1) (.list (trs.map trD)) := dp_mono w12 dS11
      have hD12 := w12 _ _ hD11
      clear k11 dS11 hD11
      tm_at "ev"
      obtain ⟨dxa, ba, ela, aha, ha1, ha2, ha3, ha4, y0, hy0, ty0⟩ := id k12.at_
      refine ⟨x, dxa, _, rfl, ha1, rfl, ?_⟩
      tm_at "ev"
      refine ⟨x, dxa, ba, ela, pa, aha, y0, 0, "one", [("one", y0)], rfl, ha1, (wo_of hy0).2, val_one y0, ?_⟩
      tm_at "ev"
      have h0 : 0 < trs.length := ln1.1
      have hl0 := List.getElem?_eq_getElem h0
      obtain ⟨okl0, ll0⟩ := okt _ (List.getElem_mem h0)
      generalize trs[0] = l0 at hl0 okl0 ll0
      refine q_ixL dS12 (atI_n (n := 0) (by rw [List.getElem?_map, hl0]; rfl)) fun v0 hv0 => ?_
      tm_at "ev"
      obtain ⟨pv, xs, rfl, hxs, dxs⟩ := dp_lst hv0
      refine ⟨pv, rfl, ⟨_, sqL_mono wo_sub hxs⟩, fun D3 hD3 => lc_map (K := K) N12 l0 Ev.d (fun e => PyData.int e.t) (sqL_mono wo_sub hxs) dxs hD3 (by omega) k12.lv ?_ ?_⟩
      · intro e he y H13 s13 lv13 dy Y hY
        tm_at "ev"
        refine ⟨rfl, ?_⟩
        tm_at "ev"
        have dy' : Dw K (D3 :: N12) H13 y (.tuple (.int e.t :: e.th.ds)) := dy
        refine q_ixTi dy' (atI_n (n := 0) rfl) ?_
        exact hY _ _ same_rfl (.int _)
      intro H13 n13
      tm_at "ev"
      refine ⟨D2, kM es, rfl, n13.same _ _ (wo_of hD12).2, fun D4 hD4 => ?_⟩
      have ek : (kM es).map (fun kv => kV kv.1) = (es.map (·.1)).map V.int := by
        unfold kM
        rw [List.map_map, List.map_map]
        rfl
      rw [ek]
      have s14 := same_new (o := .lst ((es.map (·.1)).map V.int)) hD4
      have h14 : upd H13 D4 (.lst ((es.map (·.1)).map V.int)) D4 = some (.lst ((es.map (·.1)).map V.int)) := upd_same
      generalize upd H13 D4 (.lst ((es.map (·.1)).map V.int)) = H14 at s14 h14 ⊢
      tm_at "ev"
      obtain ⟨xa, hxa, dxa'⟩ := n13.at_
      have lxa := dpA_len dxa'
      rw [List.length_map] at lxa
      refine ⟨D3, D4, xa, _, rfl, rfl, s14 _ _ hxa, h14, by rw [List.length_map, List.length_map, lxa]; exact Nat.le_trans (show l0.length + es.length ≤ 100 by omega) (by decide), fun D5 hD5 => ?_⟩
      have n15 := newL_lst (K := K) (N := N12) (xs := xa ++ (es.map (·.1)).map V.int) (ds := (l0.map fun e => PyData.int e.t) ++ (es.map (·.1)).map PyData.int) (dpA_app (dpA_mono (wo_drop.trans (wo_same s14)) dxa') (dpA_ints _)) hD5
      generalize upd H14 D5 (.lst (xa ++ (es.map (·.1)).map V.int)) = H15 at n15 ⊢
      tm_at "ev"
      have s15 : Same H12 H15 := (n13.same.trans s14).trans n15.same
      have k15 := k12.up bone_st s15
      have D5d : D5 ≠ d := dr_ne (k12.up bone_st (n13.same.trans s14)).dr n15.new
      refine ⟨N12, d, rfl, k15.dr, fun tc H16 s16 d16 tc0 tc1 => ?_⟩
      tm_at "ev"
      refine ⟨sz1, fun D6 hD6 => ?_⟩
      tm_at "ev"
      have s17 := same_new (o := .lst [V.int tc]) hD6
      have h17 : upd H16 D6 (.lst [V.int tc]) D6 = some (.lst [V.int tc]) := upd_same
      generalize upd H16 D6 (.lst [V.int tc]) = H17 at s17 h17 ⊢
      obtain ⟨xb, hxb, dxb⟩ := n15.at_
      have lxb := dpA_len dxb
      rw [List.length_append, List.length_map, List.length_map, List.length_map] at lxb
      refine ⟨D5, D6, xb, _, rfl, rfl, s17 _ _ (s16 _ _ D5d hxb), h17, by rw [lxb]; exact Nat.le_trans (show l0.length + es.length + 1 ≤ 100 by omega) (by decide), fun D7 hD7 => ?_⟩
      have n18 := newL_lst (K := K) (N := N12) (xs := xb ++ [V.int tc]) (ds := (l0.map fun e => PyData.int e.t) ++ (es.map (·.1)).map PyData.int ++ [PyData.int tc]) (dpA_app (dpA_mono (wo_drop.trans ((sb_w d16.mem s16).trans (wo_same s17))) dxb) (.cons (.int _) .nil)) hD7
      generalize upd H17 D7 (.lst (xb ++ [V.int tc])) = H18 at n18 ⊢
      tm_at "ev"
      have k17 := (k15.draw bone_st s16 d16).up bone_st s17
      refine ⟨N12, d, .ref D7, _, rfl, k17.dr.up n18.same, n18.dw k17.lv, by rw [List.length_append]; exact Nat.succ_pos _, by rw [List.length_append, List.length_append, List.length_map, List.length_map, List.length_map]; show l0.length + es.length + 1 ≤ 100000; omega, fun e he v H19 s19 d19 dv => ?_⟩
      obtain ⟨tk, rfl, tk0, tk1⟩ := ints_of (G := H19) okl0.ok kn ⟨tc0, tc1⟩ e he
      obtain rfl := dp_int dv
      tm_at "ev"
      have sb19 : SameBut d H12 H19 := sb_trans (sb_same s15) (sb_trans s16 (sb_trans (sb_same (s17.trans n18.same)) s19))
      have k19 := k12.draw bone_st sb19 d19
      have w19 := sb_w k12.dr.mem sb19
      have dS19 : Dw K N12 H19 (.ref D1) (.list (trs.map trD)) := dp_mono w19 dS12
      have hD19 := w19 _ _ hD12
      have ty19 := ty0.mono w19
      clear k12 k15 k17 n18 dxb hxb lxb n15 dxa' hxa lxa n13 s14 h14 ek dS12 hD12 ty0 hy0 ha1 ha2 ha3 ha4 h17 s17 s15 sb19 w19 he dv w12 hv0 dxs hxs
      obtain ⟨dxc, fsc, hxc, lkc⟩ := k19.ins "do" fun _ _ _ => rfl
      refine ⟨x, dxc, _, rfl, hxc, lkc, ?_⟩
      tm_at "ev"
      refine ⟨sz4, fun p5 hp5 => ?_⟩
      have t5 := dw_tup (K := K) k19.lv (xs := [.str "cut", .str "one", .int tk, .str "two"]) (ds := [.str "cut", .str "one", .int tk, .str "two"]) (.cons (.str _) (.cons (.str _) (.cons (.int _) (.cons (.str _) .nil)))) hp5
      generalize upd H19 p5 (.tup [V.str "cut", .str "one", .int tk, .str "two"]) = G19 at t5 ⊢
      tm_at "ev"
      have hq20 : qs.length < 20 := by have := perm.length_eq; omega
      refine do_cutting (k19.up bone_st t5.1) (by omega) t5.2 ⟨okb, okq, fun l h => (okt l h).1, by show 1 ≤ trs.length ∧ trs.length ≤ 6; omega⟩ ⟨tk0, tk1⟩ (fun l h => by have := (okt l h).2; omega) hq20 fun N20 H20 ps20 cs sub20 w20 k20 bk20 => ?_
      have w20' := (wo_same (N := N12) t5.1).trans w20
      have dS20 : Dw K N20 H20 (.ref D1) (.list (trs.map trD)) := dp_mono w20' dS19
      have hD20 := w20' _ _ hD19
      have ty20 := ty19.mono w20'
      clear dS19 hD19 ty19 w20 w20' t5 k19
      tm_at "ev"
      obtain ⟨dxb, bb, elb, ahb, hb1, hb2, hb3, hb4, y1, y2, hbk, ty1, ty2⟩ := id k20.at_
      refine ⟨x, dxb, _, rfl, hb1, rfl, ?_⟩
      tm_at "ev"
      refine ⟨x, dxb, bb, elb, pa, ahb, y1, 0, "one", [("one", y1), ("two", y2)], rfl, hb1, (wo_of hbk).2, val_one2 y1 y2, ?_⟩
      tm_at "ev"
      refine ⟨x, dxb, _, rfl, hb1, rfl, ?_⟩
      tm_at "ev"
      refine ⟨x, dxb, bb, elb, pa, ahb, y2, 0, "two", [("one", y1), ("two", y2)], rfl, hb1, (wo_of hbk).2, val_two2 y1 y2, ?_⟩
      tm_at "ev"
      obtain ⟨dy0, m0, r0, hty0, _⟩ := id ty20
      refine ⟨y0, dy0, _, rfl, (wo_of hty0).2, rfl, ?_⟩
      tm_at "ev"
      refine ⟨N20, y0, _, rfl, k20.lv, ty20, okq, okb, fun ow od2 H21 s21 how hod mp21 => ?_⟩
      have k21 := k20.up btwo_st s21
      have bk21 := bk20.mono bone_st (wo_same s21)
      have dS21 : Dw K N20 H21 (.ref D1) (.list (trs.map trD)) := Dw.up dS20 s21
      have hD21 := (wo_same (N := N20) s21) _ _ hD20
      have ty21 := ty20.mono (wo_same s21)
      have ta := ty1.mono (wo_same (N := N20) s21)
      have tb := ty2.mono (wo_same (N := N20) s21)
      clear k20 bk20 dS20 hD20 ty20 ty1 ty2 hb1 hb2 hb3 hb4 hbk hty0 s21 how hod
      tm_at "ev"
      refine q_len dS21 ?_
      tm_at "ev"
      rw [List.length_map]
      refine ⟨(trs.length : Int), rfl, by omega, by omega, ?_⟩
      refine for_range (lo := 0) (n := ((trs.length : Nat) : Int).toNat) (fun i σ H' => ∃ o3 : Option V, σ = [some (.ref p0), some (.ref d), some (.ref x), o3, some (.ref D1), some (.int bt), some (.ref D2), some (.int tk), some (.ref y0), some (.ref y1), some (.ref y2), some (.ref ow), none, none, none, none, none, none, none, none, none, none] ∧ Same H21 H')
        ⟨_, rfl, same_rfl⟩ (fun i σ H22 hi hh => ?_) fun σ H22 hh => ?_
      · obtain ⟨o3, rfl, s22⟩ := hh
        rw [Int.toNat_natCast] at hi
        rw [Int.zero_add]
        have lv22 := k21.lv.same s22
        tm_at "ev"
        have hl := List.getElem?_eq_getElem hi
        have lm := List.getElem_mem hi
        generalize trs[i] = l at hl lm
        obtain ⟨okl, ll⟩ := okt l lm
        have gl := glue okl (cs l lm) ll ⟨tk0, tk1⟩
        refine q_ixL (Dw.up dS21 s22) (atI_n (n := i) (by rw [List.getElem?_map, hl]; rfl)) fun v hv => ?_
        tm_at "ev"
        obtain ⟨dy1, m1, r1, hta, _⟩ := id ta
        refine ⟨y1, dy1, _, rfl, s22 _ _ (wo_of hta).2, rfl, ?_⟩
        tm_at "ev"
        refine ⟨N20, y1, _, rfl, lv22, ta.mono (wo_same s22), by show (trs.map _).length ≤ 6; rw [List.length_map]; omega, fun ra H23 n23 => ?_⟩
        have lv23 := lv22.same n23.same
        tm_at "ev"
        refine q_ixL (d := trD (pcA l tk)) (n23.dw lv22) (atI_n (n := i) (by rw [List.getElem?_map, List.getElem?_map, hl]; rfl)) fun va hva => ?_
        tm_at "ev"
        obtain ⟨dy2, m2, r2, htb, _⟩ := id tb
        refine ⟨y2, dy2, _, rfl, n23.same _ _ (s22 _ _ (wo_of htb).2), rfl, ?_⟩
        tm_at "ev"
        refine ⟨N20, y2, _, rfl, lv23, tb.mono (wo_same (s22.trans n23.same)), by show (trs.map _).length ≤ 6; rw [List.length_map]; omega, fun rb H24 n24 => ?_⟩
        have lv24 := lv23.same n24.same
        tm_at "ev"
        refine q_ixL (d := trD (pcB l tk)) (n24.dw lv23) (atI_n (n := i) (by rw [List.getElem?_map, List.getElem?_map, hl]; rfl)) fun vb hvb => ?_
        tm_at "ev"
        refine ⟨N20, va, vb, tk, pcA l tk, pcB l tk, rfl, lv24, Dw.up hva n24.same, hvb, ⟨tk0, tk1⟩, pcA_le, fun e he => (pcB_ge okl ⟨tk0, tk1⟩ e he).2, gl.len2, fun rg H25 n25 => ?_⟩
        have lv25 := lv24.same n25.same
        have s25 := (n23.same.trans n24.same).trans n25.same
        tm_at "ev"
        refine ⟨N20, v, .ref rg, ow, bt, qs, l, pcG l tk, rfl, lv25, Dw.up hv s25, n25.dw lv24, ⟨od2, mp21.mono (wo_same (s22.trans s25))⟩, okq, okb, okl.ok, gl.ok, okl.up, gl.up, by omega, gl.len, gl.run, fun H26 s26 => ?_⟩
        tm_at "ev"
        refine ⟨rfl, ?_⟩
        tm_at "ev"
        refine if_f rfl ?_
        tm_at "ev"
        exact ⟨_, rfl, (s22.trans s25).trans s26⟩
      · obtain ⟨o3, rfl, s22⟩ := hh
        have k22 := k21.up btwo_st s22
        have bk22 := bk21.mono bone_st (wo_same s22)
        have hD22 := (wo_same (N := N20) s22) _ _ hD21
        have ty22 := ty21.mono (wo_same s22)
        have ta22 := ta.mono (wo_same (N := N20) s22)
        have tb22 := tb.mono (wo_same (N := N20) s22)
        have mp22 := mp21.mono (wo_same (N := N20) s22)
        clear k21 bk21 dS21 hD21 ty21 ta tb mp21 s22
        tm_at "ev"
        refine ⟨4, rfl, by decide, by decide, ?_⟩
        have kB : (0 : Nat) < bt.toNat := by omega
        have okq1 := cutPs1_ok okq tk
        have okq2 := cutPs2_ok okq hq20 ⟨tk0, tk1⟩
        refine for_range (lo := 0) (n := (4 : Int).toNat) (fun i σ H' => ∃ o12 o13 o14 o15 o16 o17 o18 o19 o20 : Option V, σ = [some (.ref p0), some (.ref d), some (.ref x), o3, some (.ref D1), some (.int bt), some (.ref D2), some (.int tk), some (.ref y0), some (.ref y1), some (.ref y2), some (.ref ow), o12, o13, o14, o15, o16, o17, o18, o19, o20, none] ∧ SameBut d H22 H' ∧ DrAt K N20 H' d)
          ⟨none, none, none, none, none, none, none, none, none, rfl, sb_same same_rfl, k22.dr⟩ (fun i σ H23 hi hh => ?_) fun σ H23 hh => ?_
        · obtain ⟨o12, o13, o14, o15, o16, o17, o18, o19, o20, rfl, s23, d23⟩ := hh
          tm_at "ev"
          refine ⟨N20, d, 1000000 - tk, rfl, d23, by omega, by omega, fun mo1 H24 s24 d24 q0 q1 => ?_⟩
          have sb24 := sb_trans s23 s24
          have lv24 := sb_live k22.lv sb24 d24.some
          have w24 := sb_w d24.mem sb24
          tm_at "ev"
          have tb24 := tb22.mono w24
          obtain ⟨dy2, m2, r2, htb, _⟩ := id tb24
          refine ⟨y2, dy2, _, rfl, (wo_of htb).2, rfl, ?_⟩
          tm_at "ev"
          refine ⟨N20, y2, _, rfl, lv24, tb24, okq2, okb, fun n2 e2 H25 s25 _ _ mp25 => ?_⟩
          have lv25 := lv24.same s25
          tm_at "ev"
          obtain ⟨⟨dn2, hn2⟩, _⟩ := id mp25
          refine ⟨n2, dn2, _, rfl, (wo_of hn2).2, rfl, ?_⟩
          tm_at "ev"
          refine ⟨N20, n2, bt, mo1, cutPs2 qs tk, rfl, lv25, ⟨_, mp25⟩, okq2, okb, ⟨q0, by omega⟩, fun v26 H26 s26 dv26 => ?_⟩
          have lv26 := lv25.same s26
          tm_at "ev"
          refine q_unT dv26 rfl fun us hus => ?_
          obtain ⟨c1, r1, rfl, e1, hus⟩ := dpA_cons hus
          obtain ⟨c2, r2, rfl, e2, hus⟩ := dpA_cons hus
          obtain rfl := dpA_nil hus
          obtain rfl := dp_int e1
          obtain rfl := dp_int e2
          tm_at "ev"
          have s246 := s25.trans s26
          have mp26 := (mp22.mono w24).mono (wo_same s246)
          obtain ⟨⟨dow, how⟩, _⟩ := id mp26
          refine ⟨ow, dow, _, rfl, (wo_of how).2, rfl, ?_⟩
          tm_at "ev"
          refine ⟨N20, ow, bt, tk, qs, rfl, lv26, ⟨_, mp26⟩, okq, okb, ⟨tk0, tk1⟩, fun v27 H27 s27 dv27 => ?_⟩
          have lv27 := lv26.same s27
          tm_at "ev"
          refine q_unT dv27 rfl fun us hus => ?_
          obtain ⟨c1, r1, rfl, e1, hus⟩ := dpA_cons hus
          obtain ⟨c2, r2, rfl, e2, hus⟩ := dpA_cons hus
          obtain rfl := dpA_nil hus
          obtain rfl := dp_int e1
          obtain rfl := dp_int e2
          tm_at "ev"
          have mp27 := mp26.mono (wo_same s27)
          refine ⟨ow, dow, _, rfl, s27 _ _ (wo_of how).2, rfl, ?_⟩
          tm_at "ev"
          refine ⟨N20, ow, bt, tk + mo1, qs, rfl, lv27, ⟨_, mp27⟩, okq, okb, ⟨by omega, by omega⟩, fun v28 H28 s28 dv28 => ?_⟩
          have lv28 := lv27.same s28
          tm_at "ev"
          have fit := shr_fit okb
          refine ⟨_, _, rfl, rfl, .inr (fit _), ?_⟩
          tm_at "ev"
          refine ⟨_, _, rfl, rfl, .inr (fit _), ?_⟩
          tm_at "ev"
          refine q_ixTi dv28 (atI_n (n := 1) rfl) ?_
          refine ⟨_, _, rfl, rfl, .inr (fit _), ?_⟩
          tm_at "ev"
          refine q_ixTi dv28 (atI_n (n := 0) rfl) ?_
          tm_at "ev"
          refine ⟨_, _, rfl, rfl, .inr (fit _), ?_⟩
          tm_at "ev"
          refine ⟨_, _, rfl, rfl, .inr (fit _), ?_⟩
          tm_at "ev"
          refine if_f (ne_false (sums kB (mom_sum okq okq2 tk0 q0))) ?_
          tm_at "ev"
          have s248 := (s246.trans s27).trans s28
          have d28 := d24.up s248
          refine ⟨N20, d, tk + 1, rfl, d28, by omega, by omega, fun ah1 H29 s29 d29 p0 p1 => ?_⟩
          have sb29 := sb_trans sb24 (sb_trans (sb_same s248) s29)
          have lv29 := sb_live k22.lv sb29 d29.some
          have w29 := sb_w d29.mem sb29
          tm_at "ev"
          have ta29 := ta22.mono w29
          obtain ⟨dy1, m1, r1, hta, _⟩ := id ta29
          refine ⟨y1, dy1, _, rfl, (wo_of hta).2, rfl, ?_⟩
          tm_at "ev"
          refine ⟨N20, y1, _, rfl, lv29, ta29, okq1, okb, fun n3 e3 H30 s30 _ _ mp30 => ?_⟩
          have lv30 := lv29.same s30
          tm_at "ev"
          obtain ⟨⟨dn3, hn3⟩, _⟩ := id mp30
          refine ⟨n3, dn3, _, rfl, (wo_of hn3).2, rfl, ?_⟩
          tm_at "ev"
          refine ⟨N20, n3, bt, ah1, cutPs1 qs tk, rfl, lv30, ⟨_, mp30⟩, okq1, okb, ⟨p0, by omega⟩, fun v31 H31 s31 dv31 => ?_⟩
          have lv31 := lv30.same s31
          tm_at "ev"
          have mp31 := (mp22.mono w29).mono (wo_same (s30.trans s31))
          obtain ⟨⟨dow2, how2⟩, _⟩ := id mp31
          refine ⟨ow, dow2, _, rfl, (wo_of how2).2, rfl, ?_⟩
          tm_at "ev"
          refine ⟨N20, ow, bt, ah1, qs, rfl, lv31, ⟨_, mp31⟩, okq, okb, ⟨p0, by omega⟩, fun v32 H32 s32 dv32 => ?_⟩
          rw [mom_cut1 (Mo.of okq) p0 (show ah1 ≤ tk by omega)] at dv31
          refine q_neD (Dw.up dv31 s32).real dv32.real (sh_sh _ _) ?_
          tm_at "ev"
          refine if_f rfl ?_
          tm_at "ev"
          exact ⟨_, _, _, _, _, _, _, _, _, rfl, sb_trans sb29 (sb_same ((s30.trans s31).trans s32)), (d29.up (s30.trans s31)).up s32⟩
        · obtain ⟨o12, o13, o14, o15, o16, o17, o18, o19, o20, rfl, s23, d23⟩ := hh
          have k23 := k22.draw btwo_st s23 d23
          have w23 := sb_w k22.dr.mem s23
          have bk23 := bk22.mono bone_st w23
          have ty23 := ty22.mono w23
          have mp23 := mp22.mono w23
          have hD23 := w23 _ _ hD22
          clear k22 bk22 ty22 mp22 hD22 ta22 tb22 w23
          tm_at "ev"
          obtain ⟨dxd, bd, eld, ahd, hd1, hd2, hd3, hd4, _⟩ := id k23.at_
          obtain ⟨ps0, tt, DD, ys, b9, rfl, hb1, hb2, y9, hy9, ty9⟩ := bk23
          refine ⟨x, dxd, _, rfl, hd1, rfl, ?_⟩
          tm_at "ev"
          refine ⟨N20, x, dxd, bd, eld, pa, ahd, tt, DD, b9, ps0, ys, rfl, k23.lv, k23.pN, k23.paN, hd4, hd1, hd2, hd3, hb1, hb2, fun r H24 e' w24 lv24 hx24 => ?_⟩
          tm_at "ev"
          refine ⟨x, dxd, _, rfl, hx24, rfl, ?_⟩
          tm_at "ev"
          have hy24 := w24 _ _ hy9
          refine ⟨x, dxd, b9, e', pa, ahd, y9, 0, "one", [("one", y9)], rfl, hx24, (wo_of hy24).2, val_one y9, ?_⟩
          tm_at "ev"
          have ty24 := ty9.mono w24
          have tz24 := ty23.mono w24
          obtain ⟨dA, mA, rA, hA, _⟩ := id ty24
          obtain ⟨dB, mB, rB, hB, _⟩ := id tz24
          refine ev_own (wo_of hA).2 (wo_of hB).2 ?_
          refine ⟨N20, y9, y0, _, rfl, lv24, ty24, tz24, ⟨okb, okq, fun l h => (okt l h).1, by show 1 ≤ trs.length ∧ trs.length ≤ 6; omega⟩, fun H25 s25 => ⟨true, rfl, ?_⟩⟩
          tm_at "ev"
          refine iteT ?_
          tm_at "ev"
          refine ⟨x, dxd, _, rfl, s25 _ _ hx24, rfl, ?_⟩
          tm_at "ev"
          refine ⟨N20, x, dxd, b9, e', pa, ahd, y9, 0, "one", rfl, s25 _ _ hx24, s25 _ _ (wo_of hy24).2, fun rn H26 n26 => ?_⟩
          tm_at "ev"
          have lv25 := lv24.same s25
          have lv26 := lv25.same n26.same
          refine ⟨sz1, fun p6 hp6 => ?_⟩
          have n27 := newL_lst (K := K) (N := N20) (xs := [V.str "one"]) (ds := [PyData.str "one"]) (.cons (.str _) .nil) hp6
          generalize upd H26 p6 (.lst [V.str "one"]) = H27 at n27 ⊢
          have lv27 := lv26.same n27.same
          refine q_eqD (Dw.up (n26.dw lv25) n27.same).real (n27.dw lv26).real one_sh ?_
          tm_at "ev"
          refine iteT ?_
          tm_at "ev"
          have s2427 := (s25.trans n26.same).trans n27.same
          refine ⟨N20, D2, es, rfl, lv27, (wo_same s2427) _ _ (w24 _ _ hD23), kn.nd, by omega, fun ps2 rp H28 srt2 perm2 n28 => ?_⟩
          obtain rfl := srt_uniq srt2 srt (perm2.trans perm.symm)
          have lv28 := lv27.same n28.same
          tm_at "ev"
          intro z dz hz hdz hne2
          refine ⟨N20, z, dz, bt, .ref rp, ps2, rfl, upd_same, lv28.notin hz, mk_live lv28 hz hdz, okb, (DwS.lst (n28.dw lv27)).mk (mk_wo hz hdz), okq, fun dd H29 sb29 hdd mp29 => ⟨rfl, ?_⟩⟩
          have s29 := mk_same hz hdz sb29
          have lv29 := lv28.same s29
          have mpo := (mp23.mono w24).mono (wo_same ((s2427.trans n28.same).trans s29))
          obtain ⟨⟨dow, how⟩, _⟩ := id mpo
          obtain ⟨⟨dzw, hzw⟩, _⟩ := id mp29
          refine ev_own (wo_of how).2 (wo_of hzw).2 ?_
          refine ⟨N20, ow, z, bt, ps2, rfl, lv29, ⟨_, mpo⟩, ⟨_, mp29⟩, okq, fun H30 s30 => ⟨true, rfl, ?_⟩⟩
          tm_at "ev"
          exact q H30
end
end Tp
set_option maxHeartbeats 0
namespace TpH
open PySem PySem.Spec PyProof.Rows L2 Tp
theorem facts {P : Program} {w : World} {h : Heap} {mg : Str → Option Value} {f : Addr} (X : (K0 w).In h) (G : h.Ns mainGlobals mg) (hfa : mg ("law" : Str) = some (.ref f)) :
    ∃ fd : FuncData, (∀ (s : Shared) (v : Value), BindsTo s fd ⟨[v], []⟩ [("_law_script", v)]) ∧ ∀ base : Heap, (K0 w).In base → base.Ns mainGlobals mg → FnOk P w (K0 w) mg base CX0 11 f fd ["_law_script"] (sp_law (K0 w)) := by
  have T := tx w X G
  obtain ⟨f', fd, F, hm⟩ := T.d_law
  have e : f' = f := by
    rw [hm] at hfa
    injection hfa with e
    injection e
  subst e
  refine ⟨fd, fun s v => F.bindsA (ps := ["_law_script"]) (fun _ _ _ _ _ _ us hl => match us, hl with | [_], _ => rfl) s [v] rfl, fun base _ _ => ?_⟩
  have c_need_tick := ok_need_tick (P := P) (base := base) T
  have c_need_room_events := ok_need_room_events (P := P) (base := base) T
  have c_later := ok_later (P := P) (base := base) T c_need_tick
  have c_common := ok_common (P := P) (base := base) T
  have c_share := ok_share (P := P) (base := base) T c_common
  have c_need_beat := ok_need_beat (P := P) (base := base) T
  have c_need_pace := ok_need_pace (P := P) (base := base) T
  have k_Map := ok_Map___init__ (P := P) (base := base) T c_need_tick c_need_beat c_need_pace
  have m_Map_beat := ok_Map_beat (P := P) (base := base) T
  have m_Map_put := ok_Map_put (P := P) (base := base) T c_need_tick c_need_pace
  have m_Map_paces := ok_Map_paces (P := P) (base := base) T
  have m_Map_pace_at := ok_Map_pace_at (P := P) (base := base) T c_need_tick
  have m_Map_stretches := ok_Map_stretches (P := P) (base := base) T m_Map_paces
  have m_Map_moment := ok_Map_moment (P := P) (base := base) T c_need_tick c_share m_Map_stretches
  have m_Map_twin := ok_Map_twin (P := P) (base := base) T m_Map_paces k_Map
  have m_Map___eq__ := ok_Map___eq__ (P := P) (base := base) T m_Map_paces m_Map_beat
  have m_Tape_beat := ok_Tape_beat (P := P) (base := base) T m_Map_beat
  have m_Tape_tracks := ok_Tape_tracks (P := P) (base := base) T
  have m_Tape_paces := ok_Tape_paces (P := P) (base := base) T m_Map_paces
  have m_Tape_paced := ok_Tape_paced (P := P) (base := base) T m_Map_twin
  have k_Stand := ok_Stand___init__ (P := P) (base := base) T
  have m_Stand_after := ok_Stand_after (P := P) (base := base) T k_Stand
  have m_Stand_sounds := ok_Stand_sounds (P := P) (base := base) T
  have m_Stand_knobs := ok_Stand_knobs (P := P) (base := base) T
  have m_Stand_voices := ok_Stand_voices (P := P) (base := base) T
  have m_Stand_parts := ok_Stand_parts (P := P) (base := base) T m_Stand_sounds m_Stand_knobs m_Stand_voices
  have m_Stand___eq__ := ok_Stand___eq__ (P := P) (base := base) T m_Stand_parts
  have c_stand_behind := ok_stand_behind (P := P) (base := base) T m_Stand_after
  have c_cut := ok_cut (P := P) (base := base) T c_need_tick k_Stand c_stand_behind m_Stand_sounds m_Stand_knobs m_Stand_voices c_later c_need_room_events
  have c_glued := ok_glued (P := P) (base := base) T c_need_tick c_later c_need_room_events
  have c_is_between := ok_is_between (P := P) (base := base) T
  have c_is_text := ok_is_text (P := P) (base := base) T
  have c_need_new := ok_need_new (P := P) (base := base) T
  have c_need_room_deeds := ok_need_room_deeds (P := P) (base := base) T
  have c_tape_of := ok_tape_of (P := P) (base := base) T
  have c_track_of := ok_track_of (P := P) (base := base) T m_Tape_tracks
  have k_Deck := ok_Deck___init__ (P := P) (base := base) T
  have m_Deck_tape := ok_Deck_tape (P := P) (base := base) T c_tape_of
  have m_Deck_names := ok_Deck_names (P := P) (base := base) T
  have m_Deck_undo := ok_Deck_undo (P := P) (base := base) T
  have c_is_event := ok_is_event (P := P) (base := base) T c_is_between c_is_text
  have c_need_track := ok_need_track (P := P) (base := base) T c_is_event
  have c_put_in := ok_put_in (P := P) (base := base) T c_is_event c_need_room_events
  have t_Tape := ok_Tape___init__ (P := P) (base := base) T c_need_track k_Map
  have c_with_track := ok_with_track (P := P) (base := base) T m_Tape_tracks m_Tape_beat m_Tape_paces t_Tape
  have c_do_add := ok_do_add (P := P) (base := base) T c_tape_of m_Tape_tracks m_Tape_beat m_Tape_paces t_Tape
  have c_do_put := ok_do_put (P := P) (base := base) T c_tape_of c_track_of c_put_in c_with_track
  have c_do_pace := ok_do_pace (P := P) (base := base) T c_tape_of m_Tape_paced m_Map_put m_Tape_tracks m_Tape_beat m_Map_paces t_Tape
  have c_do_cut := ok_do_cut (P := P) (base := base) T c_tape_of c_need_tick c_need_new c_need_room_deeds c_cut m_Tape_paced m_Map_pace_at m_Tape_tracks m_Tape_beat m_Tape_paces t_Tape
  have m_Tape___eq__ := ok_Tape___eq__ (P := P) (base := base) T m_Map___eq__ m_Tape_paced m_Tape_tracks
  have c_ahead_of := ok_ahead_of (P := P) (base := base) T
  have c_timed := ok_timed (P := P) (base := base) T m_Map_moment
  have c_next_moment := ok_next_moment (P := P) (base := base) T c_ahead_of
  have c_unlike := ok_unlike (P := P) (base := base) T c_timed c_next_moment k_Stand m_Stand_after m_Stand___eq__
  have c__law_pick := ok__law_pick (P := P) (base := base) T
  have c__law_begin := ok__law_begin (P := P) (base := base) T
  have c__law_channel := ok__law_channel (P := P) (base := base) T c__law_pick
  have c__law_key := ok__law_key (P := P) (base := base) T c__law_pick
  have c__law_one := ok__law_one (P := P) (base := base) T c__law_pick
  have c__law_word := ok__law_word (P := P) (base := base) T c__law_pick
  have c__law_thing := ok__law_thing (P := P) (base := base) T c__law_pick c__law_channel c__law_key c__law_word
  have c__law_keen_track := ok__law_keen_track (P := P) (base := base) T c__law_pick c__law_channel c__law_key c__law_one c__law_thing
  have c__law_tick := ok__law_tick (P := P) (base := base) T c__law_pick
  have c__law_beat := ok__law_beat (P := P) (base := base) T c__law_pick c__law_one
  have c__law_pace := ok__law_pace (P := P) (base := base) T c__law_pick c__law_one
  have c__law_paces := ok__law_paces (P := P) (base := base) T c__law_pick c__law_tick c__law_pace
  have c__law_pairs := ok__law_pairs (P := P) (base := base) T
  have k_Tape := TapeMk.one t_Tape T.m_Tape
  have c_do_new := ok_do_new (P := P) (base := base) T c_need_new c_need_room_deeds k_Tape
  have c_after := ok_after (P := P) (base := base) T c_do_new c_do_add c_do_put c_do_pace c_do_cut c_tape_of
  have m_Deck_do_all := ok_Deck_do_all (P := P) (base := base) T c_after
  have m_Deck_do := ok_Deck_do (P := P) (base := base) T m_Deck_do_all
  have B := law_body (P := P) (base := base) T c__law_begin k_Deck c__law_pick c__law_keen_track c__law_beat c__law_paces m_Deck_do_all m_Deck_tape c__law_one c__law_tick m_Deck_do m_Tape_paced c_unlike c_glued m_Tape_tracks m_Map_moment m_Deck_undo m_Deck_names m_Tape___eq__ m_Map___eq__ k_Map c__law_pairs
  refine F.ok sc_law (fun vs H Q E h => law_len h) (fun cdv A outer s H vs Q E hr hsp => ?_)
  obtain ⟨t, h1, h2⟩ := B f' cdv A outer s H vs Q E hr hsp
  exact ⟨t, h1.nox, h2⟩
end TpH
open PySem PySem.W PySem.Calls PyProof.Rows
theorem PySem.Challenge.cw_reedtapes_k72_whole_cut_tapes_go_on_holds : PySem.Challenge.rw_reedtapes_k72_whole_cut_tapes_go_on.Holds := by
  w_on; o_law
  refine HandSHeadRun.head_any (r := OpenLaw.row PySem.Challenge.rw_reedtapes_k72_whole_cut_tapes_go_on) (q := view (OpenLaw.row PySem.Challenge.rw_reedtapes_k72_whole_cut_tapes_go_on).prog [124]) (H := TpH.hkA) (ob := TpH.obA) (M := 20000) (loose := TpH.loose) (d := HandSHeadRun.topDef (OpenLaw.row PySem.Challenge.rw_reedtapes_k72_whole_cut_tapes_go_on).prog 124) (kwd := []) TpH.obA_eq
    (by kernel_rfl) (fun s => by kernel_rfl) TpH.run (by kernel_rfl) (by kernel_rfl) (by kernel_rfl) (by rfl) (by first | assumption | decide +kernel) (by decide +kernel) ⟨rfl, rfl, rfl, rfl, rfl, by decide +kernel⟩ ?hw ?hc
  case hw => w_witness2
  case hc =>
    refine L2.walk_ofE (l := PySem.Challenge.rw_reedtapes_k72_whole_cut_tapes_go_on) (n := 63) (k := 11) (x := "_law_script") (CX := L2.CX0) rfl (by decide) (by kernel_rfl) ⟨rfl, by decide, by decide⟩ ?F (fun _ _ _ _ z => z)
    intro w mg fa h Y G hmg0
    have hmg : mg ("law" : PySem.Str) = some (.ref fa) := by
      have e : (HandSHeadRun.topDef (OpenLaw.row PySem.Challenge.rw_reedtapes_k72_whole_cut_tapes_go_on).prog 124).name = ("law" : PySem.Str) := by kernel_rfl
      rw [← e]
      exact hmg0
    obtain ⟨fd, hb, hF⟩ := TpH.facts (P := (PySem.Challenge.rw_reedtapes_k72_whole_cut_tapes_go_on).prog) (w := w) Y G hmg
    exact ⟨TpH.K0 w, fd, Tp.sp_law (TpH.K0 w), Y, hb, fun H a ns hl _ hS => ⟨a, ns, rfl, hS, hl, fun _ => rfl⟩, hF⟩
